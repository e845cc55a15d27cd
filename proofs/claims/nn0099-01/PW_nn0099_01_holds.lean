import PyProof.Rows.All
import Open.Pieces
import KE.KxBytes
import OpenK.KEqL
import KE.KIntText
import KE.KSortTup
import PySem.Challenge.RW_nn0099_01
set_option Elab.async false
set_option maxRecDepth 100000
set_option maxHeartbeats 0
namespace Mine.Internal
open PySem PySem.W PyProof.Rows
theorem ya0 : type_of% @wpAny_bind := @wpAny_bind
theorem ya1 : type_of% @wpAny_pure := @wpAny_pure
theorem ya2 : type_of% @decide_eq_true := @decide_eq_true
theorem ya3 : type_of% @of_decide_eq_true := @of_decide_eq_true
theorem ya4 : type_of% @Bool.and_eq_true := @Bool.and_eq_true
theorem ya5 : type_of% @decide_eq_true_eq := @decide_eq_true_eq
theorem ya6 : type_of% @Nat.le_trans := @Nat.le_trans
theorem ya7 : type_of% @Nat.le_refl := @Nat.le_refl
theorem ya8 : type_of% @Heap.get?_push_size := @Heap.get?_push_size
theorem ya9 : type_of% @Heap.get?_push_of_some := @Heap.get?_push_of_some
theorem yb0 : type_of% @Int.natCast_nonneg := @Int.natCast_nonneg
theorem yb1.{u} : type_of% @List.getElem?_eq_getElem.{u} := @List.getElem?_eq_getElem
theorem yb2.{u} : type_of% @List.length_cons.{u} := @List.length_cons
theorem yb3.{u} : type_of% @List.length_append.{u} := @List.length_append
theorem yb4.{u,v} : type_of% @List.length_map.{u,v} := @List.length_map
theorem yb5.{u} : type_of% @List.size_toArray.{u} := @List.size_toArray
theorem yb6 : type_of% @Nat.lt_of_lt_of_le := @Nat.lt_of_lt_of_le
theorem yb7 : type_of% @Nat.le_add_right := @Nat.le_add_right
theorem yb8 : type_of% @Heap.lt_size := @Heap.lt_size
theorem yb9 : type_of% @Nat.ne_of_lt := @Nat.ne_of_lt
theorem yc0 : type_of% @Nat.zero_add := @Nat.zero_add
theorem yc1 : type_of% @Nat.le_of_lt := @Nat.le_of_lt
theorem yc2 : type_of% @Nat.add_le_add_right := @Nat.add_le_add_right
theorem yc3 : type_of% @Nat.le_of_ble_eq_true := @Nat.le_of_ble_eq_true
theorem yc4 : type_of% @Heap.SameBut.update := @Heap.SameBut.update
theorem yc5.{u,v} : type_of% @Array.size_map.{u,v} := @Array.size_map
theorem yc6.{u,v} : type_of% @List.lookup_cons.{u,v} := @List.lookup_cons
theorem yc7.{u} : type_of% @List.mem_of_getElem?.{u} := @List.mem_of_getElem?
theorem yc8.{u,v} : type_of% @List.map_cons.{u,v} := @List.map_cons
theorem yc9.{u} : type_of% @List.getD_eq_getElem?_getD.{u} := @List.getD_eq_getElem?_getD
theorem sj {α : Type _} {a b : α} (h : some a = some b) : a = b := Option.some.inj h
theorem mS {α : Type _} {a : α} {l : List α} : a ∈ a :: l := List.mem_cons_self ..
theorem mM {α : Type _} {a : α} (b : α) {l : List α} (h : a ∈ l) : a ∈ b :: l := List.mem_cons_of_mem b h
section
theorem z9 {P : Prop} (h : ∀ G : Prop,(P → G) → G) : P := h P id
theorem i5 {A B : Prop} {G : Prop} (h : A ∧ B) (k : A → B → G) : G := by
 obtain ⟨a0,b0⟩ := h
 exact k  a0 b0
theorem C2 {A B C : Prop} {G : Prop} (h : A ∧ B ∧ C) (k : A → B → C → G) : G := by
 obtain ⟨a0,b0,c0⟩ := h
 exact k  a0 b0 c0
theorem L7 {A B C Gr : Prop} {G : Prop} (h : A ∧ B ∧ C ∧ Gr) (k : A → B → C → Gr → G) : G := by
 obtain ⟨a0,b0,c0,d0⟩ := h
 exact k  a0 b0 c0 d0
theorem xX {A B C Gr E : Prop} {G : Prop} (h : A ∧ B ∧ C ∧ Gr ∧ E) (k : A → B → C → Gr → E → G) : G := by
 obtain ⟨a0,b0,c0,d0,e0⟩ := h
 exact k  a0 b0 c0 d0 e0
theorem yk {A B C Gr E F : Prop} {G : Prop} (h : A ∧ B ∧ C ∧ Gr ∧ E ∧ F) (k : A → B → C → Gr → E → F → G) : G := by
 obtain ⟨a0,b0,c0,d0,e0,f0⟩ := h
 exact k  a0 b0 c0 d0 e0 f0
theorem i6 {α : Sort _} {A : α → Prop} {G : Prop} (h : ∃ x,A x) (k : ∀ x,A x → G) : G := by
 obtain ⟨x,a0⟩ := h
 exact k x a0
theorem a9 {α : Sort _} {A B : α → Prop} {G : Prop} (h : ∃ x,A x ∧ B x) (k : ∀ x,A x → B x → G) : G := by
 obtain ⟨x,a0,b0⟩ := h
 exact k x a0 b0
theorem lL {α : Sort _} {A B C : α → Prop} {G : Prop} (h : ∃ x,A x ∧ B x ∧ C x) (k : ∀ x,A x → B x → C x → G) : G := by
 obtain ⟨x,a0,b0,c0⟩ := h
 exact k x a0 b0 c0
theorem L8 {α : Sort _} {β : Sort _} {A : α → β → Prop} {G : Prop} (h : ∃ x y,A x y) (k : ∀ x y,A x y → G) : G := by
 obtain ⟨x,y,a0⟩ := h
 exact k x y a0
theorem U5 {α : Sort _} {β : Sort _} {A B : α → β → Prop} {G : Prop} (h : ∃ x y,A x y ∧ B x y) (k : ∀ x y,A x y → B x y → G) : G := by
 obtain ⟨x,y,a0,b0⟩ := h
 exact k x y a0 b0
theorem S8 {α : Sort _} {β : Sort _} {A B C : α → β → Prop} {G : Prop} (h : ∃ x y,A x y ∧ B x y ∧ C x y) (k : ∀ x y,A x y → B x y → C x y → G) : G := by
 obtain ⟨x,y,a0,b0,c0⟩ := h
 exact k x y a0 b0 c0
theorem Ax {α : Sort _} {β : Sort _} {A B C Gr E : α → β → Prop} {G : Prop} (h : ∃ x y,A x y ∧ B x y ∧ C x y ∧ Gr x y ∧ E x y) (k : ∀ x y,A x y → B x y → C x y → Gr x y → E x y → G) : G := by
 obtain ⟨x,y,a0,b0,c0,d0,e0⟩ := h
 exact k x y a0 b0 c0 d0 e0
theorem Ay {α : Sort _} {β : Sort _} {γ : Sort _} {A : α → β → γ → Prop} {G : Prop} (h : ∃ x y z,A x y z) (k : ∀ x y z,A x y z → G) : G := by
 obtain ⟨x,y,z,a0⟩ := h
 exact k x y z a0
theorem Az {α : Sort _} {β : Sort _} {γ : Sort _} {A B : α → β → γ → Prop} {G : Prop} (h : ∃ x y z,A x y z ∧ B x y z) (k : ∀ x y z,A x y z → B x y z → G) : G := by
 obtain ⟨x,y,z,a0,b0⟩ := h
 exact k x y z a0 b0
theorem ig {α : Sort _} {β : Sort _} {γ : Sort _} {A B C : α → β → γ → Prop} {G : Prop} (h : ∃ x y z,A x y z ∧ B x y z ∧ C x y z) (k : ∀ x y z,A x y z → B x y z → C x y z → G) : G := by
 obtain ⟨x,y,z,a0,b0,c0⟩ := h
 exact k x y z a0 b0 c0
theorem AA {α : Sort _} {β : Sort _} {γ : Sort _} {A B C Gr : α → β → γ → Prop} {G : Prop} (h : ∃ x y z,A x y z ∧ B x y z ∧ C x y z ∧ Gr x y z) (k : ∀ x y z,A x y z → B x y z → C x y z → Gr x y z → G) : G := by
 obtain ⟨x,y,z,a0,b0,c0,d0⟩ := h
 exact k x y z a0 b0 c0 d0
theorem AB {α : Sort _} {β : Sort _} {γ : Sort _} {A B C Gr E : α → β → γ → Prop} {G : Prop} (h : ∃ x y z,A x y z ∧ B x y z ∧ C x y z ∧ Gr x y z ∧ E x y z) (k : ∀ x y z,A x y z → B x y z → C x y z → Gr x y z → E x y z → G) : G := by
 obtain ⟨x,y,z,a0,b0,c0,d0,e0⟩ := h
 exact k x y z a0 b0 c0 d0 e0
theorem mcs {α : Type _} {a b : α} {l : List α} (h : a ∈ b :: l) : b = a ∨ a ∈ l := (List.mem_cons.mp h).imp Eq.symm id
noncomputable abbrev PH := Addr → Option Obj
inductive V where
 | none
 | bool (b : Bool)
 | int (i : Int)
 | str (s : Str)
 | byt (xs : List Int)
 | val (v : Value)
 | h (n : Nat)
 | io (C : Addr) (n : Nat)
 | tup (vs : List V)
 | lst (vs : List V)
 | nums (xs : List Int)
 | obj (C : Addr) (fs : List (Str × V))
 | rng (a b : Int)
 | prs (ps : List (Int × Int))
 | junk
 | fz (v : V)
mutual
noncomputable def V.noH : V → Bool
 | .h _ => false
 | .io _ _ => false
 | .tup vs => V.noHs vs
 | .lst vs => V.noHs vs
 | .obj _ fs => V.noHf fs
 | .fz v => V.noH v
 | _ => true
noncomputable def V.noHs : List V → Bool
 | [] => true
 | v :: vs => V.noH v && V.noHs vs
noncomputable def V.noHf : List (Str × V) → Bool
 | [] => true
 | (_,v) :: vs => V.noH v && V.noHf vs
end
inductive MO where
 | lst (vs : List V)
 | nums (xs : List Int)
 | flds (fs : List (Str × V))
 | imap (es : List (Int × Int))
 | smap (es : List (Str × V))
 | tmap (es : List (List Int × V))
 | ftm (es : List (List Int × V))
 | emp
 | pin (o : Obj) (es : List (Int × Int))
noncomputable def S6 (b : Array UInt8) : List Int := b.toList.map λ c => (c.toNat : Int)
noncomputable abbrev dK (items : Array Value) (n : Nat) : Obj := { cls := .type "tuple", data := .seq items n }
noncomputable abbrev d7 (items : Array Value) (n : Nat) : Obj := { cls := .type "list", data := .seq items n }
inductive PRs (F : PH) : List (Int × Int) → List Value → Prop
 | nil : PRs F [] []
 | cons {a b : Int} {ta tb : Tok} {x : Addr} {o : Obj} {n : Nat} {ps : List (Int × Int)} {us : List Value} : F x = some o → o.cls = .type "tuple" → o.data = .seq #[.int a ta,.int b tb] n → PRs F ps us → PRs F ((a,b) :: ps) (.ref x :: us)
section
variable (P : Params)
mutual
inductive VR (F : PH) (J : List Addr) : V → Value → Prop
 | none : VR F J .none .none
 | bool (b : Bool) : VR F J (.bool b) (.bool b)
 | int (i : Int) (t : Tok) : VR F J (.int i) (.int i t)
 | str (x : Str) (t : Tok) : VR F J (.str x) (.str x t)
 | byt {xs : List Int} {b : Array UInt8} (t : Tok) : xs = S6 b → VR F J (.byt xs) (.bytes b t)
 | val (v : Value) : VR F J (.val v) v
 | h {n : Nat} {a : Addr} : J[n]? = some a → VR F J (.h n) (.ref a)
 | io {C : Addr} {n : Nat} {x a : Addr} : J[n]? = some a → F x = some (instObj C a) → VR F J (.io C n) (.ref x)
 | tup {vs : List V} {a : Addr} {us : List Value} {n : Nat} {o : Obj} : F a = some o → o.cls = .type "tuple" → o.data = .seq us.toArray n → VRs F J vs us → VR F J (.tup vs) (.ref a)
 | lst {vs : List V} {a : Addr} {us : List Value} {n : Nat} : F a = some (d7 us.toArray n) → VRs F J vs us → VR F J (.lst vs) (.ref a)
 | nums {xs : List Int} {a : Addr} {us : List Value} {n : Nat} : F a = some (d7 us.toArray n) → IntsAre us xs → VR F J (.nums xs) (.ref a)
 | obj {C : Addr} {fs : List (Str × V)} {x dx : Addr} {es : List DictEntry} {n : Nat} : F x = some (instObj C dx) → F dx = some (dictOf es n) → FRs F J fs es → VR F J (.obj C fs) (.ref x)
 | rng {a b : Int} {x : Addr} {t u v : Tok} : F x = some { cls := .type "range", dict := none,data := .fields #[.int a t,.int b u,.int 1 v],slots := #[] } → VR F J (.rng a b) (.ref x)
 | prs {ps : List (Int × Int)} {a : Addr} {us : List Value} {n : Nat} : F a = some (d7 us.toArray n) → PRs F ps us → VR F J (.prs ps) (.ref a)
 | junk (u : Value) : VR F J .junk u
 | fz {v : V} {u : Value} : V.noH v = true → VR F J v u → VR F J (.fz v) u
inductive VRs (F : PH) (J : List Addr) : List V → List Value → Prop
 | nil : VRs F J [] []
 | cons {v : V} {u : Value} {vs : List V} {us : List Value} : VR F J v u → VRs F J vs us → VRs F J (v :: vs) (u :: us)
inductive FRs (F : PH) (J : List Addr) : List (Str × V) → List DictEntry → Prop
 | nil : FRs F J [] []
 | cons {x : Str} {t : Tok} {v : V} {u : Value} {fs : List (Str × V)} {es : List DictEntry} : VR F J v u → FRs F J fs es → FRs F J ((x,v) :: fs) (⟨PyData.keyHash P x,.str x t,u⟩ :: es)
end
end
structure Ext (F : PH) (J : List Addr) (F' : PH) (ρ' : List Addr) : Prop where
 f : ∀ (a : Addr) (o : Obj),F a = some o → F' a = some o
 r : ∀ (n : Nat) (a : Addr),J[n]? = some a → ρ'[n]? = some a
theorem Ext.refl (F : PH) (J : List Addr) : Ext F J F J := ⟨λ Z Z e => e,λ Z Z e => e⟩
theorem Ext.trans {F F' F'' : PH} {J ρ' ρ'' : List Addr} (x : Ext F J F' ρ') (y : Ext F' ρ' F'' ρ'') : Ext F J F'' ρ'' := ⟨λ a o e => y.f a o (x.f a o e),λ n a e => y.r n a (x.r n a e)⟩
theorem PRs.mono {F F' : PH} (x : ∀ (a : Addr) (o : Obj),F a = some o → F' a = some o) {ps : List (Int × Int)} {us : List Value} (h : PRs F ps us) : PRs F' ps us := by
 induction h with
 | nil => exact .nil
 | cons f c d r ih => exact .cons (x _ _ f) c d ih
section
variable {P : Params} {F F' : PH} {J ρ' : List Addr}
theorem qg (x : Ext F J F' ρ') : (∀ {v : V} {u : Value},VR P F J v u → VR P F' ρ' v u) ∧ (∀ {v : List V} {u : List Value},VRs P F J v u → VRs P F' ρ' v u) ∧ (∀ {v : List (Str × V)} {u : List DictEntry},FRs P F J v u → FRs P F' ρ' v u) := by
 refine ⟨λ h => ?_,λ h => ?_,λ h => ?_⟩
 ·exact VR.rec (motive_1 := λ v u Z => VR P F' ρ' v u) (motive_2 := λ v u Z => VRs P F' ρ' v u) (motive_3 := λ v u Z => FRs P F' ρ' v u) .none .bool .int .str .byt .val (λ e => .h (x.r _ _ e)) (λ e f => .io (x.r _ _ e) (x.f _ _ f)) (λ f c d Z r => .tup (x.f _ _ f) c d r) (λ f Z r => .lst (x.f _ _ f) r) (λ f r => .nums (x.f _ _ f) r) (λ f g Z r => .obj (x.f _ _ f) (x.f _ _ g) r) (λ f => .rng (x.f _ _ f)) (λ f r => .prs (x.f _ _ f) (r.mono x.f)) .junk (λ h Z r => .fz h r) .nil (λ Z Z a b => .cons a b) .nil (λ Z Z a b => .cons a b) h
 ·exact VRs.rec (motive_1 := λ v u Z => VR P F' ρ' v u) (motive_2 := λ v u Z => VRs P F' ρ' v u) (motive_3 := λ v u Z => FRs P F' ρ' v u) .none .bool .int .str .byt .val (λ e => .h (x.r _ _ e)) (λ e f => .io (x.r _ _ e) (x.f _ _ f)) (λ f c d Z r => .tup (x.f _ _ f) c d r) (λ f Z r => .lst (x.f _ _ f) r) (λ f r => .nums (x.f _ _ f) r) (λ f g Z r => .obj (x.f _ _ f) (x.f _ _ g) r) (λ f => .rng (x.f _ _ f)) (λ f r => .prs (x.f _ _ f) (r.mono x.f)) .junk (λ h Z r => .fz h r) .nil (λ Z Z a b => .cons a b) .nil (λ Z Z a b => .cons a b) h
 ·exact FRs.rec (motive_1 := λ v u Z => VR P F' ρ' v u) (motive_2 := λ v u Z => VRs P F' ρ' v u) (motive_3 := λ v u Z => FRs P F' ρ' v u) .none .bool .int .str .byt .val (λ e => .h (x.r _ _ e)) (λ e f => .io (x.r _ _ e) (x.f _ _ f)) (λ f c d Z r => .tup (x.f _ _ f) c d r) (λ f Z r => .lst (x.f _ _ f) r) (λ f r => .nums (x.f _ _ f) r) (λ f g Z r => .obj (x.f _ _ f) (x.f _ _ g) r) (λ f => .rng (x.f _ _ f)) (λ f r => .prs (x.f _ _ f) (r.mono x.f)) .junk (λ h Z r => .fz h r) .nil (λ Z Z a b => .cons a b) .nil (λ Z Z a b => .cons a b) h
theorem VR.mono (x : Ext F J F' ρ') {v : V} {u : Value} (h : VR P F J v u) : VR P F' ρ' v u := (qg x).1 h
theorem VRs.mono (x : Ext F J F' ρ') {v : List V} {u : List Value} (h : VRs P F J v u) : VRs P F' ρ' v u := (qg x).2.1 h
theorem FRs.mono (x : Ext F J F' ρ') {v : List (Str × V)} {u : List DictEntry} (h : FRs P F J v u) : FRs P F' ρ' v u := (qg x).2.2 h
theorem BQ (hF : ∀ (a : Addr) (o : Obj),F a = some o → F' a = some o) : (∀ {v : V} {u : Value},VR P F J v u → V.noH v = true → VR P F' ρ' v u) ∧ (∀ {v : List V} {u : List Value},VRs P F J v u → V.noHs v = true → VRs P F' ρ' v u) ∧ (∀ {v : List (Str × V)} {u : List DictEntry},FRs P F J v u → V.noHf v = true → FRs P F' ρ' v u) := by
 have e1 : ∀ {v : V} {vs : List V},V.noHs (v :: vs) = true → V.noH v = true ∧ V.noHs vs = true := λ n => Bool.and_eq_true_iff.mp n
 have e2 : ∀ {x : Str} {v : V} {vs : List (Str × V)},V.noHf ((x,v) :: vs) = true → V.noH v = true ∧ V.noHf vs = true := λ n => Bool.and_eq_true_iff.mp n
 refine ⟨λ h => ?_,λ h => ?_,λ h => ?_⟩
 ·exact VR.rec (motive_1 := λ v u Z => V.noH v = true → VR P F' ρ' v u) (motive_2 := λ v u Z => V.noHs v = true → VRs P F' ρ' v u) (motive_3 := λ v u Z => V.noHf v = true → FRs P F' ρ' v u) (λ Z => .none) (λ b Z => .bool b) (λ i t Z => .int i t) (λ x t Z => .str x t) (λ t e Z => .byt t e) (λ v Z => .val v) (λ Z n => Bool.noConfusion n) (λ Z Z n => Bool.noConfusion n) (λ f c d Z r n => .tup (hF _ _ f) c d (r n)) (λ f Z r n => .lst (hF _ _ f) (r n)) (λ f r Z => .nums (hF _ _ f) r) (λ f g Z r n => .obj (hF _ _ f) (hF _ _ g) (r n)) (λ f Z => .rng (hF _ _ f)) (λ f r Z => .prs (hF _ _ f) (r.mono hF)) (λ u Z => .junk u) (λ h Z r Z => .fz h (r h)) (λ Z => .nil) (λ Z Z a b n => .cons (a (e1 n).1) (b (e1 n).2)) (λ Z => .nil) (λ Z Z a b n => .cons (a (e2 n).1) (b (e2 n).2)) h
 ·exact VRs.rec (motive_1 := λ v u Z => V.noH v = true → VR P F' ρ' v u) (motive_2 := λ v u Z => V.noHs v = true → VRs P F' ρ' v u) (motive_3 := λ v u Z => V.noHf v = true → FRs P F' ρ' v u) (λ Z => .none) (λ b Z => .bool b) (λ i t Z => .int i t) (λ x t Z => .str x t) (λ t e Z => .byt t e) (λ v Z => .val v) (λ Z n => Bool.noConfusion n) (λ Z Z n => Bool.noConfusion n) (λ f c d Z r n => .tup (hF _ _ f) c d (r n)) (λ f Z r n => .lst (hF _ _ f) (r n)) (λ f r Z => .nums (hF _ _ f) r) (λ f g Z r n => .obj (hF _ _ f) (hF _ _ g) (r n)) (λ f Z => .rng (hF _ _ f)) (λ f r Z => .prs (hF _ _ f) (r.mono hF)) (λ u Z => .junk u) (λ h Z r Z => .fz h (r h)) (λ Z => .nil) (λ Z Z a b n => .cons (a (e1 n).1) (b (e1 n).2)) (λ Z => .nil) (λ Z Z a b n => .cons (a (e2 n).1) (b (e2 n).2)) h
 ·exact FRs.rec (motive_1 := λ v u Z => V.noH v = true → VR P F' ρ' v u) (motive_2 := λ v u Z => V.noHs v = true → VRs P F' ρ' v u) (motive_3 := λ v u Z => V.noHf v = true → FRs P F' ρ' v u) (λ Z => .none) (λ b Z => .bool b) (λ i t Z => .int i t) (λ x t Z => .str x t) (λ t e Z => .byt t e) (λ v Z => .val v) (λ Z n => Bool.noConfusion n) (λ Z Z n => Bool.noConfusion n) (λ f c d Z r n => .tup (hF _ _ f) c d (r n)) (λ f Z r n => .lst (hF _ _ f) (r n)) (λ f r Z => .nums (hF _ _ f) r) (λ f g Z r n => .obj (hF _ _ f) (hF _ _ g) (r n)) (λ f Z => .rng (hF _ _ f)) (λ f r Z => .prs (hF _ _ f) (r.mono hF)) (λ u Z => .junk u) (λ h Z r Z => .fz h (r h)) (λ Z => .nil) (λ Z Z a b n => .cons (a (e1 n).1) (b (e1 n).2)) (λ Z => .nil) (λ Z Z a b n => .cons (a (e2 n).1) (b (e2 n).2)) h
theorem VR.noH (hF : ∀ (a : Addr) (o : Obj),F a = some o → F' a = some o) {v : V} {u : Value} (n : V.noH v = true) (h : VR P F J v u) : VR P F' ρ' v u := (BQ hF).1 h n
end
section
variable {P : Params} {F F' : PH} {J ρ' : List Addr} {f : V → V}
theorem VRs.mapF (ih : ∀ {v : V} {u : Value},VR P F J v u → VR P F' ρ' (f v) u) : ∀ {vs : List V} {us : List Value},VRs P F J vs us → VRs P F' ρ' (vs.map f) us := by
 intro vs
 induction vs with
 | nil => intro us h; cases h; exact .nil
 | cons v vs q => intro us h; cases h with | cons a b => exact .cons (ih a) (q b)
theorem FRs.mapF (ih : ∀ {v : V} {u : Value},VR P F J v u → VR P F' ρ' (f v) u) : ∀ {fs : List (Str × V)} {es : List DictEntry},FRs P F J fs es → FRs P F' ρ' (fs.map λ p => (p.1,f p.2)) es := by
 intro fs
 induction fs with
 | nil => intro us h; cases h; exact .nil
 | cons v vs q => intro us h; cases h with | cons a b => exact .cons (ih a) (q b)
end
inductive IMs : List (Int × Int) → List (Int × Value) → Prop
 | nil : IMs [] []
 | cons {k v : Int} {t : Tok} {es : List (Int × Int)} {kvs : List (Int × Value)} : IMs es kvs → IMs ((k,v) :: es) ((k,.int v t) :: kvs)
section
variable (P : Params)
inductive SMs (F : PH) (J : List Addr) : List (Str × V) → List (Str × Value) → Prop
 | nil : SMs F J [] []
 | cons {x : Str} {v : V} {u : Value} {es : List (Str × V)} {kvs : List (Str × Value)} : VR P F J v u → SMs F J es kvs → SMs F J ((x,v) :: es) ((x,u) :: kvs)
end
theorem SMs.mono {P : Params} {F F' : PH} {J ρ' : List Addr} (x : Ext F J F' ρ') {es : List (Str × V)} {kvs : List (Str × Value)} (h : SMs P F J es kvs) : SMs P F' ρ' es kvs := by
 induction h with
 | nil => exact .nil
 | cons a b ih => exact .cons (a.mono x) ih
theorem SMs.mapF {P : Params} {F F' : PH} {J ρ' : List Addr} {f : V → V} (ih : ∀ {v : V} {u : Value},VR P F J v u → VR P F' ρ' (f v) u) {fs : List (Str × V)} {es : List (Str × Value)} (h : SMs P F J fs es) : SMs P F' ρ' (fs.map λ p => (p.1,f p.2)) es := by
 induction h with
 | nil => exact .nil
 | cons a b q => exact .cons (ih a) q
section
variable (P : Params)
inductive TMs (F : PH) (J : List Addr) : List (List Int × V) → List (List Int × Addr × Value) → Prop
 | nil : TMs F J [] []
 | cons {ks : List Int} {x : Addr} {ko : Obj} {us : List Value} {n : Nat} {v : V} {u : Value} {es : List (List Int × V)} {xs : List (List Int × Addr × Value)} : F x = some ko → ko.cls = .type "tuple" → ko.data = .seq us.toArray n → IntsAre us ks → VR P F J v u → TMs F J es xs → TMs F J ((ks,v) :: es) ((ks,x,u) :: xs)
end
theorem TMs.mono {P : Params} {F F' : PH} {J ρ' : List Addr} (x : Ext F J F' ρ') {es : List (List Int × V)} {xs : List (List Int × Addr × Value)} (h : TMs P F J es xs) : TMs P F' ρ' es xs := by
 induction h with
 | nil => exact .nil
 | cons f c d i a b ih => exact .cons (x.f _ _ f) c d i (a.mono x) ih
theorem TMs.mapF {P : Params} {F F' : PH} {J ρ' : List Addr} {f : V → V} (hF : ∀ (a : Addr) (o : Obj),F a = some o → F' a = some o) (ih : ∀ {v : V} {u : Value},VR P F J v u → VR P F' ρ' (f v) u) {fs : List (List Int × V)} {es : List (List Int × Addr × Value)} (h : TMs P F J fs es) : TMs P F' ρ' (fs.map λ p => (p.1,f p.2)) es := by
 induction h with
 | nil => exact .nil
 | cons x c d i a b q => exact .cons (hF _ _ x) c d i (ih a) q
section
variable (prog : Program) (w : World)
inductive MR (F : PH) (J : List Addr) : MO → Obj → Prop
 | lst {vs : List V} {us : List Value} {n : Nat} : VRs w.params F J vs us → MR F J (.lst vs) (d7 us.toArray n)
 | nums {xs : List Int} {us : List Value} {n : Nat} : IntsAre us xs → MR F J (.nums xs) (d7 us.toArray n)
 | flds {fs : List (Str × V)} {es : List DictEntry} {n : Nat} : FRs w.params F J fs es → MR F J (.flds fs) (dictOf es n)
 | imap {es : List (Int × Int)} {kvs : List (Int × Value)} {o : Obj} : IMs es kvs → o.IsDictOf (PySem.intKind prog w) kvs → MR F J (.imap es) o
 | smap {es : List (Str × V)} {kvs : List (Str × Value)} {o : Obj} : SMs w.params F J es kvs → o.IsDictOf (PySem.strKind prog w) kvs → MR F J (.smap es) o
 | tmap {es : List (List Int × V)} {xs : List (List Int × Addr × Value)} {o : Obj} {ents : Array DictEntry} {ep : Nat} : TMs w.params F J es xs → o.ExactDict → o.data = .dict ents ep → ents.toList = xs.map (entryOfKey (tupleKind (PySem.intKind prog w))) → (xs.map (·.1)).Nodup → MR F J (.tmap es) o
 | ftm {es : List (List Int × V)} {xs : List (List Int × Addr × Value)} {o : Obj} {ents : Array DictEntry} {ep : Nat} : (∀ ρ',TMs w.params F ρ' es xs) → o.ExactDict → o.data = .dict ents ep → ents.toList = xs.map (entryOfKey (tupleKind (PySem.intKind prog w))) → (xs.map (·.1)).Nodup → MR F J (.ftm es) o
 | emp {o : Obj} {ep : Nat} : o.ExactDict → o.data = .dict #[] ep → MR F J .emp o
 | pin {es : List (Int × Int)} {kvs : List (Int × Value)} {o : Obj} : IMs es kvs → o.IsDictOf (PySem.intKind prog w) kvs → MR F J (.pin o es) o
end
section
variable {prog : Program} {w : World} {F F' : PH} {J ρ' : List Addr}
theorem MR.mono (x : Ext F J F' ρ') {m : MO} {o : Obj} (h : MR prog w F J m o) : MR prog w F' ρ' m o := by
 cases h with
 | lst h => exact .lst (h.mono x)
 | nums h => exact .nums h
 | flds h => exact .flds (h.mono x)
 | imap a b => exact .imap a b
 | smap a b => exact .smap (a.mono x) b
 | tmap a b c d e => exact .tmap (a.mono x) b c d e
 | ftm a b c d e => exact .ftm (λ ρ'' => (a ρ'').mono ⟨x.f,λ Z Z e => e⟩) b c d e
 | emp a b => exact .emp a b
 | pin a b => exact .pin a b
end
structure Wd where
 prog : Program
 w : World
 K : Frag
 h₀ : Heap
 p : Program
 loose : List Str
 mg : Str → Option Value
 mb : Str → Option Value
 kin : K.In h₀
 top : TopRead p loose mg mb h₀
variable (X : Wd)
structure Rel (F G : PH) (J : List Addr) (O : List MO) (h : Heap) : Prop where
 base : ∀ a o,X.h₀.get? a = some o → F a = some o
 f : ∀ a o,F a = some o → h.get? a = some o
 g : ∀ a o,G a = some o → h.get? a = some o
 fg : ∀ a o,G a = some o → F a = none
 nd : J.Nodup
 rf : ∀ a,a ∈ J → F a = none ∧ G a = none
 len : J.length = O.length
 m : ∀ (n : Nat) (a : Addr) (o : MO),J[n]? = some a → O[n]? = some o → ∃ x,h.get? a = some x ∧ MR X.prog X.w F J o x
structure Gam where
 loc : List (Str × V)
 cel : List (Str × V) := []
structure EnvOK (env : Env) : Prop where
 apart : env.cells.Pairwise λ x y => x.2 ≠ y.2
 keys : (env.cells.map (·.1)).Nodup
 has : ∀ x,env.kindOf x = some .cell → ∃ c,env.cells.lookup x = some c
structure Fram (env : Env) (F G : PH) (J : List Addr) (D : Gam) (h : Heap) : Prop where
 glob : env.globals = mainGlobals
 bilt : env.builtins = builtinsNs
 kind : env.scope.kind = .function
 ns : ∃ m,h.Ns env.locals m ∧ ∀ x v,D.loc.lookup x = some v → ∃ u,m x = some u ∧ VR X.w.params F J v u
 out : F env.locals = none ∧ G env.locals = none ∧ env.locals ∉ J
 cel : ∀ x v,D.cel.lookup x = some v → ∃ c u,env.cells.lookup x = some c ∧ h.IsCell c (some u) ∧ VR X.w.params F J v u
 cout : ∀ x c,(x,c) ∈ env.cells → F c = none ∧ G c = none ∧ c ∉ J ∧ c ≠ env.locals ∧ ∃ v,h.IsCell c v
 ev : EnvOK env
end
abbrev KA := Value → Shared → Prop
abbrev KB := V → Gam → List MO → Prop
abbrev KC := V → List MO → Prop
abbrev KD := List (Str × V)
abbrev KF := List (Int × Int)
abbrev KG := List MO
abbrev KH := List Addr
abbrev KJ := List (List Int × V)
abbrev KK := List Value
abbrev KL := List Expr
abbrev KM := List Int
abbrev KN := List V
variable {O : KG} {J : KH} {n : Nat} {us : KK} {vs : List Mine.Internal.V} {X : Wd} {D : Gam} {P : Params} {env : Env} {v : Mine.Internal.V} {pos : Pos} {A : Around} {F : PH} {s : Shared} {E : KA} {Q : KA} {xs : KM} {o : Obj} {e : Expr} {sc : Scope} {prog : Program} {w : World} {es : KF} {k : Mine.Internal.V → List MO → Prop} {x : Str} {i : Int} {d : Nat} {G : PH} {args : List Mine.Internal.V} {fs : List (Str × Mine.Internal.V)} {C : Addr} {ks : KM} {H : Heap}
section
variable (X : Wd)
noncomputable def C3 (d : Nat) (A : Around) : Prop := A.handled = none ∧ A.depth + 2 * d + 2 < recursionLimit ∧ A.units + 8 * d + 80 < cLine
theorem C3.mono {d e : Nat} (h : C3 d A) (he : e ≤ d) : C3 e A := ⟨h.1,by have := h.2.1; lia,by have := h.2.2; lia⟩
theorem C3.u {d n : Nat} (h : C3 d A) (hn : n ≤ 80) : A.units + n < cLine := Nat.lt_of_le_of_lt (ya6 (Nat.add_le_add_left hn _) (yc2 (yb7 _ _) 80)) h.2.2
noncomputable def Op {α β : Type} (R : PH → List Addr → β → α → Prop) (d : Nat) (O : KG) (vs : KN) (t : List Value → Sem α) (k : β → List MO → Prop) : Prop :=
 ∀ (A : Around) (E : KA) (Q : α → Shared → Prop) (s : Shared) (F G : PH) (J : KH) (us : KK),C3 d A → Rel X F G J O s.heap → VRs X.w.params F J vs us →
  (∀ (v : β) (u : α) (h' : Heap) (tk' : Nat) (F' : PH) (ρ' : KH) (σ' : KG),k v σ' → Ext F J F' ρ' → Rel X F' G ρ' σ' h' → R F' ρ' v u → Q u { s with heap := h',toks := tk' }) →
  wpAny (model X.prog X.w) A (t us) Q E s
noncomputable def Ev {α β : Type} (R : PH → List Addr → β → α → Prop) (d : Nat) (env : Env) (D : Gam) (O : KG) (vs : KN) (t : List Value → Sem α) (k : β → Gam → List MO → Prop) : Prop :=
 ∀ (A : Around) (E : KA) (Q : α → Shared → Prop) (s : Shared) (F G : PH) (J : KH) (us : KK),C3 d A → Rel X F G J O s.heap → Fram X env F G J D s.heap → VRs X.w.params F J vs us →
  (∀ (v : β) (u : α) (h' : Heap) (tk' : Nat) (F' : PH) (ρ' : KH) (σ' : KG) (Γ' : Gam),k v Γ' σ' → Ext F J F' ρ' → Rel X F' G ρ' σ' h' → Fram X env F' G ρ' Γ' h' → R F' ρ' v u → Q u { s with heap := h',toks := tk' }) →
  wpAny (model X.prog X.w) A (t us) Q E s
noncomputable abbrev RV : PH → List Addr → V → Value → Prop := VR X.w.params
noncomputable abbrev RVs : PH → List Addr → List V → List Value → Prop := VRs X.w.params
noncomputable abbrev RB : PH → List Addr → Bool → Bool → Prop := λ Z Z a b => b = a
noncomputable abbrev RU : PH → List Addr → Unit → Unit → Prop := λ Z Z Z Z => True
noncomputable def guard (as : KH) (h : Heap) (G : PH) : PH := λ a => if a ∈ as then h.get? a else G a
variable {X}
theorem Rel.guard {F G : PH} {J : KH} {O : KG} {h : Heap} {as : KH} (r : Rel X F G J O h) (ha : ∀ a ∈ as,F a = none ∧ a ∉ J) (hs : ∀ a ∈ as,∃ o,h.get? a = some o) : Rel X F (guard as h G) J O h where
 base := r.base
 f := r.f
 g := λ a o e => by
  unfold Mine.Internal.guard at e
  split at e
  ·exact e
  ·exact r.g a o e
 fg := λ a o e => by
  unfold Mine.Internal.guard at e
  split at e
  ·rename_i q; exact (ha a q).1
  ·exact r.fg a o e
 nd := r.nd
 rf := λ a q => ⟨(r.rf a q).1,by
  unfold Mine.Internal.guard
  rw [if_neg (λ z => (ha a z).2 q)]
  exact (r.rf a q).2⟩
 len := r.len
 m := r.m
theorem Rel.unguard {F G F' : PH} {J ρ' : KH} {O σ' : KG} {h h' : Heap} {as : KH} (r : Rel X F G J O h) (r' : Rel X F' (Mine.Internal.guard as h G) ρ' σ' h') (hs : ∀ a ∈ as,∃ o,h.get? a = some o) : Rel X F' G ρ' σ' h' where
 base := r'.base
 f := r'.f
 g := λ a o e => r'.g a o (by
  unfold Mine.Internal.guard
  split
  ·exact r.g a o e
  ·exact e)
 fg := λ a o e => r'.fg a o (by
  unfold Mine.Internal.guard
  split
  ·exact r.g a o e
  ·exact e)
 nd := r'.nd
 rf := λ a q => ⟨(r'.rf a q).1,by
  have z := (r'.rf a q).2
  unfold Mine.Internal.guard at z
  split at z
  ·rename_i w
   obtain ⟨o,ho⟩ := hs a w
   rw [ho] at z; cases z
  ·exact z⟩
 len := r'.len
 m := r'.m
theorem r7 {as : KH} {h h' : Heap} {G F' : PH} {ρ' : KH} {σ' : KG} (r' : Rel X F' (Mine.Internal.guard as h G) ρ' σ' h') {a : Addr} (ha : a ∈ as) (e : h.get? a = some o) : h'.get? a = some o :=
 r'.g a o (by unfold Mine.Internal.guard; rw [if_pos ha]; exact e)
theorem u7 {as : KH} {h h' : Heap} {G F' : PH} {ρ' : KH} {σ' : KG} (r' : Rel X F' (Mine.Internal.guard as h G) ρ' σ' h') {a : Addr} (ha : a ∈ as) (e : h.get? a = some o) : F' a = none ∧ a ∉ ρ' := by
 have hg : Mine.Internal.guard as h G a = some o := by unfold Mine.Internal.guard; rw [if_pos ha]; exact e
 refine ⟨r'.fg a o hg,λ q => ?_⟩
 have := (r'.rf a q).2
 rw [hg] at this; cases this
noncomputable def e9 (env : Env) : List Addr := env.locals :: env.cells.map (·.2)
theorem Fram.as {h : Heap} (f : Fram X env F G J D h) : (∀ a ∈ e9 env,F a = none ∧ a ∉ J) ∧ ∀ a ∈ e9 env,∃ o,h.get? a = some o := by
 refine ⟨λ a ha => ?_,λ a ha => ?_⟩
 ·rcases mcs ha with rfl | ha
  ·exact ⟨f.out.1,f.out.2.2⟩
  ·obtain ⟨⟨x,c⟩,hc,rfl⟩ := List.mem_map.mp ha
   obtain ⟨a,b,c,_⟩ := f.cout x c hc
   exact ⟨a,c⟩
 ·rcases mcs ha with rfl | ha
  ·obtain ⟨m,⟨o,_,_,ho,_⟩,_⟩ := f.ns
   exact ⟨o,ho⟩
  ·obtain ⟨⟨x,c⟩,hc,rfl⟩ := List.mem_map.mp ha
   obtain ⟨v,o,ho,_⟩ := (f.cout x c hc).2.2.2.2
   exact ⟨o,ho⟩
theorem Fram.back {F F' G : PH} {J ρ' : KH} {σ' : KG} {h h' : Heap} (f : Fram X env F G J D h) (x : Ext F J F' ρ') (r : Rel X F' (Mine.Internal.guard (e9 env) h G) ρ' σ' h') : Fram X env F' G ρ' D h' := by
 have hs := f.as
 have get : ∀ {a o},a ∈ e9 env → h.get? a = some o → h'.get? a = some o := λ ha e => r7 r ha e
 have non : ∀ {a},a ∈ e9 env → F' a = none ∧ a ∉ ρ' := λ ha => by
  obtain ⟨o,e⟩ := hs.2 _ ha
  exact u7 r ha e
 have hL : env.locals ∈ e9 env := mS
 have hC : ∀ {x c},(x,c) ∈ env.cells → c ∈ e9 env := λ hc => mM _ (List.mem_map.mpr ⟨_,hc,rfl⟩)
 refine ⟨f.glob,f.bilt,f.kind,?_,⟨(non hL).1,f.out.2.1,(non hL).2⟩,λ y v e => ?_,λ y c hc => ?_,f.ev⟩
 ·obtain ⟨m,⟨o,es,ep,ho,q⟩,hm⟩ := f.ns
  exact ⟨m,⟨o,es,ep,get hL ho,q⟩,λ y v e => let ⟨u,a,b⟩ := hm y v e; ⟨u,a,b.mono x⟩⟩
 ·obtain ⟨c,u,hc,⟨o,ho,q⟩,hv⟩ := f.cel y v e
  exact ⟨c,u,hc,⟨o,get (hC (mem_of_lookup hc)) ho,q⟩,hv.mono x⟩
 ·obtain ⟨a,b,c,d,v,o,e,e'⟩ := f.cout y c hc
  exact ⟨(non (hC hc)).1,b,(non (hC hc)).2,d,v,o,get (hC hc) e,e'⟩
theorem A0 {α β : Type} {R : PH → List Addr → β → α → Prop} {d : Nat} {env : Env} {D : Gam} {O : KG} {vs : KN} {t : List Value → Sem α} {k : β → Gam → List MO → Prop}
  (h : Op X R d O vs t (λ v σ' => k v D σ')) : Ev X R d env D O vs t k := by
 intro A E Q s F G J us hA r f hv hk
 have as := f.as
 refine h A E Q s F (Mine.Internal.guard (e9 env) s.heap G) J us hA (r.guard as.1 as.2) hv λ v u h' tk' F' ρ' σ' hkk x r' hr => ?_
 exact hk v u h' tk' F' ρ' σ' D hkk x (r.unguard r' as.2) (f.back x r') hr
theorem VRs.one (h : VRs P F J [v] us) : ∃ u,us = [u] ∧ VR P F J v u := by
 cases h with | cons a b => cases b; exact ⟨_,rfl,a⟩
theorem VRs.two {v w : V} (h : VRs P F J [v,w] us) : ∃ u x,us = [u,x] ∧ VR P F J v u ∧ VR P F J w x := by
 cases h with | cons a b => obtain ⟨x,rfl,c⟩ := b.one; exact ⟨_,_,rfl,a,c⟩
theorem VRs.three {v w y : V} (h : VRs P F J [v,w,y] us) : ∃ u x z,us = [u,x,z] ∧ VR P F J v u ∧ VR P F J w x ∧ VR P F J y z := by
 cases h with | cons a b => obtain ⟨x,z,rfl,c,d⟩ := b.two; exact ⟨_,_,_,rfl,a,c,d⟩
theorem VR.int' {u : Value} (h : VR P F J (.int i) u) : ∃ t,u = .int i t := by cases h; exact ⟨_,rfl⟩
theorem VR.val' {i : Value} {u : Value} (h : VR P F J (.val i) u) : u = i := by cases h; rfl
theorem MR.numsE (h : MR prog w F J (.nums xs) o) : ∃ us n,o = d7 us.toArray n ∧ IntsAre us xs := by cases h with | nums q => exact ⟨_,_,rfl,q⟩
theorem MR.lstE {xs : KN} (h : MR prog w F J (.lst xs) o) : ∃ us n,o = d7 us.toArray n ∧ VRs w.params F J xs us := by cases h with | lst q => exact ⟨_,_,rfl,q⟩
theorem MR.imapE {G : Prop} (h : MR prog w F J (.imap es) o) (k : ∀ kvs,IMs es kvs → o.IsDictOf (PySem.intKind prog w) kvs → G) : G := by cases h with | imap a b => exact k _ a b
theorem MR.smapE {G : Prop} {es : KD} (h : MR prog w F J (.smap es) o) (k : ∀ kvs,SMs w.params F J es kvs → o.IsDictOf (PySem.strKind prog w) kvs → G) : G := by cases h with | smap a b => exact k _ a b
theorem MR.tmapE {G : Prop} {es : KJ} (h : MR prog w F J (.tmap es) o) (k : ∀ xs ents ep,TMs w.params F J es xs → o.ExactDict → o.data = .dict ents ep → ents.toList = xs.map (entryOfKey (tupleKind (PySem.intKind prog w))) → (xs.map (·.1)).Nodup → G) : G := by cases h with | tmap a b c d e => exact k _ _ _ a b c d e
theorem MR.ftmE {G : Prop} {es : KJ} (h : MR prog w F J (.ftm es) o) (k : ∀ xs ents ep,(∀ ρ',TMs w.params F ρ' es xs) → o.ExactDict → o.data = .dict ents ep → ents.toList = xs.map (entryOfKey (tupleKind (PySem.intKind prog w))) → (xs.map (·.1)).Nodup → G) : G := by cases h with | ftm a b c d e => exact k _ _ _ a b c d e
theorem MR.empE {G : Prop} (h : MR prog w F J .emp o) (k : ∀ ep,o.ExactDict → o.data = .dict #[] ep → G) : G := by cases h with | emp a b => exact k _ a b
theorem Rel.numsH {X : Wd} {h : Heap} {a : Addr} (r : Rel X F G J O h) (ha : J[n]? = some a) (hs : O[n]? = some (.nums xs)) : ∃ us n,h.get? a = some (d7 us.toArray n) ∧ IntsAre us xs := by
 obtain ⟨x,hx,hm⟩ := r.m _ _ _ ha hs
 obtain ⟨us,n,rfl,q⟩ := hm.numsE
 exact ⟨us,n,hx,q⟩
theorem Rel.lstH {X : Wd} {h : Heap} {a : Addr} {xs : KN} (r : Rel X F G J O h) (ha : J[n]? = some a) (hs : O[n]? = some (.lst xs)) : ∃ us n,h.get? a = some (d7 us.toArray n) ∧ VRs X.w.params F J xs us := by
 obtain ⟨x,hx,hm⟩ := r.m _ _ _ ha hs
 obtain ⟨us,n,rfl,q⟩ := hm.lstE
 exact ⟨us,n,hx,q⟩
@[elab_as_elim] theorem VRs.consE {P : Params} {F : PH} {J : KH} {v : V} {vs : KN} {us : KK} {C : List Value → Prop} (h : VRs P F J (v :: vs) us) (k : ∀ u us,VR P F J v u → VRs P F J vs us → C (u :: us)) : C us := by
 cases h with
 | cons a b => exact k _ _ a b
@[elab_as_elim] theorem VRs.oneE {P : Params} {F : PH} {J : KH} {v : V} {us : KK} {C : List Value → Prop} (h : VRs P F J [v] us) (k : ∀ u,VR P F J v u → C [u]) : C us := by
 obtain ⟨u,rfl,a⟩ := h.one; exact k _ a
@[elab_as_elim] theorem VRs.twoE {P : Params} {F : PH} {J : KH} {v w : V} {us : KK} {C : List Value → Prop} (h : VRs P F J [v,w] us) (k : ∀ u x,VR P F J v u → VR P F J w x → C [u,x]) : C us := by
 obtain ⟨u,x,rfl,a,b⟩ := h.two; exact k _ _ a b
@[elab_as_elim] theorem VRs.threeE {P : Params} {F : PH} {J : KH} {v w y : V} {us : KK} {C : List Value → Prop} (h : VRs P F J [v,w,y] us) (k : ∀ u x z,VR P F J v u → VR P F J w x → VR P F J y z → C [u,x,z]) : C us := by
 obtain ⟨u,x,z,rfl,a,b,c⟩ := h.three; exact k _ _ _ a b c
section
variable {u : Value} {C : Value → Prop}
@[elab_as_elim] theorem VR.intE {i : Int} (h : VR P F J (.int i) u) (k : ∀ t,C (.int i t)) : C u := by cases h; exact k _
@[elab_as_elim] theorem VR.strE {i : Str} (h : VR P F J (.str i) u) (k : ∀ t,C (.str i t)) : C u := by cases h; exact k _
@[elab_as_elim] theorem VR.boolE {i : Bool} (h : VR P F J (.bool i) u) (k : C (.bool i)) : C u := by cases h; exact k
@[elab_as_elim] theorem VR.noneE (h : VR P F J .none u) (k : C .none) : C u := by cases h; exact k
@[elab_as_elim] theorem VR.hE {n : Nat} (h : VR P F J (.h n) u) (k : ∀ a,J[n]? = some a → C (.ref a)) : C u := by cases h with | h e => exact k _ e
@[elab_as_elim] theorem VR.tupE {vs : KN} (h : VR P F J (.tup vs) u) (k : ∀ a us n o,F a = some o → o.cls = .type "tuple" → o.data = .seq us.toArray n → VRs P F J vs us → C (.ref a)) : C u := by cases h with | tup a b c d => exact k _ _ _ _ a b c d
@[elab_as_elim] theorem VR.numsE {xs : KM} (h : VR P F J (.nums xs) u) (k : ∀ a us n,F a = some (d7 us.toArray n) → IntsAre us xs → C (.ref a)) : C u := by cases h with | nums a b => exact k _ _ _ a b
@[elab_as_elim] theorem VR.lstE {vs : KN} (h : VR P F J (.lst vs) u) (k : ∀ a us n,F a = some (d7 us.toArray n) → VRs P F J vs us → C (.ref a)) : C u := by cases h with | lst a b => exact k _ _ _ a b
@[elab_as_elim] theorem VR.prsE {vs : KF} (h : VR P F J (.prs vs) u) (k : ∀ a us n,F a = some (d7 us.toArray n) → PRs F vs us → C (.ref a)) : C u := by cases h with | prs a b => exact k _ _ _ a b
@[elab_as_elim] theorem VR.bytE {xs : KM} (h : VR P F J (.byt xs) u) (k : ∀ b t,xs = S6 b → C (.bytes b t)) : C u := by cases h with | byt t e => exact k _ t e
@[elab_as_elim] theorem VR.ioE {Gr : Addr} {n : Nat} (h : VR P F J (.io Gr n) u) (k : ∀ x a,J[n]? = some a → F x = some (instObj Gr a) → C (.ref x)) : C u := by cases h with | io e f => exact k _ _ e f
@[elab_as_elim] theorem VR.rngE {a b : Int} (h : VR P F J (.rng a b) u) (k : ∀ x t y z,F x = some { cls := .type "range", dict := Option.none,data := .fields #[.int a t,.int b y,.int 1 z],slots := #[] } → C (.ref x)) : C u := by cases h with | rng e => exact k _ _ _ _ e
end
theorem VRs.append {b : KN} {y : KK} : ∀ {a : KN} {x : KK},VRs P F J a x → VRs P F J b y → VRs P F J (a ++ b) (x ++ y) := by
 intro a
 induction a with
 | nil => intro x p h; cases p; exact h
 | cons v a ih => intro x p h; cases p with | cons p q => exact .cons p (ih q h)
end
section
variable {k : KB}
section names
theorem L9 (hl : env.kindOf x = some .local) (hd : (x == ("__debug__" : Str)) = false) (hv : D.loc.lookup x = some v) (h : k v D O) : Ev X (RV X) d env D O vs (λ Z => eval (.Name x pos) env) k := by
 intro A E Q s F G J us _ r f _ hk
 refine a9 (f.ns) λ m hn hm => ?_
 refine a9 (hm x v hv) λ u e q => ?_
 exact wpAny_Name (wpAny_loadName_local f.kind hl hn e (hk v u s.heap s.toks F J O D h (.refl F J) r f q)) hd
theorem ii (hl : env.kindOf x = some .cell) (hd : (x == ("__debug__" : Str)) = false) (hv : D.cel.lookup x = some v) (h : k v D O) : Ev X (RV X) d env D O vs (λ Z => eval (.Name x pos) env) k := by
 intro A E Q s F G J us _ r f _ hk
 refine S8 (f.cel x v hv) λ c u hc hu q => ?_
 exact wpAny_Name (wpAny_loadName_cell f.kind hl hc hu (hk v u s.heap s.toks F J O D h (.refl F J) r f q)) hd
theorem f8 {h : Heap} (r : Rel X F G J O h) : ∀ b o,X.h₀.get? b = some o → h.get? b = some o := λ b o e => r.f b o (r.base b o e)
theorem fh {u : Value} (hl : env.kindOf x = some .globalImplicit) (hd : (x == ("__debug__" : Str)) = false) (hg : X.mg x = none) (hv : X.mb x = some u) (h : k (.val u) D O) : Ev X (RV X) d env D O vs (λ Z => eval (.Name x pos) env) k := by
 intro A E Q s F G J us _ r f _ hk
 exact Calls.Name_function_global f.kind hl (Calls.loadGlobal_builtin (by rw [f.glob]; exact X.top.g.keeps (f8 r)) hg (by rw [f.bilt]; exact X.top.b.keeps (f8 r)) hv
  (hk _ u s.heap s.toks F J O D h (.refl F J) r f (.val u))) hd
end names
section consts
variable {kd : Nat}
theorem oO (h : k (.int i) D O) : Ev X (RV X) d env D O vs (λ Z => eval (.Constant (.int i) kd pos) env) k := by
 intro A E Q s F G J us _ r f _ hk
 exact wpAny_Constant_int (hk _ _ _ _ F J O D h (.refl F J) r f (.int i _))
theorem tS {i : Str} (h : k (.str i) D O) : Ev X (RV X) d env D O vs (λ Z => eval (.Constant (.str i) kd pos) env) k := by
 intro A E Q s F G J us _ r f _ hk
 exact Calls.Constant_str (hk _ _ _ _ F J O D h (.refl F J) r f (.str i _))
theorem qi {i : Bool} (h : k (.bool i) D O) : Ev X (RV X) d env D O vs (λ Z => eval (.Constant (.bool i) kd pos) env) k := by
 intro A E Q s F G J us _ r f _ hk
 exact ya1 (hk _ _ _ _ F J O D h (.refl F J) r f (.bool i))
theorem qj (h : k .none D O) : Ev X (RV X) d env D O vs (λ Z => eval (.Constant .none kd pos) env) k := by
 intro A E Q s F G J us _ r f _ hk
 exact ya1 (hk _ _ _ _ F J O D h (.refl F J) r f .none)
end consts
theorem lT {l r : Expr} {op : Operator} {pos : Pos}
  (h : Ev X (RV X) d env D O [] (λ Z => eval l env) (λ a Eg Eh => Ev X (RV X) d env Eg Eh [a] (λ Z => eval r env) (λ b Ej Ei => Op X (RV X) d Ei [a,b] (λ us => binaryOp op (us.getD 0 .none) (us.getD 1 .none)) (λ v σ' => k v Ej σ')))) :
  Ev X (RV X) d env D O vs (λ Z => eval (.BinOp l op r pos) env) k := by
 intro A E Q s F G J us hA r f hv hk
 refine wpAny_BinOp ?_
 refine h A E _ s F G J [] hA r f .nil λ a u Eo Er Eu Em Eh Eg z Ey En Es Et => ?_
 refine z A E _ _ Eu G Em [u] hA En Es (.cons Et .nil) λ b EO Ew Ek EE El Ei Ej EF EA Ep EC Ez => ?_
 refine A0 (k := k) EF A E Q _ EE G El [u,EO] hA Ep EC (.cons (Et.mono EA) (.cons Ez .nil)) λ v FP EK ES EL EI ED EH EW ER EN EM Fo => ?_
 exact hk v FP EK ES EL EI ED EH EW ((Ey.trans EA).trans ER) EN EM Fo
theorem qk {t : List Value → Sem Value} {kk : KC} (hk : kk v O)
  (h : ∀ (A : Around) (E : KA) (Q : KA) (s : Shared) (F : PH) (J : KH) (us : KK),VRs X.w.params F J vs us → C3 d A → (∀ u tk,VR X.w.params F J v u → Q u { s with toks := tk }) → wpAny (model X.prog X.w) A (t us) Q E s) :
  Op X (RV X) d O vs t kk := by
 intro A E Q s F G J us hA r hv hkk
 exact h A E Q s F J us hv hA λ u tk hu => hkk v u s.heap tk F J O hk (.refl F J) r hu
end
section
noncomputable def p8 (a : Int) : Prop := a.natAbs < 2 ^ 64
theorem U6 {a : Int} (h : p8 a) : Builtin.Int.intBits a ≤ 64 := by
 unfold p8 at h
 exact intBits_le_64 (by omega) (by omega)
theorem BR {a b : Int} (h : p8 b) : Builtin.divisionGoesByPylong a b = false := by
 unfold Builtin.divisionGoesByPylong
 dsimp only
 rw [Bool.and_eq_false_iff]
 left
 apply decide_eq_false
 split
 ·omega
 ·have : b.natAbs.log2 < 64 := by
   unfold p8 at h
   by_cases z : b.natAbs = 0
   ·rw [z]; decide
   ·exact (Nat.log2_lt z).mpr h
  omega
noncomputable def opI (op : Operator) (a b : Int) (k : Int → Prop) : Prop := match op with
 | .Add => k (a + b)
 | .Sub => k (a - b)
 | .Mult => (p8 a ∨ p8 b) ∧ k (a * b)
 | .FloorDiv => b ≠ 0 ∧ p8 b ∧ k (a.fdiv b)
 | .Mod => b ≠ 0 ∧ k (a.fmod b)
 | .Pow => 0 ≤ b ∧ b ≤ 1000000 ∧ p8 a ∧ k (a ^ b.toNat)
 | .LShift => 0 ≤ b ∧ b ≤ 1000000 ∧ p8 a ∧ k (a * 2 ^ b.toNat)
 | .RShift => 0 ≤ b ∧ k (a.fdiv (2 ^ b.toNat))
 | .BitAnd => k (Builtin.bitAnd a b)
 | .BitOr => k (Builtin.bitOr a b)
 | _ => False
theorem ij {op : Operator} {a b : Int} (h : opI op a b λ i => k (.int i) O) : Op X (RV X) d O [.int a,.int b] (λ us => binaryOp op (us.getD 0 .none) (us.getD 1 .none)) k := by
 have main : ∀ i,k (.int i) O → (∀ (A : Around) (E : KA) (Q : KA) (s : Shared) (t u : Tok),C3 d A → (∀ tk tk',Q (.int i tk) { s with toks := tk' }) → wpAny (model X.prog X.w) A (binaryOp op (.int a t) (.int b u)) Q E s) →
   Op X (RV X) d O [.int a,.int b] (λ us => binaryOp op (us.getD 0 .none) (us.getD 1 .none)) k := by
  intro i hk hw
  refine qk hk λ A E Q s F J us hv hA hQ => ?_
  refine hv.twoE λ x y hx hy => ?_
  refine hx.intE λ t => ?_
  refine hy.intE λ t' => ?_
  exact hw A E Q s t t' hA λ tk tk' => hQ _ _ (.int i tk)
 induction op using Operator.casesOn with
 | Add => exact main _ h λ A E Q s t u Z hQ => P.add_int (hQ _ _)
 | Sub => exact main _ h λ A E Q s t u Z hQ => P.sub_int (hQ _ _)
 | Mult => exact main _ h.2 λ A E Q s t u Z hQ => P.mul_int (hQ _ _) (hm := by
   rcases h.1 with q | q
   ·exact IntMulOk.of_left (U6 q)
   ·exact IntMulOk.of_right (U6 q))
 | FloorDiv => exact main _ h.2.2 λ A E Q s t u Z hQ => floordiv_int h.1 (hQ _ _) (hp := .inl (BR h.2.1))
 | Mod => exact main _ h.2 λ A E Q s t u Z hQ => mod_int' h.1 (hQ _ _)
 | Pow => exact main _ h.2.2.2 λ A E Q s t u Z hQ => pow_int_small h.1 h.2.1 h.2.2.1 (hQ _ _)
 | LShift => exact main _ h.2.2.2 λ A E Q s t u Z hQ => lshift_int_small h.1 h.2.1 h.2.2.1 (hQ _ _)
 | RShift => exact main _ h.2 λ A E Q s t u Z hQ => rshift_int h.1 (hQ _ _)
 | BitAnd => exact main _ h λ A E Q s t u Z hQ => and_int (hQ _ _)
 | BitOr => exact main _ h λ A E Q s t u Z hQ => or_int (hQ _ _)
 | _ => exact False.elim h
noncomputable def AC (op : CmpOp) (a b : Int) : Option Bool := match op with
 | .Eq => some (a == b)
 | .NotEq => some (a != b)
 | .Lt => some (decide (a < b))
 | .LtE => some (decide (a ≤ b))
 | .Gt => some (decide (a > b))
 | .GtE => some (decide (a ≥ b))
 | _ => none
theorem ql {op : CmpOp} {a b : Int} {c : Bool} (h : AC op a b = some c) {A : Around} {E : KA} {t u : Tok} (hQ : Q (.bool c) s) :
  wpAny (model X.prog X.w) A (compareOp op (.int a t) (.int b u)) Q E s := by
 induction op using CmpOp.casesOn with
 | Eq => injection h with h; subst h; exact P.eq_int hQ
 | NotEq => injection h with h; subst h; exact P.ne_int hQ
 | Lt => injection h with h; subst h; exact P.lt_int hQ
 | LtE => injection h with h; subst h; exact P.le_int hQ
 | Gt => injection h with h; subst h; exact P.gt_int hQ
 | GtE => injection h with h; subst h; exact P.ge_int hQ
 | Is => cases h
 | IsNot => cases h
 | In => cases h
 | NotIn => cases h
end
section
inductive Fl where
 | next | brk | cont
 | ret (v : V)
inductive RF (P : Params) (F : PH) (J : KH) : Fl → Flow → Prop
 | next : RF P F J .next .next
 | brk : RF P F J .brk .brk
 | cont : RF P F J .cont .cont
 | ret {v : V} {u : Value} : VR P F J v u → RF P F J (.ret v) (.ret u)
noncomputable abbrev RFl (X : Wd) : PH → List Addr → Fl → Flow → Prop := RF X.w.params
theorem Rel.lt {h : Heap} (r : Rel X F G J O h) : (∀ a o,F a = some o → a < h.objs.size) ∧ (∀ a o,G a = some o → a < h.objs.size) ∧ ∀ a ∈ J,a < h.objs.size := by
 refine ⟨λ a o e => yb8 (r.f a o e),λ a o e => yb8 (r.g a o e),λ a ha => ?_⟩
 obtain ⟨n,hn,rfl⟩ := List.getElem_of_mem ha
 have hs : n < O.length := r.len ▸ hn
 obtain ⟨x,hx,_⟩ := r.m n _ O[n] (yb1 hn) (yb1 hs)
 exact yb8 hx
theorem Rel.keep {h h' : Heap} (r : Rel X F G J O h) (hk : ∀ b o,h.get? b = some o → h'.get? b = some o) : Rel X F G J O h' :=
 ⟨r.base,λ a o e => hk a o (r.f a o e),λ a o e => hk a o (r.g a o e),r.fg,r.nd,r.rf,r.len,λ n a o e1 e2 => let ⟨x,hx,hm⟩ := r.m n a o e1 e2; ⟨x,hk a x hx,hm⟩⟩
theorem Rel.fresh {h : Heap} (r : Rel X F G J O h) : F h.objs.size = none ∧ G h.objs.size = none ∧ h.objs.size ∉ J := by
 obtain ⟨a,b,c⟩ := r.lt
 refine ⟨?_,?_,λ q => Nat.lt_irrefl _ (c _ q)⟩
 ·cases e : F h.objs.size with | none => rfl | some o => exact absurd (a _ _ e) (Nat.lt_irrefl _)
 ·cases e : G h.objs.size with | none => rfl | some o => exact absurd (b _ _ e) (Nat.lt_irrefl _)
structure FnOK (X : Wd) (a : Addr) (scope : Scope) (body : List Stmt) (B : List V → Option (List (Str × V))) where
 o : Obj
 fd : FuncData
 get : X.h₀.get? a = some o
 data : o.data = .func fd
 bod : fd.body = .stmts body
 sc : fd.scope = scope
 glob : fd.globals = mainGlobals
 bilt : fd.builtins = builtinsNs
 clo : fd.closure = []
 code : X.h₀.CodeRec fd.code fd.qualname
 co : scope.isCoroutine = false
 gen : scope.isGenerator = false
 kind : scope.kind = .function
 bind : ∀ (s : Shared) (F : PH) (J : KH) (args : KN) (us : KK) (D : KD),(∀ b o,X.h₀.get? b = some o → s.heap.get? b = some o) → (∀ b o,X.h₀.get? b = some o → F b = some o) → VRs X.w.params F J args us → B args = some D →
  ∃ binds,BindsTo s fd ⟨us,[]⟩ binds ∧ (∀ x ∈ binds,scope.names.lookup x.1 = some .local ∨ scope.names.lookup x.1 = some .cell) ∧ ∀ x v,D.lookup x = some v → ∃ u,binds.reverse.lookup x = some u ∧ VR X.w.params F J v u
theorem C3.deeper {A : Around} {env : Env} (h : C3 (d + 1) A) : C3 d (A.deeper env) := by
 obtain ⟨a,b,c⟩ := h
 refine ⟨a,?_,?_⟩
 ·show A.depth + 1 + 2 * d + 2 < _; lia
 ·show A.units + 3 + 8 * d + 80 < _; lia
theorem C3.lim (h : C3 d A) : A.depth < recursionLimit := by have := h.2.1; lia
end
section
noncomputable def dL (x : Str) (v : V) (l : KD) : List (Str × V) := (x,v) :: l.filter λ p => !(p.1 == x)
theorem A1 (x : Str) (v : V) (l : KD) (y : Str) : (dL x v l).lookup y = if y = x then some v else l.lookup y := by
 unfold dL
 rw [yc6]
 by_cases h : y = x
 ·subst h; simp
 ·have : (y == x) = false := by simpa using h
  refine this.symm ▸ (if_neg h).symm ▸ ?_
  dsimp only
  induction l with
  | nil => rfl
  | cons p l ih =>
   rw [List.filter_cons]
   by_cases q : p.1 = x
   ·have e : (!(p.1 == x)) = false := by simp [q]
    have e2 : (y == p.1) = false := by simp [q]; exact h
    rw [if_neg (by rw [e]; decide),ih,yc6,e2]
   ·have e : (!(p.1 == x)) = true := by simpa using q
    rw [if_pos e,yc6,yc6,ih]
theorem N0 {v : V} {u : Value} {F G : PH} {J : KH} {s : Shared} {A : Around} {E : KA} {Q : Unit → Shared → Prop} (hl : env.kindOf x = some .local)
  (r : Rel X F G J O s.heap) (f : Fram X env F G J D s.heap) (hv : VR X.w.params F J v u)
  (h : ∀ h' tk',Rel X F G J O h' → Fram X env F G J { D with loc := dL x v D.loc } h' → Q () { s with heap := h',toks := tk' }) : wpAny (model X.prog X.w) A (storeName env x u) Q E s := by
 refine a9 (f.ns) λ m hn hm => ?_
 refine wpAny_storeName_local hl hn (λ h' hn' hs => h h' _ ?_ ?_) ?_
 ·have keep : ∀ b o,b ≠ env.locals → s.heap.get? b = some o → h'.get? b = some o := λ b o hb e => (hs.2 b hb).trans e
  refine ⟨r.base,λ a o e => keep a o (λ q => ?_) (r.f a o e),λ a o e => keep a o (λ q => ?_) (r.g a o e),r.fg,r.nd,r.rf,r.len,λ n a o e1 e2 => ?_⟩
  ·rw [q,f.out.1] at e; cases e
  ·rw [q,f.out.2.1] at e; cases e
  ·refine a9 (r.m n a o e1 e2) λ y hy hm => ?_
   exact ⟨y,keep a y (λ q => f.out.2.2 (q ▸ yc7 e1)) hy,hm⟩
 ·refine ⟨f.glob,f.bilt,f.kind,⟨_,hn',λ y w e => ?_⟩,f.out,λ y w e => ?_,λ y c e => ?_,f.ev⟩
  ·rw [A1] at e
   by_cases q : y = x
   ·rw [if_pos q] at e; obtain rfl := sj e
    exact ⟨u,by rw [if_pos q],hv⟩
   ·rw [if_neg q] at e
    refine a9 (hm y w e) λ u' a b => ?_
    exact ⟨u',by rw [if_neg q]; exact a,b⟩
  ·refine S8 (f.cel y w e) λ c u' hc hi hr => ?_
   exact ⟨c,u',hc,hi.sameBut hs (f.cout y c (mem_of_lookup hc)).2.2.2.1,hr⟩
  ·refine z9 λ G kG => ?_
   obtain ⟨a,b,c',d',v',o,ho,ho'⟩ := f.cout y c e
   refine kG ?_
   exact ⟨a,b,c',d',v',o,(hs.2 c d').trans ho,ho'⟩
 ·rw [f.kind,show (ScopeKind.function == ScopeKind.class) = false from rfl,show (ScopeKind.function == ScopeKind.module) = false from rfl]; rfl
section stmts
variable {k : Fl → Gam → List MO → Prop}
theorem oP (h : k .next D O) : Ev X (RFl X) d env D O vs (λ Z => execs [] env) k := by
 intro A E Q s F G J us hA r f hv hk
 exact wpAny_execs_nil (hk _ _ s.heap s.toks F J O D h (.refl F J) r f .next)
theorem bL {st : Stmt} {rest : List Stmt} (h : Ev X (RFl X) d env D O [] (λ Z => exec st env) (λ fl Eg Eh => match fl with | .next => Ev X (RFl X) d env Eg Eh [] (λ Z => execs rest env) k | fl => k fl Eg Eh)) :
  Ev X (RFl X) d env D O vs (λ Z => execs (st :: rest) env) k := by
 intro A E Q s F G J us hA r f hv hk
 refine wpAny_execs_cons ?_
 refine h A E _ s F G J [] hA r f .nil λ fl u h' tk' F' ρ' σ' Γ' z x r' f' hr => ?_
 cases hr with
 | next => exact z A E _ _ F' G ρ' [] hA r' f' .nil λ fl u Ew Ek EE El Ei Ej EF EA Ep EC Ez => hk fl u Ew Ek EE El Ei Ej EF (x.trans EA) Ep EC Ez
 | brk => exact hk _ _ h' tk' F' ρ' σ' Γ' z x r' f' .brk
 | cont => exact hk _ _ h' tk' F' ρ' σ' Γ' z x r' f' .cont
 | ret q => exact hk _ _ h' tk' F' ρ' σ' Γ' z x r' f' (.ret q)
theorem ik (h : Ev X (RV X) d env D O [] (λ Z => eval e env) (λ v Γ' σ' => k (.ret v) Γ' σ')) : Ev X (RFl X) d env D O vs (λ Z => exec (.Return (some e) pos) env) k := by
 intro A E Q s F G J us hA r f hv hk
 exact wpAny_Return_some (h A E _ s F G J [] hA r f .nil λ v u h' tk' F' ρ' σ' Γ' z x r' f' hr => hk _ _ h' tk' F' ρ' σ' Γ' z x r' f' (.ret hr))
theorem yl {t : Expr} {a b : List Stmt} {pos : Pos} (h : Ev X RB d env D O [] (λ Z => isTrue t env (eval t env)) (λ c Γ' σ' => (c = true → Ev X (RFl X) d env Γ' σ' [] (λ Z => execs a env) k) ∧ (c = false → Ev X (RFl X) d env Γ' σ' [] (λ Z => execs b env) k))) :
  Ev X (RFl X) d env D O vs (λ Z => exec (.If t a b pos) env) k := by
 intro A E Q s F G J us hA r f hv hk
 refine wpAny_If (h A E _ s F G J [] hA r f .nil λ c u h' tk' F' ρ' σ' Γ' z x r' f' hr => ?_)
 have hr' : u = c := hr
 subst hr'
 induction u using Bool.casesOn with
 | true => exact z.1 rfl A E _ _ F' G ρ' [] hA r' f' .nil λ fl u Ew Ek EE El Ei Ej EF EA Ep EC Ez => hk fl u Ew Ek EE El Ei Ej EF (x.trans EA) Ep EC Ez
 | false => exact z.2 rfl A E _ _ F' G ρ' [] hA r' f' .nil λ fl u Ew Ek EE El Ei Ej EF EA Ep EC Ez => hk fl u Ew Ek EE El Ei Ej EF (x.trans EA) Ep EC Ez
noncomputable def oQ (v : V) : Bool := v.ctorIdx.blt 5
theorem qm (hs : swapsWith e none pos.line env = pure false) (hi : interactive env = false)
  (h : Ev X (RV X) d env D O [] (λ Z => eval e env) (λ v Γ' σ' => oQ v = true ∧ k .next Γ' σ')) : Ev X (RFl X) d env D O vs (λ Z => exec (.Expr e pos) env) k := by
 intro A E Q s F G J us hA r f hv hk
 refine wpAny_Expr (h A E _ s F G J [] hA r f .nil λ v u h' tk' F' ρ' σ' Γ' z x r' f' hr => ?_) hi hs
 have q := hk .next .next h' tk' F' ρ' σ' Γ' z.2 x r' f' .next
 cases hr <;> first | exact q | cases z.1
end stmts
end
section
noncomputable def j9 (e : Expr) : Bool := e.ctorIdx != 22
theorem u3 {rest : KL} (h : j9 e = true) : starEach (e :: rest) env = (false,eval e env) :: starEach rest env := by
 cases e <;> first | rfl | cases h
theorem w7 : ∀ {args : KL},args.all j9 = true → (backTo pos (starEach args env)).any (·.1) = false ∧ (backTo pos (starEach args env)).all (λ x => !x.1) = true := by
 intro args
 induction args with
 | nil =>
  intro Z
  exact ⟨rfl,rfl⟩
 | cons e rest ih =>
  intro h
  rw [List.all_cons,ya4] at h
  refine (u3 h.1).symm ▸ ?_
  refine i5 (ih h.2) λ a b => ?_
  exact ⟨by show (false || (backTo pos (starEach rest env)).any (·.1)) = false; rw [a]; rfl,by show (!false && (backTo pos (starEach rest env)).all (λ x => !x.1)) = true; rw [b]; rfl⟩
section args
variable {k : List V → Gam → List MO → Prop}
theorem oR (h : k [] D O) : Ev X (RVs X) d env D O vs (λ Z => spliced (backTo pos (starEach [] env))) k := by
 intro A E Q s F G J us hA r f hv hk
 exact Calls.spliced_nil (hk _ _ s.heap s.toks F J O D h (.refl F J) r f .nil)
theorem bM {pos : Pos} {rest : KL} (he : j9 e = true)
  (h : Ev X (RV X) d env D O [] (λ Z => eval e env) (λ v Eg Eh => Ev X (RVs X) d env Eg Eh [] (λ Z => spliced (backTo pos (starEach rest env))) (λ ws Ej Ei => k (v :: ws) Ej Ei))) :
  Ev X (RVs X) d env D O vs (λ Z => spliced (backTo pos (starEach (e :: rest) env))) k := by
 intro A E Q s F G J us hA r f hv hk
 refine (u3 he).symm ▸ ?_
 refine Calls.spliced_cons (h A E _ s F G J [] hA r f .nil λ v u h' tk' F' ρ' σ' Γ' z x r' f' hr => ?_)
 exact z A E _ _ F' G ρ' [] hA r' f' .nil λ ws us Ew Ek EE El Ei Ej EF EA Ep EC Ez => hk _ _ Ew Ek EE El Ei Ej EF (x.trans EA) Ep EC (.cons (hr.mono EA) Ez)
end args
noncomputable def v9 (X : Wd) (f : Value) : Prop := ∀ h : Heap,(∀ b o,X.h₀.get? b = some o → h.get? b = some o) → ∃ k,(k = Keeper.frame ∨ k = Keeper.machine ∨ k = Keeper.boundFrame) ∧ Looks (model X.prog X.w) h (keeperOf f) k
theorem J6 {i : String} : v9 X (.builtin i) := λ Z Z => ⟨.machine,.inr (.inl rfl),Looks.of_pure rfl⟩
theorem il {i : String} : v9 X (.type i) := λ Z Z => ⟨.machine,.inr (.inl rfl),Looks.of_pure rfl⟩
theorem qo {a : Addr} {scope : Scope} {body : List Stmt} {B : List V → Option (List (Str × V))} (ok : FnOK X a scope body B) : v9 X (.ref a) := λ h hb =>
 ⟨.frame,.inl rfl,(Looks.ld (part := none) (hb _ _ ok.get)).andThen (ok.data.symm ▸ Looks.now)⟩
theorem tT {f : Value} (hk : keepIn X.K f = true) : v9 X f := λ h hb => keeps_K hk h (X.kin.keeps hb)
theorem F6 {M : Model} {f : Value} {Q : Args → Shared → Prop} (h : wpAny M A (spliced []) (λ vs s' => Q ⟨vs,[]⟩ s') E s) : wpAny M A (evalArgs f true [] []) Q E s := by
 unfold evalArgs
 refine ya0 (wpAny_mono h (λ vs s' h' => ?_) λ Z Z e => e)
 refine ya0 (ya1 ?_)
 refine wpAny_holding ?_
 exact ya0 (ya1 (ya0 (ya1 (ya1 h'))))
section calls
variable {k : KB}
theorem tU {f : Value} {fst : KN} {pos : Pos} {args : KL} (hkeep : v9 X f) (hs : args.all j9 = true)
  (h : Ev X (RVs X) d env D O [] (λ Z => spliced (backTo pos (starEach args env))) (λ ws Eg Eh => Op X (RV X) d Eh (fst ++ ws) (λ us => call f us) (λ v Ei => k v Eg Ei))) :
  Ev X (RV X) d env D O fst (λ us => callWith pos f us (backTo pos (starEach args env)) []) k := by
 intro A E Q s F G J us hA r fm hv hk
 refine callWith_of (P := λ h => ∀ b o,X.h₀.get? b = some o → h.get? b = some o) (((w7 (env := env) (pos := pos) hs).1).symm ▸ rfl) (λ h hb => hkeep h hb) ?_
 have main : wpAny (model X.prog X.w) A (spliced (backTo pos (starEach args env))) (λ ws EG => (∀ b o,X.h₀.get? b = some o → EG.heap.get? b = some o) ∧ wpAny (model X.prog X.w) A (call f (us ++ ws)) Q E EG) E s := by
  refine h A E _ s F G J [] hA r fm .nil λ ws xs h' tk' F' ρ' σ' Γ' z x r' f' hr => ⟨f8 r',?_⟩
  exact A0 (k := k) z A E Q _ F' G ρ' (us ++ xs) hA r' f' ((hv.mono x).append hr) λ v u Ew Ek EE El Ei Ej EF EA Ep EC Ez => hk v u Ew Ek EE El Ei Ej EF (x.trans EA) Ep EC Ez
 induction args using List.casesOn with
 | nil => exact F6 main
 | cons e rest =>
  rw [List.all_cons,ya4] at hs
  rw [u3 hs.1] at main ⊢
  exact Calls.evalArgs_plain main
theorem qp {x : Str} {xp pos : Pos} {args : KL} (hs : args.all j9 = true)
  (h : Ev X (RV X) d env D O [] (λ Z => eval (.Name x xp) env) (λ fv Eg Eh => ∃ f,fv = .val f ∧ v9 X f ∧
   Ev X (RVs X) d env Eg Eh [] (λ Z => spliced (backTo pos (starEach args env))) (λ ws Ej Ei => Op X (RV X) d Ei ws (λ us => call f us) (λ v ED => k v Ej ED)))) :
  Ev X (RV X) d env D O vs (λ Z => eval (.Call (.Name x xp) args [] pos) env) k := by
 intro A E Q s F G J us hA r fm hv hk
 refine ya0 (h A E _ s F G J [] hA r fm .nil λ fv u h' tk' F' ρ' σ' Γ' z x' r' f' hr => ?_)
 obtain ⟨f,rfl,hkp,z⟩ := z
 obtain rfl := hr.val'
 exact tU (fst := []) hkp hs z A E Q _ F' G ρ' [] hA r' f' .nil λ v u Ew Ek EE El Ei Ej EF EA Ep EC Ez => hk v u Ew Ek EE El Ei Ej EF (x'.trans EA) Ep EC Ez
noncomputable def hX (X : Wd) (d : Nat) (ov : V) (name : Str) (f : Value) (fst : KN) (O : KG) : Prop :=
 ∀ (A : Around) (E : KA) (Q : Value × List Value → Shared → Prop) (s : Shared) (F G : PH) (J : KH) (u : Value) (pl : Sem Bool),C3 d A → Rel X F G J O s.heap → VR X.w.params F J ov u →
  (∀ us tk',VRs X.w.params F J fst us → Q (f,us) { s with toks := tk' }) → wpAny (model X.prog X.w) A (getMethod u name pl) Q E s
noncomputable def C4 (e : Expr) : Bool := if c : e.ctorIdx = 16 then Expr.Call.elim (motive_1 := λ Z => Bool) e c λ f a k Z => !(f.ctorIdx == 23 && a.isEmpty && k.isEmpty) else true
theorem im {o : Expr} {attr : Str} {whole : Sem Value} (h : C4 o = true) : attributeBase o attr env whole = whole := by
 induction o using Expr.casesOn with
 | Call f args kws p =>
  induction f using Expr.casesOn with
  | Name x q =>
   induction args using List.casesOn with
   | cons _ _ => rfl
   | nil =>
    induction kws using List.casesOn with
    | cons _ _ => rfl
    | nil => cases h
  | _ => rfl
 | _ => rfl
theorem lU {o : Expr} {name : Str} {apos pos : Pos} {args : KL} (ho : C4 o = true) (hs : args.all j9 = true) (hn : args.length < 30) (hline : (apos.endLine == pos.line) = true)
  (h : Ev X (RV X) d env D O [] (λ Z => eval o env) (λ ov Eg Eh => ∃ f fst,hX X d ov name f fst Eh ∧ v9 X f ∧
   ∀ FQ,FQ = fst → Ev X (RVs X) d env Eg Eh [] (λ Z => spliced (backTo pos (starEach args env))) (λ ws Ej Ei => Op X (RV X) d Ei (fst ++ ws) (λ us => call f us) (λ v ED => k v Ej ED)))) :
  Ev X (RV X) d env D O vs (λ Z => eval (.Call (.Attribute o name apos) args [] pos) env) k := by
 intro A E Q s F G J us hA r fm hv hk
 show wpAny (model X.prog X.w) A (do
  let ov ← attributeBase o name env (eval o env)
  standAt apos.atName
  methodCall o name apos pos env ov (args.length + ([] : List Keyword).length) (backTo pos (starEach args env)) []) Q E s
 rw [im ho]
 refine ya0 (h A E _ s F G J [] hA r fm .nil λ ov u h' tk' F' ρ' σ' Γ' z x' r' f' hr => ?_)
 refine S8 (z) λ f fst hm hkp z => ?_
 refine ya0 (wpAny_standAt ?_)
 have hform : methodCallForm (args.length + ([] : List Keyword).length) (backTo pos (starEach args env)) ([] : List (Option Str × Sem Value)) = true := by
  unfold methodCallForm
  refine ((w7 (env := env) (pos := pos) hs).2).symm ▸ ?_
  dsimp only [List.all_nil,Bool.true_and,List.isEmpty_nil,if_true,List.length_nil,Nat.add_zero]
  exact ya2 hn
 have hpos : methodCallPos true o env apos pos = pure pos := by unfold methodCallPos; simp [hline]
 unfold methodCall
 refine hform.symm ▸ hpos.symm ▸ ?_
 refine ya0 (wpAny_holding ?_)
 refine hm A E _ _ F' G ρ' u _ hA r' hr λ ws tk'' hw => ?_
 refine ya0 (ya1 ?_)
 exact tU (fst := fst) hkp hs (z fst rfl) A E Q _ F' G ρ' ws hA r' f' hw λ v u Ew Ek EE El Ei Ej EF EA Ep EC Ez => hk v u Ew Ek EE El Ei Ej EF (x'.trans EA) Ep EC Ez
end calls
end
section
theorem M0 {x : Str} : ∀ {fs : KD} {es : List DictEntry},FRs P F J fs es →
  (∀ v,fs.lookup x = some v → ∃ u,getL x es = some (some u) ∧ VR P F J v u) ∧ (fs.lookup x = none → getL x es = some none) := by
 have key : ∀ {fs : KD} {es : List DictEntry},FRs P F J fs es → (∀ v,fs.lookup x = some v → ∃ e,es.find? (·.key.isStr x) = some e ∧ VR P F J v e.val) ∧ (fs.lookup x = none → es.find? (·.key.isStr x) = none) ∧ es.any (·.refKey) = false := by
  intro fs es h
  induction fs generalizing es with
  | nil => cases h; exact ⟨λ v e => (nomatch e),λ Z => rfl,rfl⟩
  | cons p fs ih =>
   cases h with
   | @cons y t v u fs es hv hr =>
    refine C2 (ih hr) λ a b c => ?_
    rw [yc6]
    have e1 : (Value.str y t).isStr x = (y == x) := rfl
    by_cases q : x = y
    ·subst q
     have : (x == x) = true := by simp
     refine this.symm ▸ ?_
     refine ⟨λ w e => ?_,λ e => (nomatch e),?_⟩
     ·obtain rfl := sj e
      exact ⟨_,by rw [List.find?_cons,show (Value.str x t).isStr x = true from by rw [e1]; exact this],hv⟩
     ·rw [List.any_cons,c]; rfl
    ·have e2 : (x == y) = false := by simpa using q
     have e3 : (y == x) = false := by simpa using λ z => q (Eq.symm z)
     refine e2.symm ▸ ?_
     refine ⟨λ w e => ?_,λ e => ?_,?_⟩
     ·refine a9 (a w e) λ e' he hv' => ?_
      exact ⟨e',by rw [List.find?_cons,show (Value.str y t).isStr x = false from by rw [e1]; exact e3]; exact he,hv'⟩
     ·rw [List.find?_cons,show (Value.str y t).isStr x = false from by rw [e1]; exact e3]; exact b e
     ·rw [List.any_cons,c]; rfl
 intro fs es h
 refine C2 (key h) λ a b c => ?_
 refine ⟨λ v e => ?_,λ e => ?_⟩
 ·refine a9 (a v e) λ e' he hv => ?_
  exact ⟨e'.val,by unfold getL; rw [he],hv⟩
 ·unfold getL; rw [b e]; dsimp only; rw [c]; rfl
noncomputable def oS : V → Bool
 | .val (.builtin _) => false
 | .junk => false
 | .fz v => oS v
 | _ => true
theorem fi {w : Value} (h : oS (.val w) = true) : handedIn w = true := by
 induction w using Value.casesOn with
 | builtin i => cases h
 | _ => rfl
theorem au {u : Value} (h : VR P F J v u) : oS v = true → handedIn u = true :=
 VR.rec (motive_1 := λ v u Z => oS v = true → handedIn u = true) (motive_2 := λ Z Z Z => True) (motive_3 := λ Z Z Z => True) (λ Z => rfl) (λ Z Z => rfl) (λ Z Z Z => rfl) (λ Z Z Z => rfl) (λ Z Z Z => rfl) (λ Z hv => fi hv) (λ Z Z => rfl) (λ Z Z Z => rfl) (λ Z Z Z Z Z Z => rfl) (λ Z Z Z Z => rfl) (λ Z Z Z => rfl) (λ Z Z Z Z Z => rfl) (λ Z Z => rfl) (λ Z Z Z => rfl) (λ Z hv => nomatch hv) (λ Z Z ih hv => ih hv) trivial (λ Z Z Z Z => trivial) trivial (λ Z Z Z Z => trivial) h
structure AttrOK (X : Wd) (C : Addr) (name : Str) : Prop where
 get : plainGet X.K C name = true
 dict : hasDictIn X.K C = true
 attr : ∃ attr,findIn X.K (.ref C) name = some attr ∧ noGet X.K attr = true
theorem ip {C x dx : Addr} {name : Str} {es : List DictEntry} {n : Nat} {u : Value} {A : Around} {E : KA} {Q : KA} {s : Shared} (ok : AttrOK X C name)
  (hk : ∀ b o,X.h₀.get? b = some o → s.heap.get? b = some o) (h1 : s.heap.get? x = some (instObj C dx)) (h2 : s.heap.get? dx = some (dictOf es n)) (hl : getL name es = some (some u)) (hh : handedIn u = true)
  (hQ : Q u { s with toks := s.toks + 1 }) : wpAny (model X.prog X.w) A (getAttr (.ref x) name true) Q E s := by
 refine a9 (ok.attr) λ attr a1 a2 => ?_
 have I : InstAt s.heap x (instObj C dx) C (some (dictOf es n)) := ⟨h1,rfl,rfl,h2⟩
 exact get_value (X.kin.keeps hk) I (plainGet_of ok.get).1 (findObj_own ok.dict a1 a2 hl) hh hQ
theorem bN {name : Str} (ok : AttrOK X C name) (hl : fs.lookup name = some v) (hb : oS v = true) (h : k v O) :
  Op X (RV X) d O [.obj C fs] (λ us => getAttr (us.getD 0 .none) name true) k := by
 intro A E Q s F G J us hA r hv hk
 refine hv.oneE λ u hu => ?_
 cases hu with
 | @obj C fs x dx es n hx hd hf =>
  refine a9 ((M0 hf).1 v hl) λ w hw hr => ?_
  exact ip ok (f8 r) (r.f _ _ hx) (r.f _ _ hd) hw (au hr hb) (hk v w _ _ F J O h (.refl F J) r hr)
theorem Rel.flds {F G : PH} {J : KH} {h : Heap} {n : Nat} {a : Addr} {fs : KD} (r : Rel X F G J O h) (e : J[n]? = some a) (hs : O[n]? = some (.flds fs)) : ∃ es m,h.get? a = some (dictOf es m) ∧ FRs X.w.params F J fs es := by
 obtain ⟨x,hx,hm⟩ := r.m n a _ e hs
 cases hm with
 | flds q => exact ⟨_,_,hx,q⟩
theorem fj {name : Str} (ok : AttrOK X C name) (hs : O[n]? = some (.flds fs)) (hl : fs.lookup name = some v) (hb : oS v = true) (h : k v O) :
  Op X (RV X) d O [.io C n] (λ us => getAttr (us.getD 0 .none) name true) k := by
 intro A E Q s F G J us hA r hv hk
 refine hv.oneE λ u hu => ?_
 refine hu.ioE λ x a e hx => ?_
 refine U5 (r.flds e hs) λ es m hd hf => ?_
 refine a9 ((M0 hf).1 v hl) λ w hw hr => ?_
 exact ip ok (f8 r) (r.f _ _ hx) hd hw (au hr hb) (hk v w _ _ F J O h (.refl F J) r hr)
theorem iq {o : Expr} {name : Str} {pos : Pos} {k : KB} (ho : C4 o = true)
  (h : Ev X (RV X) d env D O [] (λ Z => eval o env) (λ ov Eg Eh => Op X (RV X) d Eh [ov] (λ us => getAttr (us.getD 0 .none) name true) (λ v Ei => k v Eg Ei))) :
  Ev X (RV X) d env D O vs (λ Z => eval (.Attribute o name pos) env) k := by
 intro A E Q s F G J us hA r fm hv hk
 refine Attribute_any_ ?_ ?_
 ·refine h A E _ s F G J [] hA r fm .nil λ ov u h' tk' F' ρ' σ' Γ' z x' r' f' hr => ?_
  exact A0 (k := k) z A E Q _ F' G ρ' [u] hA r' f' (.cons hr .nil) λ v u Ew Ek EE El Ei Ej EF EA Ep EC Ez => hk v u Ew Ek EE El Ei Ej EF (x'.trans EA) Ep EC Ez
 ·show (do
   let o' ← attributeBase o name env (eval o env)
   standAt pos.atName
   let r ← holding [o'] (getAttr o' name true)
   letTemporaryGo o o' r
   pure r) = _
  exact (im ho).symm ▸ rfl
structure MethOK (X : Wd) (C : Addr) (name : Str) (f : Addr) : Prop where
 get : plainGet X.K C name = true
 fn : findIn X.K (.ref C) name = some (some (.ref f))
 isf : isFn X.K (.ref f) = true
theorem ir {C x dx : Addr} {name : Str} {f : Addr} {es : List DictEntry} {n : Nat} {A : Around} {E : KA} {Q : Value × List Value → Shared → Prop} {s : Shared} {pl : Sem Bool} (ok : MethOK X C name f)
  (hk : ∀ b o,X.h₀.get? b = some o → s.heap.get? b = some o) (h1 : s.heap.get? x = some (instObj C dx)) (h2 : s.heap.get? dx = some (dictOf es n)) (hl : getL name es = some none)
  (hQ : Q (.ref f,[.ref x]) s) : wpAny (model X.prog X.w) A (getMethod (.ref x) name pl) Q E s := by
 have I : InstAt s.heap x (instObj C dx) C (some (dictOf es n)) := ⟨h1,rfl,rfl,h2⟩
 exact method_fn (X.kin.keeps hk) I (plainGet_of ok.get).1 (plainGet_of ok.get).2 ok.fn (beq_iff_eq.mp ok.isf) (by show (lookIn name (dictOf es n)).map _ = _; rw [lookIn_dict,hl]; rfl) hQ
theorem lV {name : Str} {f : Addr} (ok : MethOK X C name f) (hl : fs.lookup name = none) : hX X d (.obj C fs) name (.ref f) [.obj C fs] O := by
 intro A E Q s F G J u pl hA r hu hQ
 have hu' := hu
 cases hu with
 | @obj C fs x dx es n hx hd hf => exact ir ok (f8 r) (r.f _ _ hx) (r.f _ _ hd) ((M0 hf).2 hl) (hQ _ s.toks (.cons hu' .nil))
theorem qq {name : Str} {f : Addr} (ok : MethOK X C name f) (hs : O[n]? = some (.flds fs)) (hl : fs.lookup name = none) : hX X d (.io C n) name (.ref f) [.io C n] O := by
 intro A E Q s F G J u pl hA r hu hQ
 have hu' := hu
 cases hu with
 | @io C n x a e hx =>
  refine U5 (r.flds e hs) λ es m hd hf => ?_
  exact ir ok (f8 r) (r.f _ _ hx) hd ((M0 hf).2 hl) (hQ _ s.toks (.cons hu' .nil))
end
section
open PySem.Spec PySem.SeqAt
mutual
noncomputable def V.data : V → Option PyData
 | .none => some .none
 | .bool b => some (.bool b)
 | .int i => some (.int i)
 | .str s => some (.str s)
 | .tup vs => (V.datas vs).map .tuple
 | .lst vs => (V.datas vs).map .list
 | .nums xs => some (.list (xs.map .int))
 | _ => Option.none
noncomputable def V.datas : List V → Option (List PyData)
 | [] => some []
 | v :: vs => (V.data v).bind λ d => (V.datas vs).map (d :: ·)
end
theorem d6 {α β : Type} {o : Option α} {f : α → Option β} {b : β} (h : o.bind f = some b) : ∃ a,o = some a ∧ f a = some b := Option.bind_eq_some_iff.mp h
theorem map_some {α β : Type} {f : α → β} {o : Option α} {b : β} (h : o.map f = some b) : ∃ a,o = some a ∧ f a = b := by
 induction o using Option.casesOn with
 | none => cases h
 | some a => exact ⟨a,rfl,by cases h; rfl⟩
noncomputable def orE {α β : Type} (o : Option α) (f : α → Option β) (g : Option β) : Option β := o.elim g f
theorem i8 {α β : Type} {o : Option α} {f : α → Option β} {g : Option β} {c : β} {G : Prop} (e : orE o f g = some c) (h1 : ∀ p,o = some p → f p = some c → G) (h2 : g = some c → G) : G := by
 cases o with
 | none => exact h2 e
 | some p => exact h1 p rfl e
theorem cnE {β : Type} {b : Bool} {x y : Option β} {c : β} {G : Prop} (e : cond b x y = some c) (h1 : b = true → x = some c → G) (h2 : b = false → y = some c → G) : G := by
 cases b with
 | true => exact h1 rfl e
 | false => exact h2 rfl e
noncomputable def lM {α : Type} (o : Option α) (f : α → Bool) : Bool := o.elim false f
theorem A2 {α : Type} {o : Option α} {f : α → Bool} (h : lM o f = true) : ∃ x,o = some x ∧ f x = true := by
 cases o with
 | none => exact Bool.noConfusion h
 | some x => exact ⟨x,rfl,h⟩
noncomputable def eqO {α : Type} [BEq α] (a b : Option α) : Bool := lM a λ x => lM b λ y => x == y
theorem av {α : Type} [BEq α] [LawfulBEq α] {a b : Option α} (h : eqO a b = true) : ∃ x,a = some x ∧ b = some x := by
 refine a9 (A2 h) λ x hx h => a9 (A2 h) λ y hy h => ?_
 exact ⟨x,hx,(beq_iff_eq.mp h).symm ▸ hy⟩
theorem N1 {a b : Bool} {G : Prop} (h : (a || b) = true) (h1 : a = true → G) (h2 : b = true → G) : G := by
 cases a with
 | true => exact h1 rfl
 | false => exact h2 h
theorem anB {a b : Bool} {G : Prop} (h : (a && b) = true) (k : a = true → b = true → G) : G := k (Bool.and_eq_true_iff.mp h).1 (Bool.and_eq_true_iff.mp h).2
theorem d8 {b : Bool} {P : Prop} (h : cond b P False) : b = true ∧ P := by
 induction b using Bool.casesOn with
 | true => exact ⟨rfl,h⟩
 | false => exact h.elim
noncomputable def v7 {α : Type} (o : Option α) (f : α → Prop) : Prop := o.elim False f
theorem c9 {α : Type} {o : Option α} {f : α → Prop} (h : v7 o f) : ∃ x,o = some x ∧ f x := by
 cases o with
 | none => exact False.elim h
 | some x => exact ⟨x,rfl,h⟩
theorem oT {α : Type} {o : Option α} {f : α → Prop} {x : α} (h : o = some x) (k : f x) : v7 o f := h.symm ▸ k
theorem ym {b : Bool} {P : Prop} (h : b = true) (k : P) : cond b P False := h.symm ▸ k
noncomputable def S9 {α : Type} (o : Option α) (f : α → Prop) (g : Prop) : Prop := o.elim g f
theorem k9 {α : Type} {o : Option α} {f : α → Prop} {g G : Prop} (h : S9 o f g) (h1 : ∀ x,o = some x → f x → G) (h2 : g → G) : G := by
 cases o with
 | none => exact h2 h
 | some x => exact h1 x rfl h
noncomputable def ifc {α : Type} {n k : Nat} (f : n = k → Option α) : Option α := if h : n = k then f h else none
theorem g6 {α : Type} {n k : Nat} {f : n = k → Option α} {x : α} (h : ifc f = some x) : ∃ c,f c = some x := by
 unfold ifc at h
 by_cases q : n = k
 ·rw [dif_pos q] at h; exact ⟨q,h⟩
 ·rw [dif_neg q] at h; cases h
noncomputable def fk (v : V) : Option Int := ifc λ c : v.ctorIdx = 2 => V.int.elim (motive_1 := λ Z => Option Int) v c λ i => some i
theorem C5 {v : V} {x : Int} (h : fk v = some x) : v = .int x := by
 refine i6 (g6 h) λ c h => ?_
 exact V.int.elim (motive_1 := λ v => ∀ c,V.int.elim (motive_1 := λ Z => Option Int) v c (λ i => some i) = some x → v = .int x) v c (λ i c h => by obtain rfl := sj h; rfl) c h
noncomputable def dM (v : V) : Option Str := ifc λ c : v.ctorIdx = 3 => V.str.elim (motive_1 := λ Z => Option Str) v c λ i => some i
theorem C6 {v : V} (h : dM v = some x) : v = .str x := by
 refine i6 (g6 h) λ c h => ?_
 exact V.str.elim (motive_1 := λ v => ∀ c,V.str.elim (motive_1 := λ Z => Option Str) v c (λ i => some i) = some x → v = .str x) v c (λ i c h => by obtain rfl := sj h; rfl) c h
noncomputable def qr (v : V) : Option Bool := ifc λ c : v.ctorIdx = 1 => V.bool.elim (motive_1 := λ Z => Option Bool) v c λ i => some i
theorem E6 {v : V} {x : Bool} (h : qr v = some x) : v = .bool x := by
 refine i6 (g6 h) λ c h => ?_
 exact V.bool.elim (motive_1 := λ v => ∀ c,V.bool.elim (motive_1 := λ Z => Option Bool) v c (λ i => some i) = some x → v = .bool x) v c (λ i c h => by obtain rfl := sj h; rfl) c h
noncomputable def qs (v : V) : Option (List Int) := ifc λ c : v.ctorIdx = 4 => V.byt.elim (motive_1 := λ Z => Option (List Int)) v c λ i => some i
theorem N2 {v : V} {x : (List Int)} (h : qs v = some x) : v = .byt x := by
 refine i6 (g6 h) λ c h => ?_
 exact V.byt.elim (motive_1 := λ v => ∀ c,V.byt.elim (motive_1 := λ Z => Option (List Int)) v c (λ i => some i) = some x → v = .byt x) v c (λ i c h => by obtain rfl := sj h; rfl) c h
noncomputable def yn (v : V) : Option (List (Int × Int)) := ifc λ c : v.ctorIdx = 13 => V.prs.elim (motive_1 := λ Z => Option (List (Int × Int))) v c λ i => some i
theorem iu {v : V} {x : (List (Int × Int))} (h : yn v = some x) : v = .prs x := by
 refine i6 (g6 h) λ c h => ?_
 exact V.prs.elim (motive_1 := λ v => ∀ c,V.prs.elim (motive_1 := λ Z => Option (List (Int × Int))) v c (λ i => some i) = some x → v = .prs x) v c (λ i c h => by obtain rfl := sj h; rfl) c h
noncomputable def hY {α : Type} (f : V → Option α) (a b : V) : Option (α × α) := (f a).bind λ x => (f b).map λ y => (x,y)
theorem E7 {α : Type} {f : V → Option α} {g : α → V} (hf : ∀ {v x},f v = some x → v = g x) {a b : V} {p : α × α} (h : hY f a b = some p) : a = g p.1 ∧ b = g p.2 := by
 refine a9 (d6 h) λ x hx h => ?_
 refine a9 (map_some h) λ y hy eR2 => ?_
 subst eR2
 exact ⟨hf hx,hf hy⟩
noncomputable def lW (v : V) : Option Nat := ifc λ c : v.ctorIdx = 6 => V.h.elim (motive_1 := λ Z => Option Nat) v c λ n => some n
theorem A3 {v : V} {x : Nat} (h : lW v = some x) : v = .h x := by
 refine i6 (g6 h) λ c h => ?_
 exact V.h.elim (motive_1 := λ v => ∀ c,V.h.elim (motive_1 := λ Z => Option Nat) v c (λ n => some n) = some x → v = .h x) v c (λ n c h => by obtain rfl := sj h; exact rfl) c h
noncomputable def lN (v : V) : Option (List V) := ifc λ c : v.ctorIdx = 8 => V.tup.elim (motive_1 := λ Z => Option (List V)) v c λ w => some w
theorem A4 {v : V} {x : (List V)} (h : lN v = some x) : v = .tup x := by
 refine i6 (g6 h) λ c h => ?_
 exact V.tup.elim (motive_1 := λ v => ∀ c,V.tup.elim (motive_1 := λ Z => Option (List V)) v c (λ w => some w) = some x → v = .tup x) v c (λ w c h => by obtain rfl := sj h; exact rfl) c h
noncomputable def tV (v : V) : Option (List V) := ifc λ c : v.ctorIdx = 9 => V.lst.elim (motive_1 := λ Z => Option (List V)) v c λ w => some w
theorem N3 {v : V} {x : (List V)} (h : tV v = some x) : v = .lst x := by
 refine i6 (g6 h) λ c h => ?_
 exact V.lst.elim (motive_1 := λ v => ∀ c,V.lst.elim (motive_1 := λ Z => Option (List V)) v c (λ w => some w) = some x → v = .lst x) v c (λ w c h => by obtain rfl := sj h; exact rfl) c h
noncomputable def xY (v : V) : Option (List Int) := ifc λ c : v.ctorIdx = 10 => V.nums.elim (motive_1 := λ Z => Option (List Int)) v c λ w => some w
theorem X4 {v : V} {x : (List Int)} (h : xY v = some x) : v = .nums x := by
 refine i6 (g6 h) λ c h => ?_
 exact V.nums.elim (motive_1 := λ v => ∀ c,V.nums.elim (motive_1 := λ Z => Option (List Int)) v c (λ w => some w) = some x → v = .nums x) v c (λ w c h => by obtain rfl := sj h; exact rfl) c h
noncomputable def qt (v : MO) : Option (List V) := ifc λ c : v.ctorIdx = 0 => MO.lst.elim (motive := λ Z => Option (List V)) v c λ w => some w
theorem X5 {v : MO} {x : (List V)} (h : qt v = some x) : v = .lst x := by
 refine i6 (g6 h) λ c h => ?_
 exact MO.lst.elim (motive := λ v => ∀ c,MO.lst.elim (motive := λ Z => Option (List V)) v c (λ w => some w) = some x → v = .lst x) v c (λ w c h => by obtain rfl := sj h; exact rfl) c h
noncomputable def qu (v : MO) : Option (List Int) := ifc λ c : v.ctorIdx = 1 => MO.nums.elim (motive := λ Z => Option (List Int)) v c λ w => some w
theorem X6 {v : MO} {x : (List Int)} (h : qu v = some x) : v = .nums x := by
 refine i6 (g6 h) λ c h => ?_
 exact MO.nums.elim (motive := λ v => ∀ c,MO.nums.elim (motive := λ Z => Option (List Int)) v c (λ w => some w) = some x → v = .nums x) v c (λ w c h => by obtain rfl := sj h; exact rfl) c h
noncomputable def yo (m : MO) : Option PyData := orE (qt m) (λ vs => (V.datas vs).map .list) ((qu m).map λ xs => .list (xs.map .int))
noncomputable def dN (O : KG) (v : V) : Option PyData := orE (lW v) (λ n => O[n]?.bind yo) v.data
theorem V.reads3 {h : Heap} (hF : ∀ a o,F a = some o → h.get? a = some o) {v : V} {u : Value} (q : VR P F J v u) : ∀ {d : PyData},V.data v = some d → ∃ as,Reads h u d as := by
 refine VR.rec (P := P) (F := F) (J := J) (motive_1 := λ v u Z => ∀ {d : PyData},V.data v = some d → ∃ as,Reads h u d as) (motive_2 := λ vs us Z => ∀ {ds : List PyData},V.datas vs = some ds → ∃ as,ReadsAll h us ds as) (motive_3 := λ Z Z Z => True)
  (λ e => by cases e; exact ⟨_,.none⟩) (λ b Z e => by cases e; exact ⟨_,.bool b⟩) (λ i t Z e => by cases e; exact ⟨_,.int i t⟩) (λ x t Z e => by cases e; exact ⟨_,.str x t⟩) (λ Z Z Z e => nomatch e) (λ Z Z e => nomatch e) (λ Z Z e => nomatch e) (λ Z Z Z e => nomatch e)
  (λ f c1 c2 Z ih d e => ?_) (λ f Z ih d e => ?_) (λ f r Z e => by cases e; exact ⟨_,.list (hF _ _ f) rfl rfl (readsAll_of_ints r)⟩) (λ Z Z Z Z Z e => nomatch e) (λ Z Z e => nomatch e) (λ Z Z Z e => nomatch e) (λ Z Z e => nomatch e) (λ Z Z Z Z e => nomatch e)
  (λ e => by cases e; exact ⟨_,.nil⟩) (λ a b iha ihb ds e => ?_) trivial (λ Z Z Z Z => trivial) q
 ·obtain ⟨ds,e1,rfl⟩ := map_some e
  obtain ⟨as,q⟩ := ih e1
  exact ⟨_,.tuple (hF _ _ f) c1 c2 q⟩
 ·obtain ⟨ds,e1,rfl⟩ := map_some e
  obtain ⟨as,q⟩ := ih e1
  exact ⟨_,.list (hF _ _ f) rfl rfl q⟩
 ·rw [V.datas] at e
  refine a9 (d6 e) λ d' e1 e => a9 (map_some e) λ ds e2 e => ?_
  subst e
  refine i6 (iha e1) λ x hx => i6 (ihb e2) λ y hy => ⟨_,.cons hx hy⟩
theorem V.reads {h : Heap} (hF : ∀ a o,F a = some o → h.get? a = some o) {v : V} {u : Value} {d : PyData} (q : VR P F J v u) (e : V.data v = some d) : ∃ as,Reads h u d as := V.reads3 hF q e
theorem V.readsAll {h : Heap} (hF : ∀ a o,F a = some o → h.get? a = some o) : ∀ {vs : KN} {us : KK} {ds : List PyData},VRs P F J vs us → V.datas vs = some ds → ∃ as,ReadsAll h us ds as := by
 intro vs
 induction vs with
 | nil => intro us ds q e; cases q; cases e; exact ⟨_,.nil⟩
 | cons v vs ih =>
  intro us ds q e
  cases q with
  | cons a b =>
   rw [V.datas] at e
   refine a9 (d6 e) λ d' e1 e => a9 (map_some e) λ ds e2 e => ?_
   subst e
   refine i6 (V.reads hF a e1) λ x hx => i6 (ih b e2) λ y hy => ⟨_,.cons hx hy⟩
theorem Rel.reads {F G : PH} {J : KH} {h : Heap} (r : Rel X F G J O h) {v : V} {u : Value} {d : PyData} (hv : VR X.w.params F J v u) (e : dN O v = some d) : ∃ as,Reads h u d as := by
 refine i8 e (λ n hn e => a9 (d6 e) λ m hs e => ?_) (V.reads r.f hv)
 rw [A3 hn] at hv
 refine hv.hE λ a ha => i8 e (λ vs hm e => a9 (map_some e) λ ds e1 q => ?_) λ e => a9 (map_some e) λ xs hm q => ?_
 ·rw [X5 hm] at hs
  subst q
  refine U5 (r.lstH ha hs) λ us k hx q => i6 (V.readsAll r.f q e1) λ as q => ⟨_,.list hx rfl rfl q⟩
 ·rw [X6 hm] at hs
  subst q
  exact U5 (r.numsH ha hs) λ us k hx q => ⟨_,.list hx rfl rfl (readsAll_of_ints q)⟩
noncomputable def n4 (O : KG) (v : V) : Option (List Int) := orE (xY v) some ((lW v).bind λ n => O[n]?.bind qu)
noncomputable def dO (O : KG) (v : V) : Option (List V) := orE (tV v) some ((lW v).bind λ n => O[n]?.bind qt)
theorem Rel.nums {h : Heap} (r : Rel X F G J O h) {v : V} {u : Value} (hv : VR X.w.params F J v u) (e : n4 O v = some xs) : ∃ a us,u = .ref a ∧ h.IsList a us.toArray ∧ IntsAre us xs := by
 refine i8 e (λ ys h e => ?_) λ e => a9 (d6 e) λ n hn e => a9 (d6 e) λ m hs hm => ?_
 ·rw [X4 h,sj e] at hv
  exact hv.numsE λ a us n f q => ⟨_,_,rfl,⟨_,r.f _ _ f,rfl,_,rfl⟩,q⟩
 ·rw [A3 hn] at hv
  rw [X6 hm] at hs
  exact hv.hE λ a ha => U5 (r.numsH ha hs) λ us k hx q => ⟨_,_,rfl,⟨_,hx,rfl,_,rfl⟩,q⟩
theorem Rel.lsts {h : Heap} (r : Rel X F G J O h) {v : V} {u : Value} {xs : KN} (hv : VR X.w.params F J v u) (e : dO O v = some xs) : ∃ a us,u = .ref a ∧ h.IsList a us.toArray ∧ VRs X.w.params F J xs us := by
 refine i8 e (λ ys h e => ?_) λ e => a9 (d6 e) λ n hn e => a9 (d6 e) λ m hs hm => ?_
 ·rw [N3 h,sj e] at hv
  exact hv.lstE λ a us n f q => ⟨_,_,rfl,⟨_,r.f _ _ f,rfl,_,rfl⟩,q⟩
 ·rw [A3 hn] at hv
  rw [X5 hm] at hs
  exact hv.hE λ a ha => U5 (r.lstH ha hs) λ us k hx q => ⟨_,_,rfl,⟨_,hx,rfl,_,rfl⟩,q⟩
noncomputable def U7 (O : KG) (v : V) : Option Nat := orE (n4 O v) (λ xs => some xs.length) ((dO O v).map List.length)
theorem VRs.len : ∀ {vs : KN} {us : KK},VRs P F J vs us → us.length = vs.length := by
 intro vs
 induction vs with
 | nil => intro us h; cases h; rfl
 | cons v vs ih => intro us h; cases h with | cons _ b => exact congrArg (· + 1) (ih b)
theorem IntsAre.len (q : IntsAre us xs) : us.length = xs.length := by
 induction q with
 | nil => rfl
 | cons _ _ b ih => exact congrArg (· + 1) ih
theorem Rel.len' {h : Heap} (r : Rel X F G J O h) {v : V} {u : Value} (hv : VR X.w.params F J v u) (e : U7 O v = some n) : ∃ (a : Addr) (us : KK),u = .ref a ∧ h.IsList a us.toArray ∧ us.length = n := by
 refine i8 e (λ xs h e => S8 (r.nums hv h) λ a us h1 h2 h3 => ⟨a,us,h1,h2,(IntsAre.len h3).trans (sj e)⟩) λ e => a9 (map_some e) λ xs h e => S8 (r.lsts hv h) λ a us h1 h2 h3 => ⟨a,us,h1,h2,h3.len.trans e⟩
noncomputable def isNone : V → Option Bool
 | .none => some true
 | .val _ | .junk | .fz _ => none
 | _ => some false
theorem aw {v : V} {u : Value} {c : Bool} (h : VR P F J v u) (e : isNone v = some c) : (u == Value.none) = c := by
 revert e
 induction h using VR.casesOn <;> first | exact sj | exact nofun
noncomputable def lX (O : KG) (a b : V) : Option (List Int × List Int) := hY (n4 O) a b
noncomputable def X7 (O : KG) (a b : V) : Option (PyData × PyData) := (hY (dN O) a b).bind λ p => cond (shaped p.1 && shaped p.2) (some p) none
noncomputable def oU (O : KG) (a b : V) : Option (Nat × Nat) := (hY (U7 O) a b).bind λ p => cond (p.1 != p.2) (some p) none
noncomputable def AD (O : KG) (a b : V) : Option Bool := orE (lX O a b) (λ p => some (decide (p.1 = p.2))) (orE (oU O a b) (λ Z => some false) ((X7 O a b).map λ p => PyData.eqv p.1 p.2))
noncomputable def AE (O : KG) (a b : V) : Option Bool := orE (hY yn a b) (λ p => cond (decide (p.1 = p.2)) (some true) none) (AD O a b)
noncomputable def AG (O : KG) (a b : V) : Option Bool := orE (hY qs a b) (λ p => some (decide (p.1 = p.2))) (AE O a b)
noncomputable def AH (O : KG) (a b : V) : Option Bool := orE (hY qr a b) (λ p => some (p.1 == p.2)) (AG O a b)
noncomputable def AI (O : KG) (a b : V) : Option Bool := orE (hY dM a b) (λ p => some (p.1 == p.2)) (AH O a b)
noncomputable def iw (O : KG) (a b : V) : Option Bool := orE (hY fk a b) (λ p => some (p.1 == p.2)) (AI O a b)
noncomputable def inL (x : PyData) (ys : List PyData) : Option Bool := cond (ys.all (λ y => noMix y x)) (some (decide (countIn x ys ≠ 0))) none
noncomputable def inD (x : PyData) : PyData → Option Bool
 | .tuple ys => inL x ys
 | .list ys => inL x ys
 | _ => none
noncomputable def qw (O : KG) (a b : V) : Option Bool := orE (hY dM a b) (λ p => some (Txt.contains p.2 p.1)) ((X7 O a b).bind λ p => inD p.1 p.2)
noncomputable def tW (op : CmpOp) (a b : V) : Option Bool := (hY fk a b).bind λ p => AC op p.1 p.2
noncomputable def tF (op : CmpOp) (O : KG) (a b : V) : Option Bool := match op with
 | .Eq => iw O a b
 | .NotEq => (iw O a b).map (!·)
 | .In => qw O a b
 | .NotIn => (qw O a b).map (!·)
 | .Is => cond (b.ctorIdx == 0) (isNone a) none
 | .IsNot => cond (b.ctorIdx == 0) ((isNone a).map (!·)) none
 | .Lt => tW .Lt a b
 | .LtE => tW .LtE a b
 | .Gt => tW .Gt a b
 | .GtE => tW .GtE a b
noncomputable def X8 (p : Int × Int) : PyData := .tuple [.int p.1,.int p.2]
theorem ay (ps : KF) : PyData.canLayAll0 (ps.map X8) = true := by
 induction ps with
 | nil => simp [PyData.canLayAll0]
 | cons p r ih => simp [PyData.canLayAll0,PyData.canLay0,ih,X8]
theorem bO (ps : KF) : PyData.depthAll (ps.map X8) ≤ 3 := by
 induction ps with
 | nil => simp [PyData.depthAll]
 | cons p r ih =>
  simp only [yc8,PyData.depthAll,PyData.depth,X8] at ih ⊢
  lia
theorem r9 (ps : KF) : shaped (.list (ps.map X8)) = true := by
 have h1 := bO ps
 have h2 : PyData.depth (.list (ps.map X8)) ≤ 64 := by simp only [PyData.depth]; (exact Nat.lt_of_le_of_lt (by assumption) (by decide))
 refine (?_ : (PyData.canLay0 (.list (ps.map X8)) && decide (PyData.depth (.list (ps.map X8)) ≤ 64)) = true)
 rw [ya4]
 exact ⟨by simp only [PyData.canLay0]; exact ay ps,ya2 h2⟩
theorem PRs.reads {h : Heap} (hF : ∀ a o,F a = some o → h.get? a = some o) {ps : KF} (q : PRs F ps us) : ∃ as,ReadsAll h us (ps.map X8) as := by
 induction q with
 | nil => exact ⟨_,.nil⟩
 | @cons a b ta tb x o n ps us f c d r ih =>
  obtain ⟨as,q⟩ := ih
  exact ⟨_,.cons (.tuple (hF _ _ f) c d (.cons (.int _ ta) (.cons (.int _ tb) .nil))) q⟩
theorem fq {α : Type} {f : V → Option α} {a b : V} {p : α × α} (h : hY f a b = some p) : f a = some p.1 ∧ f b = some p.2 := by
 refine a9 (d6 h) λ x hx h => ?_
 refine a9 (map_some h) λ y hy eR2 => ?_
 subst eR2
 exact ⟨hx,hy⟩
theorem N4 {a b : V} {p : PyData × PyData} (h : X7 O a b = some p) : dN O a = some p.1 ∧ dN O b = some p.2 ∧ shaped p.1 = true ∧ shaped p.2 = true := by
 refine a9 (d6 h) λ q hq h => cnE h (λ z e => ?_) nofun
 obtain rfl := sj e
 exact ⟨(fq hq).1,(fq hq).2,Bool.and_eq_true_iff.mp z⟩
theorem iA {a b : V} {p : Nat × Nat} (h : oU O a b = some p) : U7 O a = some p.1 ∧ U7 O b = some p.2 ∧ (p.1 != p.2) = true := by
 refine a9 (d6 h) λ q hq h => cnE h (λ z e => ?_) nofun
 obtain rfl := sj e
 exact ⟨(fq hq).1,(fq hq).2,z⟩
theorem qx {v : V} (c : (v.ctorIdx == 0) = true) : v = .none := V.none.elim (motive_1 := λ v => v = .none) v (beq_iff_eq.mp c) rfl
section
variable {a b : V} {u v : Value} {c : Bool}
theorem qy (b b' : Array UInt8) : decide (S6 b = S6 b') = (b.toList == b'.toList) := by
 unfold S6
 have inj : ∀ (l l' : List UInt8),l.map (λ c => (c.toNat : Int)) = l'.map (λ c => (c.toNat : Int)) → l = l' := by
  intro l
  induction l with
  | nil => intro l' h; cases l' with | nil => rfl | cons _ _ => cases h
  | cons c l ih =>
   intro l' h
   induction l' using List.casesOn with
   | nil => cases h
   | cons c' l' =>
    rw [yc8,yc8,List.cons.injEq] at h
    obtain ⟨h1,h2⟩ := h
    have : c = c' := UInt8.toNat_inj.mp (by lia)
    exact this.symm ▸ (ih l' h2).symm ▸ rfl
 by_cases h : b.toList = b'.toList
 ·rw [h]; simp
 ·have h' : ¬ (b.toList.map (λ c => (c.toNat : Int)) = b'.toList.map (λ c => (c.toNat : Int))) := λ q => h (inj _ _ q)
  refine (decide_eq_false h').symm ▸ ?_
  exact (beq_false_of_ne h).symm
structure CmpB (X : Wd) (A : Around) (E Q : KA) (s : Shared) (u v : Value) (c : Bool) : Prop where
 eq : Q (.bool c) s → wpAny (model X.prog X.w) A (compareOp .Eq u v) Q E s
 ne : Q (.bool (!c)) s → wpAny (model X.prog X.w) A (compareOp .NotEq u v) Q E s
theorem qz (hA : C3 d A) (r : Rel X F G J O s.heap) (ha : VR X.w.params F J a u) (hb : VR X.w.params F J b v) (e : AD O a b = some c) : CmpB X A E Q s u v c := by
 have hu : A.units + 64 < cLine := hA.u (by decide)
 refine i8 e (λ p hn e => ?_) λ e => i8 e (λ p hn e => ?_) λ e => ?_
 ·obtain rfl := sj e
  refine S8 (r.nums ha (fq hn).1) λ Z Z e1 l1 i1 => ?_
  refine S8 (r.nums hb (fq hn).2) λ Z Z e2 l2 i2 => ?_
  exact e1.symm ▸ e2.symm ▸ ⟨eq_intsK l1 i1 l2 i2 hu,ne_intsK l1 i1 l2 i2 hu⟩
 ·obtain rfl := sj e
  refine C2 (iA hn) λ e1 e2 hun => ?_
  refine S8 (r.len' ha e1) λ Z us q1 l1 z1 => ?_
  refine S8 (r.len' hb e2) λ Z us' q2 l2 z2 => ?_
  have hs : (us.toArray.size != us'.toArray.size) = true := by
   refine (?_ : (us.length != us'.length) = true)
   rw [z1,z2]; exact hun
  have hu' : A.units < cLine := Nat.lt_of_le_of_lt (yb7 _ _) hu
  exact q1.symm ▸ q2.symm ▸ ⟨EqBoolInt.of_rc (RcAt.lists_lengths l1 l2 hs hu'),EqBoolInt.of_rcne (RcNeAt.lists_lengths l1 l2 hs hu')⟩
 ·refine a9 (map_some e) λ p hd eR => ?_
  subst eR
  refine L7 (N4 hd) λ d1 d2 s1 s2 => ?_
  obtain ⟨_,r1⟩ := r.reads ha d1
  obtain ⟨_,r2⟩ := r.reads hb d2
  exact ⟨eq_dataH r1 r2 s1 s2 hu,ne_dataH r1 r2 s1 s2 hu⟩
theorem qA (hA : C3 d A) (r : Rel X F G J O s.heap) (ha : VR X.w.params F J a u) (hb : VR X.w.params F J b v) (e : AE O a b = some c) : CmpB X A E Q s u v c := by
 refine i8 e (λ p h e => cnE e (λ q e => ?_) nofun) (qz hA r ha hb)
 refine i5 (E7 iu h) λ ea eb => ?_
 obtain rfl := sj e
 have hu : A.units + 64 < cLine := hA.u (by decide)
 replace eb := (ya3 q).symm ▸ eb
 rw [ea] at ha
 rw [eb] at hb
 refine ha.prsE λ a1 us1 n1 f1 p1 => hb.prsE λ a2 us2 n2 f2 p2 => ?_
 obtain ⟨_,r1⟩ := PRs.reads r.f p1
 obtain ⟨_,r2⟩ := PRs.reads r.f p2
 have e1 := SeqAt.eqv_refl _ (canLay_of_shaped (r9 p.1))
 exact e1 ▸ ⟨eq_dataH (.list (r.f _ _ f1) rfl rfl r1) (.list (r.f _ _ f2) rfl rfl r2) (r9 p.1) (r9 p.1) hu,ne_dataH (.list (r.f _ _ f1) rfl rfl r1) (.list (r.f _ _ f2) rfl rfl r2) (r9 p.1) (r9 p.1) hu⟩
theorem qB (hA : C3 d A) (r : Rel X F G J O s.heap) (ha : VR X.w.params F J a u) (hb : VR X.w.params F J b v) (e : AG O a b = some c) : CmpB X A E Q s u v c := by
 refine i8 e (λ p h e => ?_) (qA hA r ha hb)
 refine i5 (E7 N2 h) λ ea eb => ?_
 obtain rfl := sj e
 rw [ea] at ha
 rw [eb] at hb
 refine ha.bytE λ b1 t1 q1 => hb.bytE λ b2 t2 q2 => ?_
 rw [q1,q2,qy]
 exact ⟨eq_bytes,λ h => ne_bytes (by simpa [bne] using h)⟩
theorem qC (hA : C3 d A) (r : Rel X F G J O s.heap) (ha : VR X.w.params F J a u) (hb : VR X.w.params F J b v) (e : AH O a b = some c) : CmpB X A E Q s u v c := by
 refine i8 e (λ p h e => ?_) (qB hA r ha hb)
 refine i5 (E7 E6 h) λ ea eb => ?_
 obtain rfl := sj e
 rw [ea] at ha
 rw [eb] at hb
 exact ha.boolE (hb.boolE ⟨PyProof.Rows.eq_bool,λ h => PyProof.Rows.ne_bool (by simpa [bne] using h)⟩)
theorem qD (hA : C3 d A) (r : Rel X F G J O s.heap) (ha : VR X.w.params F J a u) (hb : VR X.w.params F J b v) (e : AI O a b = some c) : CmpB X A E Q s u v c := by
 refine i8 e (λ p h e => ?_) (qC hA r ha hb)
 refine i5 (E7 C6 h) λ ea eb => ?_
 obtain rfl := sj e
 rw [ea] at ha
 rw [eb] at hb
 exact ha.strE λ t => hb.strE λ t' => ⟨PyProof.Rows.eq_str,λ h => PyProof.Rows.ne_str (by simpa [bne] using h)⟩
theorem dP (hA : C3 d A) (r : Rel X F G J O s.heap) (ha : VR X.w.params F J a u) (hb : VR X.w.params F J b v) (e : iw O a b = some c) : CmpB X A E Q s u v c := by
 refine i8 e (λ p h e => ?_) (qD hA r ha hb)
 refine i5 (E7 C5 h) λ ea eb => ?_
 obtain rfl := sj e
 rw [ea] at ha
 rw [eb] at hb
 exact ha.intE λ t => hb.intE λ t' => ⟨P.eq_int,λ h => P.ne_int (by simpa [bne] using h)⟩
structure CmpM (X : Wd) (A : Around) (E Q : KA) (s : Shared) (u v : Value) (c : Bool) : Prop where
 i : Q (.bool c) s → wpAny (model X.prog X.w) A (compareOp .In u v) Q E s
 n : Q (.bool (!c)) s → wpAny (model X.prog X.w) A (compareOp .NotIn u v) Q E s
theorem dQ (hA : C3 d A) (r : Rel X F G J O s.heap) (ha : VR X.w.params F J a u) (hb : VR X.w.params F J b v) (e : qw O a b = some c) : CmpM X A E Q s u v c := by
 refine i8 e (λ p h e => ?_) λ e => a9 (d6 e) λ p hd e => ?_
 ·refine i5 (E7 C6 h) λ ea eb => ?_
  obtain rfl := sj e
  rw [ea] at ha
  rw [eb] at hb
  exact ha.strE λ t => hb.strE λ t' => ⟨λ h => SB.contains h,λ h => SB.notContains h⟩
 ·have hu : A.units + 65 < cLine := hA.u (by decide)
  refine L7 (N4 hd) λ d1 d2 s1 s2 => ?_
  obtain ⟨_,r1⟩ := r.reads ha d1
  obtain ⟨_,r2⟩ := r.reads hb d2
  clear hd d1 d2 ha hb
  obtain ⟨x,y⟩ := p
  induction y using PyData.casesOn with
  | tuple ys => exact cnE e (λ hm e => sj e ▸ ⟨in_tuple_dataH r2 r1 s2 s1 hu (List.all_eq_true.mp hm),notIn_tuple_dataH r2 r1 s2 s1 hu (List.all_eq_true.mp hm)⟩) nofun
  | list ys => exact cnE e (λ hm e => sj e ▸ ⟨in_list_dataH r2 r1 s2 s1 hu (List.all_eq_true.mp hm),notIn_list_dataH r2 r1 s2 s1 hu (List.all_eq_true.mp hm)⟩) nofun
  | _ => cases e
theorem qE {op : CmpOp} (ha : VR X.w.params F J a u) (hb : VR X.w.params F J b v) (e : tW op a b = some c) (h : Q (.bool c) s) : wpAny (model X.prog X.w) A (compareOp op u v) Q E s := by
 refine a9 (d6 e) λ p hp e => ?_
 refine i5 (E7 C5 hp) λ ea eb => ?_
 rw [ea] at ha
 rw [eb] at hb
 exact ha.intE λ t => hb.intE λ t' => ql e h
theorem bP {op : CmpOp} (hA : C3 d A) (r : Rel X F G J O s.heap) (ha : VR X.w.params F J a u) (hb : VR X.w.params F J b v) (e : tF op O a b = some c) (h : Q (.bool c) s) :
  wpAny (model X.prog X.w) A (compareOp op u v) Q E s := by
 induction op using CmpOp.casesOn with
 | Eq => exact (dP hA r ha hb e).1 h
 | NotEq => exact a9 (map_some e) λ c' e' q => (dP hA r ha hb e').2 (q.symm ▸ h)
 | In => exact (dQ hA r ha hb e).1 h
 | NotIn => exact a9 (map_some e) λ c' e' q => (dQ hA r ha hb e').2 (q.symm ▸ h)
 | Is =>
  refine cnE e (λ q e => ?_) nofun
  rw [qx q] at hb
  exact hb.noneE (PyProof.Rows.is_none_gen (by rw [aw ha e]; exact h))
 | IsNot =>
  refine cnE e (λ q e => a9 (map_some e) λ c' e' z => ?_) nofun
  rw [qx q] at hb
  exact hb.noneE (PyProof.Rows.isnot_none_gen (by rw [aw ha e',z]; exact h))
 | _ => exact qE ha hb e h
end
end
section
open PySem.Spec
variable {d e : Nat}
theorem Ev.mono {α β : Type} {R : PH → List Addr → β → α → Prop} {t : List Value → Sem α} {k : β → Gam → List MO → Prop} (h : Ev X R e env D O vs t k) (he : e ≤ d) : Ev X R d env D O vs t k :=
 λ A E Q s F G J us hA r f hv hk => h A E Q s F G J us (hA.mono he) r f hv hk
section
variable {k : KB} {kb : Bool → Gam → List MO → Prop}
theorem iB {l En Ep : Expr} {Fa Fd : CmpOp} {pos : Pos} {whole : Sem Value} (hm : lastMarks [Fa,Fd] [En,Ep] = false)
  (h : Ev X (RV X) d env D O [] (λ Z => eval l env) (λ a Eg Eh => Ev X (RV X) d env Eg Eh [a] (λ Z => eval En env) (λ b Ej Ei => ∃ c,tF Fa Ei a b = some c ∧
   cond c (Ev X (RV X) d env Ej Ei [b] (λ Z => eval Ep env) (λ b' EH ED => ∃ c,tF Fd ED b b' = some c ∧ kb c EH ED)) (kb false Ej Ei)))) :
  Ev X RB d env D O vs (λ Z => isTrue (.Compare l [Fa,Fd] [En,Ep] pos) env whole) kb := by
 intro A E Q s F G J us hA r f hv hk
 refine isTrue_chain ?_ hm
 refine h A E _ s F G J [] hA r f .nil λ a u Eo Er Eu Em Eh Eg z Ey En Es Et => ?_
 refine test_link ?_
 refine z A E _ _ Eu G Em [u] hA En Es (.cons Et .nil) λ b EO Ew Ek EE El Ei Ej EF EA Ep EC Ez => ?_
 refine a9 (EF) λ c hc hkk => ?_
 refine bP hA Ep (Et.mono EA) Ez hc (wpAny_truthy_bool ?_)
 induction c using Bool.casesOn with
 | false => exact hk _ _ Ew Ek EE El Ei Ej hkk (Ey.trans EA) Ep EC rfl
 | true =>
  refine test_last ?_
  refine hkk A E _ _ EE G El [EO] hA Ep EC (.cons Ez .nil) λ b' FP EK ES EL EI ED EH EW ER EN EM Fo => ?_
  refine a9 (EW) λ c hc hkk => ?_
  exact bP hA EN (Ez.mono ER) Fo hc (wpAny_truthy_bool (hk _ _ EK ES EL EI ED EH hkk ((Ey.trans EA).trans ER) EN EM rfl))
theorem tX {x : Expr} {pos : Pos} {whole : Sem Value} (h : Ev X RB d env D O [] (λ Z => isTrue x env (eval x env)) (λ c Eg Eh => kb (!c) Eg Eh)) :
  Ev X RB d env D O vs (λ Z => isTrue (.UnaryOp .Not x pos) env whole) kb := by
 intro A E Q s F G J us hA r f hv hk
 refine isTrue_not (h A E _ s F G J [] hA r f .nil λ c u Eo Er Eu Em Eh Eg z Ey En Es Et => ?_)
 have : u = c := Et
 subst this
 exact hk _ _ Eo Er Eu Em Eh Eg z Ey En Es rfl
theorem ft {whole : Sem Value} (h : kb true D O) : Ev X RB d env D O vs (λ Z => isTrue (.BoolOp .And [] pos) env whole) kb := by
 intro A E Q s F G J us hA r f hv hk
 exact isTrue_and_nil (hk _ _ _ _ F J O D h (.refl F J) r f rfl)
theorem iC {whole : Sem Value} (h : kb false D O) : Ev X RB d env D O vs (λ Z => isTrue (.BoolOp .Or [] pos) env whole) kb := by
 intro A E Q s F G J us hA r f hv hk
 exact isTrue_or_nil (hk _ _ _ _ F J O D h (.refl F J) r f rfl)
theorem tY {x : Expr} {rest : KL} {pos : Pos} {whole : Sem Value}
  (h : Ev X RB d env D O [] (λ Z => isTrue x env (eval x env)) (λ c Eg Eh => cond c (Ev X RB d env Eg Eh [] (λ Z => isTrue (.BoolOp .And rest pos) env whole) kb) (kb false Eg Eh))) :
  Ev X RB d env D O vs (λ Z => isTrue (.BoolOp .And (x :: rest) pos) env whole) kb := by
 intro A E Q s F G J us hA r f hv hk
 refine isTrue_and (h A E _ s F G J [] hA r f .nil λ c u Eo Er Eu Em Eh Eg z Ey En Es Et => ?_)
 have : u = c := Et
 subst this
 induction u using Bool.casesOn with
 | false => exact hk _ _ Eo Er Eu Em Eh Eg z Ey En Es rfl
 | true => exact z A E _ _ Eu G Em [] hA En Es .nil λ b EO Ew Ek EE El Ei Ej EF EA Ep EC Ez => hk b EO Ew Ek EE El Ei Ej EF (Ey.trans EA) Ep EC Ez
theorem yp {x : Expr} {rest : KL} {pos : Pos} {whole : Sem Value}
  (h : Ev X RB d env D O [] (λ Z => isTrue x env (eval x env)) (λ c Eg Eh => cond c (kb true Eg Eh) (Ev X RB d env Eg Eh [] (λ Z => isTrue (.BoolOp .Or rest pos) env whole) kb))) :
  Ev X RB d env D O vs (λ Z => isTrue (.BoolOp .Or (x :: rest) pos) env whole) kb := by
 intro A E Q s F G J us hA r f hv hk
 refine isTrue_or (h A E _ s F G J [] hA r f .nil λ c u Eo Er Eu Em Eh Eg z Ey En Es Et => ?_)
 have : u = c := Et
 subst this
 induction u using Bool.casesOn with
 | true => exact hk _ _ Eo Er Eu Em Eh Eg z Ey En Es rfl
 | false => exact z A E _ _ Eu G Em [] hA En Es .nil λ b EO Ew Ek EE El Ei Ej EF EA Ep EC Ez => hk b EO Ew Ek EE El Ei Ej EF (Ey.trans EA) Ep EC Ez
noncomputable def az (e : Expr) : Bool := !(e.ctorIdx == 0 || e.ctorIdx == 3 || e.ctorIdx == 5 || e.ctorIdx == 15)
theorem lY {x : Expr} (hp : az x = true) (h : Ev X (RV X) d env D O [] (λ Z => eval x env) (λ v Eg Eh => ∃ c,v = .bool c ∧ kb c Eg Eh)) :
  Ev X RB d env D O vs (λ Z => isTrue x env (eval x env)) kb := by
 intro A E Q s F G J us hA r f hv hk
 refine isTrue_plain (h A E _ s F G J [] hA r f .nil λ v u Eo Er Eu Em Eh Eg z Ey En Es Et => ?_) ?_
 ·obtain ⟨c,rfl,z⟩ := z
  refine Et.boolE ?_
  exact wpAny_truthy_bool (hk _ _ Eo Er Eu Em Eh Eg z Ey En Es rfl)
 ·induction x using Expr.casesOn with
  | UnaryOp op y p => cases op <;> first | rfl | cases hp
  | _ => first | rfl | cases hp
theorem tZ {x : Expr} {pos : Pos} (h : Ev X (RV X) d env D O [] (λ Z => eval x env) (λ v Eg Eh => ∃ c,v = .bool c ∧ k (.bool (!c)) Eg Eh)) :
  Ev X (RV X) d env D O vs (λ Z => eval (.UnaryOp .Not x pos) env) k := by
 intro A E Q s F G J us hA r f hv hk
 refine UnaryOp_ (h A E _ s F G J [] hA r f .nil λ v u Eo Er Eu Em Eh Eg z Ey En Es Et => ?_)
 obtain ⟨c,rfl,z⟩ := z
 refine Et.boolE ?_
 exact not_of (wpAny_truthy_bool (hk _ _ Eo Er Eu Em Eh Eg z Ey En Es (.bool _)))
theorem lZ {t a b : Expr} {pos : Pos} (h : Ev X RB d env D O [] (λ Z => isTrue t env (eval t env)) (λ c Eg Eh => cond c (Ev X (RV X) d env Eg Eh [] (λ Z => eval a env) k) (Ev X (RV X) d env Eg Eh [] (λ Z => eval b env) k))) :
  Ev X (RV X) d env D O vs (λ Z => eval (.IfExp t a b pos) env) k := by
 intro A E Q s F G J us hA r f hv hk
 refine IfExp_ (h A E _ s F G J [] hA r f .nil λ c u Eo Er Eu Em Eh Eg z Ey En Es Et => ?_)
 have : u = c := Et
 subst this
 induction u using Bool.casesOn with
 | true => exact z A E _ _ Eu G Em [] hA En Es .nil λ b EO Ew Ek EE El Ei Ej EF EA Ep EC Ez => hk b EO Ew Ek EE El Ei Ej EF (Ey.trans EA) Ep EC Ez
 | false => exact z A E _ _ Eu G Em [] hA En Es .nil λ b EO Ew Ek EE El Ei Ej EF EA Ep EC Ez => hk b EO Ew Ek EE El Ei Ej EF (Ey.trans EA) Ep EC Ez
theorem ua {t : Expr} {a b : List Stmt} {pos : Pos} {k : Fl → Gam → List MO → Prop} (h : Ev X RB d env D O [] (λ Z => isTrue t env (eval t env)) (λ c Eg Eh => cond c (Ev X (RFl X) d env Eg Eh [] (λ Z => execs a env) k) (Ev X (RFl X) d env Eg Eh [] (λ Z => execs b env) k))) :
  Ev X (RFl X) d env D O vs (λ Z => exec (.If t a b pos) env) k :=
 yl (by
  have : (λ c Eg Eh => cond c (Ev X (RFl X) d env Eg Eh [] (λ Z => execs a env) k) (Ev X (RFl X) d env Eg Eh [] (λ Z => execs b env) k)) = (λ c Γ' σ' => (c = true → Ev X (RFl X) d env Γ' σ' [] (λ Z => execs a env) k) ∧ (c = false → Ev X (RFl X) d env Γ' σ' [] (λ Z => execs b env) k)) := by
   funext c Γ' σ'
   cases c <;> simp
  rw [← this]; exact h)
theorem bQ {op : BoolOp} {x : Expr} (h : Ev X (RV X) d env D O [] (λ Z => eval x env) k) : Ev X (RV X) d env D O vs (λ Z => eval (.BoolOp op [x] pos) env) k := by
 intro A E Q s F G J us hA r f hv hk
 exact BoolOp_one (h A E _ s F G J [] hA r f .nil hk)
theorem ub {x y : Expr} {rest : KL} (h : Ev X (RV X) d env D O [] (λ Z => eval x env) (λ v Eg Eh => ∃ c,v = .bool c ∧ cond c (Ev X (RV X) d env Eg Eh [] (λ Z => eval (.BoolOp .And (y :: rest) pos) env) k) (k (.bool false) Eg Eh))) :
  Ev X (RV X) d env D O vs (λ Z => eval (.BoolOp .And (x :: y :: rest) pos) env) k := by
 intro A E Q s F G J us hA r f hv hk
 refine BoolOp_and (h A E _ s F G J [] hA r f .nil λ v u Eo Er Eu Em Eh Eg z Ey En Es Et => ?_)
 obtain ⟨c,rfl,z⟩ := z
 refine Et.boolE ?_
 refine wpAny_truthy_bool ?_
 induction c using Bool.casesOn with
 | false => exact hk _ _ Eo Er Eu Em Eh Eg z Ey En Es (.bool _)
 | true => exact z A E _ _ Eu G Em [] hA En Es .nil λ b EO Ew Ek EE El Ei Ej EF EA Ep EC Ez => hk b EO Ew Ek EE El Ei Ej EF (Ey.trans EA) Ep EC Ez
theorem yq {x y : Expr} {rest : KL} (h : Ev X (RV X) d env D O [] (λ Z => eval x env) (λ v Eg Eh => ∃ c,v = .bool c ∧ cond c (k (.bool true) Eg Eh) (Ev X (RV X) d env Eg Eh [] (λ Z => eval (.BoolOp .Or (y :: rest) pos) env) k))) :
  Ev X (RV X) d env D O vs (λ Z => eval (.BoolOp .Or (x :: y :: rest) pos) env) k := by
 intro A E Q s F G J us hA r f hv hk
 refine BoolOp_or (h A E _ s F G J [] hA r f .nil λ v u Eo Er Eu Em Eh Eg z Ey En Es Et => ?_)
 obtain ⟨c,rfl,z⟩ := z
 refine Et.boolE ?_
 refine wpAny_truthy_bool ?_
 induction c using Bool.casesOn with
 | true => exact hk _ _ Eo Er Eu Em Eh Eg z Ey En Es (.bool _)
 | false => exact z A E _ _ Eu G Em [] hA En Es .nil λ b EO Ew Ek EE El Ei Ej EF EA Ep EC Ez => hk b EO Ew Ek EE El Ei Ej EF (Ey.trans EA) Ep EC Ez
end
end
section
open PySem.Spec
variable {d e : Nat}
noncomputable def put (F : PH) (x : Addr) (o : Obj) : PH := λ a => if a = x then some o else F a
theorem Rel.newF {h : Heap} (r : Rel X F G J O h) (ho : o.isFreed = false) :
  Ext F J (put F h.objs.size o) J ∧ Rel X (put F h.objs.size o) G J O (h.push o) := by
 obtain ⟨fF,fG,fρ⟩ := r.fresh
 have keep : ∀ {a o'},h.get? a = some o' → (h.push o).get? a = some o' := λ e => ya9 _ e
 have x : Ext F J (put F h.objs.size o) J := ⟨λ a o' e => by
  unfold put; split
  ·rename_i q; subst q; rw [fF] at e; cases e
  ·exact e,λ Z Z e => e⟩
 refine ⟨x,λ a o' e => x.f _ _ (r.base a o' e),λ a o' e => ?_,λ a o' e => keep (r.g a o' e),λ a o' e => ?_,r.nd,λ a ha => ⟨?_,(r.rf a ha).2⟩,r.len,λ n a m e1 e2 => ?_⟩
 ·unfold put at e; split at e
  ·rename_i q; subst q; obtain rfl := sj e; exact ya8 h ho
  ·exact keep (r.f a o' e)
 ·unfold put; split
  ·rename_i q; subst q; rw [fG] at e; cases e
  ·exact r.fg a o' e
 ·unfold put; split
  ·rename_i q; subst q; exact absurd ha fρ
  ·exact (r.rf a ha).1
 ·obtain ⟨y,hy,hm⟩ := r.m n a m e1 e2
  exact ⟨y,keep hy,hm.mono x⟩
theorem Rel.newH {h : Heap} (r : Rel X F G J O h) {m : MO} (ho : o.isFreed = false) (hm : MR X.prog X.w F J m o) :
  Ext F J F (J ++ [h.objs.size]) ∧ Rel X F G (J ++ [h.objs.size]) (O ++ [m]) (h.push o) ∧ (J ++ [h.objs.size])[O.length]? = some h.objs.size := by
 obtain ⟨fF,fG,fρ⟩ := r.fresh
 have keep : ∀ {a o'},h.get? a = some o' → (h.push o).get? a = some o' := λ e => ya9 _ e
 have x : Ext F J F (J ++ [h.objs.size]) := ⟨λ Z Z e => e,λ n a e => by
  rw [List.getElem?_append_left (List.getElem?_eq_some_iff.mp e).1]; exact e⟩
 have hl : (J ++ [h.objs.size])[O.length]? = some h.objs.size := by rw [← r.len]; simp
 refine ⟨x,⟨r.base,λ a o' e => keep (r.f a o' e),λ a o' e => keep (r.g a o' e),r.fg,?_,λ a ha => ?_,by simp [r.len],λ n a m' e1 e2 => ?_⟩,hl⟩
 ·rw [List.nodup_append]
  exact ⟨r.nd,by simp,λ a ha b hb q => by replace hb := (List.mem_singleton.mp hb).symm; subst hb; exact fρ (q ▸ ha)⟩
 ·rcases List.mem_append.mp ha with ha | ha
  ·exact r.rf a ha
  ·replace ha := (List.mem_singleton.mp ha).symm; subst ha; exact ⟨fF,fG⟩
 ·by_cases hn : n < O.length
  ·rw [List.getElem?_append_left (by rw [r.len]; exact hn)] at e1
   rw [List.getElem?_append_left hn] at e2
   obtain ⟨y,hy,hm⟩ := r.m n a m' e1 e2
   exact ⟨y,keep hy,hm.mono x⟩
  ·by_cases q : n = O.length
   ·subst q
    rw [hl] at e1
    have e2' : (O ++ [m])[O.length]? = some m := by simp
    rw [e2'] at e2
    obtain rfl := sj e1; obtain rfl := sj e2
    exact ⟨o,ya8 h ho,hm.mono x⟩
   ·rw [List.getElem?_eq_none (by simp; lia)] at e2; cases e2
noncomputable def s8 : List V → Option (List Int)
 | [] => some []
 | .int i :: r => (s8 r).map (i :: ·)
 | _ => none
noncomputable def w3 (vs : KN) : V := match s8 vs with
 | some xs => .nums xs
 | none => .lst vs
noncomputable def xZ (vs : KN) : MO := match s8 vs with
 | some xs => .nums xs
 | none => .lst vs
theorem H4 : ∀ {vs : KN} {xs : KM} {us : KK},s8 vs = some xs → VRs P F J vs us → IntsAre us xs := by
 intro vs
 induction vs with
 | nil => intro xs us e r; cases e; cases r; exact .nil
 | cons v r ih =>
  intro xs us e h
  induction v using V.casesOn with
  | int i =>
   refine a9 (map_some (f := (i :: ·)) e) λ ys e' eR2 => ?_
   subst eR2
   cases h with
   | cons a b => exact a.intE λ t => .cons _ _ (ih e' b)
  | _ => cases e
theorem H5 {a : Addr} (r : VRs P F J vs us) (h : F a = some (d7 us.toArray n)) : VR P F J (w3 vs) (.ref a) := by
 unfold w3
 split
 ·rename_i xs e; exact .nums h (H4 e r)
 ·exact .lst h r
theorem md (r : VRs w.params F J vs us) : MR prog w F J (xZ vs) (d7 us.toArray n) := by
 unfold xZ
 split
 ·rename_i xs e; exact .nums (H4 e r)
 ·exact .lst r
section
theorem N5 (hs : vs.length ≤ 100000) (h : k (.tup vs) O) : Op X (RV X) d O vs (λ us => newTuple us) k := by
 intro A E Q s F G J us hA r hv hk
 refine wpAny_newTuple ?_ (by rw [hv.len]; exact ya6 hs (by decide))
 refine i5 (r.newF (o := dK us.toArray 0) rfl) λ x r' => ?_
 exact hk _ _ _ _ _ J O h x r' (.tup (n := 0) (us := us) (o := dK us.toArray 0) (by unfold put; simp) rfl rfl (hv.mono x))
theorem bR (hs : vs.length ≤ 100000) (h : k (w3 vs) O) : Op X (RV X) d O vs (λ us => newList us) k := by
 intro A E Q s F G J us hA r hv hk
 refine wpAny_newList ?_ (by rw [hv.len]; exact ya6 hs (by decide))
 refine i5 (r.newF (o := d7 us.toArray 0) rfl) λ x r' => ?_
 exact hk _ _ _ _ _ J O h x r' (H5 (n := 0) (us := us) (hv.mono x) (by unfold put; simp))
theorem bS (hs : vs.length ≤ 100000) (h : k (.h O.length) (O ++ [xZ vs])) : Op X (RV X) d O vs (λ us => newList us) k := by
 intro A E Q s F G J us hA r hv hk
 refine wpAny_newList ?_ (by rw [hv.len]; exact ya6 hs (by decide))
 refine C2 (r.newH (o := d7 us.toArray 0) rfl (md hv)) λ x r' hl => ?_
 exact hk _ _ _ _ _ _ _ h x r' (.h hl)
end
section
variable {k : KB} {elts : KL}
theorem mf (h : Ev X (RVs X) d env D O [] (λ Z => spliced (backTo pos (starEach elts env))) (λ ws Eg Eh => Op X (RV X) d Eh ws (λ us => newList us) (λ v Ei => k v Eg Ei))) :
  Ev X (RV X) d env D O vs (λ Z => eval (.List elts pos) env) k := by
 intro A E Q s F G J us hA r fm hv hk
 refine List_ (h A E _ s F G J [] hA r fm .nil λ ws xs h' tk' F' ρ' σ' Γ' z x r' f' hr => ?_)
 exact A0 (k := k) z A E Q _ F' G ρ' xs hA r' f' hr λ v u Ew Ek EE El Ei Ej EF EA Ep EC Ez => hk v u Ew Ek EE El Ei Ej EF (x.trans EA) Ep EC Ez
theorem dR {kd : Nat} (h : Ev X (RVs X) d env D O [] (λ Z => spliced (backTo pos (starEach elts env))) (λ ws Eg Eh => Op X (RV X) d Eh ws (λ us => newTuple us) (λ v Ei => k v Eg Ei))) :
  Ev X (RV X) d env D O vs (λ Z => eval (.Tuple elts kd pos) env) k := by
 intro A E Q s F G J us hA r fm hv hk
 refine ya0 (wpAny_standAt (ya0 (h A E _ s F G J [] hA r fm .nil λ ws xs h' tk' F' ρ' σ' Γ' z x r' f' hr => ?_)))
 exact A0 (k := k) z A E Q _ F' G ρ' xs hA r' f' hr λ v u Ew Ek EE El Ei Ej EF EA Ep EC Ez => hk v u Ew Ek EE El Ei Ej EF (x.trans EA) Ep EC Ez
end
end
section
open PySem.Spec
variable {d e : Nat}
noncomputable def m4 (e : Expr) : Bool := e.ctorIdx != 26
theorem g9 {slice : Expr} {o i : Value} (h : m4 slice = true) : subscripted slice false o i = operate [o,i] (getItem o i) := by
 cases slice <;> first | rfl | cases h
section
theorem w8 {value slice : Expr} {o i : Value} {T id : String} {ops : KK} {Q : KA} (hT : s.TypeIs o T)
  (hl : typeLookup (.type T) "__getitem__" = pure (some (.builtin id))) (hs : subscripted slice false o i = operate ops (getItem o i)) (h : wpAny (model prog w) A (getItem o i) Q E s) :
  wpAny (model prog w) A (subscriptTail value slice o i) Q E s := by
 unfold subscriptTail
 refine ya0 ?_
 refine (getitemInPython_of_ne hT.not_modules).symm ▸ ?_
 refine ya0 (wpAny_specialOf hT hl ?_)
 have fin : wpAny (model prog w) A (subscripted slice false o i) (λ r EZ => wpAny (model prog w) A (letTemporaryGo value o r >>= λ Z => pure r) Q E EZ) E s := by
  refine hs.symm ▸ ?_
  exact wpAny_operating (wpAny_mono h (λ r EZ EK => ya0 (wpAny_letTemporaryGo (ya1 EK))) λ Z Z x => x)
 first
  | exact ya1 (ya0 fin)
  | exact ya0 (ya1 (ya0 fin))
  | exact ya0 fin
end
noncomputable def iD : List V → Option (List Str)
 | [] => some []
 | v :: r => (dM v).bind λ i => (iD r).map (i :: ·)
noncomputable def inB (i : Int) (n : Nat) : Bool := decide (0 ≤ i) && decide (i < n) && decide (i < 1000000)
theorem oV (h : inB i n = true) : 0 ≤ i ∧ i < n ∧ i < 1000000 := anB h λ h b3 => anB h λ b1 b2 => ⟨ya3 b1,ya3 b2,ya3 b3⟩
theorem iE {G : Prop} (h : inB i n = true) (k : ∀ j : Nat,i = (j : Int) → j < n → j < 1000000 → G) : G := by
 refine anB h λ h b3 => anB h λ b1 b2 => ?_
 refine i6 (Int.eq_ofNat_of_zero_le (ya3 b1)) λ j e => ?_
 subst e
 exact k j rfl (Int.ofNat_lt.mp (ya3 b2)) (Int.ofNat_lt.mp (ya3 b3))
noncomputable def mh (i : Int) (k : V → Prop) : List V → Nat → Prop
 | [],_ => False
 | v :: r,n => cond (i == (n : Int)) (k v) (mh i k r (n + 1))
noncomputable def mi (vs : KN) (i : Int) (k : V → Prop) : Prop := S9 (iD vs) (λ xs => cond (inB i xs.length) (k (.str (xs.getD i.toNat ⟨#[]⟩))) False) (cond (decide (i < 1000000)) (mh i k vs 0) False)
noncomputable def yr (O : KG) (o : V) (i : Int) (k : V → Prop) : Prop := S9 (lN o) (λ vs => mi vs i k) (S9 (qs o) (λ xs => cond (inB i xs.length && decide (xs.length < 100000)) (k (.int (xs.getD i.toNat 0))) False)
 (S9 (n4 O o) (λ xs => cond (inB i xs.length) (k (.int (xs.getD i.toNat 0))) False) (v7 (dO O o) λ vs => mi vs i k)))
theorem mj {k : V → Prop} : ∀ {vs : KN} {us : KK} {n : Nat},VRs P F J vs us → mh i k vs n → ∃ (j : Nat) (v : V) (u : Value),i = ((n + j : Nat) : Int) ∧ us[j]? = some u ∧ VR P F J v u ∧ k v := by
 intro vs
 induction vs with
 | nil => intro us n _ h; exact h.elim
 | cons v vs ih =>
  intro us n r h
  cases r with
  | @cons _ u _ _ a b =>
   unfold mh at h
   cases q : (i == (n : Int)) with
   | true =>
    rw [q] at h
    exact ⟨0,v,u,by simpa using q,rfl,a,h⟩
   | false =>
    rw [q] at h
    refine AA (ih b h) λ j v u e g r kk => ?_
    exact ⟨j + 1,v,u,by rw [e]; congr 1; (exact Nat.add_right_comm _ _ _),g,r,kk⟩
theorem bT : ∀ {vs : KN} {xs : List Str} {us : KK} {j : Nat},iD vs = some xs → VRs P F J vs us → j < xs.length → ∃ u,us[j]? = some u ∧ VR P F J (.str (xs.getD j ⟨#[]⟩)) u := by
 intro vs
 induction vs with
 | nil => intro xs us j e _ h; cases e; cases h
 | cons v r ih =>
  intro xs us j e q h
  refine a9 (d6 e) λ x hx e => a9 (map_some (f := (x :: ·)) e) λ ys e' eR => ?_
  subst eR
  rw [C6 hx] at q
  cases q with
  | @cons _ u _ _ a b =>
   induction j using Nat.casesOn with
   | zero => exact ⟨u,rfl,a⟩
   | succ j => exact a9 (ih e' b (Nat.lt_of_succ_lt_succ h)) λ u' h1 h2 => ⟨u',h1,h2⟩
theorem dS {k : V → Prop} (r : VRs P F J vs us) (h : mi vs i k) : ∃ (j : Nat) (v : V) (u : Value),i = (j : Int) ∧ j < 1000000 ∧ us[j]? = some u ∧ VR P F J v u ∧ k v := by
 refine k9 h (λ xs e h => i5 (d8 h) λ q h => iE q λ j e1 b2 b3 => ?_) λ h => i5 (d8 h) λ q h => AA (mj r h) λ j v u e g r kk => ?_
 ·subst e1
  exact a9 (bT e r (j := j) b2) λ u h1 h2 => ⟨j,_,u,rfl,b3,h1,h2,h⟩
 ·rw [yc0] at e
  exact ⟨j,v,u,e,Int.ofNat_lt.mp (e ▸ ya3 q),g,r,kk⟩
theorem aA {j : Nat} (q : IntsAre us xs) (h : j < xs.length) : ∃ t,us[j]? = some (.int (xs.getD j 0) t) := by
 induction q generalizing j with
 | nil => exact (Nat.not_lt_zero _ h).elim
 | cons a t r ih =>
  induction j using Nat.casesOn with
  | zero => exact ⟨t,rfl⟩
  | succ j => exact ih (Nat.lt_of_succ_lt_succ h)
section
variable {value slice : Expr} {o : V} {u : Value} {t : Tok} {k : V → Prop}
theorem iF (r : Rel X F G J O s.heap) (ho : VR X.w.params F J o u) (hp : m4 slice = true) (h : yr O o i k) (hQ : ∀ v x tk,k v → VR X.w.params F J v x → Q x { s with toks := tk }) :
  wpAny (model X.prog X.w) A (subscriptTail value slice u (.int i t)) Q E s := by
 have viaList : ∀ {a : Addr} {us : KK} {j : Nat} {v : V} {x : Value},s.heap.IsList a us.toArray → i = (j : Int) → j < 1000000 → us[j]? = some x → VR X.w.params F J v x → k v → wpAny (model X.prog X.w) A (subscriptTail value slice (.ref a) (.int i t)) Q E s := by
  intro a us j v x hl hi hj hx hr hk
  subst hi
  exact w8 hl.typeIs slot_list_getitem.lookup (g9 hp) (wpAny_getItem_list hl (by exact yb0 _) (by lia) (by simpa using hx) (hQ v x s.toks hk hr))
 have viaNums : ∀ {a : Addr} {us : KK} {xs : KM},s.heap.IsList a us.toArray → IntsAre us xs → cond (inB i xs.length) (k (.int (xs.getD i.toNat 0))) False → wpAny (model X.prog X.w) A (subscriptTail value slice (.ref a) (.int i t)) Q E s := λ hl hi h => i5 (d8 h) λ q h => iE q λ j e b2 b3 => by
  subst e
  exact i6 (aA (j := j) hi b2) λ t' ht => viaList hl rfl b3 ht (.int _ _) h
 have viaLst : ∀ {a : Addr} {us : KK} {vs : KN},s.heap.IsList a us.toArray → VRs X.w.params F J vs us → mi vs i k → wpAny (model X.prog X.w) A (subscriptTail value slice (.ref a) (.int i t)) Q E s := by
  intro a us vs hl hi h
  refine AB (dS hi h) λ j v x e hj hx hr hk => ?_
  exact viaList hl e hj hx hr hk
 refine k9 h (λ vs e h => ?_) λ h => k9 h (λ xs e h => ?_) λ h => k9 h (λ xs e h => ?_) λ h => a9 (c9 h) λ vs e h => ?_
 ·rw [A4 e] at ho
  refine ho.tupE λ a us n o f c1 c2 q => AB (dS q h) λ j v x eR3 hj hx hr hk => ?_
  subst eR3
  have ht : IsTup s.heap a us.toArray := ⟨_,r.f _ _ f,c1,_,c2⟩
  have hlen : j < us.length := (List.getElem?_eq_some_iff.mp hx).1
  refine w8 ht.typeIs slot_tuple_getitem.lookup (g9 hp) (getItem_tuple (j := j) ht (yb0 _) (by lia) ?_ (by simpa using hx) (hQ v x s.toks hk hr))
  unfold seqIndex?
  refine List.size_toArray.symm ▸ ?_
  simp only [show ¬ ((j : Int) < 0) from Int.not_lt.mpr (yb0 j),if_false]
  rw [if_pos (by simp only [ya4,ya5]; lia)]
  rfl
 ·rw [N2 e] at ho
  refine i5 (d8 h) λ q h => anB q λ q1 q2 => iE q1 λ j ej b2 b3 => ho.bytE λ b t' e => ?_
  subst e ej
  obtain ⟨l⟩ := b
  have hl : (S6 ⟨l⟩).length = l.length := by unfold S6; rw [yb4]
  have q2 := ya3 q2
  rw [hl] at b2 q2
  refine w8 (typeIs_bytes s ⟨l⟩ t') FB.slot_bytes_getitem.lookup (g9 hp) (getItem_bytes (l := l) (yc1 (yb6 q2 (by decide))) (yb0 j) (Int.ofNat_lt.mpr b2) ?_)
  have hv : (S6 ⟨l⟩).getD j 0 = ((l.getD j 0).toNat : Int) := by
   unfold S6
   rw [yc9,List.getElem?_map,yc9,yb1 b2]
   rfl
  exact hQ _ _ _ (hv ▸ h) (.int _ _)
 ·exact S8 (r.nums ho e) λ a us e1 h1 h2 => e1 ▸ viaNums h1 h2 h
 ·exact S8 (r.lsts ho e) λ a us e1 h1 h2 => e1 ▸ viaLst h1 h2 h
end
section
variable {k : KB}
end
end
section
open PySem.Spec
variable {d e : Nat}
theorem Rel.setH {h h' : Heap} {a : Addr} {m : MO} (r : Rel X F G J O h) (ha : J[n]? = some a) (hs : Heap.SameBut a h h') (ho : h'.get? a = some o) (hm : MR X.prog X.w F J m o) : Rel X F G J (O.set n m) h' := by
 have hmem := yc7 ha
 obtain ⟨q1,q2⟩ := r.rf a hmem
 refine ⟨r.base,λ b o' e => (hs.2 b λ q => ?_).trans (r.f b o' e),λ b o' e => (hs.2 b λ q => ?_).trans (r.g b o' e),r.fg,r.nd,r.rf,by simp [r.len],λ k b m' e1 e2 => ?_⟩
 ·subst q; rw [q1] at e; cases e
 ·subst q; rw [q2] at e; cases e
 ·by_cases hk : k = n
  ·subst hk
   rw [ha] at e1; obtain rfl := sj e1
   have hl : k < O.length := by rw [← r.len]; exact (List.getElem?_eq_some_iff.mp ha).1
   rw [List.getElem?_set_self hl] at e2
   obtain rfl := sj e2
   exact ⟨o,ho,hm⟩
  ·rw [List.getElem?_set_ne (Ne.symm hk)] at e2
   obtain ⟨x,hx,hm⟩ := r.m k b m' e1 e2
   refine ⟨x,(hs.2 b λ q => hk ?_).trans hx,hm⟩
   subst q
   obtain ⟨l1,g1⟩ := List.getElem?_eq_some_iff.mp e1
   obtain ⟨l2,g2⟩ := List.getElem?_eq_some_iff.mp ha
   exact (List.getElem_inj r.nd).mp (g1.trans g2.symm)
noncomputable def qF (P : Params) (name : Str) (tk : Tok) (u : Value) : Option DictEntry → DictEntry
 | some e => { e with val := u }
 | none => ⟨PyData.keyHash P name,.str name tk,u⟩
theorem aB {name : Str} {tk : Tok} {v : Value} {es : List DictEntry} {m : Nat} : ∃ m',Obj.putName name (PyData.keyHash P name) (.str name tk) v (dictOf es m) = dictOf (nsPutIn name.cps.size name.cps.toList (qF P name tk v) es).1 m' := by
 have e : Obj.putName name (PyData.keyHash P name) (.str name tk) v (dictOf es m) = match nsPutIn name.cps.size name.cps.toList (qF P name tk v) es with
  | (es',false) => dictOf es' m
  | (es',true) => dictOf es' (m + 1) := by
  have : (qF P name tk v) = (λ | some e => { e with val := v } | none => ⟨PyData.keyHash P name,.str name tk,v⟩) := by
   funext o; cases o <;> rfl
  rw [this]
  rfl
 refine e.symm ▸ ?_
 split
 ·rename_i es' q; rw [q]; exact ⟨_,rfl⟩
 ·rename_i es' q; rw [q]; exact ⟨_,rfl⟩
noncomputable def uc (name : Str) (v : V) : List (Str × V) → List (Str × V)
 | [] => [(name,v)]
 | (x,u) :: r => if x == name then (x,v) :: r else (x,u) :: uc name v r
theorem ml {name : Str} {u : Value} {tk : Tok} (hv : VR P F J v u) : ∀ {fs : KD} {es : List DictEntry},FRs P F J fs es →
  FRs P F J (uc name v fs) (nsPutIn name.cps.size name.cps.toList (qF P name tk u) es).1 := by
 intro fs
 induction fs with
 | nil => intro es h; cases h; exact .cons hv .nil
 | cons p r ih =>
  intro es h
  cases h with
  | @cons x t w u' _ es a b =>
   unfold uc nsPutIn
   rw [Value.isStrByCps_eq]
   have e1 : (Value.str x t).isStr name = (x == name) := rfl
   refine e1.symm ▸ ?_
   cases q : (x == name) with
   | true => exact .cons hv b
   | false => exact .cons a (ih b)
theorem FRs.norefs : ∀ {fs : KD} {es : List DictEntry},FRs P F J fs es → es.any (·.refKey) = false ∧ es.length = fs.length := by
 intro fs
 induction fs with
 | nil => intro es h; cases h; exact ⟨rfl,rfl⟩
 | cons x fs ih =>
  intro es h
  cases h with
  | cons _ b => exact ⟨by rw [List.any_cons,(ih b).1]; rfl,by rw [yb2,(ih b).2]; rfl⟩
structure SetOK (X : Wd) (C : Addr) (name : Str) : Prop where
 set : findIn X.K (.ref C) "__setattr__" = some (some (.builtin "object.__setattr__"))
 plain : plainOver X.K C = true
 take : takerIn X.K C name = some none
 dict : hasDictIn X.K C = true
theorem mn {prog : Program} {w : World} {K : Frag} {A : Around} {R : Except Value Flow → Shared → Prop} {C x dx : Addr} {name : Str} {tk : Tok} {v : Value} {es : List DictEntry} {m : Nat} (KI : K.In s.heap)
  (p1 : plainOver K C = true) (p2 : takerIn K C name = some none) (p3 : hasDictIn K C = true) (hx : s.heap.get? x = some (instObj C dx)) (hd : s.heap.get? dx = some (dictOf es m)) (nr : es.any (·.refKey) = false) (hsz : es.length ≤ 1000)
  (h : ∀ h' m',Heap.SameBut dx s.heap h' → h'.get? dx = some (dictOf (nsPutIn name.cps.size name.cps.toList (qF w.params name s.toks v) es).1 m') → R (.ok (.ret .none)) { s with heap := h',toks := s.toks + 1 }) :
  codeAny (model prog w) A (.call (.builtin "object.__setattr__") ⟨[.ref x,.str name tk,v],[]⟩) R s := by
 have I : InstAt s.heap x (instObj C dx) C (some (dictOf es m)) := ⟨hx,rfl,rfl,hd⟩
 refine osa_open KI I p1 p2 λ b => ?_
 refine a9 (any_some p3) λ cd hc hd' => ?_
 refine ya0 (ya1 (ya0 (ya0 (wpAny_loadPart hx (ya0 ((looks_clsIn KI hc).here ?_))))))
 refine hd'.symm ▸ ?_
 refine ya1 (a := some dx) (ya0 (ya1 (ya0 ?_)))
 unfold nsSet
 refine ya0 (ya0 (wpAny_askSetting (ya1 (ya0 (wpAny_mkText (ya0 (wpAny_loadPart hd ?_)))))))
 dsimp only
 have c : (!es.toArray.any (·.key.isStr name) && es.toArray.any (·.refKey)) = false := by
  refine Array.any_toList ▸ Array.any_toList ▸ ?_
  rw [nr,Bool.and_false]
 rw [aRefKeyMayBeTheName_at,c]
 refine i6 (aB (P := w.params) (name := name) (tk := s.toks) (v := v) (es := es) (m := m)) λ m' hput => ?_
 have hself : (s.heap.update dx (Obj.putName name (PyData.keyHash w.params name) (.str name s.toks) v)).get? dx = some (dictOf (nsPutIn name.cps.size name.cps.toList (qF w.params name s.toks v) es).1 m') := by
  rw [Heap.get?_update_self _ hd (hput.symm ▸ rfl),hput]
 have hlen : ∀ (f : Option DictEntry → DictEntry) (es : List DictEntry),(nsPutIn name.cps.size name.cps.toList f es).1.length ≤ es.length + 1 := by
  intro f es
  induction es with
  | nil => exact ya7 _
  | cons e r ih =>
   unfold nsPutIn
   split
   ·simp
   ·have : (nsPutIn name.cps.size name.cps.toList f r).1.length + 1 ≤ r.length + 1 + 1 := by exact Nat.succ_le_succ (by assumption)
    exact this
 have hl := hlen (qF w.params name s.toks v) es
 refine wpAny_updatePart hd ?_
 refine ya0 (wpAny_lookBehind hself (pastItsLine_dict (by rw [yb5,sizeLine_eq]; lia)) ?_)
 exact ya1 (h _ _ (yc4 ..) hself)
theorem fu {name : Str} {k : Unit → List MO → Prop} (ok : SetOK X C name) (hs : O[n]? = some (.flds fs)) (hl : fs.length < 900) (h : k () (O.set n (.flds (uc name v fs)))) :
  Op X RU d O [.io C n,v] (λ us => setAttr (us.getD 0 .none) name (us.getD 1 .none)) k := by
 intro A E Q s F G J us hA r hv hk
 refine hv.twoE λ u w hu hw => ?_
 refine hu.ioE λ x dx e hx => ?_
 refine U5 (r.flds e hs) λ es m hd hf => ?_
 have KI : X.K.In s.heap := X.kin.keeps (f8 r)
 have I : InstAt s.heap x (instObj C dx) C (some (dictOf es m)) := ⟨r.f _ _ hx,rfl,rfl,hd⟩
 refine set_plain KI I ok.set ?_
 refine i5 (hf.norefs) λ nr hlen => ?_
 refine mn (s := { s with toks := s.toks + 1 }) KI ok.plain ok.take ok.dict (r.f _ _ hx) hd nr (by lia) λ h' m' hs' ho => ?_
 exact hk () () _ _ F J _ h (.refl F J) (r.setH e hs' ho (.flds (ml (name := name) (tk := s.toks + 1) hw hf))) trivial
theorem U8 {prog : Program} {w : World} {A : Around} {E : KA} {l : Addr} {k : Int} {t : Tok} {v : Value} {Q : Unit → Shared → Prop} (ho : s.heap.get? l = some (d7 us.toArray n))
  (h0 : 0 ≤ k) (hfit : k < 2 ^ 63) (hn : k < us.length)
  (hQ : ∀ h' n',h'.get? l = some (d7 (us.set k.toNat v).toArray n') → Heap.SameBut l s.heap h' → Q () { s with heap := h' }) :
  wpAny (model prog w) A (setItem (.ref l) (.int k t) v) Q E s := by
 have hl : s.heap.IsList l us.toArray := ⟨_,ho,rfl,_,rfl⟩
 have hd : (d7 us.toArray n).data = .seq us.toArray n := rfl
 unfold setItem
 try with_reducible refine wpAny_holding ?_
 first | refine ya0 (ya1 ?_) | skip
 refine ya0 (wpAny_sequenceKey hl.typeIs (by decide) ?_)
 refine ya0 (wpAny_callSpecial?_slot (name := Str.ofString "__setitem__") hl.typeIs slot_list_setitem
  (wpAny_call_entry slot_list_setitem hl.typeIs entry_list_setitem ?_ (args_list_setitem _ _ _)))
 refine (?_ : wpAny _ _ (Builtin.List.listSubscript? (.int k t) >>= _) _ _ s)
 refine ya0 (wpAny_listSubscript_int (fitsIndex_of h0 hfit) ?_)
 clear hfit
 obtain ⟨j,rfl⟩ := Int.eq_ofNat_of_zero_le h0
 have hj : j < us.toArray.size := by rw [yb5]; (exact Int.ofNat_lt.mp (by assumption))
 have hx' : us.toArray[j]? = some us.toArray[j] := Array.getElem?_eq_getElem hj
 refine ya0 (ya0 (wpAny_seqItemAt ho hd (ya1 ?_)))
 refine hx'.symm ▸ ?_
 have hm : Obj.mapSeq (·.setIfInBounds j v) (d7 us.toArray n) = d7 (us.set j v).toArray n := by
  unfold Obj.mapSeq
  simp
 have hfin : (s.heap.update l (Obj.mapSeq (·.setIfInBounds j v))).get? l = some (d7 (us.set j v).toArray n) := by
  rw [Heap.get?_update_self _ ho (by rw [hm]; rfl),hm]
 refine ya0 (wpAny_setSeqItemAt ho hd ?_)
 first
  | exact ya0 (ya1 (ya1 ⟨.none,rfl,ya1 (hQ _ _ hfin (yc4 ..))⟩))
  | exact ya1 ⟨.none,rfl,ya1 (hQ _ _ hfin (yc4 ..))⟩
theorem VRs.set {P : Params} {F : PH} {J : KH} {v : V} {u : Value} (h : VR P F J v u) : ∀ {vs : KN} {us : KK} (j : Nat),VRs P F J vs us → VRs P F J (vs.set j v) (us.set j u) := by
 intro vs
 induction vs with
 | nil => intro us j q; cases q; exact .nil
 | cons x vs ih =>
  intro us j q
  refine q.consE λ u us a b => ?_
  induction j using Nat.casesOn with
  | zero => exact .cons h b
  | succ j => exact .cons a (ih j b)
theorem IntsAre.set {i : Int} {t : Tok} {us : KK} {xs : KM} (j : Nat) (h : IntsAre us xs) : IntsAre (us.set j (.int i t)) (xs.set j i) := by
 induction h generalizing j with
 | nil => exact .nil
 | cons a t b ih =>
  induction j using Nat.casesOn with
  | zero => exact .cons _ _ b
  | succ j => exact .cons a t (ih j)
theorem N6 {v : Int} {k : Unit → List MO → Prop} (hs : O[n]? = some (.nums xs)) (hi : inB i xs.length = true) (h : k () (O.set n (.nums (xs.set i.toNat v)))) :
  Op X RU d O [.h n,.int i,.int v] (λ us => setItem (us.getD 0 .none) (us.getD 1 .none) (us.getD 2 .none)) k := by
 intro A E Q s F G J us hA r hv hk
 refine hv.threeE λ u w y hu hw hy => ?_
 refine hw.intE λ t => ?_
 refine hy.intE λ t' => ?_
 refine hu.hE λ Z ha => ?_
 refine a9 (r.m _ _ _ ha hs) λ o ho hm => ?_
 refine C2 (oV hi) λ b1 b2 b3 => ?_
 cases hm with
 | nums q =>
  refine U8 ho b1 (by exact Int.lt_of_lt_of_le (by assumption) (by decide)) ((IntsAre.len q).symm ▸ b2) λ h' n' ho' hs' => ?_
  exact hk () () _ _ F J _ h (.refl F J) (r.setH ha hs' ho' (.nums (IntsAre.set _ q))) trivial
theorem T0 {xs : KN} {k : Unit → List MO → Prop} (hs : O[n]? = some (.lst xs)) (hi : inB i xs.length = true) (h : k () (O.set n (.lst (xs.set i.toNat v)))) :
  Op X RU d O [.h n,.int i,v] (λ us => setItem (us.getD 0 .none) (us.getD 1 .none) (us.getD 2 .none)) k := by
 intro A E Q s F G J us hA r hv hk
 refine hv.threeE λ u w y hu hw hy => ?_
 refine hw.intE λ t => ?_
 refine hu.hE λ Z ha => ?_
 refine a9 (r.m _ _ _ ha hs) λ o ho hm => ?_
 refine C2 (oV hi) λ b1 b2 b3 => ?_
 cases hm with
 | lst q =>
  refine U8 ho b1 (by exact Int.lt_of_lt_of_le (by assumption) (by decide)) (q.len.symm ▸ b2) λ h' n' ho' hs' => ?_
  exact hk () () _ _ F J _ h (.refl F J) (r.setH ha hs' ho' (.lst (VRs.set hy _ q))) trivial
noncomputable def iG (v : V) : MO → Option MO
 | .nums xs => orE (fk v) (λ i => some (.nums (xs ++ [i]))) (cond xs.isEmpty (some (.lst [v])) none)
 | .lst vs => some (.lst (vs ++ [v]))
 | _ => none
noncomputable def fw : MO → Nat
 | .nums xs => xs.length
 | .lst vs => vs.length
 | _ => 0
theorem IntsAre.snoc {t : Tok} (h : IntsAre us xs) : IntsAre (us ++ [.int i t]) (xs ++ [i]) := by
 induction h with
 | nil => exact .cons _ _ .nil
 | cons a t b ih => exact .cons a t ih
theorem fx {u : Value} {m m' : MO} (hv : VR w.params F J v u) (h : iG v m = some m') (hm : MR prog w F J m o) : ∃ us n,o = d7 us.toArray n ∧ us.length = fw m ∧ ∀ n',MR prog w F J m' (d7 (us ++ [u]).toArray n') := by
 cases hm with
 | @lst vs us n q => cases h; exact ⟨us,n,rfl,q.len,λ n' => .lst (q.append (.cons hv .nil))⟩
 | @nums xs us n q =>
  refine ⟨us,n,rfl,IntsAre.len q,λ n' => ?_⟩
  refine i8 h (λ i e h1 => ?_) λ h1 => cnE h1 (λ e h2 => ?_) λ e h2 => ?_
  ·cases C5 e
   obtain rfl := sj h1
   exact hv.intE λ t => .nums (IntsAre.snoc q)
  ·obtain rfl := sj h2
   cases List.isEmpty_iff.mp e
   cases q
   exact .lst (.cons hv .nil)
  ·cases h2
 | flds q => cases h
 | imap a b => cases h
 | smap a b => cases h
 | tmap a b c d e => cases h
 | ftm a b c d e => cases h
 | emp a b => cases h
 | pin a b => cases h
theorem iH {m m' : MO} (hs : O[n]? = some m) (hp : iG v m = some m') (hl : fw m ≤ 100000) (h : k .none (O.set n m')) :
  Op X (RV X) d O [.h n,v] (λ us => call (.builtin "list.append") us) k := by
 intro A E Q s F G J us hA r hv hk
 refine hv.twoE λ u w hu hw => ?_
 refine hu.hE λ Z ha => ?_
 refine z9 λ G kG => ?_
 refine a9 (r.m _ _ _ ha hs) λ o ho hm => ?_
 refine S8 (fx hw hp hm) λ us Gl eR2 hlen hm' => ?_
 subst eR2
 refine kG ?_
 refine wpAny_list_append_plain ⟨_,ho⟩ (λ h' hp' hs' => ?_) (by rw [yb5,sizeLine_eq]; lia)
 refine i6 (hp') λ n' ho' => ?_
 rw [List.push_toArray] at ho'
 exact hk _ _ h' s.toks F J _ h (.refl F J) (r.setH ha hs' ho' (hm' n')) .none
end
section
open PySem.Spec
variable {d e : Nat}
noncomputable abbrev Asg (X : Wd) (d : Nat) (env : Env) (t : Expr) (v : V) (D : Gam) (O : KG) (k : Unit → Gam → List MO → Prop) : Prop := Ev X RU d env D O [v] (λ us => assign t env (us.getD 0 .none)) k
noncomputable abbrev ud (X : Wd) (d : Nat) (env : Env) (ts : KL) (ws : KN) (D : Gam) (O : KG) (k : Unit → Gam → List MO → Prop) : Prop := Ev X RU d env D O ws (λ us => assignInOrder (ts.map λ t => assign t env) us) k
section
variable {k : Unit → Gam → List MO → Prop}
theorem dT {y : Str} {p : Pos} (hl : env.kindOf y = some .local) (h : k () { D with loc := dL y v D.loc } O) : Asg X d env (.Name y p) v D O k := by
 intro A E Q s F G J us hA r f hv hk
 refine hv.oneE λ u hu => ?_
 exact assign_Name (N0 hl r f hu λ Ew Ek Ep EC => hk () () Ew Ek F J O _ h (.refl F J) Ep EC trivial)
theorem mq {y : Str} {p : Pos} (hl : env.kindOf y = some .cell) (h : k () { D with cel := dL y v D.cel } O) : Asg X d env (.Name y p) v D O k := by
 intro A E Q s F G J us hA r f hv hk
 refine hv.oneE λ u hu => ?_
 refine z9 λ G kG => ?_
 obtain ⟨c,hc⟩ := f.ev.has y hl
 have hm := mem_of_lookup hc
 obtain ⟨c1,c2,c3,c4,Gm,hi⟩ := f.cout y c hm
 refine kG ?_
 refine assign_Name (wpAny_storeName_cell f.kind hl hc hi λ h' hi' hs => ?_)
 have keep : ∀ b o,b ≠ c → s.heap.get? b = some o → h'.get? b = some o := λ b o hb e => (hs.2 b hb).trans e
 have apart : ∀ y' c',(y',c') ∈ env.cells → c' = c → (y',c') = (y,c) := by
  intro y' c' hm' e
  rcases List.mem_iff_getElem.mp hm with ⟨i,hi,ei⟩
  rcases List.mem_iff_getElem.mp hm' with ⟨j,hj,ej⟩
  by_cases q : i = j
  ·subst q; rw [← ei,← ej]
  ·exfalso
   have hp := List.pairwise_iff_getElem.mp f.ev.apart
   rcases Nat.lt_or_gt_of_ne q with l | l
   ·have := hp i j hi hj l; rw [ei,ej] at this; exact this e.symm
   ·have := hp j i hj hi l; rw [ei,ej] at this; exact this e
 refine hk () () h' s.toks F J O _ h (.refl F J) ⟨r.base,λ a o e => keep a o (λ q => by subst q; rw [c1] at e; cases e) (r.f a o e),λ a o e => keep a o (λ q => by subst q; rw [c2] at e; cases e) (r.g a o e),r.fg,r.nd,r.rf,r.len,λ n a o e1 e2 => ?_⟩ ⟨f.glob,f.bilt,f.kind,?_,f.out,λ z w e => ?_,λ z c' e => ?_,f.ev⟩ trivial
 ·refine a9 (r.m n a o e1 e2) λ x hx hm => ?_
  exact ⟨x,keep a x (λ q => by subst q; exact c3 (yc7 e1)) hx,hm⟩
 ·refine z9 λ G kG => ?_
  obtain ⟨m,⟨o,es,ep,ho,q⟩,hm⟩ := f.ns
  refine kG ?_
  exact ⟨m,⟨o,es,ep,keep _ _ (Ne.symm c4) ho,q⟩,hm⟩
 ·rw [A1] at e
  by_cases q : z = y
  ·rw [if_pos q] at e; obtain rfl := sj e; subst q
   exact ⟨c,u,hc,hi',hu⟩
  ·replace e := (if_neg q) ▸ e
   obtain ⟨cz,uz,hcz,⟨o,ho,hd⟩,hr⟩ := f.cel z w e
   refine ⟨cz,uz,hcz,⟨o,keep _ _ (λ e' => ?_) ho,hd⟩,hr⟩
   have := apart z cz (mem_of_lookup hcz) e'
   cases this; exact q rfl
 ·refine z9 λ G kG => ?_
  obtain ⟨a1,a2,a3,a4,v',o,ho,ho'⟩ := f.cout z c' e
  refine kG ?_
  by_cases q : c' = c
  ·subst q; exact ⟨a1,a2,a3,a4,_,hi'⟩
  ·exact ⟨a1,a2,a3,a4,v',o,keep _ _ q ho,ho'⟩
theorem mr {o : Expr} {name : Str} {p : Pos} (h : Ev X (RV X) d env D O [] (λ Z => eval o env) (λ ov Eg Eh => Op X RU d Eh [ov,v] (λ us => setAttr (us.getD 0 .none) name (us.getD 1 .none)) (λ Z Ei => k () Eg Ei))) :
  Asg X d env (.Attribute o name p) v D O k := by
 intro A E Q s F G J us hA r f hv hk
 refine hv.oneE λ u hu => ?_
 refine (?_ : wpAny (model X.prog X.w) A (assign (.Attribute o name p) env u) Q E s)
 rw [assign_Attribute]
 refine ya0 (wpAny_holding (h A E _ s F G J [] hA r f .nil λ ov w Eo Er Eu Em Eh Eg z Ey En Es Et => ?_))
 refine ya0 (wpAny_standAt (ya0 (wpAny_holding ?_)))
 refine A0 (k := λ Z Γ' σ' => k () Γ' σ') z A E _ _ Eu G Em [w,u] hA En Es (.cons Et (.cons (hu.mono Ey) .nil)) λ Z Z Ew Ek EE El Ei Ej EF EA Ep EC Z => ?_
 exact wpAny_release' (hk () () Ew Ek EE El Ei Ej EF (Ey.trans EA) Ep EC trivial)
theorem qG {o i : Expr} {p : Pos} (h : Ev X (RV X) d env D O [] (λ Z => eval o env) (λ ov Eg Eh => Ev X (RV X) d env Eg Eh [ov] (λ Z => eval i env) (λ iv Ej Ei => Op X RU d Ei [ov,iv,v] (λ us => setItem (us.getD 0 .none) (us.getD 1 .none) (us.getD 2 .none)) (λ Z ED => k () Ej ED)))) :
  Asg X d env (.Subscript o i p) v D O k := by
 intro A E Q s F G J us hA r f hv hk
 refine hv.oneE λ u hu => ?_
 refine (?_ : wpAny (model X.prog X.w) A (assign (.Subscript o i p) env u) Q E s)
 rw [assign_Subscript]
 refine ya0 (wpAny_holding (h A E _ s F G J [] hA r f .nil λ ov w Eo Er Eu Em Eh Eg z Ey En Es Et => ?_))
 refine ya0 (wpAny_holding (z A E _ _ Eu G Em [w] hA En Es (.cons Et .nil) λ iv y Ew Ek EE El Ei Ej EF EA Ep EC Ez => ?_))
 refine ya0 (wpAny_standAt (ya0 (wpAny_holding ?_)))
 refine A0 (k := λ Z Γ' σ' => k () Γ' σ') EF A E _ _ EE G El [w,y,u] hA Ep EC (.cons (Et.mono EA) (.cons Ez (.cons (hu.mono (Ey.trans EA)) .nil))) λ Z Z EK ES EL EI ED EH EW ER EN EM Z => ?_
 exact wpAny_release' (hk () () EK ES EL EI ED EH EW ((Ey.trans EA).trans ER) EN EM trivial)
theorem mt (h : k () D O) : ud X d env [] vs D O k := by
 intro A E Q s F G J us hA r f hv hk
 have : assignInOrder (([] : KL).map λ t => assign t env) us = pure () := by cases us <;> rfl
 refine (?_ : wpAny (model X.prog X.w) A (assignInOrder (([] : KL).map λ t => assign t env) us) Q E s)
 refine this.symm ▸ ?_
 exact ya1 (hk () () _ _ F J O D h (.refl F J) r f trivial)
theorem iI {t : Expr} {ts : KL} {ws : KN} (h : Asg X d env t v D O (λ Z Eg Eh => ud X d env ts ws Eg Eh k)) : ud X d env (t :: ts) (v :: ws) D O k := by
 intro A E Q s F G J us hA r f hv hk
 cases hv with
 | @cons _ u _ us hu hus =>
  refine ya0 (wpAny_holding (h A E _ s F G J [u] hA r f (.cons hu .nil) λ Z Z Eo Er Eu Em Eh Eg z Ey En Es Z => ?_))
  exact z A E _ _ Eu G Em us hA En Es (hus.mono Ey) λ Z Z Ew Ek EE El Ei Ej EF EA Ep EC Z => hk () () Ew Ek EE El Ei Ej EF (Ey.trans EA) Ep EC trivial
theorem K7 : ∀ {ts : KL},ts.all j9 = true → (assignEach ts env).map (·.2) = ts.map (λ t => assign t env) ∧ (assignEach ts env).findIdx? (·.1) = none ∧ (assignEach ts env).length = ts.length := by
 intro ts
 induction ts with
 | nil =>
  intro Z
  exact ⟨rfl,rfl,rfl⟩
 | cons t ts ih =>
  intro h
  rw [List.all_cons,ya4] at h
  have e : assignEach (t :: ts) env = (false,assign t env) :: assignEach ts env := by cases t <;> first | rfl | cases h.1
  refine z9 λ G kG => ?_
  refine C2 (ih h.2) λ a b c => ?_
  refine kG ?_
  refine e.symm ▸ ?_
  refine ⟨by rw [yc8,a]; rfl,?_,by rw [yb2,c]; rfl⟩
  rw [List.findIdx?_cons,b]; rfl
theorem Rel.ext {h h' : Heap} (r : Rel X F G J O h) (he : Heap.ExtBut h.objs.size h h') : Rel X F G J O h' := r.keep λ b o e => he b o (yb9 (yb8 e)) e
theorem Fram.keep {h h' : Heap} (f : Fram X env F G J D h) (hk : ∀ b o,h.get? b = some o → h'.get? b = some o) : Fram X env F G J D h' := by
 refine ⟨f.glob,f.bilt,f.kind,?_,f.out,λ y v e => ?_,λ y c hc => ?_,f.ev⟩
 ·obtain ⟨m,⟨o,es,ep,ho,q⟩,hm⟩ := f.ns
  exact ⟨m,⟨o,es,ep,hk _ _ ho,q⟩,hm⟩
 ·obtain ⟨c,u,hc,⟨o,ho,q⟩,hv⟩ := f.cel y v e
  exact ⟨c,u,hc,⟨o,hk _ _ ho,q⟩,hv⟩
 ·obtain ⟨a,b,c,d,v,o,e,e'⟩ := f.cout y c hc
  exact ⟨a,b,c,d,v,o,hk _ _ e,e'⟩
theorem iJ {ts : KL} {x1 : Nat} {p : Pos} {ws : KN} (hs : ts.all j9 = true) (hn : ts.length = ws.length) (h : ud X d env ts ws D O k) : Asg X d env (.Tuple ts x1 p) (.tup ws) D O k := by
 intro A E Q s F G J us hA r f hv hk
 refine hv.oneE λ u hu => ?_
 refine hu.tupE λ a us n o fa c1 c2 q => ?_
 refine C2 (K7 (env := env) hs) λ a1 a2 a3 => ?_
 have ht : s.heap.IsTuple a us.toArray := ⟨_,r.f _ _ fa,c1,_,c2⟩
 refine wpAny_assign_Tuple hA.1 ht (a3.symm ▸ hn.symm ▸ List.size_toArray.symm ▸ q.len.symm ▸ rfl) a2 λ h' he => ?_
 refine a1.symm ▸ ?_
 exact h A E Q { s with heap := h' } F G J us hA (r.ext he) (f.keep λ b o e => he b o (yb9 (yb8 e)) e) q hk
end
section
variable {k : Fl → Gam → List MO → Prop}
theorem bU {t : Expr} {value : Expr} (hs : swapsWithSole [t] value pos.line env = pure false) (hw : swappedStores [t] value env = pure none) (ht : j9 t = true)
  (h : Ev X (RV X) d env D O [] (λ Z => eval value env) (λ v Eg Eh => Asg X d env t v Eg Eh (λ Z Ej Ei => k .next Ej Ei))) : Ev X (RFl X) d env D O vs (λ Z => exec (.Assign [t] value pos) env) k := by
 intro A E Q s F G J us hA r f hv hk
 refine (?_ : wpAny (model X.prog X.w) A (exec (.Assign [t] value pos) env) Q E s)
 rw [exec_Assign]
 refine ya0 (wpAny_standAt ?_)
 refine hs.symm ▸ ?_
 refine ya0 (ya1 ?_)
 rw [if_neg (by decide)]
 refine ya0 (h A E _ s F G J [] hA r f .nil λ v u Eo Er Eu Em Eh Eg z Ey En Es Et => ?_)
 refine hw.symm ▸ ?_
 refine ya0 (ya1 ?_)
 have e : assignEach [t] env = [(false,assign t env)] := by cases t <;> first | rfl | cases ht
 rw [e]
 refine ya0 (z A E _ _ Eu G Em [u] hA En Es (.cons Et .nil) λ Z Z Ew Ek EE El Ei Ej EF EA Ep EC Z => ?_)
 exact ya1 (hk _ _ Ew Ek EE El Ei Ej EF (Ey.trans EA) Ep EC .next)
theorem VRs.reverse {P : Params} {F : PH} {J : KH} {a : KN} : ∀ {x : KK},VRs P F J a x → VRs P F J a.reverse x.reverse := by
 induction a with
 | nil => intro x h; cases h; exact .nil
 | cons v vs ih =>
  intro x h
  refine h.consE λ u us p q => ?_
  rw [List.reverse_cons,List.reverse_cons]
  exact (ih q).append (.cons p .nil)
noncomputable def X9 : List Str → List V → List (Str × V) → List (Str × V)
 | n :: ns,v :: vs,l => X9 ns vs (dL n v l)
 | _,_,l => l
theorem fy {A : Around} {E : KA} {F G : PH} {Q : Unit → Shared → Prop} : ∀ (ns : List Str) (ws : KN) (us : KK) (D : Gam) (s : Shared),(∀ n ∈ ns,env.kindOf n = some .local) → VRs X.w.params F J ws us → ns.length = ws.length →
  Rel X F G J O s.heap → Fram X env F G J D s.heap → (∀ h' tk',Rel X F G J O h' → Fram X env F G J { D with loc := X9 ns ws D.loc } h' → Q () { s with heap := h',toks := tk' }) →
  wpAny (model X.prog X.w) A (assignInOrder (ns.map λ n => bindName env n) us) Q E s := by
 intro ns
 induction ns with
 | nil =>
  intro ws us D s hl hv hn r f h
  cases hv with
  | nil => exact ya1 (h _ _ r f)
  | cons a b => cases hn
 | cons n ns ih =>
  intro ws us D s hl hv hn r f h
  cases hv with
  | nil => cases hn
  | cons a b => exact ya0 (wpAny_holding (wpAny_bindName (N0 (hl n mS) r f a λ Ew Ek Ep EC => ih _ _ _ _ (λ m hm => hl m (mM _ hm)) b (Nat.succ.inj hn) Ep EC h)))
theorem T1 {ts : KL} {x1 : Nat} {p : Pos} {value : Expr} {names : List Str} (hs : swapsWithSole [.Tuple ts x1 p] value pos.line env = pure false) (hw : swappedStores [.Tuple ts x1 p] value env = pure (some names))
  (hl : ∀ n ∈ names.reverse,env.kindOf n = some .local)
  (h : Ev X (RV X) d env D O [] (λ Z => eval value env) (λ v Eg Eh => ∃ ws,v = .tup ws ∧ names.length = ws.length ∧ k .next { Eg with loc := X9 names.reverse ws.reverse Eg.loc } Eh)) :
  Ev X (RFl X) d env D O vs (λ Z => exec (.Assign [.Tuple ts x1 p] value pos) env) k := by
 intro A E Q s F G J us hA r f hv hk
 refine Assign_Tuple_swapped ?_ hs hw
 refine h A E _ s F G J [] hA r f .nil λ v u Eo Er Eu Em Eh Eg z Ey En Es Et => ?_
 refine z9 λ G kG => ?_
 obtain ⟨ws,rfl,hn,z⟩ := z
 refine kG ?_
 refine Et.tupE λ a us n o fa c1 c2 q => ?_
 have ht : ({ s with heap := Eo,toks := Er } : Shared).heap.IsTuple a us.toArray := ⟨_,En.f _ _ fa,c1,_,c2⟩
 rw [show names.length = us.toArray.size by rw [hn,yb5,q.len]]
 refine wpAny_unpackItems_tuple hA.1 ht λ h' he => ?_
 exact fy _ _ us.reverse _ { s with heap := h',toks := Er } hl q.reverse (List.length_reverse.symm ▸ List.length_reverse.symm ▸ hn.symm ▸ rfl) (En.ext he) (Es.keep λ b o e => he b o (yb9 (yb8 e)) e) λ Ew Ek Ep EC => hk _ _ Ew Ek Eu Em Eh _ z Ey Ep EC .next
end
end
section
open PySem.Spec
variable {d e : Nat}
noncomputable def J7 (own : KH) (F G : PH) (J : KH) (h : Heap) : Prop := ∀ a ∈ own,F a = none ∧ G a = none ∧ a ∉ J ∧ ∃ o,h.get? a = some o
structure Iter (X : Wd) (target : Expr) (I : Value) (own : KH) (vals : KN) (St : Nat → Heap → Prop) (EJ : PH) (EB : KH) : Prop where
 frame : ∀ (i : Nat) (h h' : Heap),St i h → (∀ b ∈ own,∀ o,h.get? b = some o → h'.get? b = some o) → (∀ b o,EJ b = some o → h.get? b = some o ∧ h'.get? b = some o) → St i h'
 next : ∀ (i : Nat) (v : V) (A : Around) (E : KA) (Q : KA) (s : Shared) (F G : PH) (J : KH) (O : KG),A.handled = none → vals[i]? = some v → Ext EJ EB F J → Rel X F G J O s.heap → J7 own F G J s.heap → St i s.heap →
  (∀ (u : Value) (h' : Heap) (tk : Nat) (F' : PH),Ext F J F' J → Rel X F' G J O h' → J7 own F' G J h' → VR X.w.params F' J v u → St (i + 1) h' → (∀ b o,b ∉ own → s.heap.get? b = some o → h'.get? b = some o) → (∀ a o,F' a = some o → F a = some o ∨ s.heap.get? a = none) → Q u { s with heap := h',toks := tk }) →
  wpAny (model X.prog X.w) A (pyNext I) (λ r EG => ∃ u,r = some u ∧ ∀ E',wpAny (model X.prog X.w) A (letOwnedTupleGo target I u) (λ Z EP => Q u EP) E' EG) E s
 done : ∀ (A : Around) (E : KA) (Q : Shared → Prop) (s : Shared) (F G : PH) (J : KH) (O : KG),A.handled = none → Ext EJ EB F J → Rel X F G J O s.heap → J7 own F G J s.heap → St vals.length s.heap →
  (∀ (h' : Heap) (tk : Nat),Rel X F G J O h' → (∀ b o,b ∉ own → s.heap.get? b = some o → h'.get? b = some o) → Q { s with heap := h',toks := tk }) →
  wpAny (model X.prog X.w) A (pyNext I) (λ r EG => r = none ∧ Q EG) E s
noncomputable def qH (X : Wd) (d : Nat) (env : Env) (target : Expr) (body : List Stmt) (k : Fl → Gam → List MO → Prop) : List V → Gam → List MO → Prop
 | [],D,O => k .next D O
 | v :: vs,D,O => Asg X d env target v D O (λ Z Eg Eh => Ev X (RFl X) d env Eg Eh [] (λ Z => execs body env) (λ fl Ej Ei => match fl with
  | .next => qH X d env target body k vs Ej Ei
  | .cont => qH X d env target body k vs Ej Ei
  | .brk => k .next Ej Ei
  | .ret v => k (.ret v) Ej Ei))
theorem Rel.freeKeep {h h' : Heap} {own : KH} (r : Rel X F G J O h) (fr : J7 own F G J h) (hk : ∀ b o,b ∉ own → h.get? b = some o → h'.get? b = some o) : Rel X F G J O h' := by
 refine ⟨r.base,λ a o e => hk a o (λ q => ?_) (r.f a o e),λ a o e => hk a o (λ q => ?_) (r.g a o e),r.fg,r.nd,r.rf,r.len,λ n a o e1 e2 => ?_⟩
 ·rw [(fr a q).1] at e; cases e
 ·rw [(fr a q).2.1] at e; cases e
 ·obtain ⟨y,hy,hm⟩ := r.m n a o e1 e2
  exact ⟨y,hk a y (λ q => (fr a q).2.2.1 (yc7 e1)) hy,hm⟩
theorem Fram.keep' {h h' : Heap} {own : KH} (f : Fram X env F G J D h) (fo : ∀ a ∈ own,a ∉ e9 env) (hk : ∀ b o,b ∉ own → h.get? b = some o → h'.get? b = some o) : Fram X env F G J D h' := by
 have hL : env.locals ∉ own := λ q => fo _ q mS
 have hC : ∀ {x c},(x,c) ∈ env.cells → c ∉ own := λ hc q => fo _ q (mM _ (List.mem_map.mpr ⟨_,hc,rfl⟩))
 refine ⟨f.glob,f.bilt,f.kind,?_,f.out,λ y v e => ?_,λ y c hc => ?_,f.ev⟩
 ·obtain ⟨m,⟨o,es,ep,ho,q⟩,hm⟩ := f.ns
  exact ⟨m,⟨o,es,ep,hk _ _ hL ho,q⟩,hm⟩
 ·obtain ⟨c,u,hc,⟨o,ho,q⟩,hv⟩ := f.cel y v e
  exact ⟨c,u,hc,⟨o,hk _ _ (hC (mem_of_lookup hc)) ho,q⟩,hv⟩
 ·obtain ⟨a,b,c,d,v,o,e,e'⟩ := f.cout y c hc
  exact ⟨a,b,c,d,v,o,hk _ _ (hC hc) e,e'⟩
theorem Fram.more {F F' G : PH} {J ρ' : KH} {h : Heap} (f : Fram X env F G J D h) (x : Ext F J F' ρ') (hn : ∀ a ∈ e9 env,F' a = none ∧ a ∉ ρ') : Fram X env F' G ρ' D h := by
 have hL : env.locals ∈ e9 env := mS
 have hC : ∀ {x c},(x,c) ∈ env.cells → c ∈ e9 env := λ hc => mM _ (List.mem_map.mpr ⟨_,hc,rfl⟩)
 refine ⟨f.glob,f.bilt,f.kind,?_,⟨(hn _ hL).1,f.out.2.1,(hn _ hL).2⟩,λ y v e => ?_,λ y c hc => ?_,f.ev⟩
 ·obtain ⟨m,q,hm⟩ := f.ns
  exact ⟨m,q,λ y v e => let ⟨u,a,b⟩ := hm y v e; ⟨u,a,b.mono x⟩⟩
 ·obtain ⟨c,u,hc,hi,hv⟩ := f.cel y v e
  exact ⟨c,u,hc,hi,hv.mono x⟩
 ·obtain ⟨a,b,c,d,e⟩ := f.cout y c hc
  exact ⟨(hn _ (hC hc)).1,b,(hn _ (hC hc)).2,d,e⟩
inductive ForI (X : Wd) (d : Nat) (env : Env) (target : Expr) (body : List Stmt) (k : Fl → Gam → List MO → Prop) (vals : KN) (St : Nat → Heap → Prop) (own : KH) (EJ G : PH) (EB : KH) (s : Shared) : Nat → Shared → Prop
 | mk (i : Nat) (h' : Heap) (tk : Nat) (F : PH) (J : KH) (O : KG) (D : Gam) : i ≤ vals.length → Ext EJ EB F J → Rel X F G J O h' → Fram X env F G J D h' → J7 own F G J h' → St i h' → qH X d env target body k (vals.drop i) D O →
  ForI X d env target body k vals St own EJ G EB s (vals.length - i) { s with heap := h',toks := tk }
theorem mu {target : Expr} {body : List Stmt} {I : Value} {own : KH} {vals : KN} {St : Nat → Heap → Prop} {A : Around} {s : Shared} {EJ G : PH} {EB : KH} {R : Result → Shared → Prop} {k : Fl → Gam → List MO → Prop}
  (hA : C3 d A) (it : Iter X target I own vals St EJ EB) (r : Rel X EJ G EB O s.heap) (f : Fram X env EJ G EB D s.heap) (fr : J7 own EJ G EB s.heap) (fo : ∀ a ∈ own,a ∉ e9 env) (st : St 0 s.heap) (h : qH X d env target body k vals D O)
  (hk : ∀ (fl : Fl) (u : Flow) (h' : Heap) (tk' : Nat) (F' : PH) (ρ' : KH) (σ' : KG) (Γ' : Gam),k fl Γ' σ' → Ext EJ EB F' ρ' → Rel X F' G ρ' σ' h' → Fram X env F' G ρ' Γ' h' → RF X.w.params F' ρ' fl u → R (.ok u) { s with heap := h',toks := tk' }) :
  codeAny (model X.prog X.w) A (.forLoop target I body [] env) R s := by
 refine codeAny_forLoop_any (ForI X d env target body k vals St own EJ G EB s) ?_ vals.length (.mk 0 s.heap s.toks EJ EB O D (Nat.zero_le _) (.refl _ _) r f fr st h)
 clear r f fr st h
 intro n s' hI
 rcases hI with ⟨i,h',tk,F,J,O,D,hi,x,r,f,fr,st,hK⟩
 by_cases hlt : i < vals.length
 ·have hv : vals[i]? = some vals[i] := yb1 hlt
  have hdrop : vals.drop i = vals[i] :: vals.drop (i + 1) := List.drop_eq_getElem_cons hlt
  replace hK := hdrop ▸ hK
  refine wpAny_mono (it.next i _ A _ (λ u EP => wpAny (model X.prog X.w) A (assign target env u) (λ Z EZ => wpAny (model X.prog X.w) A (execs body env) (λ f Fk => match f with
    | .next | .cont => ∃ m,m < vals.length - i ∧ ForI X d env target body k vals St own EJ G EB s m Fk
    | .brk => R (.ok .next) Fk
    | .ret v => R (.ok (.ret v)) Fk) (notedBy (model X.prog X.w) A env λ e s' => R (.error e) s') EZ) (notedBy (model X.prog X.w) A env λ e s' => R (.error e) s') EP) { s with heap := h',toks := tk } F G J O hA.1 hv x r fr st λ u Eo Er Eu Ey En Fj hu Fv ET Ft => ?_) (λ o EG q => ?_) λ Z Z e => e
  rotate_left
  ·obtain ⟨u,rfl,q⟩ := q
   exact q _
  ·have as := f.as
   have nn : ∀ a ∈ e9 env,Eu a = none := λ a ha => by
    cases e : Eu a with
    | none => rfl
    | some o =>
     rcases Ft a o e with q | q
     ·rw [(as.1 a ha).1] at q; cases q
     ·obtain ⟨o',q'⟩ := as.2 a ha
      have q'' : h'.get? a = some o' := q'
      have q3 : h'.get? a = none := q
      replace q3 := q'' ▸ q3
      cases q3
   have Es : Fram X env Eu G J D Eo := (f.keep' fo ET).more Ey λ a ha => ⟨nn a ha,(as.1 a ha).2⟩
   have gA : ∀ a ∈ own,Eu a = none ∧ a ∉ J := λ a ha => ⟨(Fj a ha).1,(Fj a ha).2.2.1⟩
   have gS : ∀ a ∈ own,∃ o,Eo.get? a = some o := λ a ha => (Fj a ha).2.2.2
   have rG := En.guard gA gS
   have fG : Fram X env Eu (Mine.Internal.guard own Eo G) J D Eo := by
    refine ⟨Es.glob,Es.bilt,Es.kind,Es.ns,⟨Es.out.1,?_,Es.out.2.2⟩,Es.cel,λ y c hc => ?_,Es.ev⟩
    ·unfold Mine.Internal.guard; rw [if_neg (λ q => fo _ q mS)]; exact Es.out.2.1
    ·refine xX (Es.cout y c hc) λ a b c' d e => ?_
     refine ⟨a,?_,c',d,e⟩
     unfold Mine.Internal.guard; rw [if_neg (λ q => fo _ q (mM _ (List.mem_map.mpr ⟨_,hc,rfl⟩)))]; exact b
   have back : ∀ {EL : PH} {EI : KH} {ED : KG} {EH : Gam} {EK : Heap},Ext Eu J EL EI → Rel X EL (Mine.Internal.guard own Eo G) EI ED EK → Fram X env EL (Mine.Internal.guard own Eo G) EI EH EK →
     Ext EJ EB EL EI ∧ Rel X EL G EI ED EK ∧ Fram X env EL G EI EH EK ∧ J7 own EL G EI EK ∧ St (i + 1) EK := by
    intro EL EI ED EH EK ER EN EM
    have x03 : Ext EJ EB EL EI := (x.trans Ey).trans ER
    refine ⟨x03,En.unguard EN gS,⟨EM.glob,EM.bilt,EM.kind,EM.ns,⟨EM.out.1,Es.out.2.1,EM.out.2.2⟩,EM.cel,λ y c hc => ?_,EM.ev⟩,λ a ha => ?_,it.frame _ _ _ Fv (λ b hb o e => r7 EN hb e) λ b o e => ⟨En.f b o ((x.trans Ey).f b o e),EN.f b o (x03.f b o e)⟩⟩
    ·refine xX (EM.cout y c hc) λ a b c' d e => ?_
     exact ⟨a,(Es.cout y c hc).2.1,c',d,e⟩
    ·refine i6 (gS a ha) λ o e => ?_
     refine i5 (u7 EN ha e) λ q1 q2 => ?_
     exact ⟨q1,(Fj a ha).2.1,q2,o,r7 EN ha e⟩
   refine hK A _ _ { s with heap := Eo,toks := Er } Eu (Mine.Internal.guard own Eo G) J [u] hA rG fG (.cons hu .nil) λ Z Z Ew Ek EE El Ei Ej EF EA Ep EC Z => ?_
   refine EF A _ _ { s with heap := Ew,toks := Ek } EE (Mine.Internal.guard own Eo G) El [] hA Ep EC .nil λ fl w EK ES EL EI ED EH EW ER EN EM hw => ?_
   refine xX (back (EA.trans ER) EN EM) λ b1 b2 b3 b4 b5 => ?_
   have again : qH X d env target body k (vals.drop (i + 1)) EH ED → ∃ m,m < vals.length - i ∧ ForI X d env target body k vals St own EJ G EB s m { s with heap := EK,toks := ES } :=
    λ hK' => ⟨vals.length - (i + 1),by omega,.mk (i + 1) EK ES EL EI ED EH hlt b1 b2 b3 b4 b5 hK'⟩
   cases hw with
   | next => exact again EW
   | cont => exact again EW
   | brk => exact hk .next .next EK ES EL EI ED EH EW b1 b2 b3 .next
   | ret q => exact hk (.ret _) (.ret _) EK ES EL EI ED EH EW b1 b2 b3 (.ret q)
 ·have hi' : i = vals.length := by exact Nat.le_antisymm (by assumption) (Nat.le_of_not_lt (by assumption))
  subst hi'
  rw [List.drop_length] at hK
  refine wpAny_mono (it.done A _ (λ EG => wpAny (model X.prog X.w) A (execs [] env) (λ f EZ => R (.ok f) EZ) (notedBy (model X.prog X.w) A env λ e s' => R (.error e) s') EG) { s with heap := h',toks := tk } F G J O hA.1 x r fr st λ Eo Er En ET => ?_) (λ o EG q => ?_) λ Z Z e => e
  ·exact wpAny_execs_nil (hk .next .next Eo Er F J O D hK x En (f.keep' fo ET) .next)
  ·obtain ⟨rfl,q⟩ := q
   exact q
end
section
open PySem.Spec
variable {d e : Nat}
noncomputable def U9 : Around := { depth := 0,handled := none,units := 0 }
noncomputable def m6 (e : Expr) : Bool := e.ctorIdx == 23
theorem AJ {target : Expr} {it v : Value} (h : m6 target = true) : letOwnedTupleGo target it v = pure () := by
 cases target <;> first | rfl | cases h
theorem V0 {M : Model} {Q : Unit → Shared → Prop} (h : Q () s) : wpAny M A (pure ()) Q E s := ya1 h
theorem VRs.at {u : Value} : ∀ {vs : KN} {us : KK} {i : Nat},VRs P F J vs us → vs[i]? = some v → us[i]? = some u → VR P F J v u := by
 intro vs
 induction vs with
 | nil => intro us i q e; cases e
 | cons x vs ih =>
  intro us i q e1 e2
  revert e2
  refine q.consE λ w us a b e2 => ?_
  induction i using Nat.casesOn with
  | zero => exact sj e1 ▸ sj e2 ▸ a
  | succ i => exact ih b e1 e2
theorem Y0 {target : Expr} {I : Addr} {own fp wr : KH} {n : Nat} {P : Nat → Value → Prop} {St : Nat → Heap → Prop} {vals : KN} {EJ : PH} {EB : KH} (ht : m6 target = true)
  (W : ∀ A : Around,A.handled = none → Walks X.prog X.w A I fp wr n P St) (hn : vals.length = n) (hw : ∀ b ∈ wr,b ∈ own) (hfp : ∀ b ∈ fp,b ∈ own ∨ ∃ o,EJ b = some o)
  (hP : ∀ (i : Nat) (v : V) (u : Value),vals[i]? = some v → P i u → VR X.w.params EJ EB v u) (hI : ∀ i h,St i h → ∀ b ∈ own,∃ o,h.get? b = some o) : Iter X target (.ref I) own vals St EJ EB where
 frame := λ i h h' st hk hF => (W U9 rfl).frame i h h' st λ b hb o e => by
  rcases hfp b hb with q | ⟨o',q⟩
  ·exact hk b q o e
  ·refine i5 (hF b o' q) λ q1 q2 => ?_
   rw [q1] at e; obtain rfl := sj e; exact q2
 next := λ i v A E Q s F G J O hh hv x r fr st hQ => by
  have hi : i < n := by rw [← hn]; exact (List.getElem?_eq_some_iff.mp hv).1
  refine (W A hh).item i s _ E hi st λ u h' tk hp st' hk => ⟨u,rfl,λ E' => ?_⟩
  rw [AJ ht]
  have hk' : ∀ b o,b ∉ own → s.heap.get? b = some o → h'.get? b = some o := λ b o hb e => hk b o (λ q => hb (hw b q)) e
  refine V0 (hQ u h' tk F (.refl F J) (r.freeKeep fr hk') (λ a ha => ?_) ((hP i v u hv hp).mono x) st' hk' λ a o e => .inl e)
  refine L7 (fr a ha) λ a1 a2 a3 a4 => ?_
  exact ⟨a1,a2,a3,hI _ _ st' a ha⟩
 done := λ A E Q s F G J O hh x r fr st hQ => by
  rw [hn] at st
  exact (W A hh).done s _ E st λ h' tk hk => ⟨rfl,hQ h' tk (r.freeKeep fr λ b o hb e => hk b o (λ q => hb (hw b q)) e) λ b o hb e => hk b o (λ q => hb (hw b q)) e⟩
end
section
open PySem.Spec
variable {d e : Nat}
namespace FF
theorem s9 : Manifest.owners.lookup (String.ofList ['r','o','t','a','r','e','t','i','_','s','e','t','y','b'].reverse) = some Manifest.sig_bytes_iterator := by kernel_rfl
theorem slot_bytes_iterator_next : Slot "bytes_iterator" "__next__" "bytes_iterator.__next__" :=
 .of (owner := "bytes_iterator") (n := "__next__") (by rw [typeLookup_type,builtinLookup_eq_fast]; kernel_rfl) (by decide +kernel) (by decide +kernel) (by decide +kernel)
  (by first | exact .inl (by decide +kernel) | exact .inr (by decide +kernel)) (by rw [isSubtype_type]; kernel_rfl)
theorem entry_bytes_iterator_next : entryFor table "bytes_iterator.__next__" = some Builtin.«bytes_iterator.__next__» := entryFor_of_tree (by kernel_rfl)
theorem args_bytes_iterator_next_1 (a : Value) : argsOk "bytes_iterator.__next__" ⟨[a],[]⟩ := by
 unfold argsOk; rw [signature?_of (id := "bytes_iterator.__next__") (n := ['_','_','t','x','e','n','_','_']) (o := ['r','o','t','a','r','e','t','i','_','s','e','t','y','b']) (by kernel_rfl) s9]; kernel_rfl
theorem slot_bytes_iterator_iter : Slot "bytes_iterator" "__iter__" "bytes_iterator.__iter__" :=
 .of (owner := "bytes_iterator") (n := "__iter__") (by rw [typeLookup_type,builtinLookup_eq_fast]; kernel_rfl) (by decide +kernel) (by decide +kernel) (by decide +kernel)
  (by first | exact .inl (by decide +kernel) | exact .inr (by decide +kernel)) (by rw [isSubtype_type]; kernel_rfl)
theorem entry_bytes_iterator_iter : entryFor table "bytes_iterator.__iter__" = some Builtin.«dict_keyiterator.__iter__» :=
 entryFor_alias (id' := "dict_keyiterator.__iter__") (by kernel_rfl) rfl (by decide +kernel) (by kernel_rfl)
theorem args_bytes_iterator_iter_1 (a : Value) : argsOk "bytes_iterator.__iter__" ⟨[a],[]⟩ := by
 unfold argsOk; rw [signature?_of (id := "bytes_iterator.__iter__") (n := ['_','_','r','e','t','i','_','_']) (o := ['r','o','t','a','r','e','t','i','_','s','e','t','y','b']) (by kernel_rfl) s9]; kernel_rfl
end FF
noncomputable def j2 (h : Heap) (a : Addr) (b : Array UInt8) (t : Tok) (i : Nat) : Prop := ∃ o,h.get? a = some o ∧ o.cls = .type "bytes_iterator" ∧ o.data = .fields #[.bytes b t,.int i 0]
theorem j2.typeIs {a b t i} (y : j2 s.heap a b t i) : s.TypeIs (.ref a) "bytes_iterator" := let ⟨o,ho,hc,_⟩ := y; ⟨o,ho,hc⟩
section
theorem C7 {b : Array UInt8} {t : Tok} {Q : KA}
  (hQ : Q (.ref s.heap.objs.size) { s with heap := s.heap.push { cls := .type "bytes_iterator", data := .fields #[.bytes b t,.int 0 0] } }) :
  wpAny (model prog w) A (pyIter (.bytes b t)) Q E s := by
 refine wpAny_pyIter_slot (typeIs_bytes s b t) FB.slot_bytes_iter (wpAny_call_entry FB.slot_bytes_iter (typeIs_bytes s b t) FB.entry_bytes_iter ?_ (FB.args_bytes_iter_1 _))
 refine (?_ : wpAny _ _ (do ret (← newFields "bytes_iterator" [.bytes b t,rawInt 0])) _ _ s)
 exact ya0 (wpAny_newObj_type (ya1 ⟨_,rfl, "bytes_iterator", _,⟨_,ya8 _ rfl,rfl⟩,FF.slot_bytes_iterator_next.lookup,hQ⟩))
theorem fA {it : Addr} {b : Array UInt8} {t : Tok} {i : Nat} {c : UInt8} {Q : Option Value → Shared → Prop} (hit : j2 s.heap it b t i) (hx : b[i]? = some c)
  (hQ : ∀ h',j2 h' it b t (i + 1) → Heap.SameBut it s.heap h' → Q (some (.int c.toNat s.toks)) { s with heap := h',toks := s.toks + 1 }) :
  wpAny (model prog w) A (pyNext (.ref it)) Q E s := by
 refine lL (id hit) λ o ho hc hd => ?_
 unfold pyNext
 refine ya0 (wpAny_attempt (wpAny_callSpecial?_slot (name := Str.ofString "__next__") hit.typeIs FF.slot_bytes_iterator_next
  (wpAny_call_entry FF.slot_bytes_iterator_next hit.typeIs FF.entry_bytes_iterator_next ?_ (FF.args_bytes_iterator_next_1 _))))
 refine (?_ : wpAny _ _ (field (.ref it) 0 >>= _) _ _ s)
 refine ya0 (wpAny_field ho hd (x := .bytes b t) rfl ?_)
 refine ya0 (wpAny_field ho hd (x := .int i 0) rfl ?_)
 refine ya0 (wpAny_of_eq (a := b) (by rfl) ?_)
 rw [Int.toNat_natCast,hx]
 refine ya0 (wpAny_setField ho hd (by simp) (ya0 (wpAny_mkInt (ya1 ⟨_,rfl,ya1 (hQ _ ?_ (yc4 ..))⟩))))
 exact ⟨_,Heap.get?_update_self _ ho (Obj.isFreed_of_fields (Obj.data_mapFields hd _)),(Obj.cls_mapFields ..).trans hc,by
  rw [Obj.data_mapFields hd]; simp [rawInt]⟩
theorem T2 {it : Addr} {b : Array UInt8} {t : Tok} {i : Nat} {Q : Option Value → Shared → Prop} (hh : A.handled = none)
  (hit : j2 s.heap it b t i) (hx : b[i]? = none)
  (hQ : ∀ h',Heap.ExtBut it s.heap h' → Q none { s with heap := h' }) : wpAny (model prog w) A (pyNext (.ref it)) Q E s := by
 refine lL (id hit) λ o ho hc hd => ?_
 unfold pyNext
 refine ya0 (wpAny_attempt (wpAny_callSpecial?_slot (name := Str.ofString "__next__") hit.typeIs FF.slot_bytes_iterator_next
  (wpAny_call_entry FF.slot_bytes_iterator_next hit.typeIs FF.entry_bytes_iterator_next ?_ (FF.args_bytes_iterator_next_1 _))))
 refine (?_ : wpAny _ _ (field (.ref it) 0 >>= _) _ _ s)
 refine ya0 (wpAny_field ho hd (x := .bytes b t) rfl ?_)
 refine ya0 (wpAny_field ho hd (x := .int i 0) rfl ?_)
 refine ya0 (wpAny_of_eq (a := b) (by rfl) ?_)
 simp only [Int.toNat_natCast,hx]
 refine ya0 (wpAny_rule (ya0 (wpAny_setField ho hd (by simp) ?_)))
 refine ya0 ?_
 simp only [newExc,newTuple]
 refine ya0 (wpAny_newObj_type ?_ (by size_fits))
 refine ya0 (m := firstArgMember _ _) (wpAny_of_eq (a := Value.none) (by first | rfl | (simp only [firstArgMember]; rfl)) ?_)
 refine wpAny_newObj_type ?_ (by size_fits)
 dsimp only
 refine ya0 (wpAny_handled ?_)
 rw [show A.in1.handled = none from hh]
 refine ya0 (ya1 (wpAny_throw ?_))
 refine ya0 (wpAny_isInstance (T := "StopIteration") (b := true) ⟨_,ya8 _ rfl,rfl⟩ isSubtype_stop ?_)
 exact ya1 (hQ _ (((yc4 ..).extBut.push _).push _))
theorem T3 {it : Addr} {b : Array UInt8} {t : Tok} {i : Nat} (hit : j2 s.heap it b t i) (h : Q (.ref it) s) :
  wpAny (model prog w) A (pyIter (.ref it)) Q E s := by
 refine wpAny_pyIter_slot hit.typeIs FF.slot_bytes_iterator_iter (wpAny_call_entry FF.slot_bytes_iterator_iter hit.typeIs FF.entry_bytes_iterator_iter ?_ (FF.args_bytes_iterator_iter_1 _))
 exact ya1 ⟨_,rfl, "bytes_iterator", _,hit.typeIs,FF.slot_bytes_iterator_next.lookup,h⟩
end
theorem bV {prog : Program} {w : World} (hh : A.handled = none) (I : Addr) (b : Array UInt8) (t : Tok) :
  Walks prog w A I [I] [I] b.size (λ i v => ∃ c u,b[i]? = some c ∧ v = .int (c.toNat : Int) u) (λ i h => j2 h I b t i) where
 sub := λ Z hb => hb
 frame := λ Z Z Z st hk => let ⟨o,ho,r⟩ := st; ⟨o,hk I (by simp) o ho,r⟩
 item := λ i s Q E hi st hQ => by
  refine fA st (c := b[i]) (by simp [hi]) λ h' hit' hs' => ?_
  exact hQ _ h' (s.toks + 1) ⟨_,_,by simp [hi],rfl⟩ hit' λ b o hb e => hs'.extBut b o (λ h => hb (by simp [h])) e
 done := λ s Q E st hQ => T2 hh st (by simp) λ h' he' => hQ h' s.toks λ b o hb e => he' b o (λ h => hb (by simp [h])) e
 self := λ Z Z Z Z st hQ => T3 st hQ
end
section
open PySem.Spec
variable {d e : Nat}
noncomputable def N7 (a b : Int) : List V := (List.range (b - a).toNat).map λ i => .int (a + (i : Nat))
noncomputable def AK (v : V) : Option (Int × Int) := ifc λ c : v.ctorIdx = 12 => V.rng.elim (motive_1 := λ Z => Option (Int × Int)) v c λ a b => some (a,b)
theorem qI {x : (Int × Int)} (h : AK v = some x) : v = .rng x.1 x.2 := by
 refine i6 (g6 h) λ c h => ?_
 exact V.rng.elim (motive_1 := λ v => ∀ c,V.rng.elim (motive_1 := λ Z => Option (Int × Int)) v c (λ a b => some (a,b)) = some x → v = .rng x.1 x.2) v c (λ a b c h => by obtain rfl := sj h; exact rfl) c h
noncomputable def M1 (v : V) : Option (List V) := orE (xY v) (λ xs => some (xs.map .int)) (orE (tV v) some (orE (lN v) some (orE (qs v) (λ xs => some (xs.map .int)) ((AK v).bind λ p => cond (decide (-1000000 ≤ p.1) && (decide (p.1 ≤ p.2) && decide (p.2 ≤ 1000000))) (some (N7 p.1 p.2)) none))))
theorem VRs.ofInts (h : IntsAre us xs) : VRs P F J (xs.map .int) us := by
 induction h with
 | nil => exact .nil
 | cons i t b ih => exact .cons (.int _ _) ih
noncomputable def n9 (e : Expr) : Bool := e.ctorIdx != 7
theorem w4 {e : Expr} (h : n9 e = true) : ∀ x,foldedSetIterable e env x = pure x := by
 intro x
 cases e <;> first | rfl | cases h
theorem J7.new {h : Heap} (r : Rel X F G J O h) (ho : o.isFreed = false) : J7 [h.objs.size] F G J (h.push o) := λ a ha => by
 replace ha := (List.mem_singleton.mp ha).symm; subst ha
 obtain ⟨a,b,c⟩ := r.fresh
 exact ⟨a,b,c,o,ya8 h ho⟩
theorem Fram.apart {h : Heap} (f : Fram X env F G J D h) : ∀ a ∈ [h.objs.size],a ∉ e9 env := λ a ha hm => by
 replace ha := (List.mem_singleton.mp ha).symm; subst ha
 obtain ⟨o,e⟩ := f.as.2 _ hm
 exact Nat.lt_irrefl _ (yb8 e)
end
section
open PySem.Spec
variable {d e : Nat}
noncomputable def OpC (X : Wd) (d : Nat) (O : KG) (args : KN) (f : Value) (k : KC) : Prop :=
 ∀ (A : Around) (R : Result → Shared → Prop) (s : Shared) (F G : PH) (J : KH) (us : KK),C3 d A → Rel X F G J O s.heap → VRs X.w.params F J args us →
  (∀ (v : V) (u : Value) (h' : Heap) (tk' : Nat) (F' : PH) (ρ' : KH) (σ' : KG),k v σ' → Ext F J F' ρ' → Rel X F' G ρ' σ' h' → VR X.w.params F' ρ' v u → R (.ok (.ret u)) { s with heap := h',toks := tk' }) →
  codeAny (model X.prog X.w) A (.call f ⟨us,[]⟩) R s
theorem iK {f : Value} (h : OpC X d O args f k) : Op X (RV X) d O args (λ us => call f us) k := by
 intro A E Q s F G J us hA r hv hk
 exact wpAny_call (h A _ s F G J us hA r hv λ v u h' tk' F' ρ' σ' z x r' hr => hk v u h' tk' F' ρ' σ' z x r' hr)
structure ClsOK (X : Wd) (C fI : Addr) : Prop where
 makes : makesIn X.K C = true
 init : findIn X.K (.ref C) "__init__" = some (some (.ref fI))
 isf : typeIn X.K (.ref fI) = some (.type "function")
theorem K8 (A : Around) (C : Addr) (vals : KK) : (A.under (.builtin "type.__call__" ⟨.ref C :: vals,[]⟩)).units ≤ A.units + 4 := by
 refine (?_ : A.units + _ ≤ _)
 have : (Code.builtin "type.__call__" ⟨.ref C :: vals,[]⟩).cUnits ≤ 4 := by
  have e : (Code.builtin "type.__call__" ⟨.ref C :: vals,[]⟩).cUnits = 1 := by kernel_rfl
  lia
 lia
theorem qJ {C fI : Addr} (ok : ClsOK X C fI) (h : OpC X d (O ++ [.flds []]) (.io C O.length :: args) (.ref fI) (λ v σ' => v = .none ∧ k (.io C O.length) σ')) : OpC X (d + 1) O args (.ref C) k := by
 intro A R s F G J us hA r hv hk
 have X1 : X.K.In s.heap := X.kin.keeps (f8 r)
 obtain ⟨hh,g,dr,t,os⟩ := s
 refine C2 (r.newH (o := emptyDict) (m := .flds []) rfl (.flds (n := 0) .nil)) λ x1 r1 l1 => ?_
 refine i5 (r1.newF (o := instObj C hh.objs.size) rfl) λ x2 r2 => ?_
 have hsz : (hh.push emptyDict).objs.size = hh.objs.size + 1 := Heap.size_push ..
 have hio : VR X.w.params (put F (hh.push emptyDict).objs.size (instObj C hh.objs.size)) (J ++ [hh.objs.size]) (.io C O.length) (.ref (hh.objs.size + 1)) :=
  .io (a := hh.objs.size) l1 (by rw [← hsz]; unfold put; simp)
 refine make_core (makes_of X1 ok.makes) (looks_findIn X1 ok.init) (λ self => bind_fn X1 self ok.isf) (.inl rfl) ?_
 refine h _ _ _ _ G _ (.ref (hh.objs.size + 1) :: us) ?_ r2 (.cons hio (hv.mono (x1.trans x2))) λ v u h' tk' F' ρ' σ' z x r' hr => ?_
 ·exact ⟨hA.1,by have := hA.2.1; rw [depth_under_make]; lia,by have := hA.2.2; have := K8 A C us; lia⟩
 ·obtain ⟨rfl,z⟩ := z
  refine hr.noneE ?_
  exact ⟨rfl,hk _ _ h' tk' F' ρ' σ' z ((x1.trans x2).trans x) r' (hio.mono x)⟩
end
section
open PySem.Spec
variable {d e : Nat}
noncomputable def y8 (m : Nat) : List Nat → Nat → Option Nat
 | [],_ => none
 | k :: r,i => if k == m then some i else y8 m r (i + 1)
theorem iL {m : Nat} : ∀ {ks : List Nat} {i j : Nat},y8 m ks i = some j → ∃ t,j = i + t ∧ ks[t]? = some m := by
 intro ks
 induction ks with
 | nil =>
  intro Z Z h
  cases h
 | cons k r ih =>
  intro i j h
  unfold y8 at h
  split at h
  ·rename_i q; obtain rfl := sj h
   exact ⟨0,rfl,by simpa using q⟩
  ·refine a9 (ih h) λ t e g => ?_
   exact ⟨t + 1,by lia,g⟩
noncomputable def AL (v : V) : Bool := v.ctorIdx == 15
noncomputable def bW (v : V) : V := cond (AL v) v (cond (V.noH v) (.fz v) v)
noncomputable def frH (f : V → V) (o : Option MO) : V := match o with
 | some (.lst vs) => .lst (vs.map f)
 | some (.nums xs) => .nums xs
 | _ => .junk
noncomputable def frO (C : Addr) (f : V → V) (o : Option MO) : V := match o with
 | some (.flds fs) => .obj C (fs.map λ p => (p.1,f p.2))
 | _ => .junk
noncomputable def j5 (ks : List Nat) (O : KG) : Nat → V → V
 | 0,_ => .junk
 | k + 1,v => match v with
  | .h m => (y8 m ks 0).elim (frH (j5 ks O k) O[m]?) V.h
  | .io C m => (y8 m ks 0).elim (frO C (j5 ks O k) O[m]?) (V.io C)
  | .tup vs => .tup (vs.map (j5 ks O k))
  | .lst vs => .lst (vs.map (j5 ks O k))
  | .obj C fs => .obj C (fs.map λ p => (p.1,j5 ks O k p.2))
  | v => v
noncomputable def bX (ks : List Nat) (O : KG) (k : Nat) : MO → MO
 | .lst vs => .lst (vs.map (j5 ks O k))
 | .flds fs => .flds (fs.map λ p => (p.1,j5 ks O k p.2))
 | .smap es => .smap (es.map λ p => (p.1,j5 ks O k p.2))
 | .tmap es => .tmap (es.map λ p => (p.1,bW (j5 ks O k p.2)))
 | m => m
noncomputable def ρK (ks : List Nat) (J : KH) : List Addr := ks.map λ m => J.getD m 0
noncomputable def σK (ks : List Nat) (O : KG) : List MO := ks.map λ m => bX ks O 30 (O.getD m .emp)
noncomputable def l4 (F : PH) (J : KH) (ks : List Nat) (h : Heap) : PH := λ a => if a ∈ J ∧ a ∉ ρK ks J then h.get? a else F a
section
variable {h : Heap} {ks : List Nat}
theorem Rel.freezeF_ext (r : Rel X F G J O h) {a : Addr} (e : F a = some o) : l4 F J ks h a = some o := by
 unfold l4
 split
 ·rename_i q
  have := (r.rf a q.1).1
  rw [this] at e; cases e
 ·exact e
theorem iM {i m : Nat} {a : Addr} (hk : ks[i]? = some m) (e : J[m]? = some a) : (ρK ks J)[i]? = some a := by
 unfold ρK
 rw [List.getElem?_map,hk,Option.map_some,yc9,e]; rfl
theorem bY {i m : Nat} {a : Addr} (hp : y8 m ks 0 = some i) (e : J[m]? = some a) : (ρK ks J)[i]? = some a := by
 refine a9 (iL hp) λ t eR1 g => ?_
 subst eR1
 rw [yc0]
 exact iM g e
theorem fB {m : Nat} : ∀ {ks : List Nat} {i : Nat},y8 m ks i = none → m ∉ ks := by
 intro ks
 induction ks with
 | nil =>
  intro Z Z h
  cases h
 | cons k r ih =>
  intro i e h
  unfold y8 at e
  split at e
  ·cases e
  ·rename_i q
   rcases mcs h with rfl | h
   ·exact q (by simp)
   ·exact ih e h
theorem iN (nd : J.Nodup) (hv : ∀ k ∈ ks,k < J.length) {m : Nat} {a : Addr} (hp : y8 m ks 0 = none) (e : J[m]? = some a) : a ∈ J ∧ a ∉ ρK ks J := by
 refine ⟨yc7 e,λ q => ?_⟩
 unfold ρK at q
 refine a9 (List.mem_map.mp q) λ k hk eR2 => ?_
 subst eR2
 have hl := hv k hk
 obtain ⟨hm,em⟩ := List.getElem?_eq_some_iff.mp e
 have ek : J.getD k 0 = J[k] := by simp [hl]
 replace em := ek ▸ em
 have := (List.getElem_inj nd).mp em
 subst this
 exact fB hp hk
theorem VR.fzV (r : Rel X F G J O h) (hv : ∀ k ∈ ks,k < J.length) : ∀ (k : Nat) {v : V} {u : Value},VR X.w.params F J v u → VR X.w.params (l4 F J ks h) (ρK ks J) (j5 ks O k v) u := by
 intro k
 induction k with
 | zero => intro v u _; exact .junk _
 | succ k ih =>
  have own : ∀ {m a o},J[m]? = some a → y8 m ks 0 = Option.none → h.get? a = some o → l4 F J ks h a = some o := λ ha hp ho => by
   unfold l4; rw [if_pos (iN r.nd hv hp ha)]; exact ho
  intro v u q
  cases q with
  | none => exact .none
  | bool b => exact .bool b
  | int i t => exact .int i t
  | str s t => exact .str s t
  | byt t e => exact .byt t e
  | val => exact .val _
  | nums f q => exact .nums (r.freezeF_ext f) q
  | rng f => exact .rng (r.freezeF_ext f)
  | prs f q => exact .prs (r.freezeF_ext f) (q.mono λ Z Z e => r.freezeF_ext e)
  | junk => exact .junk _
  | fz n q => exact .fz n (q.noH (λ Z Z e => r.freezeF_ext e) n)
  | tup f c1 c2 q => exact .tup (r.freezeF_ext f) c1 c2 (VRs.mapF ih q)
  | lst f q => exact .lst (r.freezeF_ext f) (VRs.mapF ih q)
  | obj f g q => exact .obj (r.freezeF_ext f) (r.freezeF_ext g) (FRs.mapF ih q)
  | @h m a ha =>
   refine (?_ : VR X.w.params _ _ ((y8 m ks 0).elim (frH (j5 ks O k) O[m]?) V.h) (.ref a))
   cases hp : y8 m ks 0 with
   | some i => exact .h (bY hp ha)
   | none =>
    cases hs : O[m]? with
    | none => exact .junk _
    | some mo =>
     refine a9 (r.m _ _ _ ha hs) λ x hx hm' => ?_
     clear hs
     induction mo using MO.casesOn with
     | lst ws => exact U5 hm'.lstE λ us n e q => .lst (own ha hp (e ▸ hx)) (VRs.mapF ih q)
     | nums xs => exact U5 hm'.numsE λ us n e q => .nums (own ha hp (e ▸ hx)) q
     | _ => exact .junk _
  | @io C m x a ha hx =>
   refine (?_ : VR X.w.params _ _ ((y8 m ks 0).elim (frO C (j5 ks O k) O[m]?) (V.io C)) (.ref x))
   cases hp : y8 m ks 0 with
   | some i => exact .io (bY hp ha) (r.freezeF_ext hx)
   | none =>
    cases hs : O[m]? with
    | none => exact .junk _
    | some mo =>
     refine a9 (r.m _ _ _ ha hs) λ y hy hm' => ?_
     clear hs
     induction mo using MO.casesOn with
     | flds fs =>
      cases hm' with
      | flds q => exact .obj (r.freezeF_ext hx) (own ha hp hy) (FRs.mapF ih q)
     | _ => exact .junk _
theorem VRs.fzV (r : Rel X F G J O h) (hv : ∀ k ∈ ks,k < J.length) (k : Nat) {vs : KN} {us : KK} (q : VRs X.w.params F J vs us) : VRs X.w.params (l4 F J ks h) (ρK ks J) (vs.map (j5 ks O k)) us := VRs.mapF (VR.fzV r hv k) q
theorem FRs.fzV (r : Rel X F G J O h) (hv : ∀ k ∈ ks,k < J.length) (k : Nat) {fs : KD} {es : List DictEntry} (q : FRs X.w.params F J fs es) : FRs X.w.params (l4 F J ks h) (ρK ks J) (fs.map λ p => (p.1,j5 ks O k p.2)) es := FRs.mapF (VR.fzV r hv k) q
theorem aC {u : Value} (hv : VR P F J v u) : VR P F J (bW v) u := by
 unfold bW
 cases AL v with
 | true => exact hv
 | false =>
  cases q : V.noH v with
  | true => exact .fz q hv
  | false => exact hv
theorem SMs.fzV (r : Rel X F G J O h) (hv : ∀ k ∈ ks,k < J.length) (k : Nat) {fs : KD} {es : List (Str × Value)} (q : SMs X.w.params F J fs es) : SMs X.w.params (l4 F J ks h) (ρK ks J) (fs.map λ p => (p.1,j5 ks O k p.2)) es := SMs.mapF (VR.fzV r hv k) q
theorem TMs.fzV (r : Rel X F G J O h) (hv : ∀ k ∈ ks,k < J.length) (k : Nat) {fs : KJ} {es : List (List Int × Addr × Value)} (q : TMs X.w.params F J fs es) : TMs X.w.params (l4 F J ks h) (ρK ks J) (fs.map λ p => (p.1,bW (j5 ks O k p.2))) es := TMs.mapF (f := λ v => bW (j5 ks O k v)) (λ Z Z e => r.freezeF_ext e) (λ a => aC (VR.fzV r hv k a)) q
theorem MR.fzV (r : Rel X F G J O h) (hv : ∀ k ∈ ks,k < J.length) (k : Nat) {m : MO} {o : Obj} (hm : MR X.prog X.w F J m o) : MR X.prog X.w (l4 F J ks h) (ρK ks J) (bX ks O k m) o := by
 cases hm with
 | lst q => exact .lst (VRs.fzV r hv k q)
 | nums q => exact .nums q
 | flds q => exact .flds (FRs.fzV r hv k q)
 | imap a b => exact .imap a b
 | smap a b => exact .smap (SMs.fzV r hv k a) b
 | tmap a b c d e => exact .tmap (TMs.fzV r hv k a) b c d e
 | ftm a b c d e => exact .ftm (λ ρ' => (a ρ').mono ⟨λ Z Z e => r.freezeF_ext e,λ Z Z e => e⟩) b c d e
 | emp a b => exact .emp a b
 | pin a b => exact .pin a b
theorem Rel.freeze (r : Rel X F G J O h) (nd : ks.Nodup) (hv : ∀ k ∈ ks,k < J.length) : Rel X (l4 F J ks h) G (ρK ks J) (σK ks O) h := by
 have mem : ∀ a ∈ ρK ks J,a ∈ J := λ a ha => by
  unfold ρK at ha
  obtain ⟨k,hk,rfl⟩ := List.mem_map.mp ha
  have := hv k hk
  have e : J.getD k 0 = J[k] := by simp [this]
  rw [e]; exact List.getElem_mem _
 refine ⟨λ a o q => r.freezeF_ext (r.base a o q),λ a o q => ?_,r.g,λ a o q => ?_,?_,λ a ha => ⟨?_,(r.rf a (mem a ha)).2⟩,?_,λ i a m e1 e2 => ?_⟩
 ·unfold l4 at q
  split at q
  ·exact q
  ·exact r.f a o q
 ·unfold l4
  split
  ·rename_i z
   have := (r.rf a z.1).2
   rw [this] at q; cases q
  ·exact r.fg a o q
 ·unfold ρK
  refine List.pairwise_map.mpr ?_
  refine List.Pairwise.imp_of_mem (R := λ x y => x ≠ y) (λ {x y} hx hy hne q => ?_) nd
  have l1 := hv x hx
  have l2 := hv y hy
  have e1 : J.getD x 0 = J[x] := by simp [l1]
  have e2 : J.getD y 0 = J[y] := by simp [l2]
  rw [e1,e2] at q
  exact hne ((List.getElem_inj r.nd).mp q)
 ·unfold l4
  rw [if_neg (λ z => z.2 ha)]
  exact (r.rf a (mem a ha)).1
 ·unfold ρK σK; rw [yb4,yb4]
 ·unfold ρK at e1
  unfold σK at e2
  rw [List.getElem?_map] at e1 e2
  obtain ⟨k,hk,rfl⟩ := map_some e1
  rw [hk] at e2
  obtain rfl := sj e2
  have hl := hv k (yc7 hk)
  have hs : k < O.length := by rw [← r.len]; exact hl
  have e1 : J.getD k 0 = J[k] := by simp [hl]
  have e2 : O.getD k .emp = O[k] := by simp [hs]
  rw [e1]
  show ∃ x,h.get? J[k] = some x ∧ MR X.prog X.w (l4 F J ks h) (ρK ks J) (bX ks O 30 (O.getD k .emp)) x
  rw [e2]
  obtain ⟨x,hx,hm⟩ := r.m k J[k] O[k] (yb1 hl) (yb1 hs)
  exact ⟨x,hx,MR.fzV r hv 30 hm⟩
theorem Ext.freeze {EJ : PH} {EB : KH} (x : Ext EJ EB F J) (r : Rel X F G J O h) (hn : ∀ n,n < EB.length → ks[n]? = some n) : Ext EJ EB (l4 F J ks h) (ρK ks J) :=
 ⟨λ a o e => r.freezeF_ext (x.f a o e),λ m a e => iM (hn m (List.getElem?_eq_some_iff.mp e).1) (x.r m a e)⟩
end
noncomputable def iO (n : Nat) (O : KG) : List Nat := ((List.range O.length).drop n).filter λ m => match O[m]? with
 | some (.tmap _) => true
 | _ => false
noncomputable def w9 (n : Nat) (O : KG) : List Nat := List.range n ++ iO n O
theorem fD (hn : n ≤ O.length) : (w9 n O).Nodup ∧ (∀ k ∈ w9 n O,k < O.length) ∧ ∀ m,m < n → (w9 n O)[m]? = some m := by
 have hd : ∀ k ∈ (List.range O.length).drop n,n ≤ k ∧ k < O.length := λ k hk => by
  obtain ⟨i,hi,rfl⟩ := List.getElem_of_mem hk
  rw [List.getElem_drop,List.getElem_range]
  rw [List.length_drop,List.length_range] at hi
  lia
 refine ⟨?_,λ k hk => ?_,λ m hm => ?_⟩
 ·unfold w9
  rw [List.nodup_append]
  refine ⟨List.nodup_range,?_,λ a ha b hb => ?_⟩
  ·unfold iO
   exact List.Nodup.sublist (List.filter_sublist.trans (List.drop_sublist _ _)) List.nodup_range
  ·have h1 := List.mem_range.mp ha
   have h2 := hd b (List.mem_filter.mp hb).1
   lia
 ·rcases List.mem_append.mp hk with hk | hk
  ·have := List.mem_range.mp hk; (exact yb6 (by assumption) (by assumption))
  ·exact (hd k (List.mem_filter.mp hk).1).2
 ·unfold w9
  rw [List.getElem?_append_left (by rw [List.length_range]; exact hm),List.getElem?_range hm]
noncomputable def fzK (n : Nat) (v : V) (O : KG) (k : KC) : Prop := cond (n == O.length) (k v O) (k (j5 (w9 n O) O 30 v) (σK (w9 n O) O))
end
section
open PySem.Spec
variable {d e : Nat}
noncomputable def aD (X : Wd) (d : Nat) (env : Env) (test : Expr) (body : List Stmt) (k : Fl → Gam → List MO → Prop) : Nat → Gam → List MO → Prop
 | 0,_,_ => False
 | n + 1,D,O => Ev X RB d env D O [] (λ Z => isTrue test env (eval test env)) (λ c Eg Eh => cond c (Ev X (RFl X) d env Eg Eh [] (λ Z => execs body env) (λ fl Ej Ei => match fl with
  | .next => aD X d env test body k n Ej Ei
  | .cont => aD X d env test body k n Ej Ei
  | .brk => k .next Ej Ei
  | .ret v => k (.ret v) Ej Ei)) (k .next Eg Eh))
theorem mv {test : Expr} {body : List Stmt} {k : Fl → Gam → List MO → Prop} (n : Nat) (h : aD X d env test body k n D O) : Ev X (RFl X) d env D O vs (λ Z => exec (.While test body [] pos) env) k := by
 intro A E Q s EJ G EB us hA r f hv hk
 refine wpAny_While ?_
 refine codeAny_whileLoop (λ n s' => ∃ (h' : Heap) (tk : Nat) (F : PH) (J : KH) (O : KG) (D : Gam),s' = { s with heap := h',toks := tk } ∧ Ext EJ EB F J ∧ Rel X F G J O h' ∧ Fram X env F G J D h' ∧ aD X d env test body k n D O) ?_ n ⟨s.heap,s.toks,EJ,EB,O,D,rfl,.refl _ _,r,f,h⟩
 rintro n s' ⟨h',tk,F,J,O,D,rfl,x,r,f,hK⟩
 induction n using Nat.casesOn with
 | zero => exact hK.elim
 | succ n =>
  refine hK A _ _ { s with heap := h',toks := tk } F G J [] hA r f .nil λ c u Eo Er Eu Em Eh Eg z Ey En Es Et => ?_
  have : u = c := Et
  subst this
  induction u using Bool.casesOn with
  | false => exact wpAny_execs_nil (hk .next .next Eo Er Eu Em Eh Eg z (x.trans Ey) En Es .next)
  | true =>
   refine z A _ _ { s with heap := Eo,toks := Er } Eu G Em [] hA En Es .nil λ fl w Ew Ek EE El Ei Ej EF EA Ep EC hw => ?_
   have x02 := (x.trans Ey).trans EA
   cases hw with
   | next => exact ⟨n,Nat.lt_succ_self n,Ew,Ek,EE,El,Ei,Ej,rfl,x02,Ep,EC,EF⟩
   | cont => exact ⟨n,Nat.lt_succ_self n,Ew,Ek,EE,El,Ei,Ej,rfl,x02,Ep,EC,EF⟩
   | brk => exact hk .next .next Ew Ek EE El Ei Ej EF x02 Ep EC .next
   | ret q => exact hk (.ret _) (.ret _) Ew Ek EE El Ei Ej EF x02 Ep EC (.ret q)
theorem qK {k : Fl → Gam → List MO → Prop} (h : k .cont D O) : Ev X (RFl X) d env D O vs (λ Z => exec (.Continue pos) env) k := by
 intro A E Q s F G J us hA r f hv hk
 exact wpAny_Continue (hk .cont .cont s.heap s.toks F J O D h (.refl F J) r f .cont)
theorem fE {k : Fl → Gam → List MO → Prop} (h : k (.ret .none) D O) : Ev X (RFl X) d env D O vs (λ Z => exec (.Return none pos) env) k := by
 intro A E Q s F G J us hA r f hv hk
 exact wpAny_Return_none (hk (.ret .none) (.ret .none) s.heap s.toks F J O D h (.refl F J) r f (.ret .none))
theorem iP {M : Model} {b : List Stmt} : ∀ (a : List Stmt) (A : Around) (E : KA) (Q : Flow → Shared → Prop) (s : Shared),wpAny M A (execs a env) (λ u EG => match u with | .next => wpAny M A (execs b env) Q E EG | u => Q u EG) E s → wpAny M A (execs (a ++ b) env) Q E s := by
 intro a A E Q s h D p hΓ
 have key : ∀ (a : List Stmt) (p : Pos) (s : Shared),Sem.wp M D (execs a env) (λ u Gn EG => match u with | .next => wpAny M A (execs b env) Q E EG | u => Q u EG) (λ e Z EG => E e EG) p s → Sem.wp M D (execs (a ++ b) env) (λ u Z EG => Q u EG) (λ e Z EG => E e EG) p s := by
  intro a
  induction a with
  | nil => intro p s h; exact h D p hΓ
  | cons st a ih =>
   intro p s h
   rw [List.cons_append]
   rw [execs_cons,Sem.wp_bind'] at h ⊢
   refine Sem.wp_mono M D _ (λ f p' s' h' => ?_) (λ Z Z Z h' => h') _ _ h
   induction f using Flow.casesOn with
   | next => exact ih _ _ h'
   | brk => exact h'
   | cont => exact h'
   | ret v => exact h'
 exact key a p s (h D p hΓ)
theorem ue {body : List Stmt} {h₀ : ExceptHandler} {hs : List ExceptHandler} {k : Fl → Gam → List MO → Prop} (h : Ev X (RFl X) d env D O [] (λ Z => execs body env) k) : Ev X (RFl X) d env D O vs (λ Z => exec (.Try body (h₀ :: hs) [] [] pos) env) k := by
 intro A E Q s F G J us hA r f hv hk
 refine wpAny_Try_except (h A _ _ s F G J [] hA r f .nil λ fl u Eo Er Eu Em Eh Eg z Ey En Es Et => ?_)
 have q := hk fl u Eo Er Eu Em Eh Eg z Ey En Es Et
 induction u using Flow.casesOn with
 | next => exact wpAny_execs_nil q
 | brk => exact q
 | cont => exact q
 | ret v => exact q
end
section
open PySem.Spec
variable {d e : Nat}
theorem Rel.newAt {h h' : Heap} {a : Addr} (r : Rel X F G J O h) (hk : ∀ b o,h.get? b = some o → h'.get? b = some o) (ha : h.objs.size ≤ a) (ho : h'.get? a = some o) :
  Ext F J (put F a o) J ∧ Rel X (put F a o) G J O h' := by
 obtain ⟨l1,l2,l3⟩ := r.lt
 have fF : F a = none := by cases e : F a with | none => rfl | some o => exact absurd (l1 _ _ e) (Nat.not_lt.mpr ha)
 have fG : G a = none := by cases e : G a with | none => rfl | some o => exact absurd (l2 _ _ e) (Nat.not_lt.mpr ha)
 have fρ : a ∉ J := λ q => Nat.not_lt.mpr ha (l3 _ q)
 have x : Ext F J (put F a o) J := ⟨λ b o' e => by
  unfold put; split
  ·rename_i q; subst q; rw [fF] at e; cases e
  ·exact e,λ Z Z e => e⟩
 refine ⟨x,λ b o' e => x.f _ _ (r.base b o' e),λ b o' e => ?_,λ b o' e => hk _ _ (r.g b o' e),λ b o' e => ?_,r.nd,λ b hb => ⟨?_,(r.rf b hb).2⟩,r.len,λ n b m e1 e2 => ?_⟩
 ·unfold put at e; split at e
  ·rename_i q; subst q; obtain rfl := sj e; exact ho
  ·exact hk _ _ (r.f b o' e)
 ·unfold put; split
  ·rename_i q; subst q; rw [fG] at e; cases e
  ·exact r.fg b o' e
 ·unfold put; split
  ·rename_i q; subst q; exact absurd hb fρ
  ·exact (r.rf b hb).1
 ·obtain ⟨y,hy,hm⟩ := r.m n b m e1 e2
  exact ⟨y,hk _ _ hy,hm.mono x⟩
noncomputable def V1 (O : KG) (v : V) : Option (List V) := orE (n4 O v) (λ xs => some (xs.map .int)) (dO O v)
theorem Rel.items {h : Heap} (r : Rel X F G J O h) {u : Value} {xs : KN} (hv : VR X.w.params F J v u) (e : V1 O v = some xs) : ∃ (a : Addr) (us : KK) (n : Nat),u = .ref a ∧ h.get? a = some (d7 us.toArray n) ∧ VRs X.w.params F J xs us := by
 refine i8 e (λ xs e1 e => ?_) λ e1 => i8 e1 (λ ys h e2 => ?_) λ e2 => a9 (d6 e2) λ n hn e2 => a9 (d6 e2) λ m hs hm => ?_
 ·obtain rfl := sj e
  refine i8 e1 (λ ys h e2 => ?_) λ e2 => a9 (d6 e2) λ n hn e2 => a9 (d6 e2) λ m hs hm => ?_
  ·rw [X4 h,sj e2] at hv
   exact hv.numsE λ a us n f q => ⟨_,_,_,rfl,r.f _ _ f,VRs.ofInts q⟩
  ·rw [A3 hn] at hv
   rw [X6 hm] at hs
   exact hv.hE λ a ha => U5 (r.numsH ha hs) λ us k hx q => ⟨_,_,_,rfl,hx,VRs.ofInts q⟩
 ·rw [N3 h,sj e2] at hv
  exact hv.lstE λ a us n f q => ⟨_,_,_,rfl,r.f _ _ f,q⟩
 ·rw [A3 hn] at hv
  rw [X5 hm] at hs
  exact hv.hE λ a ha => U5 (r.lstH ha hs) λ us k hx q => ⟨_,_,_,rfl,hx,q⟩
section
theorem bZ (e : U7 O v = some n) (hb : n < 1000000) (h : k (.int n) O) : Op X (RV X) d O [v] (λ us => call (.builtin "len") us) k := by
 intro A E Q s F G J us hA r hv hk
 refine hv.oneE λ u hu => ?_
 refine S8 (r.len' hu e) λ a us eR2 hl eR4 => ?_
 subst eR2
 subst eR4
 exact Calls.call_len_list hl (by rw [yb5]; lia) (hk _ _ s.heap _ F J O h (.refl F J) r (yb5 ▸ .int _ _))
theorem fH {ws : KN} (hb : ws.length < 1000000) (h : k (.int ws.length) O) : Op X (RV X) d O [.tup ws] (λ us => call (.builtin "len") us) k := by
 intro A E Q s F G J us hA r hv hk
 refine hv.oneE λ u hu => ?_
 refine hu.tupE λ a us n o f c1 c2 q => ?_
 have ht : IsTup s.heap a us.toArray := ⟨_,r.f _ _ f,c1,_,c2⟩
 have hl := q.len
 exact PyProof.Rows.len_tuple ht (by rw [yb5]; lia) (hk _ _ s.heap _ F J O h (.refl F J) r (List.size_toArray.symm ▸ hl.symm ▸ .int _ _))
theorem fJ (hb : xs.length < 1000000) (h : k (.int xs.length) O) : Op X (RV X) d O [.byt xs] (λ us => call (.builtin "len") us) k := by
 intro A E Q s F G J us hA r hv hk
 refine hv.oneE λ u hu => ?_
 cases hu with
 | @byt _ b t e =>
  subst e
  have hl : (S6 b).length = b.size := by unfold S6; simp
  rw [hl] at h hb
  exact len_bytes (by exact yc1 (yb6 (by assumption) (by decide))) (hk _ _ s.heap _ F J O h (.refl F J) r (.int _ _))
theorem fK (h : k (.int i) O) : Op X (RV X) d O [.int i] (λ us => call (.type "int") us) k := by
 intro A E Q s F G J us hA r hv hk
 refine hv.oneE λ u hu => ?_
 refine hu.intE λ t => ?_
 exact call_int_int (hk _ _ s.heap s.toks F J O h (.refl F J) r (.int _ _))
theorem ca {b : Bool} (h : k (.int (cond b 1 0)) O) : Op X (RV X) d O [.bool b] (λ us => call (.type "int") us) k := by
 intro A E Q s F G J us hA r hv hk
 refine hv.oneE λ u hu => ?_
 refine hu.boolE ?_
 refine call_int_bool ?_
 have : (if b then (1 : Int) else 0) = cond b 1 0 := by cases b <;> rfl
 refine this.symm ▸ ?_
 exact hk _ _ s.heap _ F J O h (.refl F J) r (.int _ _)
theorem fL (hb : p8 i) (h : k (.str (toString i)) O) : Op X (RV X) d O [.int i] (λ us => call (.type "str") us) k := by
 intro A E Q s F G J us hA r hv hk
 refine hv.oneE λ u hu => ?_
 refine hu.intE λ t => ?_
 refine P.str_of_int ?_ (hk _ _ s.heap _ F J O h (.refl F J) r (.str _ _))
 unfold p8 at hb
 by_cases z : i.natAbs = 0
 ·rw [z]; decide
 ·have := (Nat.log2_lt z).mpr hb; (exact ya6 (by assumption) (Nat.le_add_left _ _))
theorem uf (h : k (.int (if i < 0 then -i else i)) O) : Op X (RV X) d O [.int i] (λ us => call (.builtin "abs") us) k := by
 intro A E Q s F G J us hA r hv hk
 refine hv.oneE λ u hu => ?_
 refine hu.intE λ t => ?_
 exact call_abs_int λ u tk => hk _ _ s.heap tk F J O h (.refl F J) r (.int _ _)
theorem ug (e : n4 O v = some xs) (h : k (.int xs.sum) O) : Op X (RV X) d O [v] (λ us => call (.builtin "sum") us) k := by
 intro A E Q s F G J us hA r hv hk
 refine hv.oneE λ u hu => ?_
 refine S8 (r.nums hu e) λ a us eR2 hl hi => ?_
 subst eR2
 obtain ⟨ys,hx⟩ := hi.allInts.items
 have hn : numsOf us.toArray.toList = xs := by rw [show us.toArray.toList = us from rfl,hi.numsOf]
 rw [hx] at hl hn
 rw [nums_intItems] at hn
 refine sum_intListG hA.1 hl λ h' tk t' hk' => ?_
 have := hk (.int xs.sum) (.int xs.sum t') h' tk F J O h (.refl F J) (r.keep hk') (.int _ _)
 rw [preSum_eq,List.take_of_length_le (by simp),hn]
 exact this
theorem Y1 {ws : KN} (e : V1 O v = some ws) (hb : ws.length ≤ 100000) (h : k (.tup ws) O) : Op X (RV X) d O [v] (λ us => call (.type "tuple") us) k := by
 intro A E Q s F G J us hA r hv hk
 refine hv.oneE λ u hu => ?_
 refine ig (r.items hu e) λ a us n eR3 ho hs => ?_
 subst eR3
 refine call_tuple_list ⟨_,ho,rfl,n,rfl⟩ (λ h' hk' => ?_) (by rw [yb5,hs.len,sizeLine_eq]; (exact ya6 (by assumption) (Nat.le_add_left _ _)))
 have r' := r.keep hk'
 refine i5 (r'.newF (o := dK us.toArray 0) rfl) λ x r'' => ?_
 exact hk _ _ _ s.toks _ J O h x r'' (.tup (n := 0) (us := us) (o := dK us.toArray 0) (by unfold put; simp) rfl rfl (hs.mono x))
theorem aE {ws : KN} (h : k (.tup ws) O) : Op X (RV X) d O [.tup ws] (λ us => call (.type "tuple") us) k := by
 intro A E Q s F G J us hA r hv hk
 refine hv.oneE λ u hu => ?_
 have hu' := hu
 cases hu with
 | @tup _ a us n o f c1 c2 q =>
  exact call_tuple_same ⟨_,r.f _ _ f,c1,_,c2⟩ (hk _ _ s.heap s.toks F J O h (.refl F J) r hu')
noncomputable def oW (O : KG) (v : V) : Option (List V) := orE (lN v) some (V1 O v)
theorem qL {ws : KN} (e : oW O v = some ws) (hb : ws.length ≤ 100000) (h : k (w3 ws) O) : Op X (RV X) d O [v] (λ us => call (.type "list") us) k := by
 intro A E Q s F G J us hA r hv hk
 refine hv.oneE λ u hu => ?_
 have main : ∀ {it : Addr} {T : String} {o : Obj} {us : KK} {n : Nat},(T = "list" ∨ T = "tuple") → s.heap.get? it = some o → o.cls = .type T → o.data = .seq us.toArray n → VRs X.w.params F J ws us → wpAny (model X.prog X.w) A (call (.type "list") [.ref it]) Q E s := by
  intro it T o us n hT ho hc hd hs
  refine call_list_seq it hT ho hc hd (λ h' c' hk' ho' => ?_) (by rw [yb5,hs.len,sizeLine_eq]; (exact ya6 (by assumption) (Nat.le_add_left _ _)))
  refine i5 (r.newAt hk' (ya7 _) ho') λ x r' => ?_
  exact hk _ _ h' s.toks _ J O h x r' (H5 (n := c') (us := us) (hs.mono x) (by unfold put; simp))
 refine i8 e (λ vs q e => ?_) λ e => ?_
 ·obtain rfl := sj e
  cases A4 q
  refine hu.tupE λ a us n o f c1 c2 q => ?_
  exact main (.inr rfl) (r.f _ _ f) c1 c2 q
 ·refine ig (r.items hu e) λ a us n eR3 ho hs => ?_
  subst eR3
  exact main (.inl rfl) ho rfl rfl hs
theorem mw {n : Int} (h : k (.rng 0 n) O) : Op X (RV X) d O [.int n] (λ us => call (.type "range") us) k := by
 intro A E Q s F G J us hA r hv hk
 refine hv.oneE λ u hu => ?_
 refine hu.intE λ t => ?_
 refine call_range_1 ?_
 refine i5 (r.newF (o := { cls := .type "range", data := .fields #[.int 0 s.toks,.int n t,.int 1 (s.toks + 1)] }) rfl) λ x r' => ?_
 exact hk _ _ _ _ _ J O h x r' (.rng (t := s.toks) (u := t) (v := s.toks + 1) (by unfold put; simp))
end
end
section
open PySem.Spec
variable {d e : Nat}
inductive Its where
 | ns (xs : KM)
 | vs (ws : KN)
noncomputable def Its.cat : Its → Its → Its
 | .ns a,.ns b => .ns (a ++ b)
 | .ns a,.vs b => .vs (a.map .int ++ b)
 | .vs a,.ns b => .vs (a ++ b.map .int)
 | .vs a,.vs b => .vs (a ++ b)
noncomputable def Its.len : Its → Nat
 | .ns a => a.length
 | .vs a => a.length
noncomputable def Its.V : Its → V
 | .ns a => .nums a
 | .vs a => .lst a
noncomputable def Its.M : Its → MO
 | .ns a => .nums a
 | .vs a => .lst a
noncomputable def AM : MO → Option Its
 | .nums xs => some (.ns xs)
 | .lst ws => some (.vs ws)
 | _ => none
noncomputable def lO (O : KG) : V → Option Its
 | .nums xs => some (.ns xs)
 | .lst ws => some (.vs ws)
 | .h n => O[n]?.bind AM
 | _ => none
noncomputable def cb (P : Params) (F : PH) (J : KH) : Its → List Value → Prop
 | .ns xs,us => IntsAre us xs
 | .vs ws,us => VRs P F J ws us
theorem cb.len {P : Params} {F : PH} {J : KH} {i : Its} {us : KK} (h : cb P F J i us) : us.length = i.len := by
 induction i using Its.casesOn with
 | ns => exact IntsAre.len h
 | vs => exact VRs.len h
theorem cb.cat {P : Params} {F : PH} {J : KH} {i j : Its} {us ws : KK} (h : cb P F J i us) (g : cb P F J j ws) : cb P F J (i.cat j) (us ++ ws) := by
 induction i using Its.casesOn with
 | ns =>
  induction j using Its.casesOn with
  | ns => exact IntsAre.append h g
  | vs => exact VRs.append (VRs.ofInts h) g
 | vs =>
  induction j using Its.casesOn with
  | ns => exact VRs.append h (VRs.ofInts g)
  | vs => exact VRs.append h g
theorem cb.mono {P : Params} {F F' : PH} {J ρ' : KH} (x : Ext F J F' ρ') {i : Its} {us : KK} (h : cb P F J i us) : cb P F' ρ' i us := by
 induction i using Its.casesOn with
 | ns => exact h
 | vs => exact VRs.mono x h
theorem cb.V {P : Params} {F : PH} {J : KH} {a : Addr} {n : Nat} {i : Its} {us : KK} (h : cb P F J i us) (f : F a = some (d7 us.toArray n)) : VR P F J i.V (.ref a) := by
 induction i using Its.casesOn with
 | ns => exact .nums f h
 | vs => exact .lst f h
theorem cb.M {prog : Program} {w : World} {F : PH} {J : KH} {n : Nat} {i : Its} {us : KK} (h : cb w.params F J i us) : MR prog w F J i.M (d7 us.toArray n) := by
 induction i using Its.casesOn with
 | ns => exact .nums h
 | vs => exact .lst h
theorem Rel.its {h : Heap} (r : Rel X F G J O h) {u : Value} {i : Its} (hv : VR X.w.params F J v u) (e : lO O v = some i) : ∃ (a : Addr) (us : KK) (n : Nat),u = .ref a ∧ h.get? a = some (d7 us.toArray n) ∧ cb X.w.params F J i us := by
 induction v using V.casesOn with
 | nums ys =>
  obtain rfl := sj e
  exact hv.numsE λ a us n f q => ⟨_,_,_,rfl,r.f _ _ f,q⟩
 | lst ys =>
  obtain rfl := sj e
  exact hv.lstE λ a us n f q => ⟨_,_,_,rfl,r.f _ _ f,q⟩
 | h n =>
  obtain ⟨m,hs,e⟩ := d6 e
  refine hv.hE λ a ha => ?_
  induction m using MO.casesOn with
  | nums ys =>
   obtain rfl := sj e
   obtain ⟨us,k,hy,q⟩ := r.numsH ha hs
   exact ⟨_,_,_,rfl,hy,q⟩
  | lst ys =>
   obtain rfl := sj e
   obtain ⟨us,k,hy,q⟩ := r.lstH ha hs
   exact ⟨_,_,_,rfl,hy,q⟩
  | _ => cases e
 | _ => cases e
theorem mx (e : n4 O v = some xs) : lO O v = some (.ns xs) := by
 induction v using V.casesOn with
 | nums ys => cases e; rfl
 | h n =>
  refine a9 (d6 e) λ m hs e => ?_
  refine (?_ : O[n]?.bind AM = _)
  refine hs.symm ▸ ?_
  induction m using MO.casesOn with
  | nums ys => cases e; rfl
  | _ => cases e
 | _ => cases e
theorem oX {prog : Program} {w : World} {A : Around} {E : KA} {l b : Addr} {us ws : KK} {n n2 : Nat} {Q : KA} (ho : s.heap.get? l = some (d7 us.toArray n)) (ho2 : s.heap.get? b = some (d7 ws.toArray n2))
  (hsz : us.length + ws.length ≤ sizeLine) (h : Q (.ref s.heap.objs.size) { s with heap := s.heap.push (d7 (us ++ ws).toArray 0) }) : wpAny (model prog w) A (binaryOp .Add (.ref l) (.ref b)) Q E s := by
 have e : us.toArray ++ ws.toArray = (us ++ ws).toArray := by simp
 refine concat_meets ⟨_,ho,rfl⟩ ⟨_,ho2,rfl⟩ noFill_list_add seq_list_add PySem.F.slot_list_add PySem.F.entry_list_add (PySem.F.args_list_add_2 _ _) (list_addW l b us.toArray ws.toArray n n2 none none #[] #[] (by simpa using hsz)) ⟨ho,ho2,?_⟩
 refine e.symm ▸ ?_
 exact h
section
variable {a b : V} {i j : Its}
theorem aF (ea : lO O a = some i) (eb : lO O b = some j) (hl : i.len + j.len ≤ 100000) (h : k (i.cat j).V O) : Op X (RV X) d O [a,b] (λ us => binaryOp .Add (us.getD 0 .none) (us.getD 1 .none)) k := by
 intro A E Q s F G J us hA r hv hk
 refine hv.twoE λ u v hu hw => ?_
 refine ig (r.its hu ea) λ x xs n eR3 ho hx => ?_
 subst eR3
 refine ig (r.its hw eb) λ y ys m eR3 ho2 hy => ?_
 subst eR3
 refine oX ho ho2 (by rw [hx.len,hy.len,sizeLine_eq]; (exact ya6 (by assumption) (Nat.le_add_left _ _))) ?_
 refine i5 (r.newF (o := d7 (xs ++ ys).toArray 0) rfl) λ xt r' => ?_
 exact hk _ _ _ _ _ J O h xt r' (((hx.cat hy).mono xt).V (n := 0) (by unfold put; simp))
theorem Y2 (ea : lO O a = some i) (eb : lO O b = some j) (hl : i.len + j.len ≤ 100000) (h : k (.h O.length) (O ++ [(i.cat j).M])) : Op X (RV X) d O [a,b] (λ us => binaryOp .Add (us.getD 0 .none) (us.getD 1 .none)) k := by
 intro A E Q s F G J us hA r hv hk
 refine hv.twoE λ u v hu hw => ?_
 refine ig (r.its hu ea) λ x xs n eR3 ho hx => ?_
 subst eR3
 refine ig (r.its hw eb) λ y ys m eR3 ho2 hy => ?_
 subst eR3
 refine oX ho ho2 (by rw [hx.len,hy.len,sizeLine_eq]; (exact ya6 (by assumption) (Nat.le_add_left _ _))) ?_
 refine C2 (r.newH (o := d7 (xs ++ ys).toArray 0) rfl (hx.cat hy).M) λ xt r' l => ?_
 exact hk _ _ _ _ _ _ _ h xt r' (.h l)
theorem cc {x y : Str} (hl : x.length + y.length ≤ 100000) (h : k (.str (x ++ y)) O) : Op X (RV X) d O [.str x,.str y] (λ us => binaryOp .Add (us.getD 0 .none) (us.getD 1 .none)) k := by
 intro A E Q s F G J us hA r hv hk
 refine hv.twoE λ u v hu hw => ?_
 refine hu.strE λ t => ?_
 refine hw.strE λ t' => ?_
 exact PyProof.Rows.add_str (λ t'' tk => hk _ _ s.heap tk F J O h (.refl F J) r (.str _ _)) (by rw [sizeLine_eq]; (exact ya6 (by assumption) (Nat.le_add_left _ _)))
theorem T4 {x : Int} {t : Tok} (n : Nat) : IntsAre (List.replicate n (Value.int x t)) (List.replicate n x) := by
 induction n with
 | zero => exact .nil
 | succ n ih => exact .cons _ _ ih
theorem cg {x n : Int} (e : n4 O v = some [x]) (h0 : 0 ≤ n) (h1 : n ≤ 100000) (h : k (.h O.length) (O ++ [.nums (List.replicate n.toNat x)])) :
  Op X (RV X) d O [v,.int n] (λ us => binaryOp .Mult (us.getD 0 .none) (us.getD 1 .none)) k := by
 intro A E Q s F G J us hA r hv hk
 refine hv.twoE λ u w hu hw => ?_
 refine hw.intE λ t => ?_
 refine ig (r.its hu (mx e)) λ a us m eR3 ho hi => ?_
 subst eR3
 have hi' : IntsAre us [x] := hi
 cases hi' with
 | cons _ tk q =>
  cases q
  refine wpAny_binaryOp_repeat_ref (T := "list") (U := "int") (by decide) ⟨_,ho,rfl⟩ (λ s' => typeIs_int s' n t) noFill_list_mul PySem.F.fills_int_mul PySem.F.slot_int_rmul repeat_list PySem.F.slot_int_index.lookup
   (call_meets PySem.F.slot_int_rmul (typeIs_int s n t) PySem.F.entry_int_rmul (PySem.F.args_int_rmul_2 _ _) (int___rmul___int_list n t a _ m)
    ⟨ho,rfl,⟨_,ho,rfl⟩,call_meets PySem.F.slot_list_mul ⟨_,ho,rfl⟩ PySem.F.entry_list_mul (PySem.F.args_list_mul_2 _ _)
     (AutoListH.list___mul___list_int_3 a [Value.int x tk].toArray m n t (by simp [Builtin.List.listFitsIndex]; lia) (by simp; (exact Int.le_trans (by assumption) (by decide))) (by simp [Builtin.List.listTooLong,sizeLine]; (exact Int.le_trans (by assumption) (by decide))))
     ⟨ho,?_⟩⟩)
  have hfold : ∀ (k : Nat) (acc : KK),List.foldl (λ (x1 x2 : Array Value) => x1 ++ x2) acc.toArray (List.replicate k [Value.int x tk].toArray) = (acc ++ List.replicate k (Value.int x tk)).toArray := by
   intro k
   induction k with
   | zero => intro acc; simp
   | succ k ih =>
    intro acc
    refine List.replicate_succ.symm ▸ List.foldl_cons.symm ▸ ?_
    have : acc.toArray ++ [Value.int x tk].toArray = (acc ++ [Value.int x tk]).toArray := by simp
    rw [this,ih]
    simp [List.replicate_succ]
  have hf := hfold n.toNat []
  have he : (if ([Value.int x tk].toArray).isEmpty = true then 0 else n.toNat) = n.toNat := by simp
  refine he.symm ▸ ?_
  have hf' : List.foldl (λ (x1 x2 : Array Value) => x1 ++ x2) #[] (List.replicate n.toNat [Value.int x tk].toArray) = (List.replicate n.toNat (Value.int x tk)).toArray := by simpa using hf
  refine hf'.symm ▸ ?_
  refine C2 (r.newH (o := d7 (List.replicate n.toNat (Value.int x tk)).toArray 0) rfl (.nums (T4 n.toNat))) λ xt r' l => ?_
  exact hk _ _ _ _ _ _ _ h xt r' (.h l)
end
end
section
open PySem.Spec Builtin.Str
variable {d e : Nat}
theorem uh {x : Expr} {pos : Pos} {k : KB} (h : Ev X (RV X) d env D O [] (λ Z => eval x env) (λ v Eg Eh => ∃ i,v = .int i ∧ k (.int (-i)) Eg Eh)) :
  Ev X (RV X) d env D O vs (λ Z => eval (.UnaryOp .USub x pos) env) k := by
 intro A E Q s F G J us hA r f hv hk
 refine UnaryOp_ (h A E _ s F G J [] hA r f .nil λ v u Eo Er Eu Em Eh Eg z Ey En Es Et => ?_)
 obtain ⟨i,rfl,z⟩ := z
 refine Et.intE λ t => ?_
 exact P.neg_int (hk _ _ Eo _ Eu Em Eh Eg z Ey En Es (.int _ _))
noncomputable def my (O : KG) (o : V) (n : Int) : Option V := if decide (0 ≤ n) && decide (n ≤ 100000) then orE (dM o) (λ x => some (.str (Txt.slice x none (some n)))) ((n4 O o).map λ xs => .nums (xs.take n.toNat)) else none
noncomputable def iQ (O : KG) (o : V) : Prop := (∀ x,dM o = some x → x.length ≤ 1000000) ∧ ∀ xs,n4 O o = some xs → xs.length ≤ 2000000
noncomputable abbrev w5 (a b : Value) : Obj := { cls := .type "slice", data := .fields #[a,b,.none] }
theorem qM {A : Around} {E : KA} {Q : KA} {s : Shared} {F G : PH} {J : KH} {o v : V} {u : Value} {n : Int} {t : Tok} {value : Expr} {p : Pos} {up : Option Expr}
  (r : Rel X F G J O s.heap) (ho : VR X.w.params F J o u) (e : my O o n = some v) (hs : iQ O o)
  (hQ : ∀ (w : Value) (h' : Heap) (tk : Nat) (F' : PH),Ext F J F' J → Rel X F' G J O h' → VR X.w.params F' J v w → (∀ b o,s.heap.get? b = some o → h'.get? b = some o) → (∀ a o,F' a = some o → F a = some o ∨ s.heap.get? a = none) → Q w { s with heap := h',toks := tk }) :
  wpAny (model X.prog X.w) A (subscriptTail value (.Slice none up none p) u (.ref s.heap.objs.size)) Q E { s with heap := s.heap.push (w5 .none (.int n t)) } := by
 unfold my at e
 split at e
 ·rename_i hb
  simp only [ya4,ya5] at hb
  have hk : ∀ b o',s.heap.get? b = some o' → (s.heap.push (w5 .none (.int n t))).get? b = some o' := λ b o' e => ya9 _ e
  refine i8 e (λ x q e => ?_) λ e => ?_
  ·obtain rfl := sj e
   have hs1 := hs.1 x q
   obtain rfl := C6 q
   refine ho.strE λ t' => ?_
   refine w8 (typeIs_str _ x t') PySem.F.slot_str_getitem.lookup (ops := [.ref s.heap.objs.size,.str x t']) rfl ?_
   refine wpAny_getItem_str_slice (l := none) (u := some (n,t)) (st := none) ⟨_,ya8 _ rfl,rfl,rfl⟩ rfl ?_
   have fin : ∀ t'' tk,Q (.str (Txt.slice x none (some n)) t'') { s with heap := s.heap.push (w5 .none (.int n t)),toks := tk } := λ t'' tk => hQ _ _ tk F (.refl F J) (r.keep hk) (.str _ _) hk λ Z Z e => .inl e
   have hq : sliceMade x t' none (some (n,t)) none = if ((1 : Int) == 1 && (strSliceIndices none (some n) 1 x.length).length == x.length) = true then .val (.str x t') else .str ⟨((strSliceIndices none (some n) 1 x.length).filterMap (x.cps[·]?)).toArray⟩ := rfl
   refine hq.symm ▸ ?_
   have hx : Txt.slice x none (some n) = if ((1 : Int) == 1 && (strSliceIndices none (some n) 1 x.length).length == x.length) = true then x else ⟨((strSliceIndices none (some n) 1 x.length).filterMap (x.cps[·]?)).toArray⟩ := rfl
   split at hx
   ·rename_i c
    rw [if_pos c]
    rw [hx] at fin
    exact fin t' s.toks
   ·rename_i c
    rw [if_neg c]
    rw [hx] at fin
    refine ⟨?_,fin _ _⟩
    have hle : (strSliceIndices none (some n) 1 x.length).length ≤ x.length := sliceIndices_le none (some n) x.length
    have h2 : x.length ≤ 1000000 := hs1
    refine (?_ : ((strSliceIndices none (some n) 1 x.length).filterMap (x.cps[·]?)).toArray.size ≤ _)
    rw [yb5]
    have h3 := List.length_filterMap_le (x.cps[·]?) (strSliceIndices none (some n) 1 x.length)
    rw [sizeLine_eq]; lia
  ·refine a9 (map_some e) λ xs e1 eR2 => ?_
   subst eR2
   refine S8 (r.nums ho e1) λ a us eR2 hl hi => ?_
   subst eR2
   have hlen := hs.2 xs e1
   have hl' := hl.push (w5 .none (.int n t))
   refine w8 (Heap.IsList.typeIs (s := { s with heap := s.heap.push (w5 .none (.int n t)) }) hl') slot_list_getitem.lookup (ops := [.ref s.heap.objs.size,.ref a]) rfl ?_
   refine wpAny_getItem_list_slice hl' (Heap.IsSliceOf.new ..) .none (.int n t) .none (by simp) ?_ (by rw [yb5,IntsAre.len hi,sizeLine_eq]; lia)
   have r1 := r.keep hk
   have hw : IntsAre (slicePick us.toArray none (some n) none).toList (xs.take n.toNat) := slice_ints_uptoW hi hb.1
   have ho' : (slicePick us.toArray none (some n) none) = (slicePick us.toArray none (some n) none).toList.toArray := by simp
   refine ho'.symm ▸ ?_
   refine i5 (r1.newF (o := d7 (slicePick us.toArray none (some n) none).toList.toArray 0) rfl) λ x r2 => ?_
   refine hQ _ _ s.toks _ x r2 (.nums (n := 0) (us := (slicePick us.toArray none (some n) none).toList) (by unfold put; simp) hw) (λ b o e => ya9 _ (hk b o e)) λ b o e => ?_
   unfold put at e
   split at e
   ·rename_i q; subst q
    refine .inr ?_
    have : ({ s with heap := s.heap.push (w5 .none (.int n t)) } : Shared).heap.objs.size = s.heap.objs.size + 1 := Heap.size_push ..
    exact Heap.get?_none_of_le (by rw [this]; lia)
   ·exact .inl e
 ·cases e
theorem Fram.grown {F F' G : PH} {h h' : Heap} (f : Fram X env F G J D h) (x : Ext F J F' J) (hk : ∀ b o,h.get? b = some o → h'.get? b = some o) (hn : ∀ a o,F' a = some o → F a = some o ∨ h.get? a = none) : Fram X env F' G J D h' := by
 have as := f.as
 refine (f.keep hk).more x λ a ha => ⟨?_,(as.1 a ha).2⟩
 cases e : F' a with
 | none => rfl
 | some o =>
  rcases hn a o e with q | q
  ·rw [(as.1 a ha).1] at q; cases q
  ·obtain ⟨o',q'⟩ := as.2 a ha
   rw [q'] at q; cases q
theorem qN {value up : Expr} {p pos : Pos} {k : KB}
  (h : Ev X (RV X) d env D O [] (λ Z => eval value env) (λ o Eg Eh => Ev X (RV X) d env Eg Eh [o] (λ Z => eval up env) (λ iv Ej Ei => ∃ n v,iv = .int n ∧ my Ei o n = some v ∧ iQ Ei o ∧ k v Ej Ei))) :
  Ev X (RV X) d env D O vs (λ Z => eval (.Subscript value (.Slice none (some up) none p) pos) env) k := by
 intro A E Q s F G J us hA r f hv hk
 refine Subscript_ ?_
 refine h A E _ s F G J [] hA r f .nil λ o u Eo Er Eu Em Eh Eg z Ey En Es Et => ?_
 refine wpAny_Slice ?_
 rw [evalPart_none,evalPart_some]
 refine ya1 ?_
 refine z A E _ _ Eu G Em [u] hA En Es (.cons Et .nil) λ b EO Ew Ek EE El Ei Ej EF EA Ep EC Ez => ?_
 refine z9 λ G kG => ?_
 obtain ⟨n,v,rfl,e,hs,EF⟩ := EF
 refine kG ?_
 refine Ez.intE λ t => ?_
 refine ya1 ?_
 exact qM (s := { s with heap := Ew,toks := Ek }) Ep (Et.mono EA) e hs λ w h' tk F' ER EN hw FT hn => hk v w h' tk F' El Ei Ej EF ((Ey.trans EA).trans ER) EN (EC.grown ER FT hn) hw
end
section
open PySem.Spec Builtin.Str
variable {d e : Nat}
noncomputable def N8 (v : Value) : Sem Value := do
 if v == .none then return .none
 if (← specialOf v "__index__").isNone then
  rule "bytes.slice.part-no-index"; raiseError "TypeError" "slice indices must be integers or None or have an __index__ method"
 return rawInt (← asIndex v)
theorem ci (s : Value) : Builtin.Bytes.sliceParts s = (do
  let step ← N8 (← field s 2)
  if step == rawInt 0 then rule "bytes.slice.step-zero"; raiseError "ValueError" "slice step cannot be zero"
  let first ← N8 (← field s 0)
  let last ← N8 (← field s 1)
  return (first,last,step)) := rfl
theorem A5 {M : Model} {v : Value} {k : Option Int} (hv : IsPart v k) (h : Q (rawPart k) s) : wpAny M A (N8 v) Q E s := by
 cases hv with
 | none => exact ya1 h
 | int i t =>
  unfold N8
  rw [if_neg (show ¬ ((Value.int i t == Value.none) = true) from Bool.false_ne_true)]
  refine ya0 (wpAny_specialOf (T := "int") (typeIs_int s i t) int_index ?_)
  rw [if_neg (by simp)]
  exact ya0 (wpAny_of_eq (a := i) rfl (ya1 h))
theorem fM (b : Array UInt8) (i j : Nat) : Builtin.Bytes.sliced b (i : Int) (j : Int) 1 = ((b.toList.drop i).take (j - i)).toArray := by
 unfold Builtin.Bytes.sliced
 rw [sliceRange_one]
 congr 1
 apply List.ext_getElem?
 intro k
 refine List.filterMap_map.symm ▸ ?_
 have hb : ∀ m,(List.range m).filterMap ((λ x => b[x]?) ∘ λ x => i + x) = (b.toList.drop i).take m := by
  intro m
  induction m with
  | zero => simp
  | succ m ih =>
   rw [List.range_succ,List.filterMap_append,ih,List.take_add_one]
   congr 1
   simp only [List.filterMap_cons,List.filterMap_nil,Function.comp]
   rw [List.getElem?_drop]
   have e : b[i + m]? = b.toList[i + m]? := by simp
   refine e.symm ▸ ?_
   cases b.toList[i + m]? <;> rfl
 rw [hb]
theorem E8 {prog : Program} {w : World} {A : Around} {E : KA} {s : Shared} {b : Array UInt8} {t : Tok} {sl : Addr} {i j : Int} {ti tj : Tok} {Q : KA}
  (hs : s.heap.get? sl = some (w5 (.int i ti) (.int j tj))) (h0 : 0 ≤ i) (h1 : i ≤ j) (h2 : j ≤ b.size) (hsz : b.size ≤ 100000)
  (h : ∀ t' tk,Q (.bytes ((b.toList.drop i.toNat).take (j - i).toNat).toArray t') { s with toks := tk }) : wpAny (model prog w) A (getItem (.bytes b t) (.ref sl)) Q E s := by
 have hTs : s.TypeIs (.ref sl) "slice" := ⟨_,hs,rfl⟩
 refine wpAny_getItem_slot (typeIs_bytes s b t) (by decide) FB.slot_bytes_getitem (wpAny_call_entry FB.slot_bytes_getitem (typeIs_bytes s b t) FB.entry_bytes_getitem ?_ (FB.args_bytes_getitem_2 _ _))
 refine (?_ : wpAny _ _ (Builtin.Bytes.subscript? (.ref sl) >>= λ r => _) _ _ s)
 refine ya0 ?_
 unfold Builtin.Bytes.subscript?
 refine ya0 (wpAny_specialOf hTs slice_no_index ?_)
 refine wpAny_ite_true rfl (ya1 ?_)
 refine ya0 (wpAny_typeOf hTs ?_)
 rw [if_neg (by decide)]
 rw [ci]
 refine ya0 (ya0 (wpAny_field hs rfl (x := .none) rfl (ya0 (A5 .none ?_))))
 refine (if_neg (show ¬ ((rawPart none == rawInt 0) = true) from Bool.false_ne_true)).symm ▸ ?_
 refine ya0 (wpAny_field hs rfl (x := .int i ti) rfl (ya0 (A5 (.int i ti) ?_)))
 refine ya0 (wpAny_field hs rfl (x := .int j tj) rfl (ya0 (A5 (.int j tj) (ya1 ?_))))
 refine ya0 (wpAny_of_eq (sliceIndices_raw (some i) (some j) none b.size (by simp)) ?_)
 obtain ⟨i,rfl⟩ := Int.eq_ofNat_of_zero_le h0
 obtain ⟨j,rfl⟩ := Int.eq_ofNat_of_zero_le (Int.le_trans h0 h1)
 have e : sliceBounds (some (i : Int)) (some (j : Int)) none b.size = ((i : Int),(j : Int),1) := by
  simp only [sliceBounds,Option.getD_none]
  have h1 : ¬ ((i : Int) < 0) := by exact Int.not_lt.mpr (by assumption)
  have h2 : ¬ ((j : Int) < 0) := by lia
  simp only [h1,h2,if_false,show (1 : Int) > 0 by decide,if_true]
  congr 1
  ·lia
  ·congr 1; lia
 refine e.symm ▸ ?_
 have hrun := fM b i j
 have hcut : ((j : Int) - (i : Int)).toNat = j - i := by lia
 replace h := hcut ▸ h
 have hi : ((i : Nat) : Int).toNat = i := by exact rfl
 replace h := hi ▸ h
 dsimp only
 split
 ·rename_i c
  simp only [ya4,beq_iff_eq] at c
  obtain ⟨⟨⟨c1,_⟩,c3⟩,_⟩ := c
  have z1 : i = 0 := by lia
  have z2 : j = b.size := by lia
  refine ya0 (wpAny_typeOf (typeIs_bytes s b t) ?_)
  rw [if_pos (by decide)]
  refine ya0 (wpAny_rule (ya1 ⟨_,rfl,?_⟩))
  have := h t s.toks
  subst z1 z2
  have e2 : ((b.toList.drop 0).take (b.size - 0)).toArray = b := by
   rw [List.drop_zero,Nat.sub_zero,List.take_of_length_le (by simp)]
  rw [e2] at this
  exact this
 ·refine hrun.symm ▸ ?_
  refine ya0 (wpAny_mkBytes (ya1 ⟨_,rfl,h _ _⟩) ?_)
  refine List.size_toArray.symm ▸ ?_
  have := List.length_take_le (j - i) (b.toList.drop i)
  have h3 : (b.toList.drop i).length ≤ b.toList.length := by rw [List.length_drop]; (exact Nat.sub_le _ _)
  have h4 : ((b.toList.drop i).take (j - i)).length ≤ (b.toList.drop i).length := by rw [List.length_take]; exact Nat.min_le_right _ _
  have h5 : b.toList.length = b.size := by simp
  rw [sizeLine_eq]; lia
theorem fN (b : Array UInt8) (i k : Nat) : S6 ((b.toList.drop i).take k).toArray = ((S6 b).drop i).take k := by
 unfold S6
 simp [List.map_take,List.map_drop]
theorem iR {value lo up : Expr} {p pos : Pos} {k : KB}
  (h : Ev X (RV X) d env D O [] (λ Z => eval value env) (λ o Eg Eh => Ev X (RV X) d env Eg Eh [o] (λ Z => eval lo env) (λ iv Ej Ei => Ev X (RV X) d env Ej Ei [o,iv] (λ Z => eval up env) (λ jv EH ED => ∃ xs i j,o = .byt xs ∧ iv = .int i ∧ jv = .int j ∧
   (0 ≤ i ∧ i ≤ j ∧ j ≤ xs.length ∧ xs.length ≤ 100000) ∧ k (.byt ((xs.drop i.toNat).take (j - i).toNat)) EH ED)))) :
  Ev X (RV X) d env D O vs (λ Z => eval (.Subscript value (.Slice (some lo) (some up) none p) pos) env) k := by
 intro A E Q s F G J us hA r f hv hk
 refine Subscript_ ?_
 refine h A E _ s F G J [] hA r f .nil λ o u Eo Er Eu Em Eh Eg z Ey En Es Et => ?_
 refine wpAny_Slice ?_
 rw [evalPart_some]
 refine z A E _ _ Eu G Em [u] hA En Es (.cons Et .nil) λ iv ui Ew Ek EE El Ei Ej EF EA Ep EC Ez => ?_
 rw [evalPart_some]
 refine EF A E _ _ EE G El [u,ui] hA Ep EC (.cons (Et.mono EA) (.cons Ez .nil)) λ jv uj EK ES EL EI ED EH EW ER EN EM Fo => ?_
 refine z9 λ G kG => ?_
 obtain ⟨xs,i,j,rfl,rfl,rfl,⟨c1,c2,c3,c4⟩,EW⟩ := EW
 refine kG ?_
 refine Ez.intE λ t => ?_
 refine Fo.intE λ t' => ?_
 refine ya1 ?_
 cases Et with
 | @byt _ b tb e =>
  subst e
  have hl : (S6 b).length = b.size := by unfold S6; simp
  rw [hl] at c3 c4
  refine w8 (typeIs_bytes _ b tb) FB.slot_bytes_getitem.lookup (ops := [.ref EK.objs.size,.bytes b tb]) rfl ?_
  refine E8 (i := i) (j := j) (ti := t) (tj := t') (ya8 _ rfl) c1 c2 c3 c4 λ t'' tk => ?_
  have hk' : ∀ b o',EK.get? b = some o' → (EK.push (w5 (.int i t) (.int j t'))).get? b = some o' := λ b o' e => ya9 _ e
  exact hk _ _ _ tk EL EI ED EH EW ((Ey.trans EA).trans ER) (EN.keep hk') (EM.keep hk') (.byt _ (fN b i.toNat (j - i).toNat).symm)
end
section
open PySem.Spec
variable {d e : Nat}
noncomputable def s6 (es : KF) (k : Int) : Option Int := (es.find? λ e => decide (e.1 = k)).map (·.2)
noncomputable def Y3 (es : KF) (k v : Int) : List (Int × Int) := if es.any (λ e => decide (e.1 = k)) then es.map (λ e => if e.1 = k then (e.1,v) else e) else es ++ [(k,v)]
theorem IMs.get {kvs : List (Int × Value)} (q : IMs es kvs) (k : Int) : (∀ v,s6 es k = some v → ∃ t,valueAt kvs k = some (.int v t)) ∧ (s6 es k = none → valueAt kvs k = none) := by
 induction q with
 | nil => exact ⟨λ v e => (nomatch e),λ Z => rfl⟩
 | @cons k' v' t es kvs b ih =>
  obtain ⟨a1,a2⟩ := ih
  unfold s6 valueAt at *
  rw [List.find?_cons,List.find?_cons]
  by_cases q : k' = k
  ·have e1 : decide (k' = k) = true := ya2 q
   rw [e1]
   exact ⟨λ v e => ⟨t,by cases e; rfl⟩,λ e => (nomatch e)⟩
  ·have e1 : decide (k' = k) = false := decide_eq_false q
   rw [e1]
   exact ⟨a1,a2⟩
theorem IMs.any {k : Int} {es : KF} {kvs : List (Int × Value)} (q : IMs es kvs) : (kvs.any λ kv => decide (kv.1 = k)) = es.any λ e => decide (e.1 = k) := by
 induction q with
 | nil => rfl
 | cons b ih => rw [List.any_cons,List.any_cons,ih]
theorem IMs.len {kvs : List (Int × Value)} (h : IMs es kvs) : kvs.length = es.length := by
 induction h with
 | nil => rfl
 | cons b ih => exact congrArg Nat.succ ih
theorem IMs.snoc {k v : Int} {t : Tok} {kvs : List (Int × Value)} (h : IMs es kvs) : IMs (es ++ [(k,v)]) (kvs ++ [(k,.int v t)]) := by
 induction h with
 | nil => exact .cons .nil
 | cons b ih => exact .cons ih
theorem IMs.upd {k v : Int} {t : Tok} {kvs : List (Int × Value)} (h : IMs es kvs) : IMs (es.map λ e => if e.1 = k then (e.1,v) else e) (kvs.map λ kv => if kv.1 = k then (kv.1,.int v t) else kv) := by
 induction h with
 | nil => exact .nil
 | @cons k' _ _ _ _ b ih =>
  rw [yc8,yc8]
  by_cases q : k' = k
  ·rw [if_pos q,if_pos q]; exact .cons ih
  ·rw [if_neg q,if_neg q]; exact .cons ih
theorem IMs.put {k v : Int} {t : Tok} {kvs : List (Int × Value)} (h : IMs es kvs) : IMs (Y3 es k v) (stored kvs k (.int v t)) := by
 unfold Y3 stored
 have e := h.any (k := k)
 rw [e]
 split
 ·exact h.upd
 ·exact h.snoc
noncomputable def oY (es : KD) (k : Str) : Option V := (es.find? λ e => decide (e.1 = k)).map (·.2)
noncomputable def uk (es : KD) (k : Str) (v : V) : List (Str × V) := if es.any (λ e => decide (e.1 = k)) then es.map (λ e => if e.1 = k then (e.1,v) else e) else es ++ [(k,v)]
theorem SMs.get {es : KD} {kvs : List (Str × Value)} (q : SMs P F J es kvs) (k : Str) : (∀ v,oY es k = some v → ∃ u,valueAt kvs k = some u ∧ VR P F J v u) ∧ (oY es k = none → valueAt kvs k = none) := by
 induction q with
 | nil => exact ⟨λ v e => (nomatch e),λ Z => rfl⟩
 | @cons k' v' u es kvs c b ih =>
  obtain ⟨a1,a2⟩ := ih
  unfold oY valueAt at *
  rw [List.find?_cons,List.find?_cons]
  by_cases q : k' = k
  ·have e1 : decide (k' = k) = true := ya2 q
   rw [e1]
   exact ⟨λ v e => ⟨u,rfl,by cases e; exact c⟩,λ e => (nomatch e)⟩
  ·have e1 : decide (k' = k) = false := decide_eq_false q
   rw [e1]
   exact ⟨a1,a2⟩
theorem SMs.any {P : Params} {F : PH} {J : KH} {k : Str} {es : KD} {kvs : List (Str × Value)} (h : SMs P F J es kvs) : (kvs.any λ kv => decide (kv.1 = k)) = es.any λ e => decide (e.1 = k) := by
 induction h with
 | nil => rfl
 | cons a b ih => rw [List.any_cons,List.any_cons,ih]
theorem SMs.len {es : KD} {kvs : List (Str × Value)} (h : SMs P F J es kvs) : kvs.length = es.length := by
 induction h with
 | nil => rfl
 | cons a b ih => exact congrArg Nat.succ ih
theorem SMs.snoc {k : Str} {u : Value} (h : VR P F J v u) {es : KD} {kvs : List (Str × Value)} (q : SMs P F J es kvs) : SMs P F J (es ++ [(k,v)]) (kvs ++ [(k,u)]) := by
 induction q with
 | nil => exact .cons h .nil
 | cons a b ih => exact .cons a ih
theorem SMs.upd {k : Str} {u : Value} (h : VR P F J v u) {es : KD} {kvs : List (Str × Value)} (hs : SMs P F J es kvs) : SMs P F J (es.map λ e => if e.1 = k then (e.1,v) else e) (kvs.map λ kv => if kv.1 = k then (kv.1,u) else kv) := by
 induction hs with
 | nil => exact .nil
 | @cons k' _ _ _ _ a b ih =>
  rw [yc8,yc8]
  by_cases q : k' = k
  ·rw [if_pos q,if_pos q]; exact .cons h ih
  ·rw [if_neg q,if_neg q]; exact .cons a ih
theorem SMs.put {k : Str} {u : Value} (h : VR P F J v u) {es : KD} {kvs : List (Str × Value)} (hs : SMs P F J es kvs) : SMs P F J (uk es k v) (stored kvs k u) := by
 unfold uk stored
 have e := hs.any (k := k)
 rw [e]
 split
 ·exact hs.upd h
 ·exact hs.snoc h
theorem N9 (i : Int) (t : Tok) : (PySem.intKind prog w).is i (.int i t) = true := by simp [PySem.intKind,Value.isInt]
theorem O0 (x : Str) (t : Tok) : (PySem.strKind prog w).is x (.str x t) = true := by simp [PySem.strKind,Value.isStrOf]
section
variable {k : Unit → List MO → Prop}
theorem O1 {i v : Int} (hs : O[n]? = some (.imap es)) (hl : es.length ≤ 1000000) (h : k () (O.set n (.imap (Y3 es i v)))) :
  Op X RU d O [.h n,.int i,.int v] (λ us => setItem (us.getD 0 .none) (us.getD 1 .none) (us.getD 2 .none)) k := by
 intro A E Q s F G J us hA r hv hk
 refine hv.threeE λ u w y hu hw hy => ?_
 refine hw.intE λ t => ?_
 refine hy.intE λ t' => ?_
 refine hu.hE λ Z ha => ?_
 refine a9 (r.m _ _ _ ha hs) λ o ho hm => ?_
 refine hm.imapE λ _ q hd => ?_
 refine wpAny_setItem_pairs (N9 (prog := X.prog) (w := X.w) i t) (Heap.dictOf_iff.mpr ⟨o,ho,hd⟩) (λ h' hd' hs' => ?_) (by rw [q.len,sizeLine_eq]; (exact ya6 (by assumption) (Nat.le_add_left _ _)))
 refine a9 (Heap.dictOf_iff.mp hd') λ o' ho' hd' => ?_
 exact hk () () _ _ F J _ h (.refl F J) (r.setH ha hs' ho' (.imap q.put hd')) trivial
theorem O2 {i : Str} {es : KD} (hs : O[n]? = some (.smap es)) (hl : es.length ≤ 1000000) (h : k () (O.set n (.smap (uk es i v)))) :
  Op X RU d O [.h n,.str i,v] (λ us => setItem (us.getD 0 .none) (us.getD 1 .none) (us.getD 2 .none)) k := by
 intro A E Q s F G J us hA r hv hk
 refine hv.threeE λ u w y hu hw hy => ?_
 refine hw.strE λ t => ?_
 refine hu.hE λ Z ha => ?_
 refine a9 (r.m _ _ _ ha hs) λ o ho hm => ?_
 refine hm.smapE λ _ q hd => ?_
 refine wpAny_setItem_pairs (O0 (prog := X.prog) (w := X.w) i t) (Heap.dictOf_iff.mpr ⟨o,ho,hd⟩) (λ h' hd' hs' => ?_) (by rw [q.len,sizeLine_eq]; (exact ya6 (by assumption) (Nat.le_add_left _ _)))
 refine a9 (Heap.dictOf_iff.mp hd') λ o' ho' hd' => ?_
 exact hk () () _ _ F J _ h (.refl F J) (r.setH ha hs' ho' (.smap (q.put hy) hd')) trivial
end
section
variable {value slice : Expr} {t : Tok}
theorem aG {a : Addr} {i v : Int} (r : Rel X F G J O s.heap) (ha : J[n]? = some a) (hs : O[n]? = some (.imap es)) (hg : s6 es i = some v) (hp : m4 slice = true) (hQ : ∀ t' tk,Q (.int v t') { s with toks := tk }) :
  wpAny (model X.prog X.w) A (subscriptTail value slice (.ref a) (.int i t)) Q E s := by
 refine a9 (r.m _ _ _ ha hs) λ o ho hm => ?_
 refine hm.imapE λ _ q hd => ?_
 have hd' := Heap.dictOf_iff.mpr ⟨o,ho,hd⟩
 refine i6 ((q.get i).1 v hg) λ t' hv => ?_
 exact w8 hd'.typeIs slot_dict_getitem.lookup (g9 hp) (wpAny_getItem_of (N9 i t) hd'.mapOf hv (hQ _ _))
theorem cj {a : Addr} {i v : Int} (r : Rel X F G J O s.heap) (ha : J[n]? = some a) (hs : O[n]? = some (.pin o es)) (hg : s6 es i = some v) (hp : m4 slice = true) (hQ : ∀ t' tk,Q (.int v t') { s with toks := tk }) :
  wpAny (model X.prog X.w) A (subscriptTail value slice (.ref a) (.int i t)) Q E s := by
 refine a9 (r.m _ _ _ ha hs) λ o ho hm => ?_
 cases hm with
 | pin q hd =>
  have hd' := Heap.dictOf_iff.mpr ⟨_,ho,hd⟩
  refine i6 ((q.get i).1 v hg) λ t' hv => ?_
  exact w8 hd'.typeIs slot_dict_getitem.lookup (g9 hp) (wpAny_getItem_of (N9 i t) hd'.mapOf hv (hQ _ _))
theorem aH {a : Addr} {i : Str} {es : KD} (r : Rel X F G J O s.heap) (ha : J[n]? = some a) (hs : O[n]? = some (.smap es)) (hg : oY es i = some v) (hp : m4 slice = true) (hQ : ∀ u tk,VR X.w.params F J v u → Q u { s with toks := tk }) :
  wpAny (model X.prog X.w) A (subscriptTail value slice (.ref a) (.str i t)) Q E s := by
 refine a9 (r.m _ _ _ ha hs) λ o ho hm => ?_
 refine hm.smapE λ _ q hd => ?_
 have hd' := Heap.dictOf_iff.mpr ⟨o,ho,hd⟩
 refine a9 ((q.get i).1 v hg) λ u hv hr => ?_
 exact w8 hd'.typeIs slot_dict_getitem.lookup (g9 hp) (wpAny_getItem_of (O0 i t) hd'.mapOf hv (hQ _ _ hr))
end
end
section
open PySem.Spec
variable {d e : Nat}
noncomputable def iS (m : MO) : Bool := m.ctorIdx.blt 2
theorem aI {h : Heap} {Gr : Addr} {m : MO} (r : Rel X F G J O h) (ha : J[n]? = some Gr) (hs : O[n]? = some m) (hm : iS m = true) : ∃ (us : KK) (k : Nat),h.get? Gr = some (d7 us.toArray k) := by
 refine a9 (r.m _ _ _ ha hs) λ o ho hr => ?_
 clear hs
 induction m using MO.casesOn with
 | lst ws => exact U5 hr.lstE λ us n e q => ⟨us,n,e ▸ ho⟩
 | nums xs => exact U5 hr.numsE λ us n e q => ⟨us,n,e ▸ ho⟩
 | _ => cases hm
theorem O3 {m : MO} (hs : O[n]? = some m) (hm : iS m = true) : hX X d (.h n) "append" (.builtin "list.append") [.h n] O := by
 intro A E Q s F G J u pl hA r hu hQ
 have hu' := hu
 revert hu'
 exact hu.hE λ Gr ha hu' => L8 (aI r ha hs hm) λ us k ho => Calls.getMethod_list_append ho rfl rfl (hQ _ s.toks (.cons hu' .nil))
theorem O4 {m : MO} (hs : O[n]? = some m) (hm : iS m = true) : hX X d (.h n) "extend" (.builtin "list.extend") [.h n] O := by
 intro A E Q s F G J u pl hA r hu hQ
 have hu' := hu
 revert hu'
 exact hu.hE λ Gr ha hu' => L8 (aI r ha hs hm) λ us k ho => getMethod_list_of PySem.F.slot_list_extend PySem.F.type_list_extend ⟨_,ho,rfl,_,rfl⟩ ⟨_,ho,rfl⟩ (hQ _ s.toks (.cons hu' .nil))
theorem dU (hs : O[n]? = some (.imap es)) : hX X d (.h n) "get" (.builtin "dict.get") [.h n] O := by
 intro A E Q s F G J u pl hA r hu hQ
 have hu' := hu
 cases hu with
 | h ha =>
  refine a9 (r.m _ _ _ ha hs) λ o ho hr => ?_
  refine hr.imapE λ _ q hd => ?_
  have hd' := Heap.dictOf_iff.mpr ⟨o,ho,hd⟩
  exact getMethod_builtin hd'.typeIs PySem.F.plainAttrs_dict PySem.F.slot_dict_get PySem.F.type_dict_get hd'.mapOf.noDict (hQ _ s.toks (.cons hu' .nil))
theorem O5 {i dv : Int} (hsys : ∃ o,X.h₀.get? sysModules = some o) (hs : O[n]? = some (.imap es)) (h : k (.int ((s6 es i).getD dv)) O) :
  Op X (RV X) d O [.h n,.int i,.int dv] (λ us => call (.builtin "dict.get") us) k := by
 intro A E Q s F G J us hA r hv hk
 refine hv.threeE λ u w y hu hw hy => ?_
 refine hw.intE λ t => ?_
 refine hy.intE λ t' => ?_
 refine hu.hE λ a ha => ?_
 refine a9 (r.m _ _ _ ha hs) λ o ho hr => ?_
 have hne : (a == sysModules) = false := by
  refine i6 (hsys) λ o' e => ?_
  have hF := r.base _ _ e
  have hn := (r.rf a (yc7 ha)).1
  refine beq_false_of_ne λ q => ?_
  subst q
  rw [hn] at hF; cases hF
 refine hr.imapE λ _ q hd => ?_
 have hd' := Heap.dictOf_iff.mpr ⟨o,ho,hd⟩
 refine call_meetsIn PySem.F.slot_dict_get hd'.typeIs PySem.F.entry_dict_get (PySem.F.args_dict_get_3 _ _ _) (meets_dict_get_default _ a (N9 i t) hne (.int dv t')) ⟨_,hd'.mapOf,?_⟩
 refine i5 (q.get i) λ g1 g2 => ?_
 cases e : s6 es i with
 | some v =>
  refine i6 (g1 v e) λ t'' hv => ?_
  rw [e] at h
  refine (?_ : Q ((valueAt _ i).getD (.int dv t')) _)
  refine hv.symm ▸ ?_
  exact hk _ _ s.heap _ F J O h (.refl F J) r (.int _ _)
 | none =>
  rw [e] at h
  refine (?_ : Q ((valueAt _ i).getD (.int dv t')) _)
  refine (g2 e).symm ▸ ?_
  exact hk _ _ s.heap _ F J O h (.refl F J) r (.int _ _)
noncomputable def ul (i : Its) : MO → Option MO
 | .nums xs => some (((Its.ns xs).cat i).M)
 | .lst ws => some (((Its.vs ws).cat i).M)
 | _ => none
theorem iT {m m' : MO} {i : Its} (hs : O[n]? = some m) (hi : lO O v = some i) (hp : ul i m = some m') (hl : fw m + i.len ≤ 100000) (h : k .none (O.set n m')) :
  Op X (RV X) d O [.h n,v] (λ us => call (.builtin "list.extend") us) k := by
 intro A E Q s F G J us hA r hv hk
 refine hv.twoE λ u w hu hw => ?_
 refine ig (r.its hw hi) λ b ys Gi eR3 hb hy => ?_
 subst eR3
 refine hu.hE λ Gr ha => ?_
 refine a9 (r.m _ _ _ ha hs) λ o ho hm => ?_
 have main : ∀ {j : Its} {us : KK} {Fw : Nat},s.heap.get? Gr = some (d7 us.toArray Fw) → cb X.w.params F J j us → m' = (j.cat i).M → j.len = fw m → wpAny (model X.prog X.w) A (call (.builtin "list.extend") [.ref Gr,.ref b]) Q E s := by
  intro j us Fw ho hj hm' hlen
  have l1 := hj.len
  have l2 := hy.len
  have hsz : us.length + ys.length ≤ sizeLine := by rw [sizeLine_eq]; omega
  have hsz' : us.toArray.size + ys.toArray.size ≤ sizeLine := by rw [yb5,yb5]; exact hsz
  refine call_meets PySem.F.slot_list_extend ⟨_,ho,rfl⟩ PySem.F.entry_list_extend (PySem.F.args_list_extend_2 _ _) (AutoSeq1.list_extend_list_list_0 Gr us.toArray Fw b ys.toArray Gi (extend_door hsz') (ya6 (yb7 _ _) hsz')) ⟨ho,hb,?_⟩
  have e : us.toArray ++ ys.toArray = (us ++ ys).toArray := by simp
  have ho' : ∃ n',(s.heap.update Gr (Obj.mapSeq λ x => x ++ ys.toArray)).get? Gr = some (d7 (us ++ ys).toArray n') := by
   refine ⟨if (us.toArray ++ ys.toArray).size == us.toArray.size then Fw else Fw + 1,?_⟩
   rw [Heap.get?_update_self _ ho (by rw [mapSeq_app]; rfl),mapSeq_app,e]
  refine i6 (ho') λ n' ho' => ?_
  have hM : MR X.prog X.w F J m' (d7 (us ++ ys).toArray n') := by rw [hm']; exact (hj.cat hy).M
  exact hk .none .none _ s.toks F J _ h (.refl F J) (r.setH ha (yc4 ..) ho' hM) .none
 clear hs hl
 induction m using MO.casesOn with
 | lst ws =>
  refine U5 hm.lstE λ us n e q => ?_
  rw [e] at ho
  exact main (j := .vs _) ho q (sj hp).symm rfl
 | nums xs =>
  refine U5 hm.numsE λ us n e q => ?_
  rw [e] at ho
  exact main (j := .ns _) ho q (sj hp).symm rfl
 | _ => cases hp
end
section
open PySem.Spec
variable {d e : Nat}
noncomputable def Y4 : List V → Option (List Bool)
 | [] => some []
 | .bool b :: r => (Y4 r).map (b :: ·)
 | _ => none
theorem fO : ∀ {vs : KN} {bs : List Bool} {us : KK},Y4 vs = some bs → VRs P F J vs us → us = bs.map .bool := by
 intro vs
 induction vs with
 | nil => intro bs us e r; cases e; cases r; rfl
 | cons v r ih =>
  intro bs us e h
  induction v using V.casesOn with
  | bool b =>
   refine a9 (map_some (f := (b :: ·)) e) λ ys e' eR2 => ?_
   subst eR2
   cases h with
   | cons a q =>
    refine a.boolE ?_
    rw [ih e' q]; rfl
  | _ => cases e
noncomputable def um : List Bool → Bool
 | [] => false
 | b :: r => b || um r
theorem iU (bs : List Bool) : (List.range bs.length).any (λ i => bs.getD i false) = um bs := by
 induction bs with
 | nil => rfl
 | cons b r ih =>
  rw [yb2,List.range_succ_eq_map,List.any_cons,List.any_map]
  refine (?_ : (b || _) = (b || um r))
  refine ih.symm ▸ ?_
  rfl
theorem un {ws : KN} {bs : List Bool} (e : V1 O v = some ws) (eb : Y4 ws = some bs) (h : k (.bool (um bs)) O) : Op X (RV X) d O [v] (λ us => call (.builtin "any") us) k := by
 intro A E Q s F G J us hA r hv hk
 refine hv.oneE λ u hu => ?_
 refine ig (r.items hu e) λ a us n eR3 ho hs => ?_
 subst eR3
 obtain rfl := fO eb hs
 have hl : s.heap.IsList a (bs.map Value.bool).toArray := ⟨_,ho,rfl,_,rfl⟩
 refine call_any_walk (wpAny_pyIter_list hl ?_)
 have hne : a ≠ s.heap.objs.size := yb9 (yb8 ho)
 have hk0 : ∀ b o',s.heap.get? b = some o' → (s.heap.push { cls := .type "list_iterator", data := .fields #[.ref a,.int 0 0] }).get? b = some o' := λ b o' e => ya9 _ e
 refine ⟨s.heap.objs.size,_,_,_,_,_,λ i => bs.getD i false,rfl,Walks.list (A := A.in1) hA.1 _ a hne (bs.map Value.bool).toArray,⟨⟨_,ya8 _ rfl,rfl,rfl⟩,hl.push _⟩,?_,λ h' tk hk' => ?_⟩
 ·intro i v s' Q' E' hP hQ'
  have hP' : (bs.map Value.bool)[i]? = some v := by simpa using hP
  rw [List.getElem?_map] at hP'
  refine a9 (map_some hP') λ b hb eR2 => ?_
  subst eR2
  refine wpAny_truthy_bool ?_
  have : bs.getD i false = b := by rw [yc9,hb]; rfl
  have hQ2 : Q' (bs.getD i false) s' := hQ'
  rw [this] at hQ2
  exact hQ2
 ·rw [yb5,yb4,iU]
  have fr := J7.new r (o := { cls := .type "list_iterator", data := .fields #[.ref a,.int 0 0] }) rfl
  exact hk _ _ h' tk F J O h (.refl F J) ((r.keep hk0).freeKeep fr hk') (.bool _)
end
section
open PySem.Spec
variable {d e : Nat}
structure ClsAttr (X : Wd) (C : Addr) (name : Str) (v : Value) where
 mc : Value
 ga : specialIn X.K (.ref C) "__getattribute__" = some (some (.builtin "type.__getattribute__"))
 typ : typeIn X.K (.ref C) = some mc
 reads : readsIn X.K C mc = true
 find : findCls X.K (.ref C) mc name = some (.val v)
 hand : handedIn v = true
theorem mz {name : Str} {v : Value} (ok : ClsAttr X C name v) : hX X d (.val (.ref C)) name v [] O := by
 intro A E Q s F G J u pl hA r hu hQ
 obtain rfl := hu.val'
 have KI : X.K.In s.heap := X.kin.keeps (f8 r)
 exact method_cls KI ok.ga (cls_value KI ok.reads ok.find ok.hand (hQ _ (s.toks + 1) .nil))
end
section
open PySem.Spec
variable {d e : Nat}
theorem O6 {α : Type} (l : List (Str × α)) (n : Str) (v : α) (x : Str) : (l ++ [(n,v)]).lookup x = match l.lookup x with | some w => some w | none => if x = n then some v else none := by
 induction l with
 | nil =>
  rw [List.nil_append,yc6]
  by_cases h : x = n
  ·subst h; simp
  ·have : (x == n) = false := by simpa using h
   rw [this]; simp [h]
 | cons p l ih =>
  obtain ⟨y,w⟩ := p
  rw [List.cons_append,yc6,yc6,ih]
  cases x == y <;> rfl
theorem mA {kO : Str → Option NameKind} : ∀ (l : List (Str × Value)) (m : Str → Option Value),kO x = some .local → bindL kO l m x = match l.reverse.lookup x with | some w => some w | none => m x := by
 intro l
 induction l with
 | nil =>
  intro m Z
  exact rfl
 | cons hd r ih =>
  obtain ⟨n,v⟩ := hd
  intro m h
  unfold bindL
  rw [ih _ h,List.reverse_cons,O6]
  cases r.reverse.lookup x with
  | some w => rfl
  | none =>
   dsimp only
   by_cases q : x = n
   ·subst q; rw [if_pos h]; simp
   ·rw [if_neg q]; dsimp only; split <;> simp [q]
theorem mB {kO : Str → Option NameKind} : ∀ (l : List (Str × Value)) (m : Str → Option Value),kO x ≠ some .local → bindC kO l m x = match l.reverse.lookup x with | some w => some w | none => m x := by
 intro l
 induction l with
 | nil =>
  intro m Z
  exact rfl
 | cons hd r ih =>
  obtain ⟨n,v⟩ := hd
  intro m h
  unfold bindC
  rw [ih _ h,List.reverse_cons,O6]
  cases r.reverse.lookup x with
  | some w => rfl
  | none =>
   dsimp only
   by_cases q : x = n
   ·subst q; rw [if_neg h]; simp
   ·rw [if_neg q]; dsimp only; split <;> simp [q]
noncomputable def mC (scope : Scope) (x : Str) : Bool := scope.names.lookup x == some .local
noncomputable def mD (scope : Scope) (x : Str) : Bool := scope.names.lookup x == some .cell
theorem u4 {α : Type} {f : Str → Bool} {v : α} : ∀ {l : List (Str × α)},(l.filter λ p => f p.1).lookup x = some v → l.lookup x = some v ∧ f x = true := by
 intro l
 induction l with
 | nil =>
  intro h
  cases h
 | cons hd l ih =>
  obtain ⟨y,w⟩ := hd
  intro h
  rw [List.filter_cons] at h
  rw [yc6]
  by_cases q : x = y
  ·subst q
   have e : (x == x) = true := by simp
   split at h
   ·rename_i hf
    rw [yc6,e] at h
    exact ⟨by rw [e]; exact h,hf⟩
   ·rename_i hf
    exact absurd (ih h).2 hf
  ·have e : (x == y) = false := by simpa using q
   refine e.symm ▸ ?_
   split at h
   ·rw [yc6,e] at h; exact ih h
   ·exact ih h
theorem Y5 : ∀ (names : List (Str × NameKind)) (n : Nat) (acc : List (Str × Addr)),(acc.lookup x).isSome = true → ((cellsFrom n names acc).lookup x).isSome = true := by
 intro names
 induction names with
 | nil =>
  intro Z Z h
  exact h
 | cons hd r ih =>
  obtain ⟨y,kd⟩ := hd
  intro n acc h
  unfold cellsFrom
  split
  ·refine ih _ _ ?_
   rw [yc6]
   split
   ·rfl
   ·exact h
  ·exact ih _ _ h
theorem A6 : ∀ (names : List (Str × NameKind)) (n : Nat) (acc : List (Str × Addr)),names.lookup x = some .cell → ((cellsFrom n names acc).lookup x).isSome = true := by
 intro names
 induction names with
 | nil =>
  intro Z Z h
  cases h
 | cons hd r ih =>
  obtain ⟨y,kd⟩ := hd
  intro n acc h
  rw [yc6] at h
  unfold cellsFrom
  by_cases q : x = y
  ·subst q
   have e : (x == x) = true := by simp
   rw [e] at h
   obtain rfl := sj h
   rw [if_pos (by rfl)]
   refine Y5 r _ _ ?_
   rw [yc6,e]; rfl
  ·have e : (x == y) = false := by simpa using q
   rw [e] at h
   split
   ·exact ih _ _ h
   ·exact ih _ _ h
theorem C8 : ∀ (names : List (Str × NameKind)) (n : Nat) (acc : List (Str × Addr)),(acc.map (·.1)).Nodup → (names.map (·.1)).Nodup → (∀ x ∈ names.map (·.1),x ∉ acc.map (·.1)) → ((cellsFrom n names acc).map (·.1)).Nodup := by
 intro names
 induction names with
 | nil =>
  intro Z Z h Z Z
  exact h
 | cons hd r ih =>
  obtain ⟨y,kd⟩ := hd
  intro n acc h hn hd
  rw [yc8,List.nodup_cons] at hn
  have hr : ∀ x ∈ r.map (·.1),x ∉ acc.map (·.1) := λ x hx => hd x (by rw [yc8]; exact mM _ hx)
  unfold cellsFrom
  split
  ·refine ih _ _ ?_ hn.2 λ x hx q => ?_
   ·rw [yc8,List.nodup_cons]
    exact ⟨hd y (by rw [yc8]; exact mS),h⟩
   ·replace q := yc8 ▸ q
    rcases List.mem_cons.mp q with q | q
    ·have q' : x = y := q
     subst q'; exact hn.1 hx
    ·exact hr x hx q
  ·exact ih _ _ h hn.2 hr
theorem m7 {α : Type} {y : Str} {c : α} : ∀ {l : List (Str × α)},(l.map (·.1)).Nodup → (y,c) ∈ l → l.lookup y = some c := by
 intro l
 induction l with
 | nil =>
  intro Z h
  cases h
 | cons hd l ih =>
  obtain ⟨x,w⟩ := hd
  intro hn h
  rw [yc8,List.nodup_cons] at hn
  rw [yc6]
  rcases List.mem_cons.mp h with q | q
  ·cases q
   have e : (y == y) = true := by simp
   exact e.symm ▸ rfl
  ·have hne : y ≠ x := λ e => hn.1 (List.mem_map.mpr ⟨(y,c),q,e⟩)
   have e : (y == x) = false := by simpa using hne
   refine e.symm ▸ ?_
   exact ih hn.2 q
theorem A7 {a : Addr} {scope : Scope} {body : List Stmt} {B : List V → Option (List (Str × V))} {Fe : KD} {k : KC} (ok : FnOK X a scope body B) (hB : B args = some Fe) (hnd : (scope.names.map (·.1)).Nodup)
  (h : ∀ env : Env,env.scope = scope → Ev X (RFl X) d env ⟨Fe.filter λ p => mC scope p.1,Fe.filter λ p => mD scope p.1⟩ O [] (λ Z => execs body env) (λ f Z σ' => match f with | .ret v => k v σ' | .next => k .none σ' | _ => False)) :
  OpC X (d + 1) O args (.ref a) k := by
 intro A R s F G J us hA r hv hk
 obtain ⟨o,fd,get,data,bod,sc,glob,bilt,clo,code,co,gen,kind,bind⟩ := ok
 refine lL (bind s F J args us Fe (f8 r) r.base hv hB) λ binds b1 b2 b3 => ?_
 subst sc
 have hlim := X.top.nolimit.keeps (f8 r)
 refine codeAny_call_function hA.lim (f8 r _ _ get) data co gen bod (code.keeps (f8 r)) ?_
 refine b1 _ _ _ _ ?_
 refine clo.symm ▸ ?_
 refine wpAny_newFunctionEnv_cells kind (λ x hx => (b2 x hx).imp id λ e => ⟨e,A6 _ _ _ e⟩) λ env he s' x => ?_
 subst he
 refine ⟨hlim.keeps x.toInCall.keep,codeAny_func ?_⟩
 refine L8 (x.toInCall.same) λ h' tk' eR2 => ?_
 subst eR2
 have r' : Rel X F G J O h' := r.keep x.toInCall.keep
 refine C2 (r.lt) λ l1 l2 l3 => ?_
 have off : ∀ c,s.heap.objs.size ≤ c → F c = none ∧ G c = none ∧ c ∉ J := λ c hc =>
  ⟨by cases e : F c with | none => rfl | some o => exact absurd (l1 _ _ e) (Nat.not_lt.mpr hc),by cases e : G c with | none => rfl | some o => exact absurd (l2 _ _ e) (Nat.not_lt.mpr hc),λ q => Nat.not_lt.mpr hc (l3 _ q)⟩
 have kO : ∀ y,(newEnv fd.scope s.heap.objs.size fd.globals (cellsFrom (s.heap.objs.size + 1) fd.scope.names []) (fd.qualname ++ ".<locals>.") (some a) fd.code none fd.builtins).kindOf y = fd.scope.names.lookup y := λ y => rfl
 refine h _ rfl _ _ _ { s with heap := h',toks := tk' } F G J [] hA.deeper r' ?_ .nil λ f u Ew Ek EE El Ei Ej z EA Ep Z hf => ?_
 ·refine ⟨glob,bilt,kind,⟨_,x.toInCall.ns,λ y v e => ?_⟩,off _ (ya7 _),λ y v e => ?_,λ y c e => ?_,⟨x.apart,C8 fd.scope.names (s.heap.objs.size + 1) [] List.nodup_nil hnd (λ Z Z q => by cases q),λ y hy => Option.isSome_iff_exists.mp (A6 (x := y) fd.scope.names (s.heap.objs.size + 1) [] hy)⟩⟩
  ·refine z9 λ G kG => ?_
   refine i5 (u4 e) λ e1 e2 => ?_
   obtain ⟨u,hu,hr⟩ := b3 y v e1
   refine kG ?_
   refine ⟨u,?_,hr⟩
   have hloc : fd.scope.names.lookup y = some .local := beq_iff_eq.mp e2
   rw [mA _ _ (by rw [kO]; exact hloc),hu]
  ·refine i5 (u4 e) λ e1 e2 => ?_
   refine a9 (b3 y v e1) λ u hu hr => ?_
   have hcel : fd.scope.names.lookup y = some .cell := beq_iff_eq.mp e2
   obtain ⟨c,hc⟩ := Option.isSome_iff_exists.mp (A6 (x := y) fd.scope.names (s.heap.objs.size + 1) [] hcel)
   refine ⟨c,u,hc,?_,hr⟩
   have := x.cell y c hc
   rw [mB _ _ (by rw [kO,hcel]; intro q; cases q),hu] at this
   exact this
  ·have hlt : s.heap.objs.size < c := x.above y c e
   refine C2 (off c (yc1 hlt)) λ q1 q2 q3 => ?_
   refine ⟨q1,q2,q3,Nat.ne_of_gt hlt,?_⟩
   have hl := m7 (C8 fd.scope.names (s.heap.objs.size + 1) [] List.nodup_nil hnd (λ Z Z q => by cases q)) e
   exact ⟨_,x.cell y c hl⟩
 ·cases hf with
  | next => exact hk .none .none Ew Ek EE El Ei z EA Ep .none
  | ret q => exact hk _ _ Ew Ek EE El Ei z EA Ep q
  | brk => exact z.elim
  | cont => exact z.elim
end
section
open PySem.Spec Builtin.Str
variable {d e : Nat}
theorem dX {name : Str} {id : String} (slot : Slot "str" name id) (ty : typeOf (.builtin id) = pure (.type "method_descriptor")) : hX X d (.str x) name (.builtin id) [.str x] O := by
 intro A E Q s F G J u pl hA r hu hQ
 refine hu.strE λ t => ?_
 exact GM.of (.str x t) (typeIs_str _ _ _) slot ty (λ Z e => nomatch e) (hQ _ s.toks (.cons (.str x t) .nil))
theorem VRs.texts : ∀ {l : List (Str × Tok)} {ts : List Str},l.map (·.1) = ts → VRs P F J (ts.map .str) (strValues l) := by
 intro l
 induction l with
 | nil =>
  intro Z e
  cases e; exact .nil
 | cons p l ih =>
  intro Z e
  cases e; exact .cons (.str _ _) (ih rfl)
section
theorem iV {x y : Str} (hx : x.length ≤ 100000) (h : k (.str (Txt.lstripChars x y)) O) : Op X (RV X) d O [.str x,.str y] (λ us => call (.builtin "str.lstrip") us) k := by
 intro A E Q s F G J us hA r hv hk
 refine hv.twoE λ u w hu hw => ?_
 refine hu.strE λ t => ?_
 refine hw.strE λ t' => ?_
 exact call_gives PySem.F.slot_str_lstrip (typeIs_str _ _ _) PySem.F.entry_str_lstrip (PySem.F.args_str_lstrip_2 _ _) (gives_str_lstrip_chars x y t t') (post_val_or_made (λ Z => fits_stripped _ _ _ (by rw [sizeLine_eq]; lia))
  λ t'' tk => hk _ _ s.heap tk F J O h (.refl F J) r (.str _ _))
theorem fP {n : Int} (hn : PySem.intText? x = some n) (hx : x.length ≤ 640) (h : k (.int n) O) : Op X (RV X) d O [.str x] (λ us => call (.type "int") us) k := by
 intro A E Q s F G J us hA r hv hk
 refine hv.oneE λ u hu => ?_
 refine hu.strE λ t => ?_
 exact KIN.call_text hn hx (hk _ _ s.heap _ F J O h (.refl F J) r (.int _ _))
theorem C9 {Q : KA} {ts : List Str} {l : List (Str × Tok)} {tk : Nat} (r : Rel X F G J O s.heap) (h : k (.lst (ts.map .str)) O)
  (hk : ∀ (v : V) (u : Value) (h' : Heap) (tk' : Nat) (F' : PH) (ρ' : KH) (σ' : KG),k v σ' → Ext F J F' ρ' → Rel X F' G ρ' σ' h' → VR X.w.params F' ρ' v u → Q u { s with heap := h',toks := tk' }) (hl : l.map (·.1) = ts) :
  Q (.ref s.heap.objs.size) { s with heap := s.heap.push (d7 (strValues l).toArray 0),toks := tk } := by
 refine i5 (r.newF (o := d7 (strValues l).toArray 0) rfl) λ x r' => ?_
 exact hk _ _ _ tk _ J O h x r' (.lst (n := 0) (us := strValues l) (by unfold put; simp) (VRs.texts hl))
theorem iW (hx : x.length ≤ 100000) (hw : (spaceWords x (x.length + 1)).length ≤ 100000) (h : k (.lst ((Txt.words x).map .str)) O) : Op X (RV X) d O [.str x] (λ us => call (.builtin "str.split") us) k := by
 intro A E Q s F G J us hA r hv hk
 refine hv.oneE λ u hu => ?_
 refine hu.strE λ t => ?_
 refine call_meets PySem.F.slot_str_split (typeIs_str _ _ _) PySem.F.entry_str_split (PySem.F.args_str_split_1 _) (meets_str_split_space x t (by rw [sizeLine_eq]; lia) (by rw [sizeLine_eq]; lia)) ?_
 cases q : spaceWords x (x.length + 1) == [(0,x.length)] with
 | false =>
  rw [if_neg Bool.false_ne_true]
  rw [strsFrom_eq]
  exact C9 (l := numbered s.toks (PySem.wordsOf x)) r h hk ((numbered_texts _ _).trans (if_neg (ne_true_of_eq_false q)).symm)
 | true =>
  rw [if_pos rfl]
  exact C9 (l := [(x,t)]) (tk := s.toks) r h hk (if_pos q).symm
theorem iX {x y : Str} (hx : x.length ≤ 100000) (hy : (y.length == 0) = false) (hw : (partsBetween x (occurrences x y 0 x.length (x.length + 1)) y.length).length ≤ 100000) (h : k (.lst ((Txt.split x y).map .str)) O) :
  Op X (RV X) d O [.str x,.str y] (λ us => call (.builtin "str.split") us) k := by
 intro A E Q s F G J us hA r hv hk
 refine hv.twoE λ u w hu hw' => ?_
 refine hu.strE λ t => ?_
 refine hw'.strE λ t' => ?_
 cases q1 : (decide (x.length < y.length) || decide (strKind x < strKind y)) with
 | false =>
  cases q2 : (occurrences x y 0 x.length (x.length + 1)).isEmpty with
  | false =>
   refine call_meets PySem.F.slot_str_split (typeIs_str _ _ _) PySem.F.entry_str_split (PySem.F.args_str_split_2 _ _) (meets_str_split_sep x y t t' q1 hy q2 (by rw [sizeLine_eq]; lia) (by rw [sizeLine_eq]; lia)) ?_
   show wants Q E _ { s with toks := _,heap := s.heap.push { cls := .type "list", data := .seq (strsFrom s.toks (partsBetween x (occurrences x y 0 x.length (x.length + 1)) y.length)).toArray } }
   rw [strsFrom_eq]
   exact C9 (l := numbered s.toks _) r h hk ((numbered_texts _ _).trans ((if_neg (ne_true_of_eq_false q1)).trans (if_neg (ne_true_of_eq_false q2))).symm)
  | true =>
   exact call_meets PySem.F.slot_str_split (typeIs_str _ _ _) PySem.F.entry_str_split (PySem.F.args_str_split_2 _ _) (meets_str_split_not_found x y t t' q1 hy q2)
    (C9 (l := [(x,t)]) (tk := s.toks) r h hk ((if_neg (ne_true_of_eq_false q1)).trans (if_pos q2)).symm)
 | true =>
  exact call_meets PySem.F.slot_str_split (typeIs_str _ _ _) PySem.F.entry_str_split (PySem.F.args_str_split_2 _ _) (meets_str_split_cannot_occur x y t t' q1)
   (C9 (l := [(x,t)]) (tk := s.toks) r h hk (if_pos q1).symm)
end
end
section
open PySem.Spec
variable {d e : Nat}
noncomputable def ck (es : KJ) (k : KM) : Option V := (es.find? λ e => decide (e.1 = k)).map (·.2)
noncomputable def ya (es : KJ) (k : KM) (v : V) : List (List Int × V) := if (ck es k).isSome then es.map (λ e => if e.1 = k then (e.1,v) else e) else es ++ [(k,v)]
section
theorem TMs.get {es : KJ} {xs : List (List Int × Addr × Value)} (q : TMs P F J es xs) (k : KM) : (∀ v,ck es k = some v → ∃ p : Addr × Value,atKey xs k = some p ∧ VR P F J v p.2) ∧ (ck es k = none → atKey xs k = none) := by
 induction q with
 | nil => exact ⟨λ v e => (nomatch e),λ Z => rfl⟩
 | @cons ks x ko us n v u es xs f c dd i a b ih =>
  obtain ⟨a1,a2⟩ := ih
  unfold ck atKey at *
  rw [List.find?_cons,List.find?_cons]
  by_cases q : ks = k
  ·have e1 : decide (ks = k) = true := ya2 q
   rw [e1]
   exact ⟨λ v e => ⟨(x,u),rfl,by cases e; exact a⟩,λ e => (nomatch e)⟩
  ·have e1 : decide (ks = k) = false := decide_eq_false q
   rw [e1]
   exact ⟨a1,a2⟩
theorem TMs.some' {es : KJ} {xs : List (List Int × Addr × Value)} (h : TMs P F J es xs) (k : KM) : (atKey xs k).isSome = (ck es k).isSome := by
 obtain ⟨a,b⟩ := h.get k
 cases e : ck es k with
 | none => rw [b e]; rfl
 | some v => obtain ⟨p,hp,_⟩ := a v e; rw [hp]; rfl
theorem TMs.snoc {k : KM} {x : Addr} {ko : Obj} {u : Value} (f : F x = some ko) (c : ko.cls = .type "tuple") (dd : ko.data = .seq us.toArray n) (i : IntsAre us k) (a : VR P F J v u) {es : KJ} {xs : List (List Int × Addr × Value)} (q : TMs P F J es xs) : TMs P F J (es ++ [(k,v)]) (xs ++ [(k,x,u)]) := by
 induction q with
 | nil => exact .cons f c dd i a .nil
 | cons f' c' d' i' a' b ih => exact .cons f' c' d' i' a' ih
theorem TMs.upd {k : KM} {u : Value} (a : VR P F J v u) {es : KJ} {xs : List (List Int × Addr × Value)} (q : TMs P F J es xs) : TMs P F J (es.map λ e => if e.1 = k then (e.1,v) else e) (xs.map (putAt k u)) := by
 induction q with
 | nil => exact .nil
 | @cons ks x ko us n v u es xs f' c' d' i' a' b ih =>
  rw [yc8,yc8]
  unfold putAt
  by_cases q : ks = k
  ·rw [if_pos q,if_pos q]; exact .cons f' c' d' i' a ih
  ·rw [if_neg q,if_neg q]; exact .cons f' c' d' i' a' ih
theorem TMs.put {k : KM} {x : Addr} {ko : Obj} {u : Value} (f : F x = some ko) (c : ko.cls = .type "tuple") (dd : ko.data = .seq us.toArray n) (i : IntsAre us k) (a : VR P F J v u) {es : KJ} {xs : List (List Int × Addr × Value)} (h : TMs P F J es xs) : TMs P F J (ya es k v) (storedH xs k x u) := by
 unfold ya storedH
 rw [h.some' k]
 split
 ·exact h.upd a
 ·exact h.snoc f c dd i a
theorem TMs.len {es : KJ} {xs : List (List Int × Addr × Value)} (h : TMs P F J es xs) : xs.length = es.length := by
 induction h with
 | nil => rfl
 | cons f c d i a b ih => exact congrArg Nat.succ ih
end
theorem F7 (h : IntsAre us ks) : ItemsAre (PySem.intKind prog w) ks us := by
 induction h with
 | nil => exact .nil
 | cons k t r ih => exact .cons (N9 k t) ih
noncomputable abbrev tk (X : Wd) : HeapKind X.prog X.w (List Int) := tupleKind (PySem.intKind X.prog X.w)
theorem TMs.keys {F G : PH} {h : Heap} (hF : ∀ a o,F a = some o → h.get? a = some o) {es : KJ} {xs : List (List Int × Addr × Value)} (q : TMs X.w.params F J es xs) : ∀ x ∈ xs,(tk X).is h x.1 x.2.1 := by
 induction q with
 | nil => intro x hx; cases hx
 | cons f c dd i a b ih =>
  intro x hx
  rcases mcs hx with rfl | hx
  ·exact ⟨_,_,_,hF _ _ f,c,dd,by simpa using F7 i⟩
  ·exact ih x hx
theorem Rel.tmap {F G : PH} {J : KH} {h : Heap} {n : Nat} {a : Addr} {es : KJ} (r : Rel X F G J O h) (ha : J[n]? = some a) (hs : O[n]? = some (.tmap es)) : ∃ xs,TMs X.w.params F J es xs ∧ h.DictOfH (tk X) a xs := by
 obtain ⟨o,ho,hm⟩ := r.m _ _ _ ha hs
 refine hm.tmapE λ _ _ _ q b c dd nd => ?_
 exact ⟨_,q,_,_,_,ho,b,c,dd,q.keys (G := G) r.f,nd⟩
theorem Rel.nosys {h : Heap} {a : Addr} (r : Rel X F G J O h) (hsys : ∃ o,X.h₀.get? sysModules = some o) (ha : J[n]? = some a) : (a == sysModules) = false := by
 obtain ⟨o',e⟩ := hsys
 have hF := r.base _ _ e
 have hn := (r.rf a (yc7 ha)).1
 refine beq_false_of_ne λ q => ?_
 subst q
 rw [hn] at hF; cases hF
theorem VR.tkey {h : Heap} {ws : KN} {u : Value} (r : Rel X F G J O h) (hv : VR X.w.params F J (.tup ws) u) (e : s8 ws = some ks) : ∃ (a : Addr) (us : KK) (n : Nat) (o : Obj),u = .ref a ∧ F a = some o ∧ o.cls = .type "tuple" ∧ o.data = .seq us.toArray n ∧ IntsAre us ks ∧ (tk X).is h ks a := by
 refine hv.tupE λ a us n o f c1 c2 q => ?_
 have hi := H4 e q
 exact ⟨a,us,n,o,rfl,f,c1,c2,hi,_,_,_,r.f _ _ f,c1,c2,by simpa using F7 hi⟩
@[elab_as_elim] theorem VR.tkE {F G : PH} {J : KH} {h : Heap} {ws : KN} {ks : KM} {u : Value} {C : Value → Prop} (r : Rel X F G J O h) (hv : VR X.w.params F J (.tup ws) u) (e : s8 ws = some ks) (k : ∀ a,(tk X).is h ks a → C (.ref a)) : C u := by
 obtain ⟨a,_,_,_,rfl,_,_,_,_,q⟩ := hv.tkey r e
 exact k a q
theorem O7 {ws : KN} {es : KJ} {k : Unit → List MO → Prop} (hs : O[n]? = some (.tmap es)) (hk : s8 ws = some ks) (hl : es.length ≤ 100000) (h : k () (O.set n (.tmap (ya es ks v)))) :
  Op X RU d O [.h n,.tup ws,v] (λ us => setItem (us.getD 0 .none) (us.getD 1 .none) (us.getD 2 .none)) k := by
 intro A E Q s F G J us hA r hv hkk
 refine hv.threeE λ u w y hu hw hy => ?_
 refine z9 λ G kG => ?_
 obtain ⟨ka,kus,kn,ko,rfl,f,c,dd,hi,hkey⟩ := hw.tkey r hk
 refine kG ?_
 refine hu.hE λ a ha => ?_
 refine a9 (r.tmap ha hs) λ xs q hd => ?_
 refine wpAny_setItem_heap (knd := tk X) (tupleKind_room_in1 (hA.u (by decide))) hkey hd (λ h' hd' hs' => ?_) (by rw [q.len,sizeLine_eq]; (exact ya6 (by assumption) (Nat.le_add_left _ _)))
 refine z9 λ G kG => ?_
 obtain ⟨o',es',ep',ho',x1,x2,x3,x4,x5⟩ := hd'
 refine kG ?_
 exact hkk () () _ _ F J _ h (.refl F J) (r.setH ha hs' ho' (.tmap (q.put f c dd hi hy) x1 x2 x3 x5)) trivial
theorem cm {ws : KN} {dv : V} {es : KJ} (hsys : ∃ o,X.h₀.get? sysModules = some o) (hs : O[n]? = some (.tmap es)) (hk : s8 ws = some ks) (h : k ((ck es ks).getD dv) O) :
  Op X (RV X) d O [.h n,.tup ws,dv] (λ us => call (.builtin "dict.get") us) k := by
 intro A E Q s F G J us hA r hv hkk
 refine hv.threeE λ u w y hu hw hy => ?_
 refine z9 λ G kG => ?_
 obtain ⟨ka,kus,kn,ko,rfl,f,c,dd,hi,hkey⟩ := hw.tkey r hk
 refine kG ?_
 refine hu.hE λ a ha => ?_
 refine a9 (r.tmap ha hs) λ xs q hd => ?_
 refine call_meetsIn PySem.F.slot_dict_get hd.typeIs PySem.F.entry_dict_get (PySem.F.args_dict_get_3 _ _ _) (meetsH_dict_get_default (tk X) a ka (r.nosys hsys ha) y) ⟨tupleKind_room_in1 (by have := hA.2.2; show A.units + 1 < _; lia),ks,xs,hkey,hd,?_⟩
 refine i5 (q.get ks) λ g1 g2 => ?_
 cases e : ck es ks with
 | some v =>
  refine a9 (g1 v e) λ p hp hr => ?_
  rw [e] at h
  refine hp.symm ▸ ?_
  exact hkk _ _ s.heap _ F J O h (.refl F J) r hr
 | none =>
  rw [e] at h
  refine (g2 e).symm ▸ ?_
  exact hkk _ _ s.heap _ F J O h (.refl F J) r hy
theorem Rel.ftm {F G : PH} {J : KH} {h : Heap} {n : Nat} {a : Addr} {es : KJ} (r : Rel X F G J O h) (ha : J[n]? = some a) (hs : O[n]? = some (.ftm es)) : ∃ xs,TMs X.w.params F J es xs ∧ h.DictOfH (tk X) a xs := by
 obtain ⟨o,ho,hm⟩ := r.m _ _ _ ha hs
 refine hm.ftmE λ _ _ _ q b c dd nd => ?_
 exact ⟨_,q J,_,_,_,ho,b,c,dd,(q J).keys (G := G) r.f,nd⟩
theorem fQ {ws : KN} {dv : V} {es : KJ} (hsys : ∃ o,X.h₀.get? sysModules = some o) (hs : O[n]? = some (.ftm es)) (hk : s8 ws = some ks) (h : k ((ck es ks).getD dv) O) :
  Op X (RV X) d O [.h n,.tup ws,dv] (λ us => call (.builtin "dict.get") us) k := by
 intro A E Q s F G J us hA r hv hkk
 refine hv.threeE λ u w y hu hw hy => ?_
 refine z9 λ G kG => ?_
 obtain ⟨ka,kus,kn,ko,rfl,f,c,dd,hi,hkey⟩ := hw.tkey r hk
 refine kG ?_
 refine hu.hE λ a ha => ?_
 refine a9 (r.ftm ha hs) λ xs q hd => ?_
 refine call_meetsIn PySem.F.slot_dict_get hd.typeIs PySem.F.entry_dict_get (PySem.F.args_dict_get_3 _ _ _) (meetsH_dict_get_default (tk X) a ka (r.nosys hsys ha) y) ⟨tupleKind_room_in1 (by have := hA.2.2; show A.units + 1 < _; lia),ks,xs,hkey,hd,?_⟩
 refine i5 (q.get ks) λ g1 g2 => ?_
 cases e : ck es ks with
 | some v =>
  refine a9 (g1 v e) λ p hp hr => ?_
  rw [e] at h
  refine hp.symm ▸ ?_
  exact hkk _ _ s.heap _ F J O h (.refl F J) r hr
 | none =>
  rw [e] at h
  refine (g2 e).symm ▸ ?_
  exact hkk _ _ s.heap _ F J O h (.refl F J) r hy
theorem aJ {E : KA} {Q : KA} {value slice : Expr} {a : Addr} {ws : KN} {w : Value} {ks : KM} {v : V} {es : KJ} (hA : C3 d A) (r : Rel X F G J O s.heap) (ha : J[n]? = some a) (hs : O[n]? = some (.tmap es))
  (hw : VR X.w.params F J (.tup ws) w) (hk : s8 ws = some ks) (hg : ck es ks = some v) (hp : m4 slice = true) (hQ : ∀ u tk,VR X.w.params F J v u → Q u { s with toks := tk }) :
  wpAny (model X.prog X.w) A (subscriptTail value slice (.ref a) w) Q E s := by
 refine z9 λ G kG => ?_
 obtain ⟨ka,kus,kn,ko,rfl,f,c,dd,hi,hkey⟩ := hw.tkey r hk
 refine a9 (r.tmap ha hs) λ xs q hd => ?_
 refine a9 ((q.get ks).1 v hg) λ p hp' hr => ?_
 refine kG ?_
 exact w8 hd.typeIs slot_dict_getitem.lookup (g9 hp) (wpAny_getItem_heap (knd := tk X) (tupleKind_room_in1 (hA.u (by decide))) hkey hd hp' (hQ _ _ hr))
noncomputable def qO (X : Wd) (d : Nat) (op : CmpOp) (a b : V) (c : Bool) (O : KG) : Prop :=
 ∀ (A : Around) (E Q : KA) (s : Shared) (F G : PH) (J : KH) (u v : Value),C3 d A → Rel X F G J O s.heap → VR X.w.params F J a u → VR X.w.params F J b v → (∀ tk,Q (.bool c) { s with toks := tk }) → wpAny (model X.prog X.w) A (compareOp op u v) Q E s
theorem iY {op : CmpOp} {a b : V} {c : Bool} (e : tF op O a b = some c) : qO X d op a b c O :=
 λ Z Z Z s Z Z Z Z Z hA r ha hb hQ => bP hA r ha hb e (hQ s.toks)
noncomputable def uo (v : MO) : Option (List (Str × V)) := ifc λ c : v.ctorIdx = 4 => MO.smap.elim (motive := λ Z => Option (List (Str × V))) v c λ w => some w
theorem mE {v : MO} {x : (List (Str × V))} (h : uo v = some x) : v = .smap x := by
 refine i6 (g6 h) λ c h => ?_
 exact MO.smap.elim (motive := λ v => ∀ c,MO.smap.elim (motive := λ Z => Option (List (Str × V))) v c (λ w => some w) = some x → v = .smap x) v c (λ w c h => by obtain rfl := sj h; exact rfl) c h
noncomputable def uq (v : MO) : Option (List (List Int × V)) := ifc λ c : v.ctorIdx = 5 => MO.tmap.elim (motive := λ Z => Option (List (List Int × V))) v c λ w => some w
theorem mG {v : MO} {x : (List (List Int × V))} (h : uq v = some x) : v = .tmap x := by
 refine i6 (g6 h) λ c h => ?_
 exact MO.tmap.elim (motive := λ v => ∀ c,MO.tmap.elim (motive := λ Z => Option (List (List Int × V))) v c (λ w => some w) = some x → v = .tmap x) v c (λ w c h => by obtain rfl := sj h; exact rfl) c h
theorem AN {m : MO} (c : (m.ctorIdx == 7) = true) : m = .emp := MO.emp.elim (motive := λ m => m = .emp) m (beq_iff_eq.mp c) rfl
noncomputable def smO (m : MO) : Option (List (Str × V)) := orE (uo m) some (cond (m.ctorIdx == 7) (some []) none)
noncomputable def tmO (m : MO) : Option (List (List Int × V)) := orE (uq m) some (cond (m.ctorIdx == 7) (some []) none)
noncomputable def iZ (O : KG) (a b : V) : Option Bool := (lW b).bind λ n => (O[n]?).bind λ m => orE (dM a) (λ x => (smO m).map λ es => (oY es x).isSome) ((lN a).bind λ ws => (tmO m).bind λ es => (s8 ws).map λ ks => (ck es ks).isSome)
section
variable {h : Heap} {a : Addr} {m : MO}
theorem oZ {es : KD} (r : Rel X F G J O h) (ha : J[n]? = some a) (hs : O[n]? = some m) (e : smO m = some es) : ∃ kvs,SMs X.w.params F J es kvs ∧ h.DictOf (PySem.strKind X.prog X.w) a kvs := by
 refine i8 e (λ x q e => ?_) λ e => cnE e (λ q e => ?_) nofun
 ·obtain rfl := sj e
  rw [mE q] at hs
  refine a9 (r.m _ _ _ ha hs) λ o ho hm => ?_
  refine hm.smapE λ _ q hd => ?_
  exact ⟨_,q,Heap.dictOf_iff.mpr ⟨o,ho,hd⟩⟩
 ·obtain rfl := sj e
  rw [AN q] at hs
  refine a9 (r.m _ _ _ ha hs) λ o ho hm => ?_
  refine hm.empE λ _ b c => ?_
  exact ⟨[],.nil,Heap.dictOf_iff.mpr ⟨o,ho,#[],_,b,c,(λ e he => by simp at he),.nil,.nil⟩⟩
theorem pc {es : KJ} (r : Rel X F G J O h) (ha : J[n]? = some a) (hs : O[n]? = some m) (e : tmO m = some es) : ∃ xs,TMs X.w.params F J es xs ∧ h.DictOfH (tk X) a xs := by
 refine i8 e (λ x q e => ?_) λ e => cnE e (λ q e => ?_) nofun
 ·obtain rfl := sj e
  rw [mG q] at hs
  exact r.tmap ha hs
 ·obtain rfl := sj e
  rw [AN q] at hs
  refine a9 (r.m _ _ _ ha hs) λ o ho hm => ?_
  refine hm.empE λ _ b c => ?_
  exact ⟨[],.nil,_,_,_,ho,b,c,rfl,(λ x hx => by cases hx),.nil⟩
end
theorem SMs.some' {es : KD} {kvs : List (Str × Value)} (h : SMs P F J es kvs) (k : Str) : (valueAt kvs k).isSome = (oY es k).isSome := by
 obtain ⟨a,b⟩ := h.get k
 cases e : oY es k with
 | none => rw [b e]; rfl
 | some v => obtain ⟨p,hp,_⟩ := a v e; rw [hp]; rfl
theorem aK (hsys : ∃ o,X.h₀.get? sysModules = some o) {a b : V} {c : Bool} (e : iZ O a b = some c) : qO X d .In a b c O ∧ qO X d .NotIn a b (!c) O := by
 refine a9 (d6 e) λ n hn e => a9 (d6 e) λ m hs e => ?_
 rw [A3 hn]
 refine i8 e (λ x hx e => a9 (map_some e) λ es he q => ?_) λ e => a9 (d6 e) λ ws hw e => a9 (d6 e) λ es he e => a9 (map_some e) λ ks hk q => ?_
 ·rw [C6 hx,← q]
  exact ⟨λ A E Q s F G J u v hA r ha hb hQ => ha.strE λ t => hb.hE λ ad hb => a9 (oZ r hb hs he) λ kvs q hd => wpAny_in_of (O0 x t) (r.nosys hsys hb) hd.mapOf ((q.some' x).symm ▸ hQ _),
   λ A E Q s F G J u v hA r ha hb hQ => ha.strE λ t => hb.hE λ ad hb => a9 (oZ r hb hs he) λ kvs q hd => wpAny_notIn_of (O0 x t) (r.nosys hsys hb) hd.mapOf ((q.some' x).symm ▸ hQ _)⟩
 ·rw [A4 hw,← q]
  exact ⟨λ A E Q s F G J u v hA r ha hb hQ => hb.hE λ ad hb => a9 (pc r hb hs he) λ xs q hd => ha.tkE r hk λ ka hkey => wpAny_in_heap (tupleKind_room_in1 (hA.u (by decide))) hkey (r.nosys hsys hb) hd ((q.some' ks).symm ▸ hQ _),
   λ A E Q s F G J u v hA r ha hb hQ => hb.hE λ ad hb => a9 (pc r hb hs he) λ xs q hd => ha.tkE r hk λ ka hkey => wpAny_notIn_heap (tupleKind_room_in1 (hA.u (by decide))) hkey (r.nosys hsys hb) hd ((q.some' ks).symm ▸ hQ _)⟩
end
section
open PySem.Spec
variable {d e : Nat}
noncomputable def F8 (e : Expr) : Option Str := ifc λ c : e.ctorIdx = 23 => Expr.Name.elim (motive_1 := λ Z => Option Str) e c λ y p => some y
theorem s4 {e : Expr} (h : F8 e = some x) : ∃ p,e = .Name x p := by
 refine i6 (g6 h) λ c h => ?_
 exact Expr.Name.elim (motive_1 := λ e => ∀ c,Expr.Name.elim (motive_1 := λ Z => Option Str) e c (λ y p => some y) = some x → ∃ p,e = .Name x p) e c (λ y p c h => by cases h; exact ⟨p,rfl⟩) c h
noncomputable def qP (e : Expr) : Option (Expr × Expr) := ifc λ c : e.ctorIdx = 21 => Expr.Subscript.elim (motive_1 := λ Z => Option (Expr × Expr)) e c λ d i p => some (d,i)
theorem dY {e : Expr} {x : (Expr × Expr)} (h : qP e = some x) : ∃ p,e = .Subscript x.1 x.2 p := by
 refine i6 (g6 h) λ c h => ?_
 exact Expr.Subscript.elim (motive_1 := λ e => ∀ c,Expr.Subscript.elim (motive_1 := λ Z => Option (Expr × Expr)) e c (λ d i p => some (d,i)) = some x → ∃ p,e = .Subscript x.1 x.2 p) e c (λ d i p c h => by cases h; exact ⟨p,rfl⟩) c h
noncomputable def pe (e : Expr) : Option (Expr × Str) := ifc λ c : e.ctorIdx = 20 => Expr.Attribute.elim (motive_1 := λ Z => Option (Expr × Str)) e c λ o a p => some (o,a)
theorem ja {e : Expr} {x : Expr × Str} (h : pe e = some x) : ∃ p,e = .Attribute x.1 x.2 p := by
 refine i6 (g6 h) λ c h => ?_
 exact Expr.Attribute.elim (motive_1 := λ e => ∀ c,Expr.Attribute.elim (motive_1 := λ Z => Option (Expr × Str)) e c (λ o a p => some (o,a)) = some x → ∃ p,e = .Attribute x.1 x.2 p) e c (λ o a p c h => by obtain rfl := sj h; exact ⟨p,rfl⟩) c h
noncomputable def qQ (e : Expr) : Option (List Expr) := ifc λ c : e.ctorIdx = 25 => Expr.Tuple.elim (motive_1 := λ Z => Option (List Expr)) e c λ y a p => some y
theorem dZ {e : Expr} {x : (List Expr)} (h : qQ e = some x) : ∃ a p,e = .Tuple x a p := by
 refine i6 (g6 h) λ c h => ?_
 exact Expr.Tuple.elim (motive_1 := λ e => ∀ c,Expr.Tuple.elim (motive_1 := λ Z => Option (List Expr)) e c (λ y a p => some y) = some x → ∃ a p,e = .Tuple x a p) e c (λ y a p c h => by cases h; exact ⟨a,p,rfl⟩) c h
noncomputable def ur (e : Expr) : Option (Expr × List CmpOp × List Expr) := ifc λ c : e.ctorIdx = 15 => Expr.Compare.elim (motive_1 := λ Z => Option (Expr × List CmpOp × List Expr)) e c λ l o r p => some (l,o,r)
theorem mH {e : Expr} {x : (Expr × List CmpOp × List Expr)} (h : ur e = some x) : ∃ p,e = .Compare x.1 x.2.1 x.2.2 p := by
 refine i6 (g6 h) λ c h => ?_
 exact Expr.Compare.elim (motive_1 := λ e => ∀ c,Expr.Compare.elim (motive_1 := λ Z => Option (Expr × List CmpOp × List Expr)) e c (λ l o r p => some (l,o,r)) = some x → ∃ p,e = .Compare x.1 x.2.1 x.2.2 p) e c (λ l o r p c h => by cases h; exact ⟨p,rfl⟩) c h
noncomputable def H6 (e : Expr) : Option Const := ifc λ c : e.ctorIdx = 19 => Expr.Constant.elim (motive_1 := λ Z => Option Const) e c λ y a p => some y
theorem H7 {e : Expr} {x : Const} (h : H6 e = some x) : ∃ a p,e = .Constant x a p := by
 refine i6 (g6 h) λ c h => ?_
 exact Expr.Constant.elim (motive_1 := λ e => ∀ c,Expr.Constant.elim (motive_1 := λ Z => Option Const) e c (λ y a p => some y) = some x → ∃ a p,e = .Constant x a p) e c (λ y a p c h => by cases h; exact ⟨a,p,rfl⟩) c h
noncomputable def ut : Const → Option Str
 | .str x => some x
 | _ => none
noncomputable def uu : Const → Option Int
 | .int x => some x
 | _ => none
theorem mI {c : Const} (h : ut c = some x) : c = .str x := by
 cases c with
 | str y => cases h; rfl
 | _ => cases h
theorem mJ {c : Const} {x : Int} (h : uu c = some x) : c = .int x := by
 cases c with
 | int y => cases h; rfl
 | _ => cases h
noncomputable def p9 : List (Option Expr) → List Expr → Option (List (Str × Int))
 | [],[] => some []
 | k :: ks,v :: vs => k.bind λ k => (H6 k).bind λ c => (ut c).bind λ x => (H6 v).bind λ c => (uu c).bind λ i => (p9 ks vs).map ((x,i) :: ·)
 | [],_ :: _ => none
 | _ :: _,[] => none
theorem D3 {k : Option Expr} {ks : List (Option Expr)} {v : Expr} {vs : KL} {ps : List (Str × Int)} (h : p9 (k :: ks) (v :: vs) = some ps) : ∃ x a p i b q ps',k = some (.Constant (.str x) a p) ∧ v = .Constant (.int i) b q ∧ p9 ks vs = some ps' ∧ (x,i) :: ps' = ps := by
 refine z9 λ G kG => ?_
 refine a9 (d6 h) λ k' e1 h => ?_
 refine a9 (d6 h) λ c e2 h => ?_
 refine a9 (d6 h) λ x e3 h => ?_
 refine a9 (d6 h) λ c' e4 h => ?_
 refine a9 (d6 h) λ i e5 h => ?_
 refine a9 (map_some h) λ ps' e6 h => ?_
 refine L8 (H7 e2) λ a p e2 => ?_
 refine L8 (H7 e4) λ b q e4 => ?_
 refine kG ?_
 exact ⟨x,a,p,i,b,q,ps',by rw [e1,e2,mI e3],by rw [e4,mJ e5],e6,h⟩
inductive CPs : List (Str × Int) → List (Value × Value) → List (Str × Value) → Prop
 | nil : CPs [] [] []
 | cons {x : Str} {i : Int} {t u : Tok} {ps : List (Str × Int)} {vs : List (Value × Value)} {kvs : List (Str × Value)} : CPs ps vs kvs → CPs ((x,i) :: ps) ((.str x t,.int i u) :: vs) ((x,.int i u) :: kvs)
theorem CPs.carries {ps : List (Str × Int)} {vs : List (Value × Value)} {kvs : List (Str × Value)} (q : CPs ps vs kvs) : Carries (PySem.strKind prog w) vs kvs := by
 induction q with
 | nil => trivial
 | cons r ih => exact ⟨O0 _ _,rfl,ih⟩
noncomputable def fR (es : KD) : List (Str × Int) → List (Str × V)
 | [] => es
 | (x,i) :: r => fR (uk es x (.int i)) r
theorem CPs.merge {ps : List (Str × Int)} {vs : List (Value × Value)} {kvs : List (Str × Value)} (q : CPs ps vs kvs) : ∀ {es : KD} {acc : List (Str × Value)},SMs P F J es acc → SMs P F J (fR es ps) (merged acc kvs) := by
 induction q with
 | nil => intro es acc h; exact h
 | cons r ih => intro es acc h; exact ih (h.put (.int _ _))
theorem mK {A : Around} {E : KA} {pos : Pos} : ∀ {ks : List (Option Expr)} {vs : KL} {ps : List (Str × Int)} {s : Shared} {Q : List (Value × Value) → Shared → Prop},p9 ks vs = some ps →
  (∀ ws kvs tk,CPs ps ws kvs → Q ws { s with toks := tk }) → wpAny (model X.prog X.w) A (evalPairs (pairTrees ks vs env pos)) Q E s := by
 intro ks
 induction ks with
 | nil =>
  intro vs ps s Q e hQ
  induction vs using List.casesOn with
  | nil => cases e; exact pairTrees_nil_walk (hQ [] [] s.toks .nil)
  | cons v vs => cases e
 | cons k ks ih =>
  intro vs ps s Q e hQ
  induction vs using List.casesOn with
  | nil => cases e
  | cons v vs =>
   refine z9 λ G kG => ?_
   obtain ⟨x,a,p,i,b,q,ps',rfl,rfl,e',rfl⟩ := D3 e
   refine kG ?_
   refine pairTrees_cons_walk (Calls.Constant_str (wpAny_Constant_int ?_))
   exact ih (s := _) e' λ ws kvs tk h => hQ _ _ tk (.cons h)
theorem Y6 : ∀ {ks : List (Option Expr)} {vs : KL} {ps : List (Str × Int)},p9 ks vs = some ps → ks.all (·.isSome) = true ∧ ks.length = vs.length := by
 intro ks
 induction ks with
 | nil =>
  intro vs ps e
  induction vs using List.casesOn with
  | nil => exact ⟨rfl,rfl⟩
  | cons v vs => cases e
 | cons k ks ih =>
  intro vs ps e
  induction vs using List.casesOn with
  | nil => cases e
  | cons v vs =>
   refine z9 λ G kG => ?_
   obtain ⟨x,a,p,i,b,q,ps',rfl,rfl,e',rfl⟩ := D3 e
   obtain ⟨a,b⟩ := ih e'
   refine kG ?_
   exact ⟨by rw [List.all_cons,a]; rfl,by rw [yb2,yb2,b]⟩
theorem mL {ks : List (Option Expr)} {es : KL} {pos : Pos} {ps : List (Str × Int)} {k : KB} (e : p9 ks es = some ps) (h0 : ks.isEmpty = false) (hl : ks.length ≤ 15) (h : k (.h O.length) D (O ++ [.smap (fR [] ps)])) :
  Ev X (RV X) d env D O vs (λ Z => eval (.Dict ks es pos) env) k := by
 intro A E Q s F G J us hA r f hv hk
 refine i5 (Y6 e) λ c1 c2 => ?_
 refine wpAny_Dict_walk (knd := PySem.strKind X.prog X.w) c1 c2 (λ q => by subst q; cases h0) hl (mK e λ ws kvs tk hc => ⟨kvs,hc.carries,?_,λ h' hd' hs' => ?_⟩)
 ·exact Heap.DictOf.new s.heap
 ·have he := ya8 s.heap (o := { cls := .type "dict", data := .dict #[] }) rfl
  refine a9 (Heap.dictOf_iff.mp hd') λ o' ho' hd'' => ?_
  have hd0 := Heap.DictOf.new (prog := X.prog) (w := X.w) (knd := PySem.intKind X.prog X.w) s.heap
  refine ig (hd0) λ o es ep ho hx Z => ?_
  rw [he] at ho
  obtain rfl := sj ho
  refine C2 (r.newH (o := { cls := .type "dict", data := .dict #[] }) (m := .emp) rfl (.emp (ep := 0) hx rfl)) λ x r' l => ?_
  have hk' : ∀ b o',s.heap.get? b = some o' → (s.heap.push { cls := .type "dict", data := .dict #[] }).get? b = some o' := λ b o' e => ya9 _ e
  have f' : Fram X env F G (J ++ [s.heap.objs.size]) D (s.heap.push { cls := .type "dict", data := .dict #[] }) := (f.keep hk').more x λ a ha => ⟨(f.as.1 a ha).1,λ q => by
   rcases List.mem_append.mp q with q | q
   ·exact (f.as.1 a ha).2 q
   ·exact f.apart a q ha⟩
  have r2 := r'.setH l hs' ho' (.smap (CPs.merge hc .nil) hd'')
  have e2 : (O ++ [MO.emp]).set O.length (.smap (fR [] ps)) = O ++ [.smap (fR [] ps)] := by simp
  rw [e2] at r2
  have hne : ∀ a ∈ e9 env,a ≠ s.heap.objs.size := λ a ha q => f.apart a (by rw [q]; simp) ha
  have f2 : Fram X env F G (J ++ [s.heap.objs.size]) D h' := by
   have hL : env.locals ∈ e9 env := mS
   have hC : ∀ {x c},(x,c) ∈ env.cells → c ∈ e9 env := λ hc => mM _ (List.mem_map.mpr ⟨_,hc,rfl⟩)
   have get : ∀ {a o},a ∈ e9 env → (s.heap.push { cls := .type "dict", data := .dict #[] }).get? a = some o → h'.get? a = some o := λ {a o} ha e => (hs'.2 a (hne a ha)).trans e
   refine ⟨f'.glob,f'.bilt,f'.kind,?_,f'.out,λ y v e => ?_,λ y c hc => ?_,f'.ev⟩
   ·refine z9 λ G kG => ?_
    obtain ⟨m,⟨o,es,ep,ho,q⟩,hm⟩ := f'.ns
    refine kG ?_
    exact ⟨m,⟨o,es,ep,get hL ho,q⟩,hm⟩
   ·refine z9 λ G kG => ?_
    obtain ⟨c,u,hc,⟨o,ho,q⟩,hv⟩ := f'.cel y v e
    refine kG ?_
    exact ⟨c,u,hc,⟨o,get (hC (mem_of_lookup hc)) ho,q⟩,hv⟩
   ·refine z9 λ G kG => ?_
    obtain ⟨a,b,c,d,v,o,e,e'⟩ := f'.cout y c hc
    refine kG ?_
    exact ⟨a,b,c,d,v,o,get (hC hc) e,e'⟩
  exact hk _ _ _ _ _ _ _ _ h x r2 f2 (.h l)
section
variable {k : KB} {kb : Bool → Gam → List MO → Prop}
theorem qR {l r : Expr} {op : CmpOp} {pos : Pos} (hm : behindInMarks op r = false)
  (h : Ev X (RV X) d env D O [] (λ Z => eval l env) (λ a Eg Eh => Ev X (RV X) d env Eg Eh [a] (λ Z => eval r env) (λ b Ej Ei => ∃ c,qO X d op a b c Ei ∧ k (.bool c) Ej Ei))) :
  Ev X (RV X) d env D O vs (λ Z => eval (.Compare l [op] [r] pos) env) k := by
 intro A E Q s F G J us hA r f hv hk
 refine wpAny_Compare1 ?_ hm
 refine h A E _ s F G J [] hA r f .nil λ a u Eo Er Eu Em Eh Eg z Ey En Es Et => ?_
 refine z A E _ _ Eu G Em [u] hA En Es (.cons Et .nil) λ b EO Ew Ek EE El Ei Ej EF EA Ep EC Ez => ?_
 refine a9 (EF) λ c hc hkk => ?_
 exact hc A E _ _ EE G El u EO hA Ep (Et.mono EA) Ez λ tk => hk _ _ Ew tk EE El Ei Ej hkk (Ey.trans EA) Ep EC (.bool c)
theorem jb {l r : Expr} {op : CmpOp} {pos : Pos} {whole : Sem Value} (hm : behindInMarks op r = false)
  (h : Ev X (RV X) d env D O [] (λ Z => eval l env) (λ a Eg Eh => Ev X (RV X) d env Eg Eh [a] (λ Z => eval r env) (λ b Ej Ei => ∃ c,qO X d op a b c Ei ∧ kb c Ej Ei))) :
  Ev X RB d env D O vs (λ Z => isTrue (.Compare l [op] [r] pos) env whole) kb := by
 intro A E Q s F G J us hA r f hv hk
 refine wpAny_isTrue_Compare1 ?_ hm
 refine h A E _ s F G J [] hA r f .nil λ a u Eo Er Eu Em Eh Eg z Ey En Es Et => ?_
 refine z A E _ _ Eu G Em [u] hA En Es (.cons Et .nil) λ b EO Ew Ek EE El Ei Ej EF EA Ep EC Ez => ?_
 refine a9 (EF) λ c hc hkk => ?_
 exact hc A E _ _ EE G El u EO hA Ep (Et.mono EA) Ez λ tk => wpAny_truthy_bool (hk _ _ Ew tk EE El Ei Ej hkk (Ey.trans EA) Ep EC rfl)
end
end
section
open PySem.Spec
variable {d e : Nat}
section
theorem H8 {it t : Addr} {i : Nat} {items : Array Value} {x : Value} {Q : KA} (hit : s.heap.IsTupleIter it t i) (ht : s.heap.IsTuple t items) (hx : items[i]? = some x)
  (hQ : ∀ h',h'.IsTupleIter it t (i + 1) → Heap.SameBut it s.heap h' → Q x { s with heap := h' }) : wpAny (model prog w) A (Builtin.SmallTypes.nextOf (.ref it)) Q E s := by
 refine z9 λ G kG => ?_
 refine lL (id hit) λ o ho hc hd => ?_
 obtain ⟨ol,hol,_,nl,hdl⟩ := ht
 refine kG ?_
 unfold Builtin.SmallTypes.nextOf
 refine ya0 (wpAny_callSpecial?_slot (name := Str.ofString "__next__") hit.typeIs PySem.F.slot_tuple_iterator_next
  (wpAny_call_entry PySem.F.slot_tuple_iterator_next hit.typeIs PySem.F.entry_tuple_iterator_next ?_ (PySem.F.args_tuple_iterator_next_1 _)))
 refine (?_ : wpAny _ _ (field (.ref it) 0 >>= _) _ _ s)
 refine ya0 (wpAny_field ho hd (x := .ref t) rfl ?_)
 refine (if_neg (show ¬ ((Value.ref t == Value.none) = true) from Bool.false_ne_true)).symm ▸ ?_
 refine ya0 (wpAny_field ho hd (x := .int i 0) rfl ?_)
 refine ya0 (wpAny_seqItems hol hdl ?_)
 simp only [Int.toNat_natCast,hx]
 refine ya0 (wpAny_setField ho hd (by simp) (ya1 ⟨x,rfl,ya1 (hQ _ ?_ (yc4 ..))⟩))
 exact ⟨_,Heap.get?_update_self _ ho (Obj.isFreed_of_fields (Obj.data_mapFields hd _)),(Obj.cls_mapFields ..).trans hc,by
  rw [Obj.data_mapFields hd]; simp [rawInt]⟩
theorem jc {α : Type} {it : Addr} {h : Heap} {s' : Shared} {Q : α → Shared → Prop} (hh : A.handled = none) (hb : Heap.ExtBut it h s'.heap)
  (hE : ∀ h' e,Heap.ExtBut it h h' → (∃ o,h'.get? e = some o ∧ o.cls = .type "StopIteration") → E (.ref e) { s' with heap := h' }) :
  wpAny (model prog w) A (newExc (.type "StopIteration") [] >>= λ x => (raiseNew x : Sem α)) Q E s' := by
 refine ya0 ?_
 simp only [newExc,newTuple]
 refine ya0 (wpAny_newObj_type ?_ (by size_fits))
 refine ya0 (m := firstArgMember _ _) (wpAny_of_eq (a := Value.none) (by first | rfl | (simp only [firstArgMember]; rfl)) ?_)
 refine wpAny_newObj_type ?_ (by size_fits)
 dsimp only
 refine ya0 (wpAny_handled ?_)
 refine hh.symm ▸ ?_
 refine ya0 (ya1 (wpAny_throw ?_))
 exact hE _ _ ((hb.push _).push _) ⟨_,ya8 _ rfl,rfl⟩
theorem K9 {it t : Addr} {i : Nat} {items : Array Value} {Q : KA} (hh : A.handled = none) (hit : s.heap.IsTupleIter it t i) (ht : s.heap.IsTuple t items) (hx : items[i]? = none)
  (hE : ∀ h' e,Heap.ExtBut it s.heap h' → (∃ o,h'.get? e = some o ∧ o.cls = .type "StopIteration") → E (.ref e) { s with heap := h' }) :
  wpAny (model prog w) A (Builtin.SmallTypes.nextOf (.ref it)) Q E s := by
 refine z9 λ G kG => ?_
 refine lL (id hit) λ o ho hc hd => ?_
 obtain ⟨ol,hol,_,nl,hdl⟩ := ht
 refine kG ?_
 unfold Builtin.SmallTypes.nextOf
 refine ya0 (wpAny_callSpecial?_slot (name := Str.ofString "__next__") hit.typeIs PySem.F.slot_tuple_iterator_next
  (wpAny_call_entry PySem.F.slot_tuple_iterator_next hit.typeIs PySem.F.entry_tuple_iterator_next ?_ (PySem.F.args_tuple_iterator_next_1 _)))
 refine (?_ : wpAny _ _ (field (.ref it) 0 >>= _) _ _ s)
 refine ya0 (wpAny_field ho hd (x := .ref t) rfl ?_)
 refine (if_neg (show ¬ ((Value.ref t == Value.none) = true) from Bool.false_ne_true)).symm ▸ ?_
 refine ya0 (wpAny_field ho hd (x := .int i 0) rfl ?_)
 refine ya0 (wpAny_seqItems hol hdl ?_)
 simp only [Int.toNat_natCast,hx]
 refine ya0 (wpAny_rule (ya0 (wpAny_setField ho hd (by simp) ?_)))
 refine jc (it := it) hh (yc4 ..).extBut ?_
 exact hE
theorem H9 {it : Addr} {b : Array UInt8} {t : Tok} {i : Nat} {c : UInt8} {Q : KA} (hit : j2 s.heap it b t i) (hx : b[i]? = some c)
  (hQ : ∀ h',j2 h' it b t (i + 1) → Heap.SameBut it s.heap h' → Q (.int c.toNat s.toks) { s with heap := h',toks := s.toks + 1 }) :
  wpAny (model prog w) A (Builtin.SmallTypes.nextOf (.ref it)) Q E s := by
 refine lL (id hit) λ o ho hc hd => ?_
 unfold Builtin.SmallTypes.nextOf
 refine ya0 (wpAny_callSpecial?_slot (name := Str.ofString "__next__") hit.typeIs FF.slot_bytes_iterator_next
  (wpAny_call_entry FF.slot_bytes_iterator_next hit.typeIs FF.entry_bytes_iterator_next ?_ (FF.args_bytes_iterator_next_1 _)))
 refine (?_ : wpAny _ _ (field (.ref it) 0 >>= _) _ _ s)
 refine ya0 (wpAny_field ho hd (x := .bytes b t) rfl ?_)
 refine ya0 (wpAny_field ho hd (x := .int i 0) rfl ?_)
 refine ya0 (wpAny_of_eq (a := b) (by rfl) ?_)
 simp only [Int.toNat_natCast,hx]
 refine ya0 (wpAny_setField ho hd (by simp) (ya0 (wpAny_mkInt (ya1 ⟨_,rfl,ya1 (hQ _ ?_ (yc4 ..))⟩))))
 exact ⟨_,Heap.get?_update_self _ ho (Obj.isFreed_of_fields (Obj.data_mapFields hd _)),(Obj.cls_mapFields ..).trans hc,by
  rw [Obj.data_mapFields hd]; simp [rawInt]⟩
theorem L0 {it : Addr} {b : Array UInt8} {t : Tok} {i : Nat} {Q : KA} (hh : A.handled = none) (hit : j2 s.heap it b t i) (hx : b[i]? = none)
  (hE : ∀ h' e,Heap.ExtBut it s.heap h' → (∃ o,h'.get? e = some o ∧ o.cls = .type "StopIteration") → E (.ref e) { s with heap := h' }) :
  wpAny (model prog w) A (Builtin.SmallTypes.nextOf (.ref it)) Q E s := by
 refine lL (id hit) λ o ho hc hd => ?_
 unfold Builtin.SmallTypes.nextOf
 refine ya0 (wpAny_callSpecial?_slot (name := Str.ofString "__next__") hit.typeIs FF.slot_bytes_iterator_next
  (wpAny_call_entry FF.slot_bytes_iterator_next hit.typeIs FF.entry_bytes_iterator_next ?_ (FF.args_bytes_iterator_next_1 _)))
 refine (?_ : wpAny _ _ (field (.ref it) 0 >>= _) _ _ s)
 refine ya0 (wpAny_field ho hd (x := .bytes b t) rfl ?_)
 refine ya0 (wpAny_field ho hd (x := .int i 0) rfl ?_)
 refine ya0 (wpAny_of_eq (a := b) (by rfl) ?_)
 simp only [Int.toNat_natCast,hx]
 refine ya0 (wpAny_rule (ya0 (wpAny_setField ho hd (by simp) ?_)))
 refine jc (it := it) hh (yc4 ..).extBut ?_
 exact hE
end
theorem cn {prog : Program} {w : World} (hh : A.handled = none) (it l : Addr) (hne : l ≠ it) (items : Array Value) :
  Draws prog w A it [it,l] items.size (λ i v => items[i]? = some v) (λ i h => h.IsTupleIter it l i ∧ h.IsTuple l items) where
 live := λ Z Z st => let ⟨o,ho,_⟩ := st.1; ⟨o,ho⟩
 frame := λ Z Z Z st hk => ⟨by obtain ⟨o,ho,q⟩ := st.1; exact ⟨o,hk it (by simp) o ho,q⟩,by obtain ⟨o,ho,q⟩ := st.2; exact ⟨o,hk l (by simp) o ho,q⟩⟩
 item := λ i s Q E hi st hQ => by
  refine H8 st.1 st.2 (x := items[i]) (by simp [hi]) λ h' hit' hs' => ?_
  exact hQ _ h' s.toks (by simp [hi]) ⟨hit',by obtain ⟨o,ho,q⟩ := st.2; exact ⟨o,(hs'.2 l hne).trans ho,q⟩⟩ hs'
 done := λ s Q E st hE => K9 hh st.1 st.2 (by simp) hE
theorem cq {prog : Program} {w : World} (hh : A.handled = none) (it : Addr) (b : Array UInt8) (t : Tok) :
  Draws prog w A it [it] b.size (λ i v => ∃ c u,b[i]? = some c ∧ v = .int (c.toNat : Int) u) (λ i h => j2 h it b t i) where
 live := λ Z Z st => let ⟨o,ho,_⟩ := st; ⟨o,ho⟩
 frame := λ Z Z Z st hk => let ⟨o,ho,r⟩ := st; ⟨o,hk it (by simp) o ho,r⟩
 item := λ i s Q E hi st hQ => by
  refine H9 st (c := b[i]) (by simp [hi]) λ h' hit' hs' => ?_
  exact hQ _ h' (s.toks + 1) ⟨_,_,by simp [hi],rfl⟩ hit' hs'
 done := λ s Q E st hE => L0 hh st (by simp) hE
theorem uv {M : Model} {g : List (Code × Pos) → Bool} {Q : Bool → Shared → Prop} (h : ∀ b,Q b s) : wpAny M A stack (λ st s' => wpAny M A (pure (g st)) Q E s') E s := wpAny_stack_any λ st => ya1 (h _)
theorem L1 (b : Array UInt8) (t : Tok) :
  Meets (Builtin.«enumerate.__new__» ⟨[.type "enumerate", .bytes b t],[]⟩) (λ Z R s =>
   R (.ok (.ret (.ref (s.heap.push { cls := .type "bytes_iterator", data := .fields #[.bytes b t,.int 0 0] }).objs.size)))
    { s with heap := (s.heap.push { cls := .type "bytes_iterator", data := .fields #[.bytes b t,.int 0 0] }).push { cls := .type "enumerate", data := .fields #[.none,.bool false,.ref s.heap.objs.size,rawInt 0,.none,.none] } }) :=
 .of_wp λ prog w A R s h => by
  obtain ⟨hp,g,d,tk,os⟩ := s
  have hsub := sub_enumerate
  wp_walk
  refine uv λ b => ?_
  induction b using Bool.casesOn with
  | false =>
   wp_walk using C7
   exact ⟨_,rfl,h⟩
  | true =>
   wp_walk using C7
   exact ⟨_,rfl,h⟩
end
section
open PySem.Spec
section
variable {P : Addr → Prop} {a b c d e : Addr}
theorem BS (h1 : P a) : ∀ x ∈ [a],P x := List.forall_mem_singleton.mpr h1
theorem tG (h1 : P a) (h2 : P b) : ∀ x ∈ [a,b],P x := List.forall_mem_cons.mpr ⟨h1,BS h2⟩
theorem AO (h1 : P a) (h2 : P b) (h3 : P c) : ∀ x ∈ [a,b,c],P x := List.forall_mem_cons.mpr ⟨h1,tG h2 h3⟩
theorem uw (h1 : P a) (h2 : P b) (h3 : P c) (h4 : P d) : ∀ x ∈ [a,b,c,d],P x := List.forall_mem_cons.mpr ⟨h1,AO h2 h3 h4⟩
theorem AP (h1 : P a) (h2 : P b) (h3 : P c) (h4 : P d) (h5 : P e) : ∀ x ∈ [a,b,c,d,e],P x := List.forall_mem_cons.mpr ⟨h1,uw h2 h3 h4 h5⟩
theorem qS (h1 : c ≠ a) (h2 : c ≠ b) : c ∉ [a,b] := λ h => tG (P := λ x => c ≠ x) h1 h2 c h rfl
theorem yt : a ∈ [a,b,c,d] := mS
theorem AQ : b ∈ [a,b,c,d] := mM _ mS
theorem AR : c ∈ [a,b,c,d] := mM _ (mM _ mS)
theorem AT : d ∈ [a,b,c,d] := mM _ (mM _ (mM _ mS))
theorem ux : a ∈ [a,b] := mS
theorem BU : b ∈ [a,b] := mM _ mS
end
variable {d e : Nat}
structure ZA (z TI TO i1 i2 : Addr) (f1 f2 : KH) : Prop where
 TIz : TI ≠ z
 TOz : TO ≠ z
 i1z : i1 ≠ z
 i2z : i2 ≠ z
 TITO : TI ≠ TO
 TIi1 : TI ≠ i1
 TIi2 : TI ≠ i2
 TOi1 : TO ≠ i1
 TOi2 : TO ≠ i2
 i12 : i1 ≠ i2
 z1 : z ∉ f1
 z2 : z ∉ f2
 o1 : TO ∉ f1
 o2 : TO ∉ f2
 a12 : i1 ∉ f2
 a21 : i2 ∉ f1
section
variable {z TI TO i1 i2 : Addr} {f1 f2 : KH} {n1 n2 k : Nat} {P1 P2 : Nat → Value → Prop} {S1 S2 : Nat → Heap → Prop} {a b : Value}
theorem O8 {f : KH} {c : Addr} {h h' : Heap} (hs : Heap.SameBut c h h') (hc : c ∉ f) : ∀ b ∈ f,∀ o,h.get? b = some o → h'.get? b = some o := λ b hb o e => (hs.2 b λ q => hc (q ▸ hb)).trans e
theorem mN (Gr : ZA z TI TO i1 i2 f1 f2) (D1 : Draws prog w A i1 f1 n1 P1 S1) (D2 : Draws prog w A i2 f2 n2 P2 S2) {Q : KA}
  (hz : IsZip s.heap z TI TO .none) (hTI : IsPair s.heap TI (.ref i1) (.ref i2)) (hTO : IsPair s.heap TO a b) (h1 : S1 k s.heap) (h2 : S2 k s.heap) (k1 : k < n1) (k2 : k < n2)
  (hQ : ∀ x y h' tk,P1 k x → P2 k y → IsZip h' z TI TO (rawInt s.heap.objs.size) → IsPair h' TO x y → S1 (k + 1) h' → S2 (k + 1) h' → IsPair h' s.heap.objs.size x y → h'.objs.size = s.heap.objs.size + 1 →
   (∀ c o,c ≠ z → c ≠ TO → c ≠ i1 → c ≠ i2 → s.heap.get? c = some o → h'.get? c = some o) → Q (.ref s.heap.objs.size) { s with heap := h',toks := tk }) :
  wpAny (model prog w) A (Builtin.«zip.__next__» ⟨[.ref z],[]⟩) (λ fin s' => ∃ v,fin = .done (.ret v) ∧ Q v s') E s := by
 obtain ⟨hp,g,d,tk,os⟩ := s
 refine (?_ : wpAny _ _ (field (.ref z) 2 >>= _) _ _ _)
 refine ya0 (wpAny_field hz rfl (x := .bool false) rfl ?_)
 refine ya0 (wpAny_field hz rfl (x := .ref TI) rfl ?_)
 refine ya0 (wpAny_seqItems hTI rfl ?_)
 refine ya0 ?_
 unfold Builtin.SmallTypes.ownedTupleIsFree
 refine ya0 (wpAny_field hz rfl (x := .none) rfl (ya1 ?_))
 refine wpAny_ite_true rfl ?_
 refine ya0 (wpAny_rule ?_)
 refine ya0 (wpAny_field hz rfl (x := .ref TO) rfl ?_)
 refine ya0 (wpAny_setField_rec hz (by simp) λ Eo Ff EX => ?_)
 replace Ff : IsZip Eo z TI TO .ellipsis := Ff
 replace EX : Heap.SameBut z hp Eo := EX
 refine ya0 ?_
 rw [List.zipIdx_cons,List.zipIdx_cons,List.zipIdx_nil,List.forIn_cons]
 refine ya0 (ya0 (wpAny_onRaise ?_))
 refine ya0 (D1.item k ⟨Eo,g,d,tk,os⟩ _ _ k1 (D1.frame _ _ _ h1 (O8 EX Gr.z1)) λ x Ew Ek hx FU EU => ya1 ?_)
 replace EU : Heap.SameBut i1 Eo Ew := EU
 have Fx : IsPair Ew TO a b := EU.extBut _ _ Gr.TOi1 (EX.extBut _ _ Gr.TOz hTO)
 refine ya0 (wpAny_seqItems Fx rfl ?_)
 refine ya0 (wpAny_updateSeq_pair Fx λ EK Fs EY => ?_)
 replace Fs : IsPair EK TO x b := Fs
 replace EY : Heap.SameBut TO Ew EK := EY
 refine ya0 (wpAny_letGo (ya1 ?_))
 dsimp only
 rw [List.forIn_cons]
 refine ya0 (ya0 (wpAny_onRaise ?_))
 refine ya0 (D2.item k ⟨EK,g,d,Ek,os⟩ _ _ k2 (D2.frame _ _ _ (D2.frame _ _ _ (D2.frame _ _ _ h2 (O8 EX Gr.z2)) (O8 EU Gr.a12)) (O8 EY Gr.o2)) λ y EQ Fy hy FV Fg => ya1 ?_)
 replace Fg : Heap.SameBut i2 EK EQ := Fg
 have Fz : IsPair EQ TO x b := Fg.extBut _ _ Gr.TOi2 Fs
 refine ya0 (wpAny_seqItems Fz rfl ?_)
 refine ya0 (wpAny_updateSeq_pair Fz λ EV Fm Fh => ?_)
 replace Fm : IsPair EV TO x y := Fm
 replace Fh : Heap.SameBut TO EQ EV := Fh
 refine ya0 (wpAny_letGo (ya1 ?_))
 dsimp only
 rw [List.forIn_nil]
 refine ya1 ?_
 refine ya0 (wpAny_seqItems Fm rfl ?_)
 refine ya0 (wpAny_newTuple ?_)
 have hsz : EV.objs.size = hp.objs.size := by rw [Fh.1,Fg.1,EY.1,EU.1,EX.1]
 have FK : IsZip EV z TI TO .ellipsis := Fh.extBut _ _ Gr.TOz.symm (Fg.extBut _ _ Gr.i2z.symm (EY.extBut _ _ Gr.TOz.symm (EU.extBut _ _ Gr.i1z.symm Ff)))
 have FW : ∀ c o,c ≠ z → c ≠ TO → c ≠ i1 → c ≠ i2 → hp.get? c = some o → EV.get? c = some o := λ c o c1 c2 c3 c4 e =>
  Fh.extBut _ _ c2 (Fg.extBut _ _ c4 (EY.extBut _ _ c2 (EU.extBut _ _ c3 (EX.extBut _ _ c1 e))))
 have FX : S1 (k + 1) EV := D1.frame _ _ _ (D1.frame _ _ _ (D1.frame _ _ _ FU (O8 EY Gr.o1)) (O8 Fg Gr.a21)) (O8 Fh Gr.o1)
 have FY : S2 (k + 1) EV := D2.frame _ _ _ FV (O8 Fh Gr.o2)
 have hzlt : z < EV.objs.size := yb8 FK
 refine ya0 ?_
 unfold Builtin.SmallTypes.ownedTupleHandOut
 have FZ : IsZip (EV.push { cls := .type "tuple", data := .seq #[x,y] }) z TI TO .ellipsis := ya9 _ FK
 refine ya0 (wpAny_setField_rec FZ (by simp) λ Gj FA FC => ?_)
 replace FA : IsZip Gj z TI TO (rawInt EV.objs.size) := FA
 refine wpAny_setField_rec FA (by simp) λ FD Fu FE => ?_
 replace Fu : IsZip FD z TI TO (rawInt EV.objs.size) := Fu
 have up : ∀ c o,c ≠ z → EV.get? c = some o → FD.get? c = some o := λ c o c1 e => FE.extBut _ _ c1 (FC.extBut _ _ c1 (ya9 _ e))
 have FL : IsPair FD EV.objs.size x y := FE.extBut _ _ (Nat.ne_of_gt hzlt) (FC.extBut _ _ (Nat.ne_of_gt hzlt) (ya8 _ rfl))
 have hz8 : FD.objs.size = EV.objs.size + 1 := by rw [FE.1,FC.1,Heap.size_push]
 rw [hsz] at Fu FL hz8
 refine ya1 ⟨_,rfl,?_⟩
 rw [hsz]
 exact hQ x y FD Fy hx hy Fu (up _ _ Gr.TOz Fm) (D1.frame _ _ _ FX λ b hb o e => up b o (λ q => Gr.z1 (q ▸ hb)) e) (D2.frame _ _ _ FY λ b hb o e => up b o (λ q => Gr.z2 (q ▸ hb)) e) FL hz8
  λ c o c1 c2 c3 c4 e => up c o c1 (FW c o c1 c2 c3 c4 e)
theorem qT (Gr : ZA z TI TO i1 i2 f1 f2) (D1 : Draws prog w A i1 f1 k P1 S1) {Q : PySem.Fin → Shared → Prop}
  (hz : IsZip s.heap z TI TO .none) (hTI : IsPair s.heap TI (.ref i1) (.ref i2)) (h1 : S1 k s.heap)
  (hE : ∀ h' e,(∀ c o,c ≠ z → c ≠ TO → c ≠ i1 → c ≠ i2 → s.heap.get? c = some o → h'.get? c = some o) → (∃ o,h'.get? e = some o ∧ o.cls = .type "StopIteration") → E (.ref e) { s with heap := h' }) :
  wpAny (model prog w) A (Builtin.«zip.__next__» ⟨[.ref z],[]⟩) Q E s := by
 refine (?_ : wpAny _ _ (field (.ref z) 2 >>= _) _ _ _)
 refine ya0 (wpAny_field hz rfl (x := .bool false) rfl ?_)
 refine ya0 (wpAny_field hz rfl (x := .ref TI) rfl ?_)
 refine ya0 (wpAny_seqItems hTI rfl ?_)
 refine ya0 ?_
 unfold Builtin.SmallTypes.ownedTupleIsFree
 refine ya0 (wpAny_field hz rfl (x := .none) rfl (ya1 ?_))
 refine wpAny_ite_true rfl ?_
 refine ya0 (wpAny_rule ?_)
 refine ya0 (wpAny_field hz rfl (x := .ref TO) rfl ?_)
 refine ya0 (wpAny_setField_rec hz (by simp) λ Eo Ff EX => ?_)
 replace Ff : IsZip Eo z TI TO .ellipsis := Ff
 refine ya0 ?_
 rw [List.zipIdx_cons,List.zipIdx_cons,List.zipIdx_nil,List.forIn_cons]
 refine ya0 (ya0 (wpAny_onRaise ?_))
 refine ya0 (D1.done _ _ _ (D1.frame _ _ _ h1 (O8 EX Gr.z1)) λ Ew e EU he => ?_)
 refine a9 (he) λ oe hoe hce => ?_
 have FM : IsZip Ew z TI TO .ellipsis := EU _ _ Gr.i1z.symm Ff
 have hez : e ≠ z := λ x => by subst x; rw [FM] at hoe; obtain rfl := sj hoe; simp at hce
 refine wpAny_setField_rec FM (by simp) λ EK Z EY => hE EK e (λ c o c1 Z c3 Z x => EY.extBut _ _ c1 (EU _ _ c3 (EX.extBut _ _ c1 x))) ⟨oe,EY.extBut _ _ hez hoe,hce⟩
end
structure ZSt (z TI TO i1 i2 : Addr) (last : Value) (S1 S2 : Nat → Heap → Prop) (i : Nat) (h : Heap) : Prop where
 z : IsZip h z TI TO last
 ti : IsPair h TI (.ref i1) (.ref i2)
 to : ∃ a b,IsPair h TO a b
 s1 : S1 i h
 s2 : S2 i h
theorem jd {prog : Program} {w : World} {A : Around} {z TI TO i1 i2 : Addr} {f1 f2 : KH} {n : Nat} {P1 P2 : Nat → Value → Prop} {S1 S2 : Nat → Heap → Prop} (Gr : ZA z TI TO i1 i2 f1 f2)
  (D1 : Draws prog w A.in1 i1 f1 n P1 S1) (D2 : Draws prog w A.in1 i2 f2 n P2 S2) (m1 : i1 ∈ f1) (m2 : i2 ∈ f2) :
  WalksT prog w A z (z :: TI :: TO :: (f1 ++ f2)) [z,TO,i1,i2] n
   (λ i vals => ∃ x y,P1 i x ∧ P2 i y ∧ vals = #[x,y])
   (λ i h => ZSt z TI TO i1 i2 .none S1 S2 i h)
   (λ i T h => ZSt z TI TO i1 i2 (rawInt T) S1 S2 (i + 1) h ∧ T ∉ [z,TO,i1,i2]) where
 sub := λ c hc => uw (P := λ x => x ∈ z :: TI :: TO :: (f1 ++ f2)) mS (mM _ (mM _ mS)) (mM _ (mM _ (mM _ (List.mem_append_left _ m1)))) (mM _ (mM _ (mM _ (List.mem_append_right _ m2)))) c hc
 frame := λ i h h' st hk => by
  have e1 := mM z (List.mem_cons_self (a := TI) (l := TO :: (f1 ++ f2)))
  have e2 := mM z (mM TI (List.mem_cons_self (a := TO) (l := f1 ++ f2)))
  have e3 : ∀ b,b ∈ f1 ++ f2 → b ∈ z :: TI :: TO :: (f1 ++ f2) := λ b h => mM _ (mM _ (mM _ h))
  exact ⟨hk z mS _ st.z,hk TI e1 _ st.ti,L8 st.to λ a b h => ⟨a,b,hk TO e2 _ h⟩,D1.frame _ _ _ st.s1 λ b hb o e => hk b (e3 b (List.mem_append_left _ hb)) o e,D2.frame _ _ _ st.s2 λ b hb o e => hk b (e3 b (List.mem_append_right _ hb)) o e⟩
 item := λ i s Q E hi st hQ => by
  have hT : s.TypeIs (.ref z) "zip" := ⟨_,st.z,rfl⟩
  have lt : ∀ {c o},s.heap.get? c = some o → s.heap.objs.size ≠ c := λ e => Nat.ne_of_gt (yb8 e)
  unfold pyNext
  refine ya0 (wpAny_attempt (wpAny_callSpecial?_slot (name := Str.ofString "__next__") hT PySem.F.slot_zip_next
   (wpAny_call_entry PySem.F.slot_zip_next hT PySem.F.entry_zip_next
    (L8 st.to λ a b hTO => mN Gr D1 D2 st.z st.ti hTO st.s1 st.s2 hi hi λ x y h' tk p1 p2 a1 a2 a3 a4 a5 a6 a7 => ya1 ?_) (PySem.F.args_zip_next_1 _))))
  exact hQ s.heap.objs.size #[x,y] h' tk ⟨_,_,p1,p2,rfl⟩ (ya7 _) ⟨_,a5,rfl,_,rfl⟩
   ⟨⟨a1,a7 _ _ Gr.TIz Gr.TITO Gr.TIi1 Gr.TIi2 st.ti,⟨_,_,a2⟩,a3,a4⟩,λ h => uw (P := λ x => s.heap.objs.size ≠ x) (lt st.z) (lt hTO) (i6 (D1.live _ _ st.s1) λ Z => lt) (i6 (D2.live _ _ st.s2) λ Z => lt) _ h rfl⟩
   λ c o hc e => a7 c o (λ x => hc (x ▸ yt)) (λ x => hc (x ▸ AQ)) (λ x => hc (x ▸ AR)) (λ x => hc (x ▸ AT)) e
 go := λ elts k pos i T s Q E hm hQ => by
  refine wpAny_letOwnedTupleGo_zip hm.1.z λ h' hz' hs' => hQ h' ⟨hz',hs'.extBut _ _ Gr.TIz hm.1.ti,L8 hm.1.to λ a b h => ⟨a,b,hs'.extBut _ _ Gr.TOz h⟩,D1.frame _ _ _ hm.1.s1 (O8 hs' Gr.z1),D2.frame _ _ _ hm.1.s2 (O8 hs' Gr.z2)⟩ λ c o hc e => hs'.extBut _ _ (λ x => hc (x ▸ yt)) e
 apart := λ i T h hm => hm.2
 done := λ s Q E st hQ => by
  have hT : s.TypeIs (.ref z) "zip" := ⟨_,st.z,rfl⟩
  unfold pyNext
  refine ya0 (wpAny_attempt (wpAny_callSpecial?_slot (name := Str.ofString "__next__") hT PySem.F.slot_zip_next
   (wpAny_call_entry PySem.F.slot_zip_next hT PySem.F.entry_zip_next (qT Gr D1 st.z st.ti st.s1 λ h' e hk he => a9 he λ o ho hc => ya0 (wpAny_isInstance (T := "StopIteration") (b := true) ⟨o,ho,hc⟩ isSubtype_stop ?_)) (PySem.F.args_zip_next_1 _))))
  exact ya1 (hQ _ s.toks λ c o hc e => hk c o (λ x => hc (x ▸ yt)) (λ x => hc (x ▸ AQ)) (λ x => hc (x ▸ AR)) (λ x => hc (x ▸ AT)) e)
 self := λ i s Q E st h => wpAny_pyIter_zip st.z h
end
section
open PySem.Spec
variable {d e : Nat}
theorem Rel.addF {h : Heap} {a : Addr} (r : Rel X F G J O h) (fF : F a = none) (fG : G a = none) (fρ : a ∉ J) (ho : h.get? a = some o) : Ext F J (put F a o) J ∧ Rel X (put F a o) G J O h := by
 have x : Ext F J (put F a o) J := ⟨λ b o' e => by
  unfold put; split
  ·rename_i q; subst q; rw [fF] at e; cases e
  ·exact e,λ Z Z e => e⟩
 refine ⟨x,λ b o' e => x.f _ _ (r.base b o' e),λ b o' e => ?_,r.g,λ b o' e => ?_,r.nd,λ b hb => ⟨?_,(r.rf b hb).2⟩,r.len,λ n b m e1 e2 => ?_⟩
 ·unfold put at e; split at e
  ·rename_i q; subst q; obtain rfl := sj e; exact ho
  ·exact r.f b o' e
 ·unfold put; split
  ·rename_i q; subst q; rw [fG] at e; cases e
  ·exact r.fg b o' e
 ·unfold put; split
  ·rename_i q; subst q; exact absurd hb fρ
  ·exact (r.rf b hb).1
 ·obtain ⟨y,hy,hm⟩ := r.m n b m e1 e2
  exact ⟨y,hy,hm.mono x⟩
theorem y3 {elts : KL} {kd : Nat} {pos : Pos} {I : Addr} {own fp wr : KH} {n : Nat} {Pt : Nat → Array Value → Prop} {St : Nat → Heap → Prop} {Mid : Nat → Addr → Heap → Prop} {vals : KN} {EJ : PH} {EB : KH}
  (W : ∀ A : Around,A.handled = none → WalksT X.prog X.w A I fp wr n Pt St Mid) (hn : vals.length = n) (hw : ∀ b ∈ wr,b ∈ own) (hfp : ∀ b ∈ fp,b ∈ own ∨ ∃ o,EJ b = some o)
  (hP : ∀ (i : Nat) (v : V) (arr : Array Value),vals[i]? = some v → Pt i arr → ∃ ws,v = .tup ws ∧ VRs X.w.params EJ EB ws arr.toList) (hI : ∀ i h,St i h → ∀ b ∈ own,∃ o,h.get? b = some o) : Iter X (.Tuple elts kd pos) (.ref I) own vals St EJ EB where
 frame := λ i h h' st hk hF => (W U9 rfl).frame i h h' st λ b hb o e => by
  rcases hfp b hb with q | ⟨o',q⟩
  ·exact hk b q o e
  ·refine i5 (hF b o' q) λ q1 q2 => ?_
   rw [q1] at e; obtain rfl := sj e; exact q2
 next := λ i v A E Q s F G J O hh hv x r fr st hQ => by
  have hi : i < n := by rw [← hn]; exact (List.getElem?_eq_some_iff.mp hv).1
  refine (W A hh).item i s _ E hi st λ T arr h' tk hp hT ht mid hk => ⟨.ref T,rfl,λ E' => ?_⟩
  refine (W A hh).go elts kd pos i T { s with heap := h',toks := tk } _ E' mid λ h'' st' hk' => ?_
  refine a9 (hP i v arr hv hp) λ ws eR1 hws => ?_
  subst eR1
  have hkk : ∀ b o,b ∉ own → s.heap.get? b = some o → h''.get? b = some o := λ b o hb e => hk' b o (λ q => hb (hw b q)) (hk b o (λ q => hb (hw b q)) e)
  have r' := r.freeKeep fr hkk
  refine C2 (r.lt) λ l1 l2 l3 => ?_
  have fF : F T = none := by cases e : F T with | none => rfl | some o => exact absurd (l1 _ _ e) (Nat.not_lt.mpr hT)
  have fG : G T = none := by cases e : G T with | none => rfl | some o => exact absurd (l2 _ _ e) (Nat.not_lt.mpr hT)
  have fρ : T ∉ J := λ q => Nat.not_lt.mpr hT (l3 _ q)
  obtain ⟨o,ho,hc,m,hd⟩ := ht
  have ho' : h''.get? T = some o := hk' T o ((W A hh).apart _ _ _ mid) ho
  refine i5 (r'.addF fF fG fρ ho') λ x2 r2 => ?_
  refine hQ (.ref T) h'' tk _ x2 r2 (λ a ha => ?_) ?_ st' hkk λ a o' e => ?_
  ·obtain ⟨a1,a2,a3,Fa,a4⟩ := fr a ha
   refine ⟨?_,a2,a3,hI _ _ st' a ha⟩
   unfold put
   rw [if_neg (λ q => by subst q; exact absurd (yb8 a4) (Nat.not_lt.mpr hT))]
   exact a1
  ·exact .tup (o := o) (us := arr.toList) (n := m) (by unfold put; simp) hc (by simpa using hd) ((hws.mono x).mono x2)
  ·unfold put at e
   split at e
   ·rename_i q; subst q; exact .inr (Heap.get?_none_of_le hT)
   ·exact .inl e
 done := λ A E Q s F G J O hh x r fr st hQ => by
  rw [hn] at st
  exact (W A hh).done s _ E st λ h' tk hk => ⟨rfl,hQ h' tk (r.freeKeep fr λ b o hb e => hk b o (λ q => hb (hw b q)) e) λ b o hb e => hk b o (λ q => hb (hw b q)) e⟩
noncomputable def Src (X : Wd) (target : Expr) (vals : KN) (F : PH) (J : KH) (h : Heap) (Q : Value → Heap → Prop) : Prop :=
 ∀ (I : Addr) (own : KH) (St : Nat → Heap → Prop) (h' : Heap),(∀ b o,h.get? b = some o → h'.get? b = some o) → (∃ a,a ∈ own) → (∀ a ∈ own,h.objs.size ≤ a) → Iter X target (.ref I) own vals St F J → St 0 h' → (∀ i h,St i h → ∀ b ∈ own,∃ o,h.get? b = some o) →
  (∀ (A : Around) (E Q' : KA) (s : Shared),A.handled = none → St 0 s.heap → Q' (.ref I) s → wpAny (model X.prog X.w) A (pyIter (.ref I)) Q' E s) → Q (.ref I) h'
noncomputable def A8 : Nat → List V → List V
 | _,[] => []
 | i,v :: r => .tup [.int i,v] :: A8 (i + 1) r
theorem J8 (i : Nat) (l : KN) : (A8 i l).length = l.length := by
 induction l generalizing i with
 | nil => exact rfl
 | cons x r ih => exact congrArg Nat.succ (ih (i + 1))
theorem J9 (l : KN) (i j : Nat) (v : V) (h : (A8 i l)[j]? = some v) : ∃ w,l[j]? = some w ∧ v = .tup [.int ((i + j : Nat) : Int),w] := by
 induction l generalizing i j with
 | nil => cases h
 | cons w r ih =>
  induction j using Nat.casesOn with
  | zero => exact ⟨w,rfl,(sj h).symm⟩
  | succ j => exact a9 (ih (i + 1) j h) λ w' a b => ⟨w',a,b.trans (by rw [Nat.add_right_comm]; rfl)⟩
noncomputable def cr (v : V) : Option (List V) := orE (xY v) (λ xs => some (xs.map .int)) (orE (tV v) some ((qs v).map λ xs => xs.map .int))
section
theorem mO {elts : KL} {kd : Nat} {pos : Pos} {u : Value} {items : KN} (hA : C3 d A) (r : Rel X F G J O s.heap) (hv : VR X.w.params F J v u) (hi : cr v = some items)
  (hQ : Src X (.Tuple elts kd pos) (A8 0 items) F J s.heap λ I h' => Q I { s with heap := h' }) : wpAny (model X.prog X.w) A (call (.type "enumerate") [u]) Q E s := by
 have viaList : ∀ {ax : Addr} {us : KK} {n : Nat} {items : KN},F ax = some (d7 us.toArray n) → VRs X.w.params F J items us → Src X (.Tuple elts kd pos) (A8 0 items) F J s.heap (λ I h' => Q I { s with heap := h' }) → wpAny (model X.prog X.w) A (call (.type "enumerate") [.ref ax]) Q E s := by
  intro ax us n items hF hr hQ
  have hl : s.heap.IsList ax us.toArray := ⟨_,r.f _ _ hF,rfl,_,rfl⟩
  have hlt : ax < s.heap.objs.size := yb8 (r.f _ _ hF)
  refine call_enumerate_list hl λ h' he hit hsz hk => ?_
  generalize hN : s.heap.objs.size = N at hlt he hit hQ
  have hIo : ∀ (i : Nat) (h : Heap),((∃ old,IsEnum h (N + 1) N i old) ∧ h.IsListIter N ax i ∧ h.IsList ax us.toArray) → ∀ x ∈ [N + 1,N],∃ o,h.get? x = some o := λ i h st => tG (st.1.elim λ Z he => ⟨_,he⟩) (st.2.1.elim λ o ho => ⟨o,ho.1⟩)
  refine hQ _ [N + 1,N] (λ i h => (∃ old,IsEnum h (N + 1) N i old) ∧ h.IsListIter N ax i ∧ h.IsList ax us.toArray) h' hk ⟨_,ux⟩ (tG (hN ▸ Nat.le_succ _) (Nat.le_of_eq hN)) ?_ ⟨⟨_,he⟩,hit,hl.at λ o e => hk _ o e⟩ hIo λ A E Q' s' Z st hq => i6 st.1 λ Z he => wpAny_pyIter_enum he hq
  refine y3 (wr := [N + 1,N]) (λ A hh => WalksT.enumerateD (Draws.list (A := A.in1) hh N ax (yb9 hlt) us.toArray) (N + 1) (Nat.succ_ne_self _) (qS (Nat.succ_ne_self _) (Nat.ne_of_gt (Nat.lt_succ_of_lt hlt))) (by simp)) (by rw [J8,yb5,hr.len]) (λ b hb => hb) (AO (.inl ux) (.inl BU) (.inr ⟨_,hF⟩)) (λ i v arr e1 e2 => ?_) hIo
  obtain ⟨t,x,hx,rfl⟩ := e2
  refine a9 (J9 _ _ _ _ e1) λ w hw eR2 => ?_
  subst eR2
  refine ⟨_,rfl,?_⟩
  rw [yc0]
  exact .cons (.int _ _) (.cons (VRs.at hr hw (by simpa using hx)) .nil)
 refine i8 hi (λ xs e hi => ?_) λ hi => i8 hi (λ xs e hi => ?_) λ hi => a9 (map_some hi) λ xs e hi => ?_
 ·obtain rfl := sj hi
  rw [X4 e] at hv
  exact hv.numsE λ a us n f q => viaList f (VRs.ofInts q) hQ
 ·obtain rfl := sj hi
  rw [N3 e] at hv
  exact hv.lstE λ a us n f q => viaList f q hQ
 ·subst hi
  rw [N2 e] at hv
  refine hv.bytE λ b t e => ?_
  subst e
  refine callType_new PySem.F.called_enumerate (by decide) (PySem.F.typeCall_enumerate_1 _) (PySem.F.newCall_enumerate_1 _) (λ obj => PySem.F.args_object_init_2 obj _) PySem.F.entry_enumerate_new (L1 b t) ?_
  have g1 := ya8 (s.heap.push { cls := .type "bytes_iterator", data := .fields #[.bytes b t,.int 0 0] }) (o := { cls := .type "enumerate", data := .fields #[.none,.bool false,.ref s.heap.objs.size,rawInt 0,.none,.none] }) rfl
  have g2 := ya9 { cls := .type "enumerate", data := .fields #[.none,.bool false,.ref s.heap.objs.size,rawInt 0,.none,.none] } (ya8 s.heap (o := { cls := .type "bytes_iterator", data := .fields #[.bytes b t,.int 0 0] }) rfl)
  have hk : ∀ b' o,s.heap.get? b' = some o → ((s.heap.push { cls := .type "bytes_iterator", data := .fields #[.bytes b t,.int 0 0] }).push { cls := .type "enumerate", data := .fields #[.none,.bool false,.ref s.heap.objs.size,rawInt 0,.none,.none] }).get? b' = some o := λ Z Z x => ya9 _ (ya9 _ x)
  rw [Heap.size_push] at g1 ⊢
  generalize ((s.heap.push { cls := .type "bytes_iterator", data := .fields #[.bytes b t,.int 0 0] }).push { cls := .type "enumerate", data := .fields #[.none,.bool false,.ref s.heap.objs.size,rawInt 0,.none,.none] }) = H at g1 g2 hk ⊢
  generalize hN : s.heap.objs.size = N at g1 g2 hQ ⊢
  have he : IsEnum H (N + 1) N 0 .none := g1
  have hit : j2 H N b t 0 := ⟨_,g2,rfl,rfl⟩
  refine ⟨⟨_,he,rfl⟩,?_⟩
  have hIo : ∀ (i : Nat) (h : Heap),((∃ old,IsEnum h (N + 1) N i old) ∧ j2 h N b t i) → ∀ x ∈ [N + 1,N],∃ o,h.get? x = some o := λ i h st => tG (st.1.elim λ Z he => ⟨_,he⟩) (st.2.elim λ o ho => ⟨o,ho.1⟩)
  refine hQ _ [N + 1,N] (λ i h => (∃ old,IsEnum h (N + 1) N i old) ∧ j2 h N b t i) _ hk ⟨_,ux⟩ (tG (hN ▸ Nat.le_succ _) (Nat.le_of_eq hN)) ?_ ⟨⟨_,he⟩,hit⟩ hIo λ A E Q' s' Z st hq => i6 st.1 λ Z he => wpAny_pyIter_enum he hq
  refine y3 (wr := [N + 1,N]) (λ A hh => WalksT.enumerateD (cq (A := A.in1) hh N b t) (N + 1) (Nat.succ_ne_self _) (by simp) (by simp)) (by rw [J8]; unfold S6; simp) (λ b hb => hb) (λ b hb => .inl (by simpa using hb)) (λ i v arr e1 e2 => ?_) hIo
  obtain ⟨t',x,⟨c,u',hc,rfl⟩,rfl⟩ := e2
  refine a9 (J9 _ _ _ _ e1) λ w hw eR2 => ?_
  subst eR2
  refine ⟨_,rfl,?_⟩
  rw [yc0]
  unfold S6 at hw
  rw [List.map_map,List.getElem?_map] at hw
  have hc' : b.toList[i]? = some c := by simpa using hc
  rw [hc'] at hw
  obtain rfl := sj hw
  exact .cons (.int _ _) (.cons (.int _ _) .nil)
end
end
section
open PySem.Spec
variable {d e : Nat}
noncomputable abbrev zq1 (h : Heap) (l1 : Addr) : Heap := h.push { cls := .type "tuple_iterator", data := .fields #[.ref l1,.int 0 0] }
noncomputable abbrev zq2 (h : Heap) (l1 l2 : Addr) : Heap := (zq1 h l1).push { cls := .type "list_iterator", data := .fields #[.ref l2,.int 0 0] }
noncomputable abbrev zq3 (h : Heap) (l1 l2 : Addr) : Heap := (zq2 h l1 l2).push { cls := .type "tuple", data := .seq #[.ref h.objs.size,.ref (zq1 h l1).objs.size] }
noncomputable abbrev zq4 (h : Heap) (l1 l2 : Addr) : Heap := (zq3 h l1 l2).push { cls := .type "tuple", data := .seq #[.none,.none] }
noncomputable abbrev zq5 (h : Heap) (l1 l2 : Addr) : Heap := (zq4 h l1 l2).push { cls := .type "zip", data := .fields #[.none,.bool false,.bool false,.ref (zq2 h l1 l2).objs.size,.ref (zq3 h l1 l2).objs.size] }
theorem aL {h : Heap} {a : Addr} {xs : Array Value} (x : h.IsTuple a xs) (o : Obj) : (h.push o).IsTuple a xs := by
 refine a9 (x) λ o' ho q => ?_
 exact ⟨o',ya9 _ ho,q⟩
theorem aM (l1 l2 : Addr) (xs ys : Array Value) :
  Meets (Builtin.«zip.__new__» ⟨[.type "zip", .ref l1,.ref l2],[]⟩) (λ Z R s => s.heap.IsTuple l1 xs ∧ s.heap.IsList l2 ys ∧
   R (.ok (.ret (.ref (zq4 s.heap l1 l2).objs.size))) { s with heap := zq5 s.heap l1 l2 }) :=
 .of_wp λ prog w A R s h => by
  obtain ⟨hp,g,d,tk,os⟩ := s; obtain ⟨hl1,hl2,h⟩ := h
  have hsub := sub_zip
  have hL1 : Heap.IsTuple (Shared.heap ⟨hp,g,d,tk,os⟩) l1 xs := hl1
  have hL2 : Heap.IsList (Shared.heap ⟨hp.push { cls := .type "tuple_iterator", data := .fields #[.ref l1,.int 0 0] },g,d,tk,os⟩) l2 ys := Heap.IsList.push hl2 _
  wp_walk using wpAny_pyIter_tuple hL1,wpAny_pyIter_list hL2
  exact ⟨_,rfl,h⟩
noncomputable def yb : List V → List V → List V
 | v :: vs,w :: ws => .tup [v,w] :: yb vs ws
 | _,_ => []
theorem mP {a : KN} : ∀ {b : KN},a.length = b.length → (yb a b).length = a.length := by
 induction a with
 | nil => intro b h; rfl
 | cons x a ih =>
  intro b h
  induction b using List.casesOn with
  | nil => cases h
  | cons y b => exact congrArg Nat.succ (ih (Nat.succ.inj h))
theorem mQ {a : KN} : ∀ {b : KN} {i : Nat} {v : V},(yb a b)[i]? = some v → ∃ x y,a[i]? = some x ∧ b[i]? = some y ∧ v = .tup [x,y] := by
 induction a with
 | nil => intro b i v h; cases h
 | cons x a ih =>
  intro b i v h
  induction b using List.casesOn with
  | nil => cases h
  | cons y b =>
   induction i using Nat.casesOn with
   | zero => exact ⟨x,y,rfl,rfl,(sj h).symm⟩
   | succ i => exact ih h
noncomputable def je (v w : V) : Option (List V) := (lN v).bind λ a => (tV w).bind λ b => cond (a.length == b.length) (some (yb a b)) none
structure ZQ (h H : Heap) (l1 l2 N : Nat) : Prop where
 k : ∀ c o,h.get? c = some o → H.get? c = some o
 g1 : H.get? N = some { cls := .type "tuple_iterator", data := .fields #[.ref l1,.int 0 0] }
 g2 : H.get? (N + 1) = some { cls := .type "list_iterator", data := .fields #[.ref l2,.int 0 0] }
 g3 : IsPair H (N + 2) (.ref N) (.ref (N + 1))
 g4 : IsPair H (N + 3) .none .none
 g5 : IsZip H (N + 4) (N + 2) (N + 3) .none
theorem yu (h : Heap) (l1 l2 : Addr) : ZQ h (zq5 h l1 l2) l1 l2 h.objs.size ∧ (zq4 h l1 l2).objs.size = h.objs.size + 4 := by
 have z1 : (zq1 h l1).objs.size = h.objs.size + 1 := Heap.size_push ..
 have z2 : (zq2 h l1 l2).objs.size = h.objs.size + 2 := (Heap.size_push ..).trans (congrArg (· + 1) z1)
 have z3 : (zq3 h l1 l2).objs.size = h.objs.size + 3 := (Heap.size_push ..).trans (congrArg (· + 1) z2)
 have z4 : (zq4 h l1 l2).objs.size = h.objs.size + 4 := (Heap.size_push ..).trans (congrArg (· + 1) z3)
 have p : ∀ {H : Heap} {o c o'},H.get? c = some o' → (H.push o).get? c = some o' := λ x => ya9 _ x
 have g2 : (zq5 h l1 l2).get? (zq1 h l1).objs.size = some { cls := .type "list_iterator", data := .fields #[.ref l2,.int 0 0] } := p (p (p (ya8 _ rfl)))
 have g3 : IsPair (zq5 h l1 l2) (zq2 h l1 l2).objs.size (.ref h.objs.size) (.ref (zq1 h l1).objs.size) := p (p (ya8 _ rfl))
 have g4 : IsPair (zq5 h l1 l2) (zq3 h l1 l2).objs.size .none .none := p (ya8 _ rfl)
 have g5 : IsZip (zq5 h l1 l2) (zq4 h l1 l2).objs.size (zq2 h l1 l2).objs.size (zq3 h l1 l2).objs.size .none := ya8 _ rfl
 rw [z1] at g2 g3
 rw [z2] at g3 g5
 rw [z3] at g4 g5
 rw [z4] at g5
 exact ⟨⟨λ c o x => p (p (p (p (p x)))),p (p (p (p (ya8 _ rfl)))),g2,g3,g4,g5⟩,z4⟩
section
theorem qU {elts : KL} {kd : Nat} {pos : Pos} {v w : V} {u u' : Value} {items : KN} (r : Rel X F G J O s.heap) (hv : VR X.w.params F J v u) (hw : VR X.w.params F J w u') (hi : je v w = some items)
  (hQ : Src X (.Tuple elts kd pos) items F J s.heap λ I h' => Q I { s with heap := h' }) : wpAny (model X.prog X.w) A (call (.type "zip") [u,u']) Q E s := by
 refine a9 (d6 hi) λ va ea hi => a9 (d6 hi) λ vb eb hi => cnE hi (λ hlen hi => ?_) nofun
 obtain rfl := sj hi
 have hlen := beq_iff_eq.mp hlen
 rw [A4 ea] at hv
 rw [N3 eb] at hw
 refine hv.tupE λ l1 us n o f c1 c2 q => hw.lstE λ l2 us2 n2 f2 q2 => ?_
 have hl1 : s.heap.IsTuple l1 us.toArray := ⟨_,r.f _ _ f,c1,_,c2⟩
 have hl2 : s.heap.IsList l2 us2.toArray := ⟨_,r.f _ _ f2,rfl,_,rfl⟩
 have lt1 : l1 < s.heap.objs.size := yb8 (r.f _ _ f)
 have lt2 : l2 < s.heap.objs.size := yb8 (r.f _ _ f2)
 refine callType_new PySem.F.called_zip (by decide) (PySem.F.typeCall_zip_2 _ _) (PySem.F.newCall_zip_2 _ _) (λ obj => PySem.F.args_object_init_3 obj _ _) PySem.F.entry_zip_new (aM l1 l2 us.toArray us2.toArray) ⟨hl1,hl2,?_⟩
 refine (?_ : _ ∧ _)
 refine i5 (yu s.heap l1 l2) λ Z z4 => ?_
 rw [z4]
 generalize zq5 s.heap l1 l2 = H at Z ⊢
 clear z4
 generalize hN : s.heap.objs.size = N at lt1 lt2 Z ⊢
 refine ⟨⟨_,Z.g5,rfl⟩,?_⟩
 have ne : ∀ {j k : Nat},j ≠ k → N + j ≠ N + k := λ hk q => hk (Nat.add_left_cancel q)
 have ou : ∀ {l : Nat} (k : Nat),l < N → N + k ≠ l := λ k h => Nat.ne_of_gt (yb6 h (yb7 N k))
 have Gr : ZA (N + 4) (N + 2) (N + 3) (N + 0) (N + 1) [N + 0,l1] [N + 1,l2] := ⟨ne (by decide),ne (by decide),ne (by decide),ne (by decide),ne (by decide),ne (by decide),ne (by decide),ne (by decide),ne (by decide),ne (by decide),
  qS (ne (by decide)) (ou 4 lt1),qS (ne (by decide)) (ou 4 lt2),qS (ne (by decide)) (ou 3 lt1),qS (ne (by decide)) (ou 3 lt2),qS (ne (by decide)) (ou 0 lt2),qS (ne (by decide)) (ou 1 lt1)⟩
 have hIo : ∀ (i : Nat) (h : Heap),ZSt (N + 4) (N + 2) (N + 3) N (N + 1) .none (λ i h => h.IsTupleIter N l1 i ∧ h.IsTuple l1 us.toArray) (λ i h => h.IsListIter (N + 1) l2 i ∧ h.IsList l2 us2.toArray) i h → ∀ x ∈ [N + 4,N + 2,N + 3,N,N + 1],∃ o,h.get? x = some o := λ i h st =>
  AP ⟨_,st.z⟩ ⟨_,st.ti⟩ (L8 st.to λ Z Z a => ⟨_,a⟩) (i6 st.s1.1 λ o a => ⟨o,a.1⟩) (i6 st.s2.1 λ o a => ⟨o,a.1⟩)
 refine hQ _ [N + 4,N + 2,N + 3,N,N + 1] _ _ Z.k ⟨_,mS⟩ (AP (hN ▸ yb7 _ _) (hN ▸ yb7 _ _) (hN ▸ yb7 _ _) (Nat.le_of_eq hN) (hN ▸ yb7 _ _)) ?_
  ⟨Z.g5,Z.g3,⟨_,_,Z.g4⟩,⟨⟨_,Z.g1,rfl,rfl⟩,i6 hl1 λ o h => ⟨o,Z.k _ _ h.1,h.2⟩⟩,⟨⟨_,Z.g2,rfl,rfl⟩,hl2.at λ o e => Z.k _ o e⟩⟩ hIo λ A E Q' s' Z st hq => wpAny_pyIter_zip st.z hq
 have hl : us.toArray.size = us2.toArray.size := by rw [yb5,yb5,q.len,q2.len,hlen]
 refine y3 (wr := [N + 4,N + 3,N,N + 1]) (λ A hh => jd Gr (cn (A := A.in1) hh N l1 (yb9 lt1) us.toArray) (hl ▸ Draws.list (A := A.in1) hh (N + 1) l2 (ou 1 lt2).symm us2.toArray) ux ux) ((mP hlen).symm ▸ List.size_toArray.symm ▸ q.len.symm ▸ rfl)
  (uw mS (mM _ (mM _ mS)) (mM _ (mM _ (mM _ mS))) (mM _ (mM _ (mM _ (mM _ mS)))))
  (λ b hb => ?_) (λ i v arr e1 e2 => ?_) hIo
 ·rcases mcs hb with rfl | hb
  ·exact .inl mS
  rcases mcs hb with rfl | hb
  ·exact .inl (mM _ mS)
  rcases mcs hb with rfl | hb
  ·exact .inl (mM _ (mM _ mS))
  exact uw (P := λ b => b ∈ [N + 4,N + 2,N + 3,N,N + 1] ∨ ∃ o,F b = some o) (.inl (by simp)) (.inr ⟨_,f⟩) (.inl (by simp)) (.inr ⟨_,f2⟩) b hb
 ·refine S8 e2 λ x y hx hy eR4 => ?_
  subst eR4
  refine S8 (mQ e1) λ a b ha hb eR4 => ?_
  subst eR4
  exact ⟨_,rfl,.cons (VRs.at q ha (by simpa using hx)) (.cons (VRs.at q2 hb (by simpa using hy)) .nil)⟩
end
end
section
open PySem.Spec
variable {d e : Nat}
theorem mR {x : Str} {xp pos : Pos} {args : KL} {f : Value} {K : List V → Gam → List MO → Prop} (hs : args.all j9 = true) (hkeep : v9 X f)
  (hn : Ev X (RV X) d env D O [] (λ Z => eval (.Name x xp) env) (λ fv Eg Eh => fv = .val f ∧ Eg = D ∧ Eh = O))
  (h : Ev X (RVs X) d env D O [] (λ Z => spliced (backTo pos (starEach args env))) K)
  {A : Around} {E : KA} {Q : KA} {s : Shared} {F G : PH} {J : KH} (hA : C3 d A) (r : Rel X F G J O s.heap) (fm : Fram X env F G J D s.heap)
  (hQ : ∀ (ws : KN) (us : KK) (h' : Heap) (tk' : Nat) (F' : PH) (ρ' : KH) (σ' : KG) (Γ' : Gam),K ws Γ' σ' → Ext F J F' ρ' → Rel X F' G ρ' σ' h' → Fram X env F' G ρ' Γ' h' → VRs X.w.params F' ρ' ws us → wpAny (model X.prog X.w) A (call f us) Q E { s with heap := h',toks := tk' }) :
  wpAny (model X.prog X.w) A (eval (.Call (.Name x xp) args [] pos) env) Q E s := by
 refine (?_ : wpAny (model X.prog X.w) A (do let f ← eval (.Name x xp) env; callWith pos f [] (backTo pos (starEach args env)) []) Q E s)
 refine ya0 (hn A E _ s F G J [] hA r fm .nil λ fv u h' tk' F' ρ' σ' Γ' z x' r' f' hr => ?_)
 obtain ⟨rfl,rfl,rfl⟩ := z
 obtain rfl := hr.val'
 refine callWith_of (P := λ h => ∀ b o,X.h₀.get? b = some o → h.get? b = some o) (((w7 (env := env) (pos := pos) hs).1).symm ▸ rfl) (λ h hb => hkeep h hb) ?_
 have main : wpAny (model X.prog X.w) A (spliced (backTo pos (starEach args env))) (λ ws EG => (∀ b o,X.h₀.get? b = some o → EG.heap.get? b = some o) ∧ wpAny (model X.prog X.w) A (call u ([] ++ ws)) Q E EG) E { s with heap := h',toks := tk' } := by
  refine h A E _ _ F' G ρ' [] hA r' f' .nil λ ws xs Ew Ek EE El Ei Ej EF EA Ep EC Ez => ⟨f8 Ep,?_⟩
  exact hQ ws xs Ew Ek EE El Ei Ej EF (x'.trans EA) Ep EC Ez
 induction args using List.casesOn with
 | nil => exact F6 main
 | cons e rest =>
  rw [List.all_cons,ya4] at hs
  rw [u3 hs.1] at main ⊢
  exact Calls.evalArgs_plain main
noncomputable def qV (X : Wd) (d : Nat) (f : Value) (ws : KN) (vals : KN) (O : KG) : Prop :=
 ∀ (elts : KL) (kd : Nat) (pos : Pos) (A : Around) (E Q : KA) (s : Shared) (F G : PH) (J : KH) (us : KK),C3 d A → Rel X F G J O s.heap → VRs X.w.params F J ws us →
  Src X (.Tuple elts kd pos) vals F J s.heap (λ I h' => Q I { s with heap := h' }) → wpAny (model X.prog X.w) A (call f us) Q E s
theorem mU {items : KN} (h : cr v = some items) : qV X d (.type "enumerate") [v] (A8 0 items) O := by
 intro elts kd pos A E Q s F G J us hA r hv hQ
 refine hv.oneE λ u hu => ?_
 exact mO hA r hu h hQ
theorem qW {v w : V} {items : KN} (h : je v w = some items) : qV X d (.type "zip") [v,w] items O := by
 intro elts kd pos A E Q s F G J us _ r hv hQ
 refine hv.twoE λ u u' hu hw => ?_
 exact qU r hu hw h hQ
end
section
open PySem.Spec
variable {d e : Nat}
theorem F9 {target : Expr} {I : Addr} {own fp wr : KH} {n : Nat} {P : Nat → Value → Prop} {St : Nat → Heap → Prop} {vals : KN} {F : PH} {J : KH} {h h' : Heap} {Q : Value → Heap → Prop} (ht : m6 target = true)
  (W : ∀ A : Around,A.handled = none → Walks X.prog X.w A I fp wr n P St) (hn : vals.length = n) (hw : ∀ b ∈ wr,b ∈ own) (hfp : ∀ b ∈ fp,b ∈ own ∨ ∃ o,F b = some o)
  (hP : ∀ (i : Nat) (v : V) (u : Value),vals[i]? = some v → P i u → VR X.w.params F J v u) (hI : ∀ i h,St i h → ∀ b ∈ own,∃ o,h.get? b = some o)
  (hk : ∀ b o,h.get? b = some o → h'.get? b = some o) (hne : ∃ a,a ∈ own) (ho : ∀ a ∈ own,h.objs.size ≤ a) (st : St 0 h') (hQ : Src X target vals F J h Q) : Q (.ref I) h' :=
 hQ I own St h' hk hne ho (Y0 ht W hn hw hfp hP hI) st hI λ A E Q' s hh st hq => (W A hh).self 0 s Q' E st hq
theorem yv {target : Expr} {A : Around} {E : KA} {Q : KA} {u : Value} {vals : KN} (ht : m6 target = true) (r : Rel X F G J O s.heap) (hv : VR X.w.params F J v u) (hi : M1 v = some vals)
  (hQ : Src X target vals F J s.heap λ I h' => Q I { s with heap := h' }) : wpAny (model X.prog X.w) A (pyIter u) Q E s := by
 have push : ∀ {o : Obj},∀ b o',s.heap.get? b = some o' → (s.heap.push o).get? b = some o' := λ b o' e => ya9 _ e
 have one : ∀ a ∈ [s.heap.objs.size],s.heap.objs.size ≤ a := λ a ha => by replace ha := (List.mem_singleton.mp ha).symm; subst ha; exact ya7 _
 have viaList : ∀ {ax : Addr} {us : KK} {n : Nat} {vals : KN},F ax = some (d7 us.toArray n) → VRs X.w.params F J vals us → Src X target vals F J s.heap (λ I h' => Q I { s with heap := h' }) → wpAny (model X.prog X.w) A (pyIter (.ref ax)) Q E s := by
  intro ax us n vals hF hr hQ
  have hl : s.heap.IsList ax us.toArray := ⟨_,r.f _ _ hF,rfl,_,rfl⟩
  have hlt := yb8 (r.f _ _ hF)
  refine wpAny_pyIter_list hl ?_
  refine F9 (Q := λ I h' => Q I { s with heap := h' }) (h := s.heap) (own := [s.heap.objs.size]) ht (λ A hh => Walks.list hh _ ax (yb9 hlt) us.toArray) (by rw [yb5,hr.len]) (λ b hb => hb) (λ b hb => ?_)
   (λ i v u e1 e2 => VRs.at hr e1 (by simpa using e2)) (λ i h' st b hb => by replace hb := (List.mem_singleton.mp hb).symm; subst hb; obtain ⟨⟨o,ho,_⟩,_⟩ := st; exact ⟨o,ho⟩) push ⟨_,mS⟩ one ⟨⟨_,ya8 _ rfl,rfl,rfl⟩,hl.push _⟩ hQ
  ·rcases mcs hb with rfl | hb
   ·exact .inl mS
   ·replace hb := (List.mem_singleton.mp hb).symm; subst hb; exact .inr ⟨_,hF⟩
 refine i8 hi (λ xs e hi => ?_) λ hi => i8 hi (λ xs e hi => ?_) λ hi => i8 hi (λ xs e hi => ?_) λ hi => i8 hi (λ xs e hi => ?_) λ hi => a9 (d6 hi) λ p e hi => cnE hi (λ hb hi => ?_) nofun
 ·obtain rfl := sj hi
  rw [X4 e] at hv
  exact hv.numsE λ a us n f q => viaList f (VRs.ofInts q) hQ
 ·obtain rfl := sj hi
  rw [N3 e] at hv
  exact hv.lstE λ a us n f q => viaList f q hQ
 ·obtain rfl := sj hi
  rw [A4 e] at hv
  refine hv.tupE λ ax us n o f c1 c2 q => ?_
  have hl : s.heap.IsTuple ax us.toArray := ⟨_,r.f _ _ f,c1,_,c2⟩
  have hlt := yb8 (r.f _ _ f)
  refine wpAny_pyIter_tuple hl ?_
  refine F9 (Q := λ I h' => Q I { s with heap := h' }) (h := s.heap) (own := [s.heap.objs.size]) ht (λ A hh => Walks.tuple hh _ ax (yb9 hlt) us.toArray) (by rw [yb5,q.len]) (λ b hb => hb) (λ b hb => ?_)
   (λ i v u e1 e2 => VRs.at q e1 (by simpa using e2)) (λ i h' st b hb => by replace hb := (List.mem_singleton.mp hb).symm; subst hb; obtain ⟨⟨o,ho,_⟩,_⟩ := st; exact ⟨o,ho⟩) push ⟨_,mS⟩ one ⟨⟨_,ya8 _ rfl,rfl,rfl⟩,aL hl _⟩ hQ
  ·rcases mcs hb with rfl | hb
   ·exact .inl mS
   ·replace hb := (List.mem_singleton.mp hb).symm; subst hb; exact .inr ⟨_,f⟩
 ·obtain rfl := sj hi
  rw [N2 e] at hv
  refine hv.bytE λ b t e => ?_
  subst e
  refine C7 ?_
  refine F9 (Q := λ I h' => Q I { s with heap := h' }) (h := s.heap) (own := [s.heap.objs.size]) ht (λ A hh => bV hh _ b t) (by unfold S6; simp) (λ b hb => hb) (λ b hb => .inl hb)
   (λ i v u e1 e2 => by
    refine U5 (e2) λ c t' hc eR3 => ?_
    subst eR3
    unfold S6 at e1
    rw [List.map_map,List.getElem?_map] at e1
    have hc' : b.toList[i]? = some c := by simpa using hc
    rw [hc'] at e1
    obtain rfl := sj e1
    exact .int _ _) (λ i h' st b hb => by replace hb := (List.mem_singleton.mp hb).symm; subst hb; obtain ⟨o,ho,_⟩ := st; exact ⟨o,ho⟩) push ⟨_,mS⟩ one ⟨_,ya8 _ rfl,rfl,rfl⟩ hQ
 ·obtain rfl := sj hi
  rw [qI e] at hv
  obtain ⟨a,b⟩ := p
  simp only [ya4,ya5] at hb
  refine hv.rngE λ x t t' t'' f => ?_
  refine wpAny_pyIter_range (r.f _ _ f) (small_one (by omega) (by omega) (by omega) (by omega)) ?_
  have e2 : Builtin.Range.rangeSize a b 1 = ((b - a).toNat : Int) - ((0 : Nat) : Int) := by rw [rangeSize_one]; split <;> lia
  have e1 : a + ((0 : Nat) : Int) * 1 = a := by lia
  refine F9 (Q := λ I h' => Q I { s with heap := h' }) (h := s.heap) (own := [s.heap.objs.size]) ht (λ A hh => Walks.range hh _ a 1 (b - a).toNat) (by unfold N7; simp) (λ b hb => hb) (λ b hb => .inl hb)
   (λ i v u e1 e2 => by
    obtain ⟨t',rfl⟩ := e2
    unfold N7 at e1
    rw [List.getElem?_map] at e1
    refine a9 (map_some e1) λ j hj eR2 => ?_
    subst eR2
    obtain ⟨hl,hj⟩ := List.getElem?_eq_some_iff.mp hj
    rw [List.getElem_range] at hj
    subst hj
    rw [Int.mul_one]
    exact .int _ _) (λ i h' st b hb => by replace hb := (List.mem_singleton.mp hb).symm; subst hb; exact ⟨_,st⟩) push ⟨_,mS⟩ one ?_ hQ
  ·show IsRangeIter _ _ _ _ _
   unfold IsRangeIter
   refine e1.symm ▸ e2 ▸ ?_
   exact ya8 _ rfl
end
section
open PySem.Spec
variable {d e : Nat}
noncomputable def Fst (X : Wd) (d : Nat) (env : Env) (target iter : Expr) (D : Gam) (O : KG) (K : List V → Gam → List MO → Prop) : Prop :=
 ∀ (A : Around) (E Q : KA) (s : Shared) (F G : PH) (J : KH),C3 d A → Rel X F G J O s.heap → Fram X env F G J D s.heap →
  (∀ (vals : KN) (h' : Heap) (tk' : Nat) (F' : PH) (ρ' : KH) (σ' : KG) (Γ' : Gam),K vals Γ' σ' → Ext F J F' ρ' → Rel X F' G ρ' σ' h' → Fram X env F' G ρ' Γ' h' → Src X target vals F' ρ' h' (λ I h'' => Q I { s with heap := h'',toks := tk' })) →
  wpAny (model X.prog X.w) A (eval iter env) (λ xv EG => wpAny (model X.prog X.w) A (pyIter xv) Q E EG) E s
theorem mV {target iter : Expr} {K : List V → Gam → List MO → Prop} (ht : m6 target = true) (h : Ev X (RV X) d env D O [] (λ Z => eval iter env) (λ v Eg Eh => ∃ vals,M1 v = some vals ∧ K vals Eg Eh)) : Fst X d env target iter D O K := by
 intro A E Q s F G J hA r f hQ
 refine h A E _ s F G J [] hA r f .nil λ v u Eo Er Eu Em Eh Eg z Ey En Es Et => ?_
 refine a9 (z) λ vals hi hK => ?_
 exact yv (s := { s with heap := Eo,toks := Er }) ht En Et hi (hQ vals Eo Er Eu Em Eh Eg hK Ey En Es)
theorem O9 {elts : KL} {kd : Nat} {tp xp cp : Pos} {x : Str} {args : KL} {f : Value} {K : List V → Gam → List MO → Prop} (hs : args.all j9 = true) (hkeep : v9 X f)
  (hn : Ev X (RV X) d env D O [] (λ Z => eval (.Name x xp) env) (λ fv Eg Eh => fv = .val f ∧ Eg = D ∧ Eh = O))
  (h : Ev X (RVs X) d env D O [] (λ Z => spliced (backTo cp (starEach args env))) (λ ws Eg Eh => ∃ vals,qV X d f ws vals Eh ∧ K vals Eg Eh)) : Fst X d env (.Tuple elts kd tp) (.Call (.Name x xp) args [] cp) D O K := by
 intro A E Q s F G J hA r fm hQ
 refine mR hs hkeep hn h hA r fm λ ws us' Eo Er Eu Em Eh Eg z Ey En Es Et => ?_
 refine a9 (z) λ vals hsrc hK => ?_
 refine hsrc elts kd tp A E _ { s with heap := Eo,toks := Er } Eu G Em us' hA En Et λ I own St h' hk' hne hown it st hIo self => ?_
 exact self A E Q _ hA.1 st (hQ vals Eo Er Eu Em Eh Eg hK Ey En Es I own St h' hk' hne hown it st hIo self)
theorem Fram.guarded {h h' : Heap} {as : KH} (f : Fram X env F G J D h) (fo : ∀ a ∈ as,a ∉ e9 env) : Fram X env F (Mine.Internal.guard as h' G) J D h := by
 refine ⟨f.glob,f.bilt,f.kind,f.ns,⟨f.out.1,?_,f.out.2.2⟩,f.cel,λ y c hc => ?_,f.ev⟩
 ·unfold Mine.Internal.guard; rw [if_neg (λ q => fo _ q mS)]; exact f.out.2.1
 ·obtain ⟨a,b,c',d,e⟩ := f.cout y c hc
  refine ⟨a,?_,c',d,e⟩
  unfold Mine.Internal.guard; rw [if_neg (λ q => fo _ q (mM _ (List.mem_map.mpr ⟨_,hc,rfl⟩)))]; exact b
theorem Fram.unguarded {Eu EL G G' : PH} {Em EI : KH} {Eg EH : Gam} {Eo EK : Heap} (Es : Fram X env Eu G Em Eg Eo) (EM : Fram X env EL G' EI EH EK) : Fram X env EL G EI EH EK := by
 refine ⟨EM.glob,EM.bilt,EM.kind,EM.ns,⟨EM.out.1,Es.out.2.1,EM.out.2.2⟩,EM.cel,λ y c hc => ?_,EM.ev⟩
 obtain ⟨a,b,c',d,e⟩ := EM.cout y c hc
 exact ⟨a,(Es.cout y c hc).2.1,c',d,e⟩
noncomputable def clF (cells : List (Str × Addr)) : List (Str × NameKind) → List (Str × Addr) → List (Str × Addr)
 | [],acc => acc
 | (n,kd) :: r,acc => clF cells r (if kd == .free then (n,(cells.lookup n).getD 0) :: acc else acc)
theorem P0 {scope : Scope} (h : ∀ z ∈ scope.names,z.2 = .free → ∃ c,env.cells.lookup z.1 = some c) : closureFor scope env = pure (clF env.cells scope.names []) := by
 have key : ∀ (l : List (Str × NameKind)) (acc : List (Str × Addr)),(∀ z ∈ l,z.2 = .free → ∃ c,env.cells.lookup z.1 = some c) →
   (forIn l acc λ (x : Str × NameKind) (cs : List (Str × Addr)) => match x with | (name,kind) => if (kind == NameKind.free) = true then do let c ← cellOf env name; pure (ForInStep.yield ((name,c) :: cs)) else pure (ForInStep.yield cs) : Sem (List (Str × Addr))) = pure (clF env.cells l acc) := by
  intro l
  induction l with
  | nil => intro acc _; rfl
  | cons z l ih =>
   intro acc hl
   obtain ⟨n,kd⟩ := z
   rw [List.forIn_cons]
   unfold clF
   cases q : (kd == NameKind.free) with
   | true =>
    refine i6 (hl _ mS (beq_iff_eq.mp q)) λ c hc => ?_
    have hc' : env.cells.lookup n = some c := hc
    have e : cellOf env n = pure c := by unfold cellOf; rw [hc']
    simp only [q,if_true,e,hc',Option.getD_some,pure_bind]
    exact ih _ λ z hz => hl z (mM _ hz)
   | false =>
    simp only [q,Bool.false_eq_true,if_false,pure_bind]
    exact ih _ λ z hz => hl z (mM _ hz)
 unfold closureFor
 have := key scope.names [] h
 simp only [this]
 first | rfl | simp
theorem qX {cells : List (Str × Addr)} {c : Addr} : ∀ {l : List (Str × NameKind)} {acc : List (Str × Addr)},(x,c) ∈ clF cells l acc → (x,c) ∈ acc ∨ ((x,NameKind.free) ∈ l ∧ c = (cells.lookup x).getD 0) := by
 intro l
 induction l with
 | nil =>
  intro acc h
  exact .inl h
 | cons hd r ih =>
  obtain ⟨n,kd⟩ := hd
  intro acc h
  unfold clF at h
  rcases ih h with q | ⟨q,e⟩
  ·split at q
   ·rename_i hk
    rcases List.mem_cons.mp q with q | q
    ·cases q
     exact .inr ⟨by rw [beq_iff_eq.mp hk]; exact mS,rfl⟩
    ·exact .inl q
   ·exact .inl q
  ·exact .inr ⟨mM _ q,e⟩
theorem qY {cells : List (Str × Addr)} {p : Str × Addr} : ∀ {l : List (Str × NameKind)} {acc : List (Str × Addr)},p ∈ acc → p ∈ clF cells l acc := by
 intro l
 induction l with
 | nil =>
  intro Z h
  exact h
 | cons hd r ih =>
  obtain ⟨n,kd⟩ := hd
  intro acc h
  unfold clF
  refine ih ?_
  split
  ·exact mM _ h
  ·exact h
theorem qZ {cells : List (Str × Addr)} {l : List (Str × NameKind)} : ∀ {acc : List (Str × Addr)},(x,NameKind.free) ∈ l → (x,(cells.lookup x).getD 0) ∈ clF cells l acc := by
 induction l with
 | nil => intro acc h; cases h
 | cons p r ih =>
  intro acc h
  unfold clF
  rcases List.mem_cons.mp h with h | h
  ·cases h
   exact qY (by rw [if_pos (by rfl)]; exact mS)
  ·exact ih h
theorem jf {cells : List (Str × Addr)} : ∀ {l : List (Str × NameKind)} {acc : List (Str × Addr)},(l.map (·.1)).Nodup → (acc.map (·.1)).Nodup → (∀ x ∈ l.map (·.1),x ∉ acc.map (·.1)) → ((clF cells l acc).map (·.1)).Nodup := by
 intro l
 induction l with
 | nil =>
  intro Z Z h Z
  exact h
 | cons hd r ih =>
  obtain ⟨n,kd⟩ := hd
  intro acc hn h hd
  rw [yc8,List.nodup_cons] at hn
  unfold clF
  have hr : ∀ x ∈ r.map (·.1),x ∉ acc.map (·.1) := λ x hx => hd x (by rw [yc8]; exact mM _ hx)
  split
  ·refine ih hn.2 ?_ λ x hx q => ?_
   ·rw [yc8,List.nodup_cons]
    exact ⟨hd n (by rw [yc8]; exact mS),h⟩
   ·replace q := yc8 ▸ q
    rcases List.mem_cons.mp q with q | q
    ·have q' : x = n := q
     subst q'; exact hn.1 hx
    ·exact hr x hx q
  ·exact ih hn.2 h hr
noncomputable def w6 (sc scope : Scope) : Scope :=
 { scope with names := scope.names.map λ (n,k) => if (k == .free && sc.kind == .function && sc.names.lookup n == some .cell) then (n,.cell) else (n,k) }
theorem aN {sc : Scope} {x : Str} : ∀ {names : List (Str × NameKind)},(∀ z ∈ names,z.2 ≠ .cell) →
  (names.map λ ((n,k) : Str × NameKind) => if (k == .free && sc.kind == .function && sc.names.lookup n == some .cell) then (n,NameKind.cell) else (n,k)).lookup x = some .cell → (x,NameKind.free) ∈ names := by
 intro names
 induction names with
 | nil =>
  intro Z h
  cases h
 | cons hd r ih =>
  obtain ⟨n,k⟩ := hd
  intro hc h
  replace h := yc8 ▸ h
  dsimp only at h
  by_cases q : (k == NameKind.free && sc.kind == .function && sc.names.lookup n == some .cell) = true
  ·rw [if_pos q,yc6] at h
   simp only [ya4] at q
   by_cases e : x = n
   ·subst e; rw [beq_iff_eq.mp q.1.1]; exact mS
   ·have : (x == n) = false := by simpa using e
    rw [this] at h
    exact mM _ (ih (λ z hz => hc z (mM _ hz)) h)
  ·rw [if_neg q,yc6] at h
   by_cases e : x = n
   ·subst e
    have : (x == x) = true := by simp
    rw [this] at h
    obtain rfl := sj h
    exact absurd rfl (hc _ mS)
   ·have : (x == n) = false := by simpa using e
    rw [this] at h
    exact mM _ (ih (λ z hz => hc z (mM _ hz)) h)
noncomputable def ec (X : Wd) (d : Nat) (env : Env) (k : Bool → Gam → List MO → Prop) : List Expr → Gam → List MO → Prop
 | [],D,O => k true D O
 | c :: r,D,O => Ev X RB d env D O [] (λ Z => isTrue c env (eval c env)) (λ b Eg Eh => cond b (ec X d env k r Eg Eh) (k false Eg Eh))
structure IterP (X : Wd) (target : Expr) (I : Value) (own : KH) (vals : KN) (St : Nat → Heap → Prop) (EJ : PH) (EB : KH) (Ok : List MO → Prop) : Prop where
 frame : ∀ (i : Nat) (h h' : Heap),St i h → (∀ b ∈ own,∀ o,h.get? b = some o → h'.get? b = some o) → (∀ b o,EJ b = some o → h.get? b = some o ∧ h'.get? b = some o) → St i h'
 next : ∀ (i : Nat) (v : V) (A : Around) (E : KA) (Q : KA) (s : Shared) (F G : PH) (J : KH) (O : KG),A.handled = none → vals[i]? = some v → Ext EJ EB F J → Rel X F G J O s.heap → J7 own F G J s.heap → St i s.heap → Ok O →
  (∀ (u : Value) (h' : Heap) (tk : Nat) (F' : PH),Ext F J F' J → Rel X F' G J O h' → J7 own F' G J h' → VR X.w.params F' J v u → St (i + 1) h' → (∀ b o,b ∉ own → s.heap.get? b = some o → h'.get? b = some o) → (∀ a o,F' a = some o → F a = some o ∨ s.heap.get? a = none) → Q u { s with heap := h',toks := tk }) →
  wpAny (model X.prog X.w) A (pyNext I) (λ r EG => ∃ u,r = some u ∧ ∀ E',wpAny (model X.prog X.w) A (letOwnedTupleGo target I u) (λ Z EP => Q u EP) E' EG) E s
 done : ∀ (A : Around) (E : KA) (Q : Shared → Prop) (s : Shared) (F G : PH) (J : KH) (O : KG),A.handled = none → Ext EJ EB F J → Rel X F G J O s.heap → J7 own F G J s.heap → St vals.length s.heap → Ok O →
  (∀ (h' : Heap) (tk : Nat),Rel X F G J O h' → (∀ b o,b ∉ own → s.heap.get? b = some o → h'.get? b = some o) → Q { s with heap := h',toks := tk }) →
  wpAny (model X.prog X.w) A (pyNext I) (λ r EG => r = none ∧ Q EG) E s
theorem Iter.pin {target : Expr} {I : Value} {own : KH} {vals : KN} {St : Nat → Heap → Prop} {EJ : PH} {EB : KH} {Ok : List MO → Prop} (it : Iter X target I own vals St EJ EB) : IterP X target I own vals St EJ EB Ok :=
 ⟨it.frame,λ i v A E Q s F G J O a b c d e f Z => it.next i v A E Q s F G J O a b c d e f,λ A E Q s F G J O a b c d e Z => it.done A E Q s F G J O a b c d e⟩
noncomputable def Y7 (X : Wd) (d : Nat) (env : Env) (target : Expr) (ifs : KL) (elt : Expr) (Ok : List MO → Prop) (k : List V → Gam → List MO → Prop) : List V → List V → Gam → List MO → Prop
 | [],acc,D,O => Ok O ∧ k acc D O
 | v :: vs,acc,D,O => Ok O ∧ Asg X d env target v D O (λ Z Eg Eh => ec X d env (λ ok Ej Ei => cond ok (Ev X (RV X) d env Ej Ei [] (λ Z => eval elt env) (λ x EH ED => Y7 X d env target ifs elt Ok k vs (acc ++ [x]) EH ED)) (Y7 X d env target ifs elt Ok k vs acc Ej Ei)) ifs Eg Eh)
theorem cu {M : Model} {A : Around} {E : KA} {Q : Bool → Shared → Prop} (h : Q false s) (ifs : KL) :
  wpAny M A (forIn ifs false λ c r => if r = true then do let ok ← isTrue c env (eval c env); pure (ForInStep.yield ok) else pure (ForInStep.yield r)) Q E s := by
 induction ifs with
 | nil => exact ya1 h
 | cons c r ih =>
  rw [List.forIn_cons]
  simp only [Bool.false_eq_true,if_false,pure_bind]
  exact ih
theorem mW {k : Bool → Gam → List MO → Prop} {E : KA} {Q : Bool → Shared → Prop} : ∀ {ifs : KL} {s : Shared} {F G : PH} {J : KH} {D : Gam} {O : KG},C3 d A → Rel X F G J O s.heap → Fram X env F G J D s.heap → ec X d env k ifs D O →
  (∀ (b : Bool) (h' : Heap) (tk' : Nat) (F' : PH) (ρ' : KH) (σ' : KG) (Γ' : Gam),k b Γ' σ' → Ext F J F' ρ' → Rel X F' G ρ' σ' h' → Fram X env F' G ρ' Γ' h' → Q b { s with heap := h',toks := tk' }) →
  wpAny (model X.prog X.w) A (forIn ifs true λ c r => if r = true then do let ok ← isTrue c env (eval c env); pure (ForInStep.yield ok) else pure (ForInStep.yield r)) Q E s := by
 intro ifs
 induction ifs with
 | nil =>
  intro s F G J D O Z r f h hQ
  exact ya1 (hQ true s.heap s.toks F J O D h (.refl F J) r f)
 | cons c ifs ih =>
  intro s F G J D O hA r f h hQ
  rw [List.forIn_cons]
  rw [if_pos rfl]
  refine ya0 (ya0 (h A E _ s F G J [] hA r f .nil λ b u Eo Er Eu Em Eh Eg z Ey En Es Et => ?_))
  have : u = b := Et
  subst this
  refine ya1 ?_
  induction u using Bool.casesOn with
  | true => exact ih (s := { s with heap := Eo,toks := Er }) hA En Es z λ b Ew Ek EE El Ei Ej EF EA Ep EC => hQ b Ew Ek EE El Ei Ej EF (Ey.trans EA) Ep EC
  | false => exact cu (hQ false Eo Er Eu Em Eh Eg z Ey En Es) ifs
end
section
open PySem.Spec
variable {d e : Nat}
theorem J7.sub {h : Heap} {a b : KH} (f : J7 b F G J h) (hs : ∀ x ∈ a,x ∈ b) : J7 a F G J h := λ x hx => f x (hs x hx)
inductive CompI (X : Wd) (d : Nat) (cenv : Env) (target elt : Expr) (ifs : KL) (Ok : List MO → Prop) (k : List V → Gam → List MO → Prop) (vals : KN) (St : Nat → Heap → Prop) (own : KH) (Gr : Addr) (EJ G : PH) (EB : KH) (s : Shared) : Nat → Shared → Prop
 | mk (i : Nat) (h' : Heap) (tk : Nat) (F : PH) (J : KH) (O : KG) (D : Gam) (acc : KN) (us : KK) (m : Nat) : i ≤ vals.length → Ext EJ EB F J → Rel X F G J O h' → Fram X cenv F G J D h' → J7 (Gr :: own) F G J h' → St i h' →
  h'.get? Gr = some (d7 us.toArray m) → VRs X.w.params F J acc us → us.length ≤ i → Y7 X d cenv target ifs elt Ok k (vals.drop i) acc D O → CompI X d cenv target elt ifs Ok k vals St own Gr EJ G EB s (vals.length - i) { s with heap := h',toks := tk }
theorem jg {cenv : Env} {elt target iter : Expr} {ifs : KL} {scope : Scope} {pos : Pos} {I : Value} {own : KH} {Gr : Addr} {vals : KN} {St : Nat → Heap → Prop} {A : Around} {s : Shared} {EJ G : PH} {EB : KH} {R : Result → Shared → Prop} {Ok : List MO → Prop} {k : List V → Gam → List MO → Prop} {Fp : Nat}
  (hA : C3 d A) (it : IterP X target I own vals St EJ EB Ok) (r : Rel X EJ G EB O s.heap) (f : Fram X cenv EJ G EB D s.heap) (fr : J7 (Gr :: own) EJ G EB s.heap) (hD : Gr ∉ own) (fo : ∀ a ∈ Gr :: own,a ∉ e9 cenv) (st : St 0 s.heap)
  (ho : s.heap.get? Gr = some (d7 #[] Fp)) (hlen : vals.length ≤ 100000) (h : Y7 X d cenv target ifs elt Ok k vals [] D O)
  (hk : ∀ (acc : KN) (us : KK) (m : Nat) (h' : Heap) (tk' : Nat) (F' : PH) (ρ' : KH) (σ' : KG) (Γ' : Gam),k acc Γ' σ' → Ext EJ EB F' ρ' → Rel X F' G ρ' σ' h' → Fram X cenv F' G ρ' Γ' h' → J7 [Gr] F' G ρ' h' → h'.get? Gr = some (d7 us.toArray m) → VRs X.w.params F' ρ' acc us → R (.ok .next) { s with heap := h',toks := tk' }) :
  codeAny (model X.prog X.w) A (.compLoop (.ListComp elt [⟨target,iter,ifs,0⟩] scope pos) 0 I (.ref Gr) cenv) R s := by
 refine codeAny_loop rfl (CompI X d cenv target elt ifs Ok k vals St own Gr EJ G EB s) (λ n s' hI => ?_) vals.length (.mk 0 s.heap s.toks EJ EB O D [] [] Fp (Nat.zero_le _) (.refl _ _) r f fr st ho .nil (ya7 _) h)
 clear r f fr st ho h
 rcases hI with ⟨i,h',tk,F,J,O,D,acc,us,m,hi,x,r,f,fr,st,ho,hacc,hus,hK⟩
 refine (?_ : wpAny _ A ((compTurn (.ListComp elt [⟨target,iter,ifs,0⟩] scope pos) 0 I (.ref Gr) cenv).onRaise (λ x => do noteFrame x cenv; theTreesLotGoes x)) _ _ _)
 refine wpAny_noted ?_
 rw [compTurn_list]
 refine ya0 (wpAny_standAt (ya0 ?_))
 have frO : J7 own F G J h' := fr.sub λ x hx => mM _ hx
 have foO : ∀ a ∈ own,a ∉ e9 cenv := λ a ha => fo a (mM _ ha)
 by_cases hlt : i < vals.length
 ·have hv : vals[i]? = some vals[i] := yb1 hlt
  have hdrop : vals.drop i = vals[i] :: vals.drop (i + 1) := List.drop_eq_getElem_cons hlt
  rw [hdrop] at hK
  refine i5 (hK) λ hOk hK => ?_
  refine wpAny_mono (it.next i _ A _ (λ u EP => wpAny (model X.prog X.w) A (assign target cenv u) (λ Z EZ => wpAny (model X.prog X.w) A (forIn ifs true λ c r => if r = true then do let ok ← isTrue c cenv (eval c cenv); pure (ForInStep.yield ok) else pure (ForInStep.yield r)) (λ ok Fk =>
    if ok = true then wpAny (model X.prog X.w) A (eval elt cenv) (λ y Ga => wpAny (model X.prog X.w) A (call (.builtin "list.append") [.ref Gr,y]) (λ Z Gb => ∃ m,m < vals.length - i ∧ CompI X d cenv target elt ifs Ok k vals St own Gr EJ G EB s m Gb) (notedBy (model X.prog X.w) A cenv λ e s' => R (.error e) s') Ga) (notedBy (model X.prog X.w) A cenv λ e s' => R (.error e) s') Fk
    else ∃ m,m < vals.length - i ∧ CompI X d cenv target elt ifs Ok k vals St own Gr EJ G EB s m Fk) (notedBy (model X.prog X.w) A cenv λ e s' => R (.error e) s') EZ) (notedBy (model X.prog X.w) A cenv λ e s' => R (.error e) s') EP) { s with heap := h',toks := tk } F G J O hA.1 hv x r frO st hOk λ u Eo Er Eu Ey En Fj hu Fv ET Ft => ?_) (λ o EG q => ?_) λ Z Z e => e
  rotate_left
  ·obtain ⟨u,rfl,q⟩ := q
   refine ya0 (wpAny_mono (q _) (λ Z EP q => ?_) λ Z Z e => e)
   refine ya0 (wpAny_mono q (λ Z EZ q => ?_) λ Z Z e => e)
   refine ya0 (wpAny_mono q (λ ok Fk q => ?_) λ Z Z e => e)
   induction ok using Bool.casesOn with
   | false => exact ya1 ⟨rfl,q⟩
   | true => exact ya0 (ya0 (wpAny_mono q (λ y Ga q => ya0 (wpAny_mono q (λ Z Gb q => ya1 (ya1 ⟨rfl,q⟩)) λ Z Z e => e)) λ Z Z e => e))
  ·have as := f.as
   have nn : ∀ a ∈ e9 cenv,Eu a = none := λ a ha => by
    cases e : Eu a with
    | none => rfl
    | some o =>
     rcases Ft a o e with q | q
     ·rw [(as.1 a ha).1] at q; cases q
     ·obtain ⟨o',q'⟩ := as.2 a ha
      have q'' : h'.get? a = some o' := q'
      have q3 : h'.get? a = none := q
      rw [q''] at q3; cases q3
   have Es : Fram X cenv Eu G J D Eo := (f.keep' foO ET).more Ey λ a ha => ⟨nn a ha,(as.1 a ha).2⟩
   have Fq : Eo.get? Gr = some (d7 us.toArray m) := ET Gr _ hD ho
   have frD : J7 (Gr :: own) Eu G J Eo := λ a ha => by
    rcases mcs ha with rfl | ha
    ·refine L7 (fr _ mS) λ a1 a2 a3 Z => ?_
     refine ⟨?_,a2,a3,_,Fq⟩
     cases e : Eu _ with
     | none => rfl
     | some o =>
      rcases Ft _ o e with q | q
      ·rw [a1] at q; cases q
      ·have q3 : h'.get? _ = none := q
       rw [ho] at q3; cases q3
    ·exact Fj a ha
   have gA : ∀ a ∈ Gr :: own,Eu a = none ∧ a ∉ J := λ a ha => ⟨(frD a ha).1,(frD a ha).2.2.1⟩
   have gS : ∀ a ∈ Gr :: own,∃ o,Eo.get? a = some o := λ a ha => (frD a ha).2.2.2
   have rG := En.guard gA gS
   have fG : Fram X cenv Eu (Mine.Internal.guard (Gr :: own) Eo G) J D Eo := Es.guarded fo
   have back : ∀ {EL : PH} {EI : KH} {ED : KG} {EH : Gam} {EK : Heap},Ext Eu J EL EI → Rel X EL (Mine.Internal.guard (Gr :: own) Eo G) EI ED EK → Fram X cenv EL (Mine.Internal.guard (Gr :: own) Eo G) EI EH EK →
     Ext EJ EB EL EI ∧ Rel X EL G EI ED EK ∧ Fram X cenv EL G EI EH EK ∧ J7 (Gr :: own) EL G EI EK ∧ St (i + 1) EK ∧ EK.get? Gr = some (d7 us.toArray m) := by
    intro EL EI ED EH EK ER EN EM
    have x03 : Ext EJ EB EL EI := (x.trans Ey).trans ER
    refine ⟨x03,En.unguard EN gS,Es.unguarded EM,λ a ha => ?_,it.frame _ _ _ Fv (λ b hb o e => r7 EN (mM _ hb) e) λ b o e => ⟨En.f b o ((x.trans Ey).f b o e),EN.f b o (x03.f b o e)⟩,r7 EN mS Fq⟩
    obtain ⟨o,e⟩ := gS a ha
    refine i5 (u7 EN ha e) λ q1 q2 => ?_
    exact ⟨q1,(frD a ha).2.1,q2,o,r7 EN ha e⟩
   refine hK A _ _ { s with heap := Eo,toks := Er } Eu (Mine.Internal.guard (Gr :: own) Eo G) J [u] hA rG fG (.cons hu .nil) λ Z Z Ew Ek EE El Ei Ej EF EA Ep EC Z => ?_
   refine mW (s := { s with heap := Ew,toks := Ek }) hA Ep EC EF λ ok EK ES EL EI ED EH EW ER EN EM => ?_
   induction ok using Bool.casesOn with
   | false =>
    refine yk (back (EA.trans ER) EN EM) λ b1 b2 b3 b4 b5 b6 => ?_
    exact ⟨vals.length - (i + 1),by lia,.mk (i + 1) EK ES EL EI ED EH acc us m hlt b1 b2 b3 b4 b5 b6 (((hacc.mono Ey).mono EA).mono ER) (by exact Nat.le_succ_of_le (by assumption)) EW⟩
   | true =>
    refine EW A _ _ { s with heap := EK,toks := ES } EL (Mine.Internal.guard (Gr :: own) Eo G) EI [] hA EN EM .nil λ y w EQ Fy Gc FN Gd Ge Gk Gf FG Fb hw => ?_
    refine yk (back ((EA.trans ER).trans Gf) FG Fb) λ b1 b2 b3 b4 b5 b6 => ?_
    refine wpAny_list_append_plain ⟨_,b6⟩ (λ EV hp hs => ?_) (by rw [yb5,sizeLine_eq]; lia)
    refine i6 (hp) λ n' hp => ?_
    rw [List.push_toArray] at hp
    have keep : ∀ b o,b ∉ [Gr] → EQ.get? b = some o → EV.get? b = some o := λ b o hb e => (hs.2 b λ q => hb (q.symm ▸ mS)).trans e
    have frD4 : J7 [Gr] Gc G FN EQ := b4.sub λ x hx => by replace hx := (List.mem_singleton.mp hx).symm; subst hx; exact mS
    have keepO : ∀ a ∈ own,∀ o,EQ.get? a = some o → EV.get? a = some o := λ a ha o e => keep a o (λ q => by replace q := (List.mem_singleton.mp q).symm; subst q; exact hD ha) e
    refine ⟨vals.length - (i + 1),by lia,.mk (i + 1) EV Fy Gc FN Gd Ge (acc ++ [y]) (us ++ [w]) n' hlt b1 (b2.freeKeep frD4 keep) (b3.keep' (λ a ha => fo a (by replace ha := (List.mem_singleton.mp ha).symm; subst ha; exact mS)) keep) (λ a ha => ?_) (it.frame _ _ _ b5 keepO λ b o e => ?_) hp (((((hacc.mono Ey).mono EA).mono ER).mono Gf).append (.cons hw .nil)) (by rw [yb3]; simp; (assumption)) Gk⟩
    ·rcases mcs ha with rfl | ha
     ·refine L7 (b4 _ mS) λ a1 a2 a3 Z => ?_
      exact ⟨a1,a2,a3,_,hp⟩
     ·refine z9 λ G kG => ?_
      obtain ⟨a1,a2,a3,o,a4⟩ := b4 a (mM _ ha)
      refine kG ?_
      exact ⟨a1,a2,a3,o,keepO a ha o a4⟩
    ·have e1 := b2.f b o (b1.f b o e)
     refine ⟨e1,keep b o (λ q => ?_) e1⟩
     replace q := (List.mem_singleton.mp q).symm
     subst q
     have := (b4 _ mS).1
     rw [b1.f _ o e] at this; cases this
 ·have hi' : i = vals.length := by exact Nat.le_antisymm (by assumption) (Nat.le_of_not_lt (by assumption))
  subst hi'
  rw [List.drop_length] at hK
  obtain ⟨hOk,hK⟩ := hK
  refine wpAny_mono (it.done A _ (λ EG => R (.ok .next) EG) { s with heap := h',toks := tk } F G J O hA.1 x r frO st hOk λ Eo Er En ET => ?_) (λ o EG q => ?_) λ Z Z e => e
  ·have Fq := ET Gr _ hD ho
   refine hk acc us m Eo Er F J O D hK x En (f.keep' foO ET) (λ a ha => ?_) Fq hacc
   replace ha := (List.mem_singleton.mp ha).symm
   subst ha
   refine L7 (fr _ mS) λ a1 a2 a3 Z => ?_
   exact ⟨a1,a2,a3,_,Fq⟩
  ·obtain ⟨rfl,q⟩ := q
   exact ya1 q
end
section
open PySem.Spec
variable {d e : Nat}
noncomputable def jh (x : Str) : List Str → Bool
 | [] => false
 | y :: r => (y == x) || jh x r
noncomputable def ed : List Str → Bool
 | [] => true
 | x :: r => !(jh x r) && ed r
theorem ef {l : List Str} (h : x ∈ l) : jh x l = true := by
 induction l with
 | nil => cases h
 | cons y r ih =>
  unfold jh
  rcases mcs h with rfl | h
  ·rw [beq_self_eq_true]; rfl
  ·rw [ih h,Bool.or_true]
theorem ji : ∀ {l : List Str},ed l = true → l.Nodup := by
 intro l
 induction l with
 | nil =>
  intro Z
  exact List.nodup_nil
 | cons x r ih =>
  intro h
  unfold ed at h
  rw [ya4] at h
  rw [List.nodup_cons]
  refine ⟨λ q => ?_,ih h.2⟩
  have := h.1
  rw [ef q] at this; cases this
noncomputable def I0 (sc : Scope) (z : Str × NameKind) : Bool := !(z.2 == .cell) && (!(z.2 == .free) || sc.names.lookup z.1 == some .cell)
noncomputable def E4 (sc scope : Scope) : Bool := scope.kind == .function && ed (scope.names.map (·.1)) && scope.names.all (I0 sc)
noncomputable def P3 (scope : Scope) (x : Str) : Bool := scope.names.lookup x == some .free
theorem D4 {sc scope : Scope} (h : E4 sc scope = true) : scope.kind = .function ∧ (scope.names.map (·.1)).Nodup ∧ (∀ z ∈ scope.names,z.2 ≠ .cell) ∧ ∀ z ∈ scope.names,z.2 = .free → sc.names.lookup z.1 = some .cell := by
 unfold E4 at h
 simp only [ya4,List.all_eq_true] at h
 refine z9 λ G kG => ?_
 obtain ⟨⟨a,b⟩,c⟩ := h
 refine kG ?_
 refine ⟨beq_iff_eq.mp a,ji b,λ z hz e => ?_,λ z hz e => ?_⟩
 ·have := c z hz
  unfold I0 at this
  rw [e] at this; cases this
 ·have := c z hz
  unfold I0 at this
  rw [e] at this
  exact beq_iff_eq.mp this
theorem B6 {α : Type} {l : List (Str × α)} (hn : (l.map (·.1)).Nodup) {p : Str × α} (h : p ∈ l) : l.lookup p.1 = some p.2 := m7 hn (by cases p; exact h)
noncomputable def A9 (scope : Scope) (D Γ' : Gam) : Gam := ⟨D.loc,Γ'.cel ++ D.cel.filter λ p => !(P3 scope p.1)⟩
noncomputable def Y8 (scope : Scope) (D : Gam) : Gam := ⟨[],D.cel.filter λ p => P3 scope p.1⟩
theorem D8 {α : Type} : ∀ {a b : List (Str × α)},(a ++ b).lookup x = (a.lookup x).or (b.lookup x) := by
 intro a
 induction a with
 | nil =>
  intro b
  exact rfl
 | cons hd a ih =>
  obtain ⟨y,v⟩ := hd
  intro b
  rw [List.cons_append,yc6,yc6,ih]
  cases x == y <;> rfl
theorem P4 {elt target iter : Expr} {ifs : KL} {scope : Scope} {pos : Pos} {I : Addr} {own : KH} {vals : KN} {St : Nat → Heap → Prop} {A : Around} {E : KA} {EP : Shared} {F G : PH} {J : KH} {Eo : Heap} {RR : Value → Addr → Result → Shared → Prop} {Ok : List MO → Prop} {k : List V → Gam → List MO → Prop}
  (hA : C3 d A) (hok : E4 env.scope scope = true) (r : Rel X F G J O Eo) (f : Fram X env F G J D Eo) (ET : ∀ b o,Eo.get? b = some o → EP.heap.get? b = some o) (hne : ∃ a,a ∈ own) (hown : ∀ a ∈ own,Eo.objs.size ≤ a) (it : IterP X target (.ref I) own vals St F J Ok) (st : St 0 EP.heap)
  (hIo : ∀ i h,St i h → ∀ b ∈ own,∃ o,h.get? b = some o) (self : ∀ (A : Around) (E Q' : KA) (s : Shared),A.handled = none → St 0 s.heap → Q' (.ref I) s → wpAny (model X.prog X.w) A (pyIter (.ref I)) Q' E s) (hlen : vals.length ≤ 100000)
  (h : ∀ cenv : Env,cenv.scope = w6 env.scope scope → Y7 X d cenv target ifs elt Ok k vals [] (Y8 scope D) O)
  (hRR : ∀ (acc : KN) (Gr C : Addr) (m : Str → Option Value) (h' : Heap) (tk' : Nat) (F' : PH) (ρ' : KH) (σ' : KG) (Γ' : Gam),k acc Γ' σ' → Ext F J F' ρ' → Rel X F' G ρ' σ' h' → Fram X env F' G ρ' (A9 scope D Γ') h' → VR X.w.params F' ρ' (w3 acc) (.ref Gr) →
   h'.Ns C m → F' C = none → G C = none → C ∉ ρ' → C ∉ e9 env → RR (.ref Gr) C (.ok .next) { EP with heap := h',toks := tk' }) :
  wpAny (model X.prog X.w) A (newList []) (λ acc EZ => wpAny (model X.prog X.w) A (newFunctionEnv scope env.globals (clF env.cells scope.names []) [] env.qual none .none (some env)) (λ cenv Fk =>
   codeAny (model X.prog X.w) A (.compStart (.ListComp elt [⟨target,iter,ifs,0⟩] scope pos) 0 (.ref I) acc { cenv with scope := relabel scope env }) (RR acc cenv.locals) Fk) E EZ) E EP := by
 refine L7 (D4 hok) λ hkind hnd hcell hfree => ?_
 refine wpAny_newObj_type (wpAny_newFunctionEnv hcell (by intro y hy; simp at hy) (λ EQ Fn Fi => ?_) hkind)
 dsimp only at Fn Fi ⊢
 generalize hH3 : EP.heap.push { cls := .type "list", dict := none,data := .seq ([] : KK).toArray } = H3 at Fn Fi ⊢
 generalize hDe : EP.heap.objs.size = Gr
 generalize hCe : H3.objs.size = C at Fn Fi ⊢
 have hCD : C = Gr + 1 := by rw [← hCe,← hH3,Heap.size_push,hDe]
 have hle : Eo.objs.size ≤ Gr := by
  refine i6 (hne) λ a ha => ?_
  refine i6 (hIo 0 _ st a ha) λ o e => ?_
  refine hDe ▸ ?_
  exact ya6 (hown a ha) (yc1 (yb8 e))
 have hDC : Gr ≠ C := by rw [hCD]; exact yb9 (Nat.lt_succ_self _)
 have FH : ∀ b o,EP.heap.get? b = some o → EQ.get? b = some o := λ b o e => by
  have hlt : b < Gr := by rw [← hDe]; exact yb8 e
  refine Fi.extBut b o (yb9 (by rw [hCD]; exact Nat.lt_succ_of_lt hlt)) (ya9 _ (hH3 ▸ ya9 _ e))
 have old : ∀ b o,Eo.get? b = some o → EQ.get? b = some o := λ b o e => FH b o (ET b o e)
 have hoD : EQ.get? Gr = some (d7 #[] 0) := by
  refine Fi.extBut _ _ hDC (ya9 _ ?_)
  refine hH3 ▸ hDe ▸ ?_
  exact ya8 _ rfl
 refine C2 (r.lt) λ l1 l2 l3 => ?_
 have off : ∀ a,Eo.objs.size ≤ a → F a = none ∧ G a = none ∧ a ∉ J ∧ a ∉ e9 env := λ a ha =>
  ⟨by cases e : F a with | none => rfl | some o => exact absurd (l1 _ _ e) (Nat.not_lt.mpr ha),by cases e : G a with | none => rfl | some o => exact absurd (l2 _ _ e) (Nat.not_lt.mpr ha),λ q => Nat.not_lt.mpr ha (l3 _ q),λ q => by
   refine i6 (f.as.2 _ q) λ o e => ?_
   exact absurd (yb8 e) (Nat.not_lt.mpr ha)⟩
 have offD := off Gr hle
 have S5 := off C (by rw [hCD]; exact Nat.le_succ_of_le hle)
 let cl := clF env.cells scope.names []
 have hcell' : ∀ x,(x,NameKind.free) ∈ scope.names → ∃ c,env.cells.lookup x = some c ∧ (x,c) ∈ env.cells := λ x hx => by
  have hkx : env.kindOf x = some .cell := hfree _ hx rfl
  refine i6 (f.ev.has x hkx) λ c hc => ?_
  exact ⟨c,hc,mem_of_lookup hc⟩
 have clm : ∀ x c,(x,c) ∈ cl → (x,NameKind.free) ∈ scope.names ∧ env.cells.lookup x = some c ∧ (x,c) ∈ env.cells := λ x c hx => by
  rcases qX hx with q | ⟨q,e⟩
  ·cases q
  ·refine a9 (hcell' x q) λ c' h1 h2 => ?_
   rw [h1,Option.getD_some] at e
   subst e
   exact ⟨q,h1,h2⟩
 have clnd : (cl.map (·.1)).Nodup := jf hnd List.nodup_nil (λ Z Z q => by cases q)
 have cll : ∀ x c,(x,NameKind.free) ∈ scope.names → env.cells.lookup x = some c → cl.lookup x = some c := λ x c hx hc => by
  have := qZ (cells := env.cells) (acc := []) hx
  rw [hc,Option.getD_some] at this
  exact m7 clnd this
 let as : List Addr := env.locals :: (env.cells.filter λ p => !(P3 scope p.1)).map (·.2)
 have asF : ∀ a ∈ as,a ∈ e9 env := λ a ha => by
  rcases mcs ha with rfl | ha
  ·exact mS
  ·refine a9 (List.mem_map.mp ha) λ p hp eR2 => ?_
   subst eR2
   exact mM _ (List.mem_map.mpr ⟨p,(List.mem_filter.mp hp).1,rfl⟩)
 have freeI : ∀ x,(x,NameKind.free) ∈ scope.names → P3 scope x = true := λ x hx => by
  exact beq_iff_eq.mpr (B6 hnd hx)
 have freeI' : ∀ x,P3 scope x = true → (x,NameKind.free) ∈ scope.names := λ x hx => by
  exact mem_of_lookup (beq_iff_eq.mp hx)
 have pair : ∀ {p q : Str × Addr},p ∈ env.cells → q ∈ env.cells → p.2 = q.2 → p = q := λ {p q} hp hq e => by
  rcases List.mem_iff_getElem.mp hp with ⟨i,hi,ei⟩
  rcases List.mem_iff_getElem.mp hq with ⟨j,hj,ej⟩
  by_cases z : i = j
  ·subst z; rw [← ei,← ej]
  ·exfalso
   have hp := List.pairwise_iff_getElem.mp f.ev.apart
   rcases Nat.lt_or_gt_of_ne z with l | l
   ·have := hp i j hi hj l; rw [ei,ej] at this; exact this e
   ·have := hp j i hj hi l; rw [ei,ej] at this; exact this e.symm
 have clAs : ∀ x c,(x,c) ∈ cl → c ∉ as := λ x c hx q => by
  refine C2 (clm x c hx) λ q1 q2 q3 => ?_
  refine xX (f.cout x c q3) λ Z Z Z c4 Z => ?_
  rcases List.mem_cons.mp q with q | q
  ·exact c4 q
  ·refine a9 (List.mem_map.mp q) λ p hp e => ?_
   obtain ⟨hp1,hp2⟩ := List.mem_filter.mp hp
   have := pair hp1 q3 e
   subst this
   rw [freeI _ q1] at hp2; cases hp2
 have FG : Rel X F G J O EQ := r.keep old
 have Fb : Fram X env F G J D EQ := f.keep old
 have gA : ∀ a ∈ as,F a = none ∧ a ∉ J := λ a ha => Fb.as.1 a (asF a ha)
 have gS : ∀ a ∈ as,∃ o,EQ.get? a = some o := λ a ha => Fb.as.2 a (asF a ha)
 have rG := FG.guard gA gS
 let cenv : Env := compEnvC scope cl C env
 have cenvC : cenv.cells = cl := rfl
 have cenvL : cenv.locals = C := rfl
 have notAs : ∀ a,Eo.objs.size ≤ a → a ∉ as := λ a ha q => (off a ha).2.2.2 (asF a q)
 have fC : Fram X cenv F (Mine.Internal.guard as EQ G) J (Y8 scope D) EQ := by
  refine ⟨f.glob,f.bilt,hkind,⟨_,Fn,λ x v e => by cases e⟩,⟨S5.1,?_,S5.2.2.1⟩,λ x v e => ?_,λ x c hx => ?_,⟨?_,clnd,λ x hx => ?_⟩⟩
  ·refine (?_ : Mine.Internal.guard as EQ G C = none)
   unfold Mine.Internal.guard
   rw [if_neg (notAs C (by rw [hCD]; exact Nat.le_succ_of_le hle))]
   exact S5.2.1
  ·refine i5 (u4 e) λ e1 e2 => ?_
   refine S8 (Fb.cel x v e1) λ c u hc hi hr => ?_
   exact ⟨c,u,cll x c (freeI' x e2) hc,hi,hr⟩
  ·refine C2 (clm x c hx) λ q1 q2 q3 => ?_
   obtain ⟨c1,c2,c3,c4,v,hi⟩ := Fb.cout x c q3
   refine ⟨c1,?_,c3,λ q => ?_,v,hi⟩
   ·unfold Mine.Internal.guard
    rw [if_neg (clAs x c hx)]
    exact c2
   ·have hcm : c ∈ e9 env := mM _ (List.mem_map.mpr ⟨_,q3,rfl⟩)
    have q' : c = C := q
    rw [q'] at hcm
    exact S5.2.2.2 hcm
  ·refine (?_ : cl.Pairwise λ x y => x.2 ≠ y.2)
   have hn : cl.Pairwise λ x y => x.1 ≠ y.1 := List.pairwise_map.mp clnd
   refine List.Pairwise.imp_of_mem (R := λ x y => x.1 ≠ y.1) (λ {a b} ha hb hne e => ?_) hn
   refine C2 (clm a.1 a.2 ha) λ Z Z a3 => ?_
   refine C2 (clm b.1 b.2 hb) λ Z Z b3 => ?_
   have := pair a3 b3 e
   exact hne (congrArg Prod.fst this)
  ·have hx' : (x,NameKind.free) ∈ scope.names := aN hcell hx
   refine a9 (hcell' x hx') λ c h1 h2 => ?_
   exact ⟨c,cll x c hx' h1⟩
 have ownD : Gr ∉ own := λ q => by
  refine i6 (hIo 0 _ st Gr q) λ o e => ?_
  have := yb8 e
  rw [hDe] at this
  exact Nat.lt_irrefl _ this
 have ownC : C ∉ own := λ q => by
  obtain ⟨o,e⟩ := hIo 0 _ st C q
  have := yb8 e
  rw [hDe,hCD] at this
  exact absurd this (Nat.not_lt.mpr (Nat.le_succ _))
 have FI : St 0 EQ := it.frame _ _ _ st (λ b hb o e => FH b o e) λ b o e => ⟨ET b o (r.f b o e),FG.f b o e⟩
 have frO : J7 (Gr :: own) F (Mine.Internal.guard as EQ G) J EQ := λ a ha => by
  have hge : Eo.objs.size ≤ a := by
   rcases mcs ha with rfl | ha
   ·exact hle
   ·exact hown a ha
  obtain ⟨a1,a2,a3,_⟩ := off a hge
  refine ⟨a1,?_,a3,?_⟩
  ·unfold Mine.Internal.guard
   rw [if_neg (notAs a hge)]
   exact a2
  ·rcases mcs ha with rfl | ha
   ·exact ⟨_,hoD⟩
   ·exact hIo 0 _ FI a ha
 have foC : ∀ a ∈ Gr :: own,a ∉ e9 cenv := λ a ha q => by
  have hge : Eo.objs.size ≤ a := by
   rcases mcs ha with rfl | ha
   ·exact hle
   ·exact hown a ha
  rcases List.mem_cons.mp q with q | q
  ·have q' : a = C := q
   rcases mcs ha with rfl | ha
   ·exact hDC q'
   ·subst q'; exact ownC ha
  ·obtain ⟨⟨x,c⟩,hp,rfl⟩ := List.mem_map.mp q
   obtain ⟨_,_,q3⟩ := clm x c hp
   exact (off c hge).2.2.2 (mM _ (List.mem_map.mpr ⟨_,q3,rfl⟩))
 have loop : ∀ EZ : Shared,EZ = { EP with heap := EQ,toks := EP.toks + ([] : List (Str × Value)).length } →
   codeAny (model X.prog X.w) A (.compLoop (.ListComp elt [⟨target,iter,ifs,0⟩] scope pos) 0 (.ref I) (.ref Gr) cenv) (RR (.ref Gr) C) EZ := by
  rintro EZ rfl
  refine jg (s := { EP with heap := EQ,toks := EP.toks + ([] : List (Str × Value)).length }) hA it rG fC frO ownD foC FI hoD hlen (h cenv rfl) ?_
  intro acc us m h' tk' F' ρ' σ' Γ' z x r' f' fr' ho' hacc
  have rU := FG.unguard r' gS
  obtain ⟨q1,q2,q3,_⟩ := fr' Gr mS
  obtain ⟨x2,r2⟩ := rU.addF q1 offD.2.1 q3 ho'
  have getA : ∀ a ∈ as,∀ o,EQ.get? a = some o → h'.get? a = some o := λ a ha o e => r7 r' ha e
  have nonA : ∀ a ∈ as,F' a = none ∧ a ∉ ρ' := λ a ha => by
   obtain ⟨o,e⟩ := gS a ha
   exact u7 r' ha e
  have putN : ∀ {a},a ∈ e9 env → F' a = none → put F' Gr (d7 us.toArray m) a = none := λ {a} ha e => by
   unfold put
   rw [if_neg (λ q => by subst q; exact offD.2.2.2 ha)]
   exact e
  have x02 := x.trans x2
  refine hRR acc Gr C _ h' tk' _ ρ' σ' Γ' z x02 r2 ?_ (H5 (n := m) (us := us) (hacc.mono x2) (by unfold put; simp)) f'.ns.choose_spec.1 ?_ S5.2.1 f'.out.2.2 S5.2.2.2
  ·refine ⟨Fb.glob,Fb.bilt,Fb.kind,?_,⟨?_,Fb.out.2.1,?_⟩,λ y v e => ?_,λ y c hc => ?_,Fb.ev⟩
   ·obtain ⟨mm,⟨o,es,ep,ho,q⟩,hm⟩ := Fb.ns
    exact ⟨mm,⟨o,es,ep,getA _ mS _ ho,q⟩,λ y v e => let ⟨u,a,b⟩ := hm y v e; ⟨u,a,b.mono x02⟩⟩
   ·exact putN mS (nonA _ mS).1
   ·exact (nonA _ mS).2
   ·unfold A9 at e
    dsimp only at e
    rw [D8] at e
    cases e' : Γ'.cel.lookup y with
    | some v' =>
     rw [e'] at e
     cases e
     obtain ⟨c,u,hc,hi,hr⟩ := f'.cel y v e'
     have hc' : (y,c) ∈ cl := mem_of_lookup hc
     obtain ⟨_,h2,_⟩ := clm y c hc'
     exact ⟨c,u,h2,hi,hr.mono x2⟩
    | none =>
     rw [e'] at e
     obtain ⟨e1,e2⟩ := u4 (f := λ x => !(P3 scope x)) e
     obtain ⟨c,u,hc,⟨o,ho,q⟩,hr⟩ := Fb.cel y v e1
     have hca : c ∈ as := mM _ (List.mem_map.mpr ⟨(y,c),List.mem_filter.mpr ⟨mem_of_lookup hc,e2⟩,rfl⟩)
     exact ⟨c,u,hc,⟨o,getA c hca _ ho,q⟩,hr.mono x02⟩
   ·obtain ⟨c1,c2,c3,c4,v,hi⟩ := Fb.cout y c hc
    have hcF : c ∈ e9 env := mM _ (List.mem_map.mpr ⟨_,hc,rfl⟩)
    cases q : P3 scope y with
    | true =>
     have hy := freeI' y q
     obtain ⟨c',h1,h2⟩ := hcell' y hy
     by_cases e : c = c'
     ·subst e
      have hcl := cll y c hy h1
      obtain ⟨d1,d2,d3,d4,d5⟩ := f'.cout y c (mem_of_lookup hcl)
      exact ⟨putN hcF d1,c2,d3,c4,d5⟩
     ·have := m7 f.ev.keys hc
      rw [h1] at this
      obtain rfl := sj this
      exact absurd rfl e
    | false =>
     have hca : c ∈ as := mM _ (List.mem_map.mpr ⟨(y,c),List.mem_filter.mpr ⟨hc,by rw [q]; rfl⟩,rfl⟩)
     obtain ⟨d1,d2⟩ := nonA c hca
     obtain ⟨o,ho,hd⟩ := hi
     exact ⟨putN hcF d1,c2,d2,c4,v,o,getA c hca _ ho,hd⟩
  ·unfold put
   rw [if_neg (λ q => hDC q.symm)]
   exact f'.out.1
 exact codeAny_compStart_list (loop _ rfl) (self A _ _ _ hA.1 FI (loop _ rfl))
end
section
open PySem.Spec
variable {d e : Nat}
noncomputable def cw (X : Wd) (d : Nat) (sc : Scope) (target : Expr) (ifs : KL) (elt : Expr) (scope : Scope) (k : KB) : List V → Gam → List MO → Prop := λ vals D O =>
 vals.length ≤ 100000 ∧ ∀ cenv : Env,cenv.scope = w6 sc scope → Y7 X d cenv target ifs elt (λ Z => True) (λ acc Γ' σ' => k (w3 acc) (A9 scope D Γ') σ') vals [] (Y8 scope D) O
theorem P5 {h h' : Heap} {m : Str → Option Value} (r : Rel X F G J O h) (f : Fram X env F G J D h) (hn : h.Ns C m) (c1 : F C = none) (c2 : G C = none) (c3 : C ∉ J) (c4 : C ∉ e9 env) (hs : Heap.SameBut C h h') :
  Rel X F G J O h' ∧ Fram X env F G J D h' := by
 have keep : ∀ b o,b ∉ [C] → h.get? b = some o → h'.get? b = some o := λ b o hb e => (hs.2 b λ q => hb (q.symm ▸ mS)).trans e
 have fr : J7 [C] F G J h := λ a ha => by
  replace ha := (List.mem_singleton.mp ha).symm
  subst ha
  refine Az (hn) λ o Z Z ho Z => ?_
  exact ⟨c1,c2,c3,o,ho⟩
 exact ⟨r.freeKeep fr keep,f.keep' (λ a ha => by replace ha := (List.mem_singleton.mp ha).symm; subst ha; exact c4) keep⟩
theorem aO {v : V} {u : Value} {F G : PH} {J : KH} {s : Shared} {A : Around} {E : KA} {Q : Unit → Shared → Prop} (hl : env.kindOf x = some .local)
  (r : Rel X F G J O s.heap) (f : Fram X env F G J D s.heap) (hv : VR X.w.params F J v u)
  (h : ∀ h' tk',Heap.SameBut env.locals s.heap h' → Rel X F G J O h' → Fram X env F G J { D with loc := dL x v D.loc } h' → Q () { s with heap := h',toks := tk' }) : wpAny (model X.prog X.w) A (storeName env x u) Q E s := by
 refine a9 (f.ns) λ m hn hm => ?_
 refine wpAny_storeName_local hl hn (λ h' hn' hs => h h' _ hs ?_ ?_) ?_
 ·have keep : ∀ b o,b ≠ env.locals → s.heap.get? b = some o → h'.get? b = some o := λ b o hb e => (hs.2 b hb).trans e
  refine ⟨r.base,λ a o e => keep a o (λ q => ?_) (r.f a o e),λ a o e => keep a o (λ q => ?_) (r.g a o e),r.fg,r.nd,r.rf,r.len,λ n a o e1 e2 => ?_⟩
  ·rw [q,f.out.1] at e; cases e
  ·rw [q,f.out.2.1] at e; cases e
  ·refine a9 (r.m n a o e1 e2) λ y hy hm => ?_
   exact ⟨y,keep a y (λ q => f.out.2.2 (q ▸ yc7 e1)) hy,hm⟩
 ·refine ⟨f.glob,f.bilt,f.kind,⟨_,hn',λ y w e => ?_⟩,f.out,λ y w e => ?_,λ y c e => ?_,f.ev⟩
  ·rw [A1] at e
   by_cases q : y = x
   ·rw [if_pos q] at e; obtain rfl := sj e
    exact ⟨u,by rw [if_pos q],hv⟩
   ·rw [if_neg q] at e
    refine a9 (hm y w e) λ u' a b => ?_
    exact ⟨u',by rw [if_neg q]; exact a,b⟩
  ·refine S8 (f.cel y w e) λ c u' hc hi hr => ?_
   exact ⟨c,u',hc,hi.sameBut hs (f.cout y c (mem_of_lookup hc)).2.2.2.1,hr⟩
  ·refine z9 λ G kG => ?_
   obtain ⟨a,b,c',d',v',o,ho,ho'⟩ := f.cout y c e
   refine kG ?_
   exact ⟨a,b,c',d',v',o,(hs.2 c d').trans ho,ho'⟩
 ·rw [f.kind,show (ScopeKind.function == ScopeKind.class) = false from rfl,show (ScopeKind.function == ScopeKind.module) = false from rfl]; rfl
theorem I1 {scope : Scope} (hnd : (scope.names.map (·.1)).Nodup) : ∀ x ∈ scope.names,x.2 = .local → scope.names.lookup x.1 = some .local := λ x hx e => by
 have := B6 hnd hx
 rw [e] at this; exact this
theorem P6 {scope : Scope} {h : Heap} (hok : E4 env.scope scope = true) (f : Fram X env F G J D h) : closureFor scope env = pure (clF env.cells scope.names []) :=
 P0 λ z hz e => f.ev.has z.1 ((D4 hok).2.2.2 z hz e)
theorem ra {elt target iter : Expr} {ifs : KL} {scope : Scope} {pos : Pos} {k : KB} (hok : E4 env.scope scope = true) (hp : n9 iter = true)
  (h : Fst X d env target iter D O (cw X d env.scope target ifs elt scope k)) : Ev X (RV X) d env D O vs (λ Z => eval (.ListComp elt [⟨target,iter,ifs,0⟩] scope pos) env) k := by
 intro A E Q s F G J us hA r f hv hk
 refine L7 (D4 hok) λ hkind hnd hcell hfree => ?_
 refine (?_ : wpAny (model X.prog X.w) A (eval (.ListComp elt [⟨target,iter,ifs,0⟩] scope pos) env) Q E s)
 rw [eval_ListComp]
 refine wpAny_comprehension_free (use := none) (M := model X.prog X.w) rfl (w4 hp) (P6 hok f) hkind (I1 hnd) ?_
 refine h A E _ s F G J hA r f λ vals Eo Er Eu Em Eh Eg hK Ey En Es => ?_
 intro I own St Ew FJ hne hown it st hIo self
 refine P4 (EP := { s with heap := Ew,toks := Er }) (RR := λ acc C => compPost (model X.prog X.w) A E none Q acc C) hA hok En Es FJ hne hown (Iter.pin (Ok := λ Z => True) it) st hIo self hK.1 hK.2 ?_
 intro acc Gr C m h' tk' F' ρ' σ' Γ' z x r' f' hD hn c1 c2 c3 c4
 refine ⟨m,hn,λ h'' hs => ?_⟩
 refine i5 (P5 r' f' hn c1 c2 c3 c4 hs) λ r'' f'' => ?_
 exact hk _ _ h'' tk' F' ρ' σ' _ z (Ey.trans x) r'' f'' hD
noncomputable def rb (sc : Scope) (t : Str) (tp vp : Pos) (scope : Scope) : Bool :=
 (if sc.kind.isAnnotationScope then ScopeKind.function else sc.kind) == .function && sc.names.lookup t == some .local && tp.line == vp.line && !(scope.names.any λ (n,k) => n == t && (k == .local || k == .cell))
theorem T5 {elt : Expr} {gens : List Comprehension} {scope : Scope} {pos tp : Pos} {t : Str} {line : Nat} : swapsWith (.ListComp elt gens scope pos) (some (.Name t tp)) line env = pure (rb env.scope t tp pos scope) := rfl
theorem rc {elt target iter : Expr} {ifs : KL} {scope : Scope} {pos spos tp : Pos} {t : Str} {k : Fl → Gam → List MO → Prop} (hok : E4 env.scope scope = true) (hp : n9 iter = true) (hsw : rb env.scope t tp pos scope = true) (hl : env.kindOf t = some .local)
  (h : Fst X d env target iter D O (cw X d env.scope target ifs elt scope (λ v Γ' σ' => k .next { Γ' with loc := dL t v Γ'.loc } σ'))) :
  Ev X (RFl X) d env D O vs (λ Z => exec (.Assign [.Name t tp] (.ListComp elt [⟨target,iter,ifs,0⟩] scope pos) spos) env) k := by
 intro A E Q s F G J us hA r f hv hk
 refine L7 (D4 hok) λ hkind hnd hcell hfree => ?_
 refine (?_ : wpAny (model X.prog X.w) A (exec (.Assign [.Name t tp] (.ListComp elt [⟨target,iter,ifs,0⟩] scope pos) spos) env) Q E s)
 rw [exec_Assign_Name_used _ _ _ _ (by rw [T5,hsw])]
 refine ya0 (wpAny_standAt (ya0 ?_))
 refine ya0 (wpAny_mono (wpAny_comprehension_free (use := some (assign (.Name t tp) env)) (Q := λ Z s' => Q .next s') (M := model X.prog X.w) rfl (w4 hp) (P6 hok f) hkind (I1 hnd) ?_) (λ Z s' hq => ya1 (ya1 hq)) λ Z Z e => e)
 refine h A E _ s F G J hA r f λ vals Eo Er Eu Em Eh Eg hK Ey En Es => ?_
 intro I own St Ew FJ hne hown it st hIo self
 refine P4 (EP := { s with heap := Ew,toks := Er }) (RR := λ acc C => compPost (model X.prog X.w) A E (some (assign (.Name t tp) env)) (λ Z s' => Q .next s') acc C) hA hok En Es FJ hne hown (Iter.pin (Ok := λ Z => True) it) st hIo self hK.1 hK.2 ?_
 intro acc Gr C m h' tk' F' ρ' σ' Γ' z x r' f' hD hn c1 c2 c3 c4
 have hLC : env.locals ≠ C := λ q => c4 (q ▸ mS)
 refine assign_Name (aO (s := { s with heap := h',toks := tk' }) hl r' f' hD λ Ew Ek EU Ep EC => ?_)
 have FO : Ew.Ns C m := by
  refine Az (hn) λ o es ep ho q => ?_
  exact ⟨o,es,ep,(EU.2 C hLC.symm).trans ho,q⟩
 refine ⟨m,FO,λ h'' hs => ?_⟩
 refine i5 (P5 Ep EC FO c1 c2 c3 c4 hs) λ r'' f'' => ?_
 exact hk _ _ h'' Ek F' ρ' σ' _ z (Ey.trans x) r'' f'' .next
end
section
open PySem.Spec PySem.Spec
namespace FF
theorem aP : mroOf (.type "bytes") = pure [.type "bytes", .type "object"] := by rw [mroOf_type]; kernel_rfl
theorem L2 : typeLookup (.type "bytes") "__new__" = pure (some (.builtin "bytes.__new__")) := by rw [typeLookup_type,builtinLookup_eq_fast]; kernel_rfl
theorem P7 : Slot "bytes" "__init__" "object.__init__" :=
 .of (owner := "object") (n := "__init__") (by rw [typeLookup_type,builtinLookup_eq_fast]; kernel_rfl) (by decide +kernel) (by decide +kernel) (by decide +kernel)
  (by first | exact .inl (by decide +kernel) | exact .inr (by decide +kernel)) (by rw [isSubtype_type]; kernel_rfl)
theorem called_bytes : TypeCalled "bytes" "bytes.__new__" "object.__init__" :=
 ⟨by decide +kernel,by decide +kernel,⟨_,_,aP⟩,madeBy_type aP L2 (by decide +kernel),by decide +kernel,by rw [isSubtype_type]; kernel_rfl,P7⟩
theorem typeCall_bytes_1 (a : Value) : checkTypeCall "bytes" ⟨[a],[]⟩ = pure () := by kernel_rfl
theorem newCall_bytes_1 (a : Value) : checkBuiltinCall "bytes.__new__" ⟨[.type "bytes", a],[]⟩ = pure () := by kernel_rfl
theorem entry_bytes_new : entryFor table "bytes.__new__" = some Builtin.«bytes.__new__» := entryFor_of_tree (by kernel_rfl)
theorem entry_bytes_loop : entryFor table "bytes.__new__.loop" = some Builtin.«bytes.__new__.loop» := entryFor_of_tree (by kernel_rfl)
theorem plain_bytes_loop : plainId "bytes.__new__.loop" = true := by decide +kernel
theorem sub_bytes : isSubtype (.type "bytes") (.type "bytes") = pure true := by rw [isSubtype_type]; kernel_rfl
theorem list_no_bytes : typeLookup (.type "list") "__bytes__" = pure none := by rw [typeLookup_type,builtinLookup_eq_fast]; kernel_rfl
theorem list_no_buffer : typeLookup (.type "list") "__buffer__" = pure none := by rw [typeLookup_type,builtinLookup_eq_fast]; kernel_rfl
theorem list_no_index : typeLookup (.type "list") "__index__" = pure none := by rw [typeLookup_type,builtinLookup_eq_fast]; kernel_rfl
end FF
noncomputable abbrev cy (b : Array UInt8) : Obj := { cls := .type "bytearray", data := .bytearray b }
noncomputable def u8 (n : Int) : UInt8 := n.toNat.toUInt8
theorem fS {prog : Program} {w : World} {R : Result → Shared → Prop} {I l ba : Addr} (hh : A.handled = none) (hi : IntsAre us xs) (hx : ∀ x ∈ xs,0 ≤ x ∧ x < 256) (hlen : xs.length ≤ 100000) (h1 : I ≠ l) (h2 : ba ≠ l) (h3 : I ≠ ba) :
  ∀ (k i : Nat) (s : Shared),xs.length - i = k → i ≤ xs.length → s.heap.IsListIter I l i → s.heap.IsList l us.toArray → s.heap.get? ba = some (cy ((xs.take i).map u8).toArray) →
   (∀ h' t tk,(∀ b o,b ≠ I → b ≠ ba → s.heap.get? b = some o → h'.get? b = some o) → R (.ok (.ret (.bytes (xs.map u8).toArray t))) { s with heap := h',toks := tk }) →
   codeAny (model prog w) A (.builtin "bytes.__new__.loop" ⟨[.type "bytes", .ref I,.ref ba],[]⟩) R s := by
 intro k
 induction k with
 | zero =>
  intro i s hk hi' hit hl hb hR
  have e : i = xs.length := by lia
  subst e
  refine codeAny_builtin FF.entry_bytes_loop ?_
  refine (Around.under_plainId FF.plain_bytes_loop _).symm ▸ ?_
  refine ya0 (wpAny_pyNext_list_end hh hit hl (by rw [← IntsAre.len hi]; simp) λ h' he => ?_)
  have hb' := he ba _ h3.symm hb
  refine ya0 (ya0 (ya0 (wpAny_load hb' (ya1 (ya1 ?_)))))
  refine ya0 (wpAny_mkBytes ?_ ?_)
  ·refine (List.take_of_length_le (ya7 _)).symm ▸ ?_
   exact ya1 (hR h' _ _ λ b o b1 Z e => he b o b1 e)
  ·rw [yb5,yb4,List.length_take,sizeLine_eq]; lia
 | succ k ih =>
  intro i s hk hi' hit hl hb hR
  have hlt : i < xs.length := by lia
  refine i6 (aA (j := i) hi hlt) λ t ht => ?_
  have hxi : xs.getD i 0 = xs[i] := by simp [hlt]
  rw [hxi] at ht
  refine codeAny_builtin FF.entry_bytes_loop ?_
  rw [Around.under_plainId FF.plain_bytes_loop _]
  refine ya0 (wpAny_pyNext_list_item hit hl (by simpa using ht) λ h' hit' hs => ?_)
  refine ya0 (wpAny_holding (wpAny_of_eq (a := xs[i]) rfl ?_))
  refine ya0 (wpAny_letGo ?_)
  obtain ⟨x0,x1⟩ := hx xs[i] (List.getElem_mem hlt)
  have c : ¬ ((decide (xs[i] < 0) || decide (xs[i] ≥ 256)) = true) := by simp; lia
  refine (if_neg c).symm ▸ ?_
  have hb' : h'.get? ba = some (cy ((xs.take i).map u8).toArray) := (hs.2 ba h3.symm).trans hb
  refine (?_ : wpAny _ _ (updateBytearray ba (·.push xs[i].toNat.toUInt8) >>= _) _ _ _)
  have hm : Obj.mapBytearray (·.push xs[i].toNat.toUInt8) (cy ((xs.take i).map u8).toArray) = cy ((xs.take (i + 1)).map u8).toArray := by
   unfold Obj.mapBytearray cy
   dsimp only
   rw [List.push_toArray,List.take_succ_eq_append_getElem hlt,List.map_append]
   rfl
  have hup : (h'.update ba (Obj.mapBytearray (·.push xs[i].toNat.toUInt8))).get? ba = some (cy ((xs.take (i + 1)).map u8).toArray) := by
   rw [Heap.get?_update_self _ hb' (by rw [hm]; rfl),hm]
  refine ya0 ?_
  unfold updateBytearray
  refine ya0 (wpAny_load hb' ?_)
  refine ya0 (wpAny_update hb' ?_)
  refine wpAny_lookBehind hup ?_ ?_
  ·show (if _ then _ else _) = none
   rw [if_neg]
   rw [yb5,yb4,List.length_take,sizeLine_eq]; lia
  have hu := yc4 h' ba (Obj.mapBytearray (·.push xs[i].toNat.toUInt8))
  refine ya1 ⟨by kernel_rfl,?_⟩
  refine ih (i + 1) _ (by lia) hlt (hit'.at λ o e => (hu.2 I h3).trans e) (hl.at λ o e => (hu.2 l h2.symm).trans ((hs.2 l h1.symm).trans e)) hup λ h'' t' tk hk' => ?_
  exact hR h'' t' tk λ b o b1 b2 e => hk' b o b1 b2 ((hu.2 b b2).trans ((hs.2 b b1).trans e))
theorem T6 {prog : Program} {w : World} {R : Result → Shared → Prop} {l : Addr} (ho : s.heap.get? l = some (d7 us.toArray n)) (hh : A.handled = none) (hi : IntsAre us xs) (hx : ∀ x ∈ xs,0 ≤ x ∧ x < 256) (hlen : xs.length ≤ 100000)
  (hR : ∀ h' t tk,(∀ b o,s.heap.get? b = some o → h'.get? b = some o) → R (.ok (.ret (.bytes (xs.map u8).toArray t))) { s with heap := h',toks := tk }) :
  wpAny (model prog w) A.in1 (Builtin.«bytes.__new__» ⟨[.type "bytes", .ref l],[]⟩) (λ fin s' => match fin with | .done f => R (.ok f) s' | .again c' => c'.quiet = true ∧ codeAny (model prog w) A c' R s') (λ e s' => R (.error e) s') s := by
 have hl : s.heap.IsList l us.toArray := ⟨_,ho,rfl,_,rfl⟩
 have f1 := FF.sub_bytes
 have f2 := FF.list_no_bytes
 have f3 := FF.list_no_buffer
 have f4 := FF.list_no_index
 obtain ⟨hp,g,d,tk,os⟩ := s
 have hT : Shared.TypeIs ⟨hp,g,d,tk,os⟩ (.ref l) "list" := hl.typeIs
 wp_walk using wpAny_loadPart' ho,wpAny_typeOf hT
 refine wpAny_tryCatch (wpAny_pyIter_list hl ?_)
 refine ya0 (wpAny_holding ?_)
 show wpAny _ _ (Builtin.Bytes.lengthHint "bytes.__new__" (.ref l)) _ _ _
 have hT2 : Shared.TypeIs ⟨hp.push { cls := .type "list_iterator", data := .fields #[.ref l,.int 0 0] },g,d,tk,os⟩ (.ref l) "list" := (hl.push _).typeIs
 unfold Builtin.Bytes.lengthHint
 refine ya0 (wpAny_specialOf hT2 slot_list_len.lookup ?_)
 have e1 : splitId "list.__len__" = some ("list", "__len__") := by decide +kernel
 dsimp only
 rw [e1]
 refine ya0 (wpAny_isInstance (T := "list") (b := true) hT2 (by rw [isSubtype_type]; kernel_rfl) ?_)
 refine wpAny_ite_false rfl (wpAny_ite_true (by decide +kernel) (ya1 ?_))
 refine ya0 (wpAny_newObj_type (ya1 ⟨by kernel_rfl,?_⟩))
 have lt := yb8 ho
 have z1 : (hp.push { cls := .type "list_iterator", data := .fields #[.ref l,.int 0 0] }).objs.size = hp.objs.size + 1 := Heap.size_push ..
 dsimp only
 refine z1.symm ▸ ?_
 refine fS (us := us) (xs := xs) hh hi hx hlen (Nat.ne_of_gt lt) (Nat.ne_of_gt (Nat.lt_succ_of_lt lt)) (yb9 (Nat.lt_succ_self _)) xs.length 0 _ rfl (Nat.zero_le _) ⟨_,ya9 _ (ya8 _ rfl),rfl,rfl⟩ ((hl.push _).push _) ?_ λ h' t tk hk => ?_
 ·have := ya8 (hp.push { cls := .type "list_iterator", data := .fields #[.ref l,.int 0 0] }) (o := cy #[]) rfl
  rw [z1] at this
  exact this
 ·exact hR h' t tk λ b o e => hk b o (yb9 (yb8 e)) (yb9 (Nat.lt_succ_of_lt (yb8 e))) (ya9 _ (ya9 _ e))
variable {d e : Nat}
theorem L3 (l : Addr) (us : KK) (xs : KM) (n : Nat) (hi : IntsAre us xs) (hx : ∀ x ∈ xs,0 ≤ x ∧ x < 256) (hlen : xs.length ≤ 100000) :
  Meets (Builtin.«bytes.__new__» ⟨[.type "bytes", .ref l],[]⟩) (λ A R s => A.handled = none ∧ s.heap.get? l = some (d7 us.toArray n) ∧
   ∀ h' t tk,(∀ b o,s.heap.get? b = some o → h'.get? b = some o) → R (.ok (.ret (.bytes (xs.map u8).toArray t))) { s with heap := h',toks := tk }) :=
 λ prog w A R s h => T6 h.2.1 h.1 hi hx hlen h.2.2
theorem rd : ∀ {xs : KM},(∀ x ∈ xs,0 ≤ x ∧ x < 256) → S6 (xs.map u8).toArray = xs := by
 intro xs
 unfold S6
 induction xs with
 | nil => intro _; rfl
 | cons x xs ih =>
  intro h
  have h1 := h x mS
  have h2 := ih λ y hy => h y (mM _ hy)
  simp only [yc8] at h2 ⊢
  refine h2.symm ▸ ?_
  congr 1
  unfold u8
  have : x.toNat < 256 := by lia
  have e : (x.toNat.toUInt8).toNat = x.toNat := by
   rw [show x.toNat.toUInt8 = UInt8.ofNat x.toNat from rfl,UInt8.toNat_ofNat']
   lia
  refine e.symm ▸ ?_
  lia
noncomputable def i9 (xs : KM) : Bool := xs.all λ x => decide (0 ≤ x) && decide (x < 256)
theorem eg (h : i9 xs = true) : ∀ x ∈ xs,0 ≤ x ∧ x < 256 := λ x hx => by
 have := List.all_eq_true.mp h x hx
 simpa using this
theorem mX (e : n4 O v = some xs) (ho : i9 xs = true) (hl : xs.length ≤ 100000) (h : k (.byt xs) O) : Op X (RV X) d O [v] (λ us => call (.type "bytes") us) k := by
 intro A E Q s F G J us hA r hv hk
 refine hv.oneE λ u hu => ?_
 have hx := eg ho
 have main : ∀ {a : Addr} {us : KK} {n : Nat},s.heap.get? a = some (d7 us.toArray n) → IntsAre us xs → wpAny (model X.prog X.w) A (call (.type "bytes") [.ref a]) Q E s := by
  intro a us n hg hi
  refine callType_new FF.called_bytes (by decide) (FF.typeCall_bytes_1 _) (FF.newCall_bytes_1 _) (λ obj => PySem.F.args_object_init_2 obj _) FF.entry_bytes_new (L3 a us xs n hi hx hl) ⟨hA.1,hg,λ h' t tk hk' => ?_⟩
  exact ⟨typeIs_bytes _ _ _,hk _ _ h' tk F J O h (.refl F J) (r.keep hk') (.byt t (rd hx).symm)⟩
 induction v using V.casesOn with
 | nums ys =>
  obtain rfl := sj e
  exact hu.numsE λ a us n f q => main (r.f _ _ f) q
 | h n =>
  refine a9 (d6 e) λ m hs e => ?_
  refine hu.hE λ a ha => ?_
  induction m using MO.casesOn with
  | nums ys =>
   obtain rfl := sj e
   refine U5 (r.numsH ha hs) λ us k hy q => ?_
   exact main hy q
  | _ => cases e
 | _ => cases e
end
section
open PySem.Spec
variable {d e : Nat}
theorem rg {target iter : Expr} {body : List Stmt} {pos : Pos} {k : Fl → Gam → List MO → Prop} (hp : n9 iter = true)
  (h : Fst X d env target iter D O (λ vals Eg Eh => qH X d env target body k vals Eg Eh)) : Ev X (RFl X) d env D O vs (λ Z => exec (.For target iter body [] pos) env) k := by
 intro A E Q s F G J us hA r fm hv hk
 refine wpAny_For (h A E _ s F G J hA r fm λ vals Eo Er Eu Em Eh Eg hK Ey En Es => ?_) (w4 hp)
 intro I own St h' hk' _ hown it st hIo self
 have r' := En.keep hk'
 have hfree : J7 own Eu G Em h' := λ a ha => by
  have hle := hown a ha
  refine C2 (En.lt) λ l1 l2 l3 => ?_
  refine ⟨?_,?_,λ q => Nat.not_lt.mpr hle (l3 _ q),hIo 0 h' st a ha⟩
  ·cases e : Eu a with | none => rfl | some o => exact absurd (l1 _ _ e) (Nat.not_lt.mpr hle)
  ·cases e : G a with | none => rfl | some o => exact absurd (l2 _ _ e) (Nat.not_lt.mpr hle)
 have hap : ∀ a ∈ own,a ∉ e9 env := λ a ha hm => by
  refine i6 (Es.as.2 _ hm) λ o e => ?_
  exact absurd (yb8 e) (Nat.not_lt.mpr (hown a ha))
 refine mu (s := { s with heap := h',toks := Er }) hA it r' (Es.keep hk') hfree hap st hK ?_
 intro fl w Ew Ek EE El Ei Ej EF EA Ep EC Ez
 exact hk fl w Ew Ek EE El Ei Ej EF (Ey.trans EA) Ep EC Ez
theorem Fst.imp {target iter : Expr} {K K' : List V → Gam → List MO → Prop} (h : Fst X d env target iter D O K) (hk : ∀ v Γ' σ',K v Γ' σ' → K' v Γ' σ') : Fst X d env target iter D O K' :=
 λ A E Q s F G J hA r f hQ => h A E Q s F G J hA r f λ vals h' tk' F' ρ' σ' Γ' z => hQ vals h' tk' F' ρ' σ' Γ' (hk _ _ _ z)
end
section
structure Cx (c : Nat → Nat → Bool) where
 M : Model
 A : Around
 E : Value → Shared → Prop
 s : Shared
 κ : SortKind
 item : Nat → Keyed
 ok : ∀ i j (Q : Option Bool → SortSt → Prop) (st : SortSt),kindOf st = κ → Q (some (c i j)) st → wpS M A E s (lt' (item i) (item j)) Q st
structure AS where
 a : Array Nat
 p : Array (Nat × Nat × Nat)
 g : Nat
variable {c : Nat → Nat → Bool}
noncomputable def stX (X : Cx c) (t : AS) : SortSt := SortSt.mk' X.κ (t.a.map X.item) t.p t.g none
noncomputable def Ex {α β : Type} (m : Cx c → StateT SortSt Sem α) (cv : Cx c → β → α) (t : AS) (P : β → AS → Prop) : Prop :=
 ∃ b t',P b t' ∧ ∀ (X : Cx c) (Q : α → SortSt → Prop),Q (cv X b) (stX X t') → wpS X.M X.A X.E X.s (m X) Q (stX X t)
variable {α β γ δ : Type} {t : AS}
theorem l5 {x : Cx c → α} {cv : Cx c → β → α} {P : β → AS → Prop} (b : β) (hx : ∀ X,x X = cv X b) (h : P b t) : Ex (λ X => pure (x X)) cv t P :=
 ⟨b,t,h,λ X Q q => wpS_pure (by rw [hx]; exact q)⟩
theorem l6 {m : Cx c → StateT SortSt Sem γ} {k : Cx c → γ → StateT SortSt Sem α} {cv : Cx c → β → α} {P : β → AS → Prop} (cv1 : Cx c → δ → γ)
  (h : Ex m cv1 t (λ b t' => Ex (λ X => k X (cv1 X b)) cv t' P)) : Ex (λ X => m X >>= k X) cv t P := by
 obtain ⟨b,t',⟨b2,t2,hp,h2⟩,h1⟩ := h
 exact ⟨b2,t2,hp,λ X Q q => wpS_bind (h1 X _ (h2 X Q q))⟩
theorem Ex.mono {m : Cx c → StateT SortSt Sem α} {cv : Cx c → β → α} {P P' : β → AS → Prop} (h : Ex m cv t P) (hp : ∀ b t',P b t' → P' b t') : Ex m cv t P' := by
 obtain ⟨b,t',h1,h2⟩ := h
 exact ⟨b,t',hp _ _ h1,h2⟩
theorem j7 {m m' : Cx c → StateT SortSt Sem α} {cv : Cx c → β → α} {P : β → AS → Prop} (e : ∀ X,m' X = m X) (h : Ex m cv t P) : Ex m' cv t P := by
 rw [show m' = m from funext e]; exact h
@[elab_as_elim] theorem szE {f : Nat → Keyed} {a b : Array Nat} {motive : Nat → Nat → Prop} (h : motive a.size b.size) : motive (a.map f).size (b.map f).size := by rw [yc5,yc5]; exact h
@[elab_as_elim] theorem psE {f : Nat → Keyed} {a : Array Nat} {k : Nat} {motive : Array Keyed → Prop} (h : motive ((a.push k).map f)) : motive ((a.map f).push (f k)) := by rw [← Array.map_push]; exact h
theorem rh {P : PUnit → AS → Prop} (h : P ⟨⟩ t) : Ex (λ (_ : Cx c) => (get : StateT SortSt Sem SortSt)) (λ X (_ : PUnit) => stX X t) t P :=
 ⟨⟨⟩,t,h,λ X Q q => wpS_get q⟩
theorem D9 {f : SortSt → SortSt} {P : PUnit → AS → Prop} (t' : AS) (hf : ∀ X : Cx c,f (stX X t) = stX X t') (h : P ⟨⟩ t') : Ex (λ Z => (modify f : StateT SortSt Sem PUnit)) (λ (_ : Cx c) (b : PUnit) => b) t P :=
 ⟨⟨⟩,t',h,λ X Q q => wpS_modify (by rw [hf]; exact q)⟩
theorem ri {f : Cx c → SortSt} {P : PUnit → AS → Prop} (t' : AS) (hf : ∀ X : Cx c,f X = stX X t') (h : P ⟨⟩ t') : Ex (λ X => (set (f X) : StateT SortSt Sem PUnit)) (λ (_ : Cx c) (b : PUnit) => b) t P :=
 ⟨⟨⟩,t',h,λ X Q q => by
  show wpAny _ _ ((set (f X) : StateT SortSt Sem PUnit).run _) _ _ _
  rw [StateT.run_set,hf]
  exact ya1 ⟨rfl,q⟩⟩
theorem mY {x : String} {P : Unit → AS → Prop} (h : P () t) : Ex (λ Z => (liftM (rule x) : StateT SortSt Sem Unit)) (λ (_ : Cx c) (b : Unit) => b) t P :=
 ⟨(),t,h,λ X Q q => wpS_lift (wpAny_rule ⟨rfl,q⟩)⟩
theorem jj {i j : Nat} {P : Bool → AS → Prop} (h : P (c i j) t) : Ex (λ X => lt' (X.item i) (X.item j)) (λ (_ : Cx c) b => some b) t P :=
 ⟨_,t,h,λ X Q q => X.ok i j Q _ rfl q⟩
theorem mZ {xs : Array Nat} {i : Nat} {P : Nat → AS → Prop} (hi : i < xs.size) (h : P xs[i] t) : Ex (λ X => elem' (xs.map X.item) i) (λ (X : Cx c) b => X.item b) t P :=
 ⟨_,t,h,λ X Q q => by
  dsimp only
  rw [elem'_eq]
  have e : (xs.map X.item)[i]? = some (X.item xs[i]) := by simp [hi]
  rw [e]
  exact wpS_pure q⟩
theorem V2 {x : String} {k : Cx c → Unit → StateT SortSt Sem α} {cv : Cx c → β → α} {P : β → AS → Prop} (h : Ex (λ X => k X ()) cv t P) : Ex (λ X => liftM (rule x) >>= k X) cv t P := l6 _ (mY h)
theorem y9 {k : Cx c → SortSt → StateT SortSt Sem α} {cv : Cx c → β → α} {P : β → AS → Prop} (h : Ex (λ X => k X (stX X t)) cv t P) : Ex (λ X => get >>= k X) cv t P := l6 _ (rh h)
theorem pg {i j : Nat} {k : Cx c → Option Bool → StateT SortSt Sem α} {cv : Cx c → β → α} {P : β → AS → Prop} (h : Ex (λ X => k X (some (c i j))) cv t P) : Ex (λ X => lt' (X.item i) (X.item j) >>= k X) cv t P := l6 _ (jj h)
theorem p6 {xs : Array Nat} {i : Nat} {k : Cx c → Keyed → StateT SortSt Sem α} {cv : Cx c → β → α} {P : β → AS → Prop} (hi : i < xs.size) (h : Ex (λ X => k X (X.item xs[i])) cv t P) : Ex (λ X => elem' (xs.map X.item) i >>= k X) cv t P := l6 _ (mZ hi h)
theorem q6 {m : Cx c → StateT SortSt Sem γ} {k : Cx c → γ → StateT SortSt Sem α} {cv : Cx c → β → α} {P : β → AS → Prop} {P1 : δ → AS → Prop} (cv1 : Cx c → δ → γ) (h : Ex m cv1 t P1) (h2 : ∀ b t',P1 b t' → Ex (λ X => k X (cv1 X b)) cv t' P) : Ex (λ X => m X >>= k X) cv t P := l6 cv1 (h.mono h2)
theorem jk {f : SortSt → SortSt} {k : Cx c → PUnit → StateT SortSt Sem α} {cv : Cx c → β → α} {P : β → AS → Prop} (t' : AS) (hf : ∀ X : Cx c,f (stX X t) = stX X t') (h : Ex (λ X => k X ⟨⟩) cv t' P) : Ex (λ X => modify f >>= k X) cv t P := l6 _ (D9 t' hf h)
theorem nc {i j : Nat} {P : Bool → AS → Prop} (hi : i < t.a.size) (hj : j < t.a.size) (h : P (c t.a[i] t.a[j]) t) : Ex (λ (_ : Cx c) => ltAt' i j) (λ (_ : Cx c) b => some b) t P := by
 refine j7 (m := λ X => get >>= λ s => (elem' (arrOf s) i) >>= λ x => (elem' (arrOf s) j) >>= λ y => lt' x y) (λ X => ltAt'_eq i j) ?_
 refine y9 ?_
 refine p6 (xs := t.a) hi ?_
 refine p6 (xs := t.a) hj ?_
 exact jj h
theorem I2 {i j : Nat} {k : Cx c → Option Bool → StateT SortSt Sem α} {cv : Cx c → β → α} {P : β → AS → Prop} (hi : i < t.a.size) (hj : j < t.a.size) (h : Ex (λ X => k X (some (c t.a[i] t.a[j]))) cv t P) : Ex (λ X => ltAt' i j >>= k X) cv t P := l6 _ (nc hi hj h)
theorem cA {i j : Nat} {P : PUnit → AS → Prop} (h : P ⟨⟩ ⟨kas_rev t.a i j,t.p,t.g⟩) : Ex (λ (_ : Cx c) => reverseSlice' i j) (λ (_ : Cx c) (b : PUnit) => b) t P := by
 refine j7 (λ X => reverseSlice'_eq i j) (D9 ⟨kas_rev t.a i j,t.p,t.g⟩ (λ X => ?_) h)
 show SortSt.mk' X.κ (mirror (t.a.map X.item) i j ((j - i) / 2)) t.p t.g none = SortSt.mk' X.κ ((mirror t.a i j ((j - i) / 2)).map X.item) t.p t.g none
 have e1 : mirror (t.a.map X.item) i j ((j - i) / 2) = (mirror t.a i j ((j - i) / 2)).map X.item := kas_swaps_map X.item (λ k => i + k) (λ k => j - 1 - k) _ t.a
 rw [e1]
theorem Y9 {i j : Nat} {k : Cx c → PUnit → StateT SortSt Sem α} {cv : Cx c → β → α} {P : β → AS → Prop} (h : Ex (λ X => k X ⟨⟩) cv ⟨kas_rev t.a i j,t.p,t.g⟩ P) : Ex (λ X => reverseSlice' i j >>= k X) cv t P := l6 _ (cA h)
theorem nf {k l : Nat} {P : PUnit → AS → Prop} (h : P ⟨⟩ ⟨bubble t.a k (k - l),t.p,t.g⟩) : Ex (λ (_ : Cx c) => moveDown' k l) (λ (_ : Cx c) (b : PUnit) => b) t P := by
 refine j7 (λ X => moveDown'_eq k l) (D9 ⟨bubble t.a k (k - l),t.p,t.g⟩ (λ X => ?_) h)
 show SortSt.mk' X.κ (bubble (t.a.map X.item) k (k - l)) t.p t.g none = SortSt.mk' X.κ ((bubble t.a k (k - l)).map X.item) t.p t.g none
 have e1 : bubble (t.a.map X.item) k (k - l) = (bubble t.a k (k - l)).map X.item := kas_swaps_map X.item (λ i => k - i) (λ i => k - i - 1) _ t.a
 rw [e1]
noncomputable def cvR (cv : Cx c → β → α) (X : Cx c) : ForInStep β → ForInStep α
 | .done b => .done (cv X b)
 | .yield b => .yield (cv X b)
theorem f6 {x : Cx c → α} {cv : Cx c → β → α} {P : ForInStep β → AS → Prop} (b : β) (hx : ∀ X,x X = cv X b) (h : P (.done b) t) : Ex (λ X => pure (ForInStep.done (x X))) (cvR cv) t P :=
 l5 (.done b) (λ X => by rw [hx]; rfl) h
theorem exs_yield {x : Cx c → α} {cv : Cx c → β → α} {P : ForInStep β → AS → Prop} (b : β) (hx : ∀ X,x X = cv X b) (h : P (.yield b) t) : Ex (λ X => pure (ForInStep.yield (x X))) (cvR cv) t P :=
 l5 (.yield b) (λ X => by rw [hx]; rfl) h
theorem uy {f : Cx c → Nat → α → StateT SortSt Sem (ForInStep α)} {cv : Cx c → β → α} {I : Nat → β → AS → Prop} {P : β → AS → Prop} {a0 e : Nat}
  (hstep : ∀ i b t,a0 ≤ i → i < e → I i b t → Ex (λ X => f X i (cv X b)) (cvR cv) t (λ r t' => match r with | .done b' => P b' t' | .yield b' => I (i + 1) b' t'))
  (hend : ∀ b t,I e b t → P b t) (n : Nat) : ∀ a b t,a0 ≤ a → a + n = e → I a b t → Ex (λ X => forIn (List.range' a n 1) (cv X b) (f X)) cv t P := by
 induction n with
 | zero =>
  intro a b t _ h hI
  exact j7 (m := λ X => pure (cv X b)) (λ X => List.forIn_nil) (l5 b (λ Z => rfl) (hend b t ((show a = e from h) ▸ hI)))
 | succ n ih =>
  intro a b t h0 h hI
  refine j7 (m := λ X => f X a (cv X b) >>= λ r => match r with | .done b => pure b | .yield b => forIn (List.range' (a + 1) n 1) b (f X)) (λ X => List.forIn_cons ..) (q6 (cvR cv) (hstep a b t h0 (h ▸ Nat.lt_add_of_pos_right (Nat.succ_pos n)) hI) λ r t' h' => ?_)
  induction r using ForInStep.casesOn with
  | done b' => exact l5 b' (λ Z => rfl) h'
  | yield b' => exact ih (a + 1) b' t' (Nat.le_succ_of_le h0) ((Nat.succ_add_eq_add_succ a n).trans h) h'
theorem v1 {f : Cx c → Nat → α → StateT SortSt Sem (ForInStep α)} {init : Cx c → α} {cv : Cx c → β → α} {a e : Nat} {P : β → AS → Prop} (b : β) (I : Nat → β → AS → Prop)
  (hb : ∀ X,init X = cv X b) (h : I a b t)
  (hstep : ∀ i b t,a ≤ i → i < e → I i b t → Ex (λ X => f X i (cv X b)) (cvR cv) t (λ r t' => match r with | .done b' => P b' t' | .yield b' => I (i + 1) b' t'))
  (hend : ∀ b t,I (max a e) b t → P b t) : Ex (λ X => forIn [a:e] (init X) (f X)) cv t P := by
 have hsz : ([a:e] : Std.Legacy.Range).size = e - a := by simp [Std.Legacy.Range.size]
 refine j7 (m := λ X => forIn (List.range' a (e - a) 1) (cv X b) (f X)) (λ X => ?_) ?_
 ·rw [Std.Legacy.Range.forIn_eq_forIn_range',hb,← hsz]
 ·rcases Nat.le_total a e with hae | hae
  ·exact uy hstep (Nat.max_eq_right hae ▸ hend) (e - a) a b t (ya7 a) (Nat.add_sub_of_le hae) h
  ·exact j7 (m := λ X => pure (cv X b)) (λ X => by rw [Nat.sub_eq_zero_of_le hae]; exact List.forIn_nil) (l5 b (λ Z => rfl) (hend b t (by rw [Nat.max_eq_left hae]; exact h)))
end
section
variable {c : Nat → Nat → Bool} {α β γ δ : Type} {t : AS}
theorem j3 {b : β} {P : ForInStep β → AS → Prop} (h : P (.done b) t) : Ex (λ (_ : Cx c) => pure (ForInStep.done b)) (cvR λ Z b => b) t P := f6 b (λ Z => rfl) h
theorem h9 {b : β} {P : ForInStep β → AS → Prop} (h : P (.yield b) t) : Ex (λ (_ : Cx c) => pure (ForInStep.yield b)) (cvR λ Z b => b) t P := exs_yield b (λ Z => rfl) h
theorem n0 {b : β} {P : β → AS → Prop} (h : P b t) : Ex (λ (_ : Cx c) => pure b) (λ Z b => b) t P := l5 b (λ Z => rfl) h
noncomputable def I3 (t t' : AS) : Prop := t'.a.size = t.a.size ∧ t'.p = t.p ∧ t'.g = t.g
theorem I3.refl : I3 t t := ⟨rfl,rfl,rfl⟩
theorem I3.trans {t t' t'' : AS} (h : I3 t t') (h' : I3 t' t'') : I3 t t'' := ⟨h'.1.trans h.1,h'.2.1.trans h.2.1,h'.2.2.trans h.2.2⟩
theorem I3.rev {i j : Nat} : I3 t ⟨kas_rev t.a i j,t.p,t.g⟩ := ⟨kas_rev_size _ _,rfl,rfl⟩
theorem I3.bub {i j : Nat} : I3 t ⟨bubble t.a i j,t.p,t.g⟩ := ⟨bubble_size _ _ _,rfl,rfl⟩
theorem m5 {b : Bool} {m m' : Cx c → StateT SortSt Sem α} {cv : Cx c → β → α} {P : β → AS → Prop} (h1 : b = true → Ex m cv t P) (h2 : b = false → Ex m' cv t P) : Ex (λ X => if b = true then m X else m' X) cv t P := by
 induction b using Bool.casesOn with
 | true => exact h1 rfl
 | false => exact h2 rfl
theorem n6 {q : Prop} {inst : Cx c → Decidable q} {m m' : Cx c → StateT SortSt Sem α} {cv : Cx c → β → α} {P : β → AS → Prop} (h1 : q → Ex m cv t P) (h2 : ¬ q → Ex m' cv t P) : Ex (λ X => @ite _ q (inst X) (m X) (m' X)) cv t P := by
 by_cases h : q
 ·simp only [h,if_true]; exact h1 h
 ·simp only [h,if_false]; exact h2 h
theorem q7 {x y : Nat} {m m' : Cx c → StateT SortSt Sem α} {cv : Cx c → β → α} {P : β → AS → Prop} (h1 : x = y → Ex m cv t P) (h2 : x ≠ y → Ex m' cv t P) : Ex (λ X => if (x == y) = true then m X else m' X) cv t P :=
 m5 (λ h => h1 (by simpa using h)) (λ h => h2 (by simpa using h))
section
variable {t t' : AS} {lo n i : Nat} (hn : lo + n ≤ t.a.size) (hs : I3 t t') (hi : i < n)
include hn hs hi
theorem I3.ix : lo + i < t'.a.size := hs.1.symm ▸ yb6 (Nat.add_lt_add_left hi lo) hn
theorem I3.iy : lo + i - 1 < t'.a.size := Nat.lt_of_le_of_lt (Nat.sub_le _ 1) (hs.ix hn hi)
theorem I3.iz : lo < t'.a.size := Nat.lt_of_le_of_lt (yb7 lo i) (hs.ix hn hi)
end
noncomputable def gpS {ε : Type} (I : Nat → Nat → Prop) (b : Option ε × Nat × Nat) : Prop := b.1 = none ∧ I b.2.1 b.2.2
inductive GP {ε : Type} (I : Nat → Nat → Prop) (t : AS) : ForInStep (Option ε × Nat × Nat) → AS → Prop
 | d {l o : Nat} : I l o → GP I t (.done (none,l,o)) t
 | y {l o : Nat} : I l o → GP I t (.yield (none,l,o)) t
theorem aQ {ε : Type} (I : Nat → Nat → Prop) {f : Cx c → Nat → Option ε × Nat × Nat → StateT SortSt Sem (ForInStep (Option ε × Nat × Nat))} {i0 e l0 o0 : Nat} {k : Cx c → Option ε × Nat × Nat → StateT SortSt Sem α} {cv : Cx c → β → α} {P : β → AS → Prop} (h0 : I l0 o0)
  (step : ∀ i l o,I l o → Ex (λ X => f X i (none,l,o)) (cvR λ Z b => b) t (GP I t)) (post : ∀ l o,I l o → Ex (λ X => k X (none,l,o)) cv t P) : Ex (λ X => forIn [i0:e] (none,l0,o0) (f X) >>= k X) cv t P := by
 refine q6 (λ Z b => b) (v1 (P := λ b t' => gpS I b ∧ t' = t) (none,l0,o0) (λ Z b t' => gpS I b ∧ t' = t) (λ Z => rfl) ⟨⟨rfl,h0⟩,rfl⟩ ?_ (λ Z Z h => h)) ?_
 ·rintro i ⟨_,l,o⟩ _ _ _ ⟨⟨rfl,h⟩,rfl⟩
  refine (step i l o h).mono λ r t' h => ?_
  induction h using GP.casesOn with
  | d h => exact ⟨⟨rfl,h⟩,rfl⟩
  | y h => exact ⟨⟨rfl,h⟩,rfl⟩
 ·rintro ⟨_,l,o⟩ _ ⟨⟨rfl,h⟩,rfl⟩
  exact post l o h
theorem yw {l r k : Nat} (h : ¬ r ≤ l) (hr : r ≤ k) : (l + r) / 2 < k := yb6 (Nat.div_lt_of_lt_mul (by rw [Nat.two_mul]; exact Nat.add_lt_add_right (Nat.lt_of_not_le h) r)) hr
theorem rj {k l : Nat} {K : Cx c → PUnit → StateT SortSt Sem α} {cv : Cx c → β → α} {P : β → AS → Prop} (h : Ex (λ X => K X ⟨⟩) cv ⟨bubble t.a k (k - l),t.p,t.g⟩ P) : Ex (λ X => moveDown' k l >>= K X) cv t P := l6 _ (nf h)
theorem rk {lo n ok : Nat} (hn : lo + n ≤ t.a.size) : Ex (λ (_ : Cx c) => binarySort' lo n ok) (λ Z b => b) t (λ b t' => b = true ∧ I3 t t') := by
 refine j7 (λ Z => binarySort'_eq lo n ok) ?_
 refine q6 (λ Z b => b) (v1 (none,()) (λ Z b t' => b = (none,()) ∧ I3 t t') (λ Z => rfl) ⟨rfl,.refl⟩ ?_ (λ Z Z h => h)) ?_
 ·rintro k _ t' _ hkn ⟨rfl,hs⟩
  refine aQ (λ l r => l ≤ k ∧ r ≤ k) ⟨Nat.zero_le k,ya7 k⟩ (λ i l r h => ?_) λ l r h => rj (h9 ⟨rfl,hs.trans .bub⟩)
  refine n6 (λ Z => j3 (.d h)) λ h' => ?_
  refine I2 (hs.ix hn hkn) (hs.ix hn (Nat.lt_trans (yw h' h.2) hkn)) ?_
  exact m5 (λ Z => h9 (.y ⟨h.1,yc1 (yw h' h.2)⟩)) (λ Z => h9 (.y ⟨yw h' h.2,h.2⟩))
 ·rintro _ t' ⟨rfl,hs⟩
  exact n0 ⟨rfl,hs⟩
end
section
variable {c : Nat → Nat → Bool} {α β γ δ : Type} {t : AS}
inductive CP {S ζ : Type} (nn : Nat → ζ → S) (t0 : AS) (e i : Nat) : ForInStep S → AS → Prop
 | d {m : Nat} {q : ζ} {t : AS} : 1 ≤ m → m ≤ e → I3 t0 t → CP nn t0 e i (.done (nn m q)) t
 | y {q : ζ} {t : AS} : I3 t0 t → CP nn t0 e i (.yield (nn (i + 1) q)) t
theorem jl {S ζ : Type} (nn : Nat → ζ → S) (q0 : ζ) {f : Cx c → Nat → S → StateT SortSt Sem (ForInStep S)} {i0 e : Nat} {k : Cx c → S → StateT SortSt Sem α} {cv : Cx c → β → α} {P : β → AS → Prop} {t0 : AS} (hs : I3 t0 t) (h1 : 1 ≤ i0) (h2 : i0 ≤ e)
  (step : ∀ i q t',1 ≤ i → i < e → I3 t0 t' → Ex (λ X => f X i (nn i q)) (cvR λ Z b => b) t' (CP nn t0 e i))
  (post : ∀ m q t',1 ≤ m → m ≤ e → I3 t0 t' → Ex (λ X => k X (nn m q)) cv t' P) : Ex (λ X => forIn [i0:e] (nn i0 q0) (f X) >>= k X) cv t P := by
 refine q6 (λ Z b => b) (v1 (P := λ s t' => ∃ m q,s = nn m q ∧ 1 ≤ m ∧ m ≤ e ∧ I3 t0 t') (nn i0 q0) (λ i s t' => ∃ q,s = nn i q ∧ I3 t0 t') (λ Z => rfl) ⟨q0,rfl,hs⟩ ?_ ?_) ?_
 ·rintro i _ t' hi hl ⟨q,rfl,hs⟩
  refine (step i q t' (ya6 h1 hi) hl hs).mono λ r t' h => ?_
  induction h using CP.casesOn with
  | d a b h => exact ⟨_,_,rfl,a,b,h⟩
  | y h => exact ⟨_,rfl,h⟩
 ·rintro _ t' ⟨q,rfl,hs⟩
  exact ⟨_,q,rfl,ya6 h1 (Nat.le_max_left ..),Nat.max_le.mpr ⟨h2,ya7 e⟩,hs⟩
 ·rintro _ t' ⟨m,q,rfl,a,b,h⟩
  exact post m q t' a b h
theorem ph {p : Prop} {dp : Cx c → Decidable p} {m Gq : Cx c → StateT SortSt Sem α} {cv : Cx c → β → α} {P : β → AS → Prop} {t0 : AS} (hs : I3 t0 t) (hJ : ∀ t',I3 t0 t' → Ex Gq cv t' P) (h1 : (∀ t',I3 t0 t' → Ex Gq cv t' P) → p → Ex m cv t P) : Ex (λ X => @ite _ p (dp X) (m X) (Gq X)) cv t P :=
 n6 (h1 hJ) (λ Z => hJ t hs)
theorem jm {lo nrem : Nat} (h1 : 1 ≤ nrem) (hn : lo + nrem ≤ t.a.size) : Ex (λ (_ : Cx c) => countRun' lo nrem) (λ Z b => b) t (λ b t' => ∃ m,b = some m ∧ 1 ≤ m ∧ m ≤ nrem ∧ I3 t t') := by
 refine j7 (λ Z => countRun'_eq lo nrem) ?_
 refine jl (λ i (_ : Unit) => (none,i)) () .refl (ya7 1) h1 ?step ?post
 case step =>
  intro i q t' hi1 hi2 hs
  refine I2 (hs.ix hn hi2) (hs.iy hn hi2) ?_
  refine m5 (λ h => ?_) (λ h => ?_)
  ·exact j3 (.d (q := ()) hi1 (yc1 hi2) hs)
  ·exact h9 (.y (q := ()) hs)
 case post =>
  intro m q t' hm1 hm2 hs
  refine q7 (λ h => ?_) (λ h => ?_)
  ·exact n0 ⟨m,rfl,hm1,hm2,hs⟩
  have hm3 : m < nrem := Nat.lt_of_le_of_ne hm2 h
  clear h
  refine ph hs ?Gq λ Gq Z => ?K
  case K =>
   refine I2 (hs.iz hn hm3) (hs.iy hn hm3) ?_
   refine m5 (λ h => ?_) (λ h => ?_)
   ·exact n0 ⟨m,rfl,hm1,hm2,hs⟩
   exact Y9 (Gq _ (hs.trans .rev))
  case Gq =>
   clear hs
   intro t' hs
   refine V2 ?_
   refine jl (λ i (q : Nat) => (none,i,q)) 0 hs (Nat.le_add_left 1 m) hm3 ?step ?post
   case step =>
    intro i q t' hi1 hi2 hs
    refine I2 (hs.ix hn hi2) (hs.iy hn hi2) ?_
    refine m5 (λ h => ?_) (λ h => ?_)
    ·exact n6 (λ h => Y9 (h9 (.y (q := 0) (hs.trans .rev)))) (λ h => h9 (.y (q := 0) hs))
    ·refine I2 (hs.iy hn hi2) (hs.ix hn hi2) ?_
     exact m5 (λ h => j3 (.d (q := q) hi1 (yc1 hi2) hs)) (λ h => h9 (.y (q := q + 1) hs))
   case post =>
    intro n q t' hn1 hn2 hs
    refine ph hs ?Gq λ Gq Z => Y9 (Gq _ (hs.trans .rev))
    clear hs
    intro t' hs
    refine Y9 ?_
    refine jl (λ i (_ : Unit) => (none,i)) () (hs.trans .rev) hn1 hn2 ?step λ m q t' hm1 hm2 hs => n0 ⟨m,rfl,hm1,hm2,hs⟩
    intro i q t' hi1 hi2 hs
    refine I2 (hs.ix hn hi2) (hs.iy hn hi2) ?_
    exact m5 (λ h => j3 (.d (q := ()) hi1 (yc1 hi2) hs)) (λ h => h9 (.y (q := ()) hs))
end
section
variable {c : Nat → Nat → Bool} {α β γ δ : Type} {t : AS}
noncomputable def E9 : Bool → Keyed → Array Keyed → Nat → Nat → Nat → StateT SortSt Sem (Option Nat) := sortPriv% PySem.Builtin.gallop
theorem fU {left : Bool} {key i : Nat} {arr : Array Nat} {P : Bool → AS → Prop} (hi : i < arr.size) (h : ∀ b,P b t) :
  Ex (λ X : Cx c => elem' (arr.map X.item) i >>= λ x => if left = true then lt' x (X.item key) else lt' (X.item key) x >>= λ r => pure (Option.map (λ x => !x) r)) (λ Z b => some b) t P := by
 refine p6 hi ?_
 refine m5 (λ Z => ?_) (λ Z => ?_)
 ·exact jj (h _)
 ·refine pg ?_
  exact l5 _ (λ Z => rfl) (h _)
theorem P8 {left : Bool} {key i : Nat} {arr : Array Nat} {k : Cx c → Option Bool → StateT SortSt Sem α} {cv : Cx c → β → α} {P : β → AS → Prop} (hi : i < arr.size) (h : ∀ b,Ex (λ X => k X (some b)) cv t P) :
  Ex (λ X : Cx c => (elem' (arr.map X.item) i >>= λ x => if left = true then lt' x (X.item key) else lt' (X.item key) x >>= λ r => pure (Option.map (λ x => !x) r)) >>= k X) cv t P := l6 (λ Z b => some b) (fU hi h)
theorem mid {l o : Nat} (h : ¬ o ≤ l) : l + (o - l) / 2 < o := Nat.add_lt_of_lt_sub' (Nat.div_lt_self (Nat.sub_pos_of_lt (Nat.lt_of_not_le h)) (by decide))
theorem V3 {left : Bool} {key : Nat} {arr : Array Nat} {base n hint : Nat} {P : Option Nat → AS → Prop} (hb : base + n ≤ arr.size) (hh : hint < n) (hP : ∀ k,k ≤ n → P (some k) t) : Ex (λ X : Cx c => E9 left (X.item key) (arr.map X.item) base n hint) (λ Z b => b) t P := by
 have ix : ∀ {k},k < n → base + k < arr.size := λ hk => yb6 (Nat.add_lt_add_left hk base) hb
 refine P8 (ix hh) λ b => ?_
 refine m5 (λ h => ?_) (λ h => ?_)
 ·refine aQ (λ Z Z => True) trivial (λ i l o Z => ?_) λ l o Z => ?_
  ·refine n6 (λ h => j3 (.d trivial)) (λ h => ?_)
   refine P8 (ix (Nat.add_lt_of_lt_sub' (Nat.lt_of_not_le h))) λ b => ?_
   exact m5 (λ h => j3 (.d trivial)) (λ h => h9 (.y trivial))
  ·refine aQ (λ Z o => o ≤ n) (ya6 (Nat.add_le_add_left (Nat.min_le_right ..) _) (Nat.le_of_eq (Nat.add_sub_of_le (yc1 hh)))) (λ i l o ho => ?_) λ l o ho => ?_
   ·refine n6 (λ h => j3 (.d ho)) (λ h => ?_)
    refine P8 (ix (yb6 (mid h) ho)) λ b => ?_
    exact m5 (λ Z => h9 (.y ho)) (λ Z => h9 (.y (ya6 (yc1 (mid h)) ho)))
   ·exact n0 (hP _ ho)
 ·refine aQ (λ Z Z => True) trivial (λ i l o Z => ?_) λ l o Z => ?_
  ·refine n6 (λ h => j3 (.d trivial)) (λ h => ?_)
   refine P8 (ix (Nat.lt_of_le_of_lt (Nat.sub_le ..) hh)) λ b => ?_
   exact m5 (λ h => j3 (.d trivial)) (λ h => h9 (.y trivial))
  ·refine aQ (λ Z o => o ≤ n) (ya6 (Nat.sub_le ..) (yc1 hh)) (λ i l o ho => ?_) λ l o ho => ?_
   ·refine n6 (λ h => j3 (.d ho)) (λ h => ?_)
    refine P8 (ix (yb6 (mid h) ho)) λ b => ?_
    exact m5 (λ Z => h9 (.y ho)) (λ Z => h9 (.y (ya6 (yc1 (mid h)) ho)))
   ·exact n0 (hP _ ho)
end
section
variable {c : Nat → Nat → Bool} {α β γ δ : Type} {t : AS}
noncomputable def ng : Array Keyed → Array Keyed → StateT SortSt Sem (Array Keyed) := sortPriv% PySem.Builtin.mergeLo
noncomputable def u5 : Nat → StateT SortSt Sem Unit := sortPriv% PySem.Builtin.setMinGallop
theorem nh {g : Nat} {P : PUnit → AS → Prop} (h : P ⟨⟩ ⟨t.a,t.p,g⟩) : Ex (λ _ : Cx c => u5 g) (λ Z b => b) t P :=
 D9 ⟨t.a,t.p,g⟩ (λ X => rfl) h
theorem eh {g : Nat} {k : Cx c → Unit → StateT SortSt Sem α} {cv : Cx c → β → α} {P : β → AS → Prop} (h : Ex (λ X => k X ⟨⟩) cv ⟨t.a,t.p,g⟩ P) : Ex (λ X => u5 g >>= k X) cv t P := l6 _ (nh h)
theorem rl {left : Bool} {key : Nat} {arr : Array Nat} {base hint : Nat} {k : Cx c → Option Nat → StateT SortSt Sem α} {cv : Cx c → β → α} {P : β → AS → Prop} (hb : base + (arr.size - base) ≤ arr.size) (hh : hint < arr.size - base) (h : ∀ k',k' ≤ arr.size - base → Ex (λ X => k X (some k')) cv t P) : Ex (λ X : Cx c => E9 left (X.item key) (arr.map X.item) base ((arr.map X.item).size - base) hint >>= k X) cv t P := j7 (λ X => by rw [yc5]) (l6 _ (V3 hb hh h))
theorem cB {left : Bool} {key : Nat} {arr : Array Nat} {base n hint : Nat} {k : Cx c → Option Nat → StateT SortSt Sem α} {cv : Cx c → β → α} {P : β → AS → Prop} (hb : base + n ≤ arr.size) (hh : hint < n) (h : ∀ k',k' ≤ n → Ex (λ X => k X (some k')) cv t P) : Ex (λ X : Cx c => E9 left (X.item key) (arr.map X.item) base n hint >>= k X) cv t P := l6 _ (V3 hb hh h)
theorem F0 {x : Nat} {a : Array Nat} {m m' : Cx c → StateT SortSt Sem α} {cv : Cx c → β → α} {P : β → AS → Prop} (h1 : x = a.size → Ex m cv t P) (h2 : x ≠ a.size → Ex m' cv t P) : Ex (λ X => if (x == (a.map X.item).size) = true then m X else m' X) cv t P := j7 (λ X => by rw [yc5]) (q7 h1 h2)
theorem jn {xs ys : Array Nat} {i j : Nat} {k : Cx c → Option Bool → StateT SortSt Sem α} {cv : Cx c → β → α} {P : β → AS → Prop} (hi : i < xs.size) (hj : j < ys.size) (h : Ex (λ X => k X (some (c xs[i] ys[j]))) cv t P) : Ex (λ X => elem' (xs.map X.item) i >>= λ x => elem' (ys.map X.item) j >>= λ y => lt' x y >>= k X) cv t P := p6 hi (p6 hj (pg h))
theorem jo {left : Bool} {xs arr : Array Nat} {i base hint : Nat} {k : Cx c → Option Nat → StateT SortSt Sem α} {cv : Cx c → β → α} {P : β → AS → Prop} (hi : i < xs.size) (hb : base + (arr.size - base) ≤ arr.size) (hh : hint < arr.size - base) (h : ∀ k',k' ≤ arr.size - base → Ex (λ X => k X (some k')) cv t P) : Ex (λ X : Cx c => elem' (xs.map X.item) i >>= λ e => E9 left e (arr.map X.item) base ((arr.map X.item).size - base) hint >>= k X) cv t P := p6 hi (rl hb hh h)
theorem rn {g : Nat} {left : Bool} {xs arr : Array Nat} {i base hint : Nat} {k : Cx c → Option Nat → StateT SortSt Sem α} {cv : Cx c → β → α} {P : β → AS → Prop} (hi : i < xs.size) (hb : base + (arr.size - base) ≤ arr.size) (hh : hint < arr.size - base) (h : ∀ k',k' ≤ arr.size - base → Ex (λ X => k X (some k')) cv ⟨t.a,t.p,g⟩ P) : Ex (λ X : Cx c => u5 g >>= λ _ => elem' (xs.map X.item) i >>= λ e => E9 left e (arr.map X.item) base ((arr.map X.item).size - base) hint >>= k X) cv t P := eh (jo hi hb hh h)
theorem jp {left : Bool} {xs arr : Array Nat} {i base n hint : Nat} {k : Cx c → Option Nat → StateT SortSt Sem α} {cv : Cx c → β → α} {P : β → AS → Prop} (hi : i < xs.size) (hb : base + n ≤ arr.size) (hh : hint < n) (h : ∀ k',k' ≤ n → Ex (λ X => k X (some k')) cv t P) : Ex (λ X : Cx c => elem' (xs.map X.item) i >>= λ e => E9 left e (arr.map X.item) base n hint >>= k X) cv t P := p6 hi (cB hb hh h)
theorem ro {g : Nat} {left : Bool} {xs arr : Array Nat} {i base n hint : Nat} {k : Cx c → Option Nat → StateT SortSt Sem α} {cv : Cx c → β → α} {P : β → AS → Prop} (hi : i < xs.size) (hb : base + n ≤ arr.size) (hh : hint < n) (h : ∀ k',k' ≤ n → Ex (λ X => k X (some k')) cv ⟨t.a,t.p,g⟩ P) : Ex (λ X : Cx c => u5 g >>= λ _ => elem' (xs.map X.item) i >>= λ e => E9 left e (arr.map X.item) base n hint >>= k X) cv t P := eh (jp hi hb hh h)
section
variable {f : Nat → Keyed} {x y : Array Keyed} {a b : Array Nat}
theorem a8 : a.map f = a.map f := rfl
theorem mp_push {k : Nat} (h : x = a.map f) : x.push (f k) = (a.push k).map f := by rw [h,Array.map_push]
theorem e8 (h : x = a.map f) (h' : y = b.map f) : x ++ y = (a ++ b).map f := by rw [h,h',Array.map_append]
theorem j8 {i j : Nat} (h : x = a.map f) : x.extract i j = (a.extract i j).map f := by rw [h,Array.map_extract]
theorem m9 {i : Nat} (h : x = a.map f) : x.extract i x.size = (a.extract i a.size).map f := by rw [h,yc5,Array.map_extract]
theorem el {i n : Nat} (h : x = a.map f) : x.extract i (x.size - n) = (a.extract i (a.size - n)).map f := by rw [h,yc5,Array.map_extract]
theorem v2 (h : x = a.map f) : x.reverse = a.reverse.map f := by rw [h,Array.map_reverse]
theorem V4 {k : Nat} : #[f k] = (#[k] : Array Nat).map f := by simp
end
noncomputable def cv4 (X : Cx c) (b : Option (Array Nat) × Array Nat × β) : Option (Array Keyed) × Array Keyed × β := (b.1.map (·.map X.item),b.2.1.map X.item,b.2.2)
theorem jq {p : Nat → Prop} {dp : ∀ n,Cx c → Decidable (p n)} {Gq : Nat → Cx c → StateT SortSt Sem α} {cv : Cx c → β → α} {P : β → AS → Prop} {f : Nat → Nat} (h : ∀ g,Ex (Gq g) cv t P) : ∀ n,Ex (λ X => @ite _ (p n) (dp n X) (Gq (f n) X) (Gq n X)) cv t P := by
 intro n
 refine n6 (λ Z => h _) (λ Z => h _)
theorem en {p : Prop} {dp : Cx c → Decidable p} {m Gq : Array Nat → Nat → Cx c → StateT SortSt Sem α} {cv : Cx c → β → α} {P : β → AS → Prop} (C Gr : Nat → Prop) (hJ : ∀ o n,Gr n → Ex (Gq o n) cv t P) (hC : ∀ n,C n → Gr n)
  (h1 : (∀ o n,Gr n → Ex (Gq o n) cv t P) → ∀ o n,C n → p → Ex (m o n) cv t P) : ∀ o n,C n → Ex (λ X => @ite _ p (dp X) (m o n X) (Gq o n X)) cv t P :=
 λ o n c => n6 (λ q => h1 hJ o n c q) (λ Z => hJ o n (hC n c))
inductive LoP {S β δ : Type} (t : AS) (nn : Array Nat → Nat → Nat → β → S) (ss : Array Nat → δ → S) (I Gr : Nat → Nat → Prop) : ForInStep S → AS → Prop
 | yield {out : Array Nat} {m n : Nat} {r : β} {t' : AS} : t'.a = t.a → t'.p = t.p → I m n → LoP t nn ss I Gr (.yield (nn out m n r)) t'
 | dnone {out : Array Nat} {m n : Nat} {r : β} {t' : AS} : t'.a = t.a → t'.p = t.p → Gr m n → LoP t nn ss I Gr (.done (nn out m n r)) t'
 | dsome {o : Array Nat} {x : δ} {t' : AS} : t'.a = t.a → t'.p = t.p → LoP t nn ss I Gr (.done (ss o x)) t'
inductive LoD {S β δ : Type} (t : AS) (nn : Array Nat → Nat → Nat → β → S) (ss : Array Nat → δ → S) (Gr : Nat → Nat → Prop) : S → AS → Prop
 | n {out : Array Nat} {m n : Nat} {r : β} {t' : AS} : t'.a = t.a → t'.p = t.p → Gr m n → LoD t nn ss Gr (nn out m n r) t'
 | s {o : Array Nat} {x : δ} {t' : AS} : t'.a = t.a → t'.p = t.p → LoD t nn ss Gr (ss o x) t'
theorem G1 {S T ε ζ η : Type} {cv : Cx c → S → T} {f : Cx c → Nat → T → StateT SortSt Sem (ForInStep T)} {init : Cx c → T} {e : Nat} {eX : Cx c → Nat} {k : Cx c → T → StateT SortSt Sem γ} {cv' : Cx c → ε → γ} {P : ε → AS → Prop} {t0 : AS}
  (nn : Array Nat → Nat → Nat → ζ → S) (ss : Array Nat → η → S) (I : Nat → Nat → Nat → Prop) (Gr : Nat → Nat → Prop) (out : Array Nat) (m n : Nat) (r : ζ) (he : ∀ X,eX X = e) (e1 : t.a = t0.a) (e2 : t.p = t0.p) (hi : ∀ X,init X = cv X (nn out m n r)) (h0 : I 0 m n) (hend : ∀ m n,I e m n → Gr m n)
  (step : ∀ i out m n r t,i < e → t.a = t0.a → t.p = t0.p → I i m n → Ex (λ X => f X i (cv X (nn out m n r))) (cvR cv) t (LoP t0 nn ss (I (i + 1)) Gr))
  (hs : ∀ o x t,t.a = t0.a → t.p = t0.p → Ex (λ X => k X (cv X (ss o x))) cv' t P)
  (hn : ∀ out m n r t,t.a = t0.a → t.p = t0.p → Gr m n → Ex (λ X => k X (cv X (nn out m n r))) cv' t P) : Ex (λ X => forIn [0:eX X] (init X) (f X) >>= k X) cv' t P := by
 cases (funext he : eX = λ _ => _)
 refine q6 cv (v1 (P := LoD t0 nn ss Gr) (nn out m n r) (λ i s t' => ∃ out m n r,s = nn out m n r ∧ t'.a = t0.a ∧ t'.p = t0.p ∧ I i m n) hi ⟨_,_,_,_,rfl,e1,e2,h0⟩ ?_ ?_) λ s t' h => ?_
 ·rintro i _ t' _ hi ⟨out,m,n,r,rfl,e1,e2,h⟩
  refine (step i _ _ _ _ _ hi e1 e2 h).mono λ r t' h => ?_
  induction h using LoP.casesOn with
  | yield a b h => exact ⟨_,_,_,_,rfl,a,b,h⟩
  | dnone a b h => exact .n a b h
  | dsome a b => exact .s a b
 ·rintro _ t' ⟨out,m,n,r,rfl,e1,e2,h⟩
  rw [Nat.max_eq_right (Nat.zero_le e)] at h
  exact .n e1 e2 (hend _ _ h)
 ·induction h using LoD.casesOn with
  | n a b h => exact hn _ _ _ _ _ a b h
  | s a b => exact hs _ _ _ a b
noncomputable def nn4 {β : Type} (out : Array Nat) (m n : Nat) (r : β) : Option (Array Nat) × Array Nat × Nat × Nat × β := (none,out,m,n,r)
noncomputable def ss4 {β : Type} (o : Array Nat) (x : Array Nat × β) : Option (Array Nat) × Array Nat × β := (some o,x)
theorem P9 {X : Cx c} {x : Array Keyed} {a : Array Nat} {m n : Nat} {r : β} (h : x = a.map X.item) : (none,x,m,n,r) = cv4 X (nn4 a m n r) := by rw [h]; rfl
theorem Q0 {X : Cx c} {x y : Array Keyed} {a b : Array Nat} {r : β} (h' : y = b.map X.item) (h : x = a.map X.item) : (some y,x,r) = cv4 X (ss4 b (a,r)) := by rw [h,h']; rfl
theorem pi {S T ζ η : Type} {x : String} {xs : Array Nat} {ix p q p' q' e : Cx c → Nat} {m1 m2 : Cx c → Keyed → StateT SortSt Sem α} {cv : Cx c → S → T} {f : Cx c → Keyed → SortSt → Nat → T → StateT SortSt Sem (ForInStep T)} {init : Cx c → Keyed → SortSt → T} {k : Cx c → T → StateT SortSt Sem α} {cv' : Cx c → β → α} {P : β → AS → Prop}
  (nn : Array Nat → Nat → Nat → ζ → S) (ss : Array Nat → η → S) (I : Nat → Nat → Nat → Prop) (out : Array Nat) (m n : Nat) (r : ζ) {i0 : Nat} (p0 q0 p1 q1 e0 : Nat) (hi : i0 < xs.size) (hix : ∀ X,ix X = i0) (hp : ∀ X,p X = p0) (hq : ∀ X,q X = q0) (hp' : ∀ X,p' X = p1) (hq' : ∀ X,q' X = q1) (he : ∀ X,e X = e0)
  (h1 : p0 = q0 → Ex (λ X => m1 X (X.item xs[i0])) cv' t P) (h2 : p1 = q1 → Ex (λ X => m2 X (X.item xs[i0])) cv' t P)
  (hin : ∀ X,init X (X.item xs[i0]) (stX X t) = cv X (nn out m n r)) (h0 : p0 ≠ q0 → p1 ≠ q1 → I 0 m n) (hend : ∀ m n,¬ I e0 m n)
  (step : ∀ i out m n r t',i < e0 → t'.a = t.a → t'.p = t.p → I i m n → Ex (λ X => f X (X.item xs[i0]) (stX X t) i (cv X (nn out m n r))) (cvR cv) t' (LoP t nn ss (I (i + 1)) (λ Z Z => False)))
  (hs : ∀ o x t',t'.a = t.a → t'.p = t.p → Ex (λ X => k X (cv X (ss o x))) cv' t' P) :
  Ex (λ X => liftM (rule x) >>= λ Z => elem' (xs.map X.item) (ix X) >>= λ y => if (p X == q X) = true then m1 X y else if (p' X == q' X) = true then m2 X y else get >>= λ s => forIn [0:e X] (init X y s) (f X y s) >>= k X) cv' t P := by
 refine j7 (λ X => by rw [hix,hp,hq,hp',hq',he]) ?_
 refine V2 (p6 hi (q7 h1 λ h1 => q7 h2 λ h2 => y9 ?_))
 exact G1 nn ss I (λ Z Z => False) out m n r (λ Z => rfl) rfl rfl hin (h0 h1 h2) (λ m n h => (hend m n h).elim) step hs (λ Z Z Z Z Z Z Z h => h.elim)
noncomputable def LI (s u z m n : Nat) : Prop := m + 1 < s ∧ n < u ∧ z ≤ m + n
section
variable {s u z m n k : Nat} (h : LI s u z m n)
include h
theorem LI.a : m < s := Nat.lt_of_succ_lt h.1
theorem LI.pa (h1 : m + 1 + 1 ≠ s) : LI s u (z + 1) (m + 1) n := ⟨Nat.lt_of_le_of_ne h.1 h1,h.2.1,(Nat.succ_add m n).symm ▸ Nat.succ_le_succ h.2.2⟩
theorem LI.pb (h1 : n + 1 ≠ u) : LI s u (z + 1) m (n + 1) := ⟨h.1,Nat.lt_of_le_of_ne h.2.1 h1,Nat.succ_le_succ h.2.2⟩
theorem LI.le {z' : Nat} (hz : z' ≤ z) : LI s u z' m n := ⟨h.1,h.2.1,ya6 hz h.2.2⟩
theorem LI.end' {G : Prop} (hz : s + u < z) : G := absurd (yb6 hz h.2.2) (Nat.not_lt.mpr (yc1 (Nat.add_lt_add h.a h.2.1)))
theorem LI.ka (hk : k ≤ s - m) (h1 : m + k ≠ s) (h2 : m + k + 1 ≠ s) : LI s u z (m + k) n := ⟨Nat.lt_of_le_of_ne (Nat.lt_of_le_of_ne (Nat.add_comm k m ▸ Nat.add_le_of_le_sub (yc1 h.a) hk) h1) h2,h.2.1,ya6 h.2.2 (yc2 (yb7 m k) n)⟩
theorem LI.kb (hk : k ≤ u - n) (h1 : n + k ≠ u) : LI s u z m (n + k) := ⟨h.1,Nat.lt_of_le_of_ne (Nat.add_comm k n ▸ Nat.add_le_of_le_sub (yc1 h.2.1) hk) h1,ya6 h.2.2 (Nat.add_le_add_left (yb7 n k) m)⟩
end
theorem AU {m n : Nat} (h : m < n) : m + (n - m) ≤ n := Nat.le_of_eq (Nat.add_sub_of_le (yc1 h))
theorem cC {a b : Array Nat} (ha : 0 < a.size) (hb : 0 < b.size) : Ex (λ X : Cx c => ng (a.map X.item) (b.map X.item)) (λ X (r : Array Nat) => r.map X.item) t (λ r t' => t'.a = t.a ∧ t'.p = t.p) := by
 refine pi (cv := cv4) nn4 ss4 (λ i ia ib => LI a.size b.size (i + 1) ia ib) #[b[0]] 0 1 t.g 1 b.size (0 + 1) a.size (a.size + b.size) hb (λ Z => rfl) (λ Z => rfl) (λ Z => yc5 ..) (λ Z => rfl) (λ Z => yc5 ..) (λ Z => by rw [yc5,yc5]) (λ h => ?_) (λ h => ?_) (λ X => P9 V4) (λ h1 h2 => ⟨Nat.lt_of_le_of_ne ha h2,Nat.lt_of_le_of_ne hb h1,ya7 _⟩) (λ m n h => h.end' (Nat.lt_succ_self _)) ?step (λ o x t' e1 e2 => l5 o (λ X => rfl) ⟨e1,e2⟩)
 ·exact l5 _ (λ X => e8 (e8 V4 (m9 a8)) (m9 a8)) ⟨rfl,rfl⟩
 ·exact l5 _ (λ X => e8 (e8 V4 (m9 a8)) (m9 a8)) ⟨rfl,rfl⟩
 intro i out ia ib g t' hi e1 e2 hI
 dsimp +instances only [cv4,nn4,Option.map_none]
 refine G1 (cv := cv4) (t0 := t) nn4 ss4 (λ Z ia ib => LI a.size b.size (i + 1) ia ib) (λ ia ib => LI a.size b.size (i + 1) ia ib) out ia ib (0,0) (λ Z => by rw [yc5,yc5]) e1 e2 (λ X => rfl) hI (λ Z Z h => h) ?istep (λ o x t' e1 e2 => f6 (ss4 o (x.1,x.2.1,x.2.2.1,g)) (λ X => rfl) (.dsome e1 e2)) ?inone
 case istep =>
  clear hI e1 e2 t'
  intro j out ia ib r t' hj e1 e2 hI
  dsimp +instances only [cv4,nn4,Option.map_none]
  refine jn hI.2.1 hI.a ?_
  refine m5 (λ h => ?_) (λ h => ?_)
  ·refine p6 hI.2.1 ?_
   refine F0 (λ h => ?_) (λ h0 => ?_)
   ·exact f6 (ss4 _ (_,_)) (λ X => Q0 (e8 (e8 (mp_push a8) (m9 a8)) (m9 a8)) (mp_push a8)) (.dsome e1 e2)
   refine n6 (λ h => ?_) (λ h => ?_)
   ·exact f6 (nn4 _ _ _ _) (λ X => P9 (mp_push a8)) (.dnone e1 e2 ((hI.pb h0).le (Nat.le_succ _)))
   ·exact exs_yield (nn4 _ _ _ _) (λ X => P9 (mp_push a8)) (.yield e1 e2 ((hI.pb h0).le (Nat.le_succ _)))
  ·refine p6 hI.a ?_
   refine F0 (λ h => ?_) (λ h0 => ?_)
   ·exact f6 (ss4 _ (_,_)) (λ X => Q0 (e8 (e8 (mp_push a8) (m9 a8)) (m9 a8)) (mp_push a8)) (.dsome e1 e2)
   refine n6 (λ h => ?_) (λ h => ?_)
   ·exact f6 (nn4 _ _ _ _) (λ X => P9 (mp_push a8)) (.dnone e1 e2 ((hI.pa h0).le (Nat.le_succ _)))
   ·exact exs_yield (nn4 _ _ _ _) (λ X => P9 (mp_push a8)) (.yield e1 e2 ((hI.pa h0).le (Nat.le_succ _)))
 case inone =>
  clear hI e1 e2 t' ia ib out
  intro out ia ib r t' e1 e2 hI
  refine V2 ?_
  refine G1 (cv := cv4) (t0 := t) nn4 ss4 (λ j ia ib => LI a.size b.size (i + 1 + j) ia ib) (λ ia ib => LI a.size b.size (i + 2) ia ib) out ia ib (g + 1,r.1,r.2) (λ Z => by rw [yc5,yc5]) e1 e2 (λ X => rfl) hI (λ Z Z h => h.le (Nat.add_le_add_left (yb6 (Nat.zero_lt_of_lt h.a) (yb7 _ _)) _)) ?jstep (λ o x t' e1 e2 => f6 (ss4 o (x.1,x.2.1,x.2.2.1,x.2.2.2.1)) (λ X => rfl) (.dsome e1 e2)) ?jnone
  case jnone =>
   intro out ia ib r t' e1 e2 hI
   dsimp +instances only [cv4,nn4,Option.map_none]
   refine eh ?_
   exact exs_yield (nn4 out ia ib (r.1 + 1)) (λ X => rfl) (.yield e1 e2 hI)
  case jstep =>
   clear hI e1 e2 t' ia ib out r
   intro j out ia ib r t' hj e1 e2 hI
   dsimp +instances only [cv4,nn4,Option.map_none]
   generalize r.1 = g
   revert g
   refine jq λ g => ?_
   refine rn hI.2.1 (AU hI.a) (Nat.sub_pos_of_lt hI.a) λ k hk => ?_
   have hc : LI a.size b.size (i + 1 + j) ia ib ∧ k ≤ a.size - ia := ⟨hI,hk⟩
   clear hI hk
   revert out ia
   refine en _ (λ n => LI a.size b.size (i + 1 + j) n ib) ?Gq (λ Z h => h.1) ?K
   case K =>
    intro Gq out ia hc hk0
    refine F0 (λ h => ?_) (λ h => ?_)
    ·exact f6 (ss4 _ (_,_)) (λ X => Q0 (e8 (e8 (e8 a8 (j8 a8)) (m9 a8)) (m9 a8)) (e8 a8 (j8 a8))) (.dsome e1 e2)
    refine F0 (λ h' => ?_) (λ h' => ?_)
    ·exact f6 (ss4 _ (_,_)) (λ X => Q0 (e8 (e8 (e8 a8 (j8 a8)) (m9 a8)) (m9 a8)) (e8 a8 (j8 a8))) (.dsome e1 e2)
    exact j7 (λ X => by rw [Array.map_append,Array.map_extract]) (Gq (out ++ a.extract ia (ia + k)) (ia + k) (hc.1.ka hc.2 h' h))
   case Gq =>
    intro out ia hI
    refine p6 hI.2.1 ?_
    refine j7 (λ X => psE (f := X.item) (a := out) rfl) ?_
    generalize out.push _ = out
    refine F0 (λ h => ?_) (λ h => ?_)
    ·exact f6 (ss4 _ (_,_)) (λ X => Q0 (e8 (e8 a8 (m9 a8)) (m9 a8)) a8) (.dsome e1 e2)
    refine jo hI.a (AU (hI.pb h).2.1) (Nat.sub_pos_of_lt (hI.pb h).2.1) λ k2 hk2 => ?_
    have hc : LI a.size b.size (i + 1 + j + 1) ia (ib + 1) ∧ k2 ≤ b.size - (ib + 1) := ⟨hI.pb h,hk2⟩
    clear h hI hk2
    generalize ib + 1 = ib at hc ⊢
    revert out ib
    refine en _ (λ n => LI a.size b.size (i + 1 + j + 1) ia n) ?J2 (λ Z h => h.1) ?K2
    case K2 =>
     intro Gq out ib hc hk0
     refine F0 (λ h' => ?_) (λ h' => ?_)
     ·exact f6 (ss4 _ (_,_)) (λ X => Q0 (e8 (e8 (e8 a8 (j8 a8)) (m9 a8)) (m9 a8)) (e8 a8 (j8 a8))) (.dsome e1 e2)
     exact j7 (λ X => by rw [Array.map_append,Array.map_extract]) (Gq (out ++ b.extract ib (ib + k2)) (ib + k2) (hc.1.kb hc.2 h'))
    case J2 =>
     intro out ib hI
     refine p6 hI.a ?_
     refine j7 (λ X => psE (f := X.item) (a := out) rfl) ?_
     generalize out.push _ = out
     refine F0 (λ h => ?_) (λ h => ?_)
     ·exact f6 (ss4 _ (_,_)) (λ X => Q0 (e8 (e8 a8 (m9 a8)) (m9 a8)) a8) (.dsome e1 e2)
     refine n6 (λ h' => ?_) (λ h' => ?_)
     ·exact f6 (nn4 _ _ _ _) (λ X => P9 a8) (.dnone e1 e2 ((hI.pa h).le (Nat.succ_le_succ (Nat.le_succ_of_le (yb7 _ _)))))
     ·exact exs_yield (nn4 _ _ _ _) (λ X => P9 a8) (.yield e1 e2 ((hI.pa h).le (Nat.le_succ _)))
end
section
variable {c : Nat → Nat → Bool} {α β γ δ : Type} {t : AS}
noncomputable def ni : Array Keyed → Array Keyed → StateT SortSt Sem (Array Keyed) := sortPriv% PySem.Builtin.mergeHi
noncomputable def cv5 (X : Cx c) (b : Option (Array Nat) × Nat × Nat × Array Nat × β) : Option (Array Keyed) × Nat × Nat × Array Keyed × β := (b.1.map (·.map X.item),b.2.1,b.2.2.1,b.2.2.2.1.map X.item,b.2.2.2.2)
theorem rp {p q : Prop} {i1 : Cx c → Decidable p} {i2 : Cx c → Decidable q} {m m' : Cx c → StateT SortSt Sem α} {cv : Cx c → β → α} {P : β → AS → Prop} (h1 : Ex m cv t P) (h2 : Ex m' cv t P) : Ex (λ X => if (@decide p (i1 X) && @decide q (i2 X)) = true then m X else m' X) cv t P := by
 by_cases hp : p
 ·by_cases hq : q
  ·simp only [hp,hq,decide_true,Bool.and_self,if_true]; exact h1
  ·simp only [hp,hq,decide_true,decide_false,Bool.and_false,Bool.false_eq_true,if_false]; exact h2
 ·simp only [hp,decide_false,Bool.false_and,Bool.false_eq_true,if_false]; exact h2
noncomputable def nn5 {β : Type} (out : Array Nat) (m n : Nat) (r : β) : Option (Array Nat) × Nat × Nat × Array Nat × β := (none,m,n,out,r)
noncomputable def ss5 {β : Type} (o : Array Nat) (x : Array Nat × Nat × Nat × β) : Option (Array Nat) × Nat × Nat × Array Nat × β := (some o,x.2.1,x.2.2.1,x.1,x.2.2.2)
theorem Q1 {X : Cx c} {x : Array Keyed} {a : Array Nat} {m n : Nat} {r : β} (h : x = a.map X.item) : (none,m,n,x,r) = cv5 X (nn5 a m n r) := by rw [h]; rfl
theorem Q2 {X : Cx c} {x y : Array Keyed} {a b : Array Nat} {m n : Nat} {r : β} (h' : y = b.map X.item) (h : x = a.map X.item) : (some y,m,n,x,r) = cv5 X (ss5 b (a,m,n,r)) := by rw [h,h']; rfl
noncomputable def HI (s u z m n : Nat) : Prop := 0 < m ∧ m < s ∧ 1 < n ∧ n ≤ u ∧ z + m + n ≤ s + u
section
variable {s u z m n k : Nat} (h : HI s u z m n)
include h
theorem HI.a1 : m - 1 < s := Nat.lt_of_le_of_lt (Nat.sub_le m 1) h.2.1
theorem HI.b1 : n - 1 < u := yb6 (Nat.sub_lt (Nat.lt_of_succ_lt h.2.2.1) Nat.one_pos) h.2.2.2.1
theorem HI.pa (h1 : m - 1 ≠ 0) : HI s u (z + 1) (m - 1) n := ⟨Nat.pos_of_ne_zero h1,h.a1,h.2.2.1,h.2.2.2.1,by rw [Nat.add_assoc z,Nat.add_comm 1,Nat.sub_add_cancel h.1]; exact h.2.2.2.2⟩
theorem HI.pb (h1 : n - 1 ≠ 1) : HI s u (z + 1) m (n - 1) := ⟨h.1,h.2.1,Nat.lt_of_le_of_ne (Nat.le_sub_one_of_lt h.2.2.1) (Ne.symm h1),yc1 h.b1,by rw [Nat.add_right_comm z 1 m,Nat.add_assoc _ 1,Nat.add_comm 1,Nat.sub_add_cancel (yc1 h.2.2.1)]; exact h.2.2.2.2⟩
theorem HI.le {z' : Nat} (hz : z' ≤ z) : HI s u z' m n := ⟨h.1,h.2.1,h.2.2.1,h.2.2.2.1,ya6 (yc2 (yc2 hz m) n) h.2.2.2.2⟩
theorem HI.end' {G : Prop} (hz : s + u < z) : G := absurd (yb6 hz (ya6 (yb7 z m) (yb7 _ n))) (Nat.not_lt.mpr h.2.2.2.2)
theorem HI.ga : 0 + m ≤ s := (yc0 m).symm ▸ yc1 h.2.1
theorem HI.gb : 0 + (n - 1) ≤ u := (yc0 (n - 1)).symm ▸ yc1 h.b1
theorem HI.ma : m - 1 < m := Nat.sub_lt h.1 Nat.one_pos
theorem HI.mb : n - 1 - 1 < n - 1 := Nat.sub_lt (Nat.le_sub_one_of_lt h.2.2.1) Nat.one_pos
theorem HI.aa (hk : k ≤ m) (h1 : k ≠ 0) : HI s u z k n := ⟨Nat.pos_of_ne_zero h1,Nat.lt_of_le_of_lt hk h.2.1,h.2.2.1,h.2.2.2.1,ya6 (yc2 (Nat.add_le_add_left hk z) n) h.2.2.2.2⟩
theorem HI.bb (hk : k ≤ n) (h1 : k ≠ 0) (h2 : k ≠ 1) : HI s u z m k := ⟨h.1,h.2.1,Nat.lt_of_le_of_ne (Nat.pos_of_ne_zero h1) (Ne.symm h2),ya6 hk h.2.2.2.1,ya6 (Nat.add_le_add_left hk _) h.2.2.2.2⟩
end
theorem cD {a b : Array Nat} (ha : 0 < a.size) (hb : 0 < b.size) : Ex (λ X : Cx c => ni (a.map X.item) (b.map X.item)) (λ X (r : Array Nat) => r.map X.item) t (λ r t' => t'.a = t.a ∧ t'.p = t.p) := by
 refine pi (cv := cv5) nn5 ss5 (λ i na nb => HI a.size b.size (i + 1) na nb) #[a[a.size - 1]] (a.size - 1) b.size t.g (a.size - 1) 0 b.size 1 (a.size + b.size) (Nat.sub_lt ha Nat.one_pos) (λ Z => by rw [yc5]) (λ Z => by rw [yc5]) (λ Z => rfl) (λ Z => yc5 ..) (λ Z => rfl) (λ Z => by rw [yc5,yc5]) (λ h => ?_) (λ h => ?_) (λ X => szE (f := X.item) (a := a) (b := b) (Q1 V4)) (λ h1 h2 => ⟨Nat.pos_of_ne_zero h1,Nat.sub_lt ha Nat.one_pos,Nat.lt_of_le_of_ne hb (Ne.symm h2),ya7 _,by rw [yc0,Nat.add_comm 1,Nat.sub_add_cancel ha]; exact ya7 _⟩) (λ m n h => h.end' (Nat.lt_succ_self _)) ?step (λ o x t' e1 e2 => l5 o (λ X => rfl) ⟨e1,e2⟩)
 ·exact l5 _ (λ X => e8 (e8 (by first | exact m9 a8 | exact el a8) (by first | exact m9 a8 | exact el a8 | exact j8 a8)) (v2 V4)) ⟨rfl,rfl⟩
 ·exact l5 _ (λ X => e8 (e8 (by first | exact m9 a8 | exact el a8) (by first | exact m9 a8 | exact el a8 | exact j8 a8)) (v2 V4)) ⟨rfl,rfl⟩
 intro i out na nb g t' hi e1 e2 hI
 dsimp +instances only [cv5,nn5,Option.map_none]
 refine G1 (cv := cv5) (t0 := t) nn5 ss5 (λ Z na nb => HI a.size b.size (i + 1) na nb) (λ na nb => HI a.size b.size (i + 1) na nb) out na nb (0,0) (λ Z => by rw [yc5,yc5]) e1 e2 (λ X => rfl) hI (λ Z Z h => h) ?istep (λ o x t' e1 e2 => f6 (ss5 o (x.1,x.2.1,x.2.2.1,g)) (λ X => rfl) (.dsome e1 e2)) ?inone
 case istep =>
  clear hI e1 e2 t'
  intro j out na nb r t' hj e1 e2 hI
  dsimp +instances only [cv5,nn5,Option.map_none]
  refine jn hI.b1 hI.a1 ?_
  refine m5 (λ h => ?_) (λ h => ?_)
  ·refine p6 hI.a1 ?_
   refine q7 (λ h => ?_) (λ h0 => ?_)
   ·exact f6 (ss5 _ (_,_,_,_)) (λ X => Q2 (e8 (e8 (j8 a8) (j8 a8)) (v2 (mp_push a8))) (mp_push a8)) (.dsome e1 e2)
   refine n6 (λ h => ?_) (λ h => ?_)
   ·exact f6 (nn5 _ _ _ _) (λ X => Q1 (mp_push a8)) (.dnone e1 e2 ((hI.pa h0).le (Nat.le_succ _)))
   ·exact exs_yield (nn5 _ _ _ _) (λ X => Q1 (mp_push a8)) (.yield e1 e2 ((hI.pa h0).le (Nat.le_succ _)))
  ·refine p6 hI.b1 ?_
   refine q7 (λ h => ?_) (λ h0 => ?_)
   ·exact f6 (ss5 _ (_,_,_,_)) (λ X => Q2 (e8 (e8 (j8 a8) (j8 a8)) (v2 (mp_push a8))) (mp_push a8)) (.dsome e1 e2)
   refine n6 (λ h => ?_) (λ h => ?_)
   ·exact f6 (nn5 _ _ _ _) (λ X => Q1 (mp_push a8)) (.dnone e1 e2 ((hI.pb h0).le (Nat.le_succ _)))
   ·exact exs_yield (nn5 _ _ _ _) (λ X => Q1 (mp_push a8)) (.yield e1 e2 ((hI.pb h0).le (Nat.le_succ _)))
 case inone =>
  clear hI e1 e2 t' na nb out
  intro out na nb r t' e1 e2 hI
  refine V2 ?_
  refine G1 (cv := cv5) (t0 := t) nn5 ss5 (λ j na nb => HI a.size b.size (i + 1 + j) na nb) (λ na nb => HI a.size b.size (i + 2) na nb) out na nb (g + 1,r.1,r.2) (λ Z => by rw [yc5,yc5]) e1 e2 (λ X => rfl) hI (λ Z Z h => h.le (Nat.add_le_add_left (yb6 (Nat.lt_trans h.1 h.2.1) (yb7 _ _)) _)) ?jstep (λ o x t' e1 e2 => f6 (ss5 o (x.1,x.2.1,x.2.2.1,x.2.2.2.1)) (λ X => rfl) (.dsome e1 e2)) ?jnone
  case jnone =>
   intro out na nb r t' e1 e2 hI
   dsimp +instances only [cv5,nn5,Option.map_none]
   refine eh ?_
   exact exs_yield (nn5 out na nb (r.1 + 1)) (λ X => rfl) (.yield e1 e2 hI)
  case jstep =>
   clear hI e1 e2 t' na nb out r
   intro j out na nb r t' hj e1 e2 hI
   dsimp +instances only [cv5,nn5,Option.map_none]
   generalize r.1 = g
   revert g
   refine jq λ g => ?_
   refine ro hI.b1 hI.ga hI.ma λ at1 hk => ?_
   dsimp +instances only
   have hc : HI a.size b.size (i + 1 + j) na nb ∧ at1 ≤ na := ⟨hI,hk⟩
   clear hI hk
   generalize hac : na - at1 = ac
   replace hc := And.intro hc hac
   clear hac
   revert out na
   refine en _ (λ n => HI a.size b.size (i + 1 + j) n nb) ?Gq (λ Z h => h.1.1) ?K
   case K =>
    intro Gq out na hc hk0
    refine q7 (λ h => ?_) (λ h => ?_)
    ·exact f6 (ss5 _ (_,_,_,_)) (λ X => Q2 (e8 (e8 (j8 a8) (j8 a8)) (v2 (e8 a8 (v2 (j8 a8))))) (e8 a8 (v2 (j8 a8)))) (.dsome e1 e2)
    exact j7 (λ X => by rw [Array.map_append,Array.map_reverse,Array.map_extract]) (Gq (out ++ (a.extract at1 na).reverse) at1 (hc.1.1.aa hc.1.2 h))
   case Gq =>
    intro out na hI
    refine p6 hI.b1 ?_
    refine j7 (λ X => psE (f := X.item) (a := out) rfl) ?_
    generalize out.push _ = out
    refine q7 (λ h => ?_) (λ h => ?_)
    ·exact f6 (ss5 _ (_,_,_,_)) (λ X => Q2 (e8 (e8 (j8 a8) (j8 a8)) (v2 a8)) a8) (.dsome e1 e2)
    refine jp hI.a1 hI.gb hI.mb λ at2 hk2 => ?_
    dsimp +instances only
    have hc : HI a.size b.size (i + 1 + j + 1) na (nb - 1) ∧ at2 ≤ nb - 1 := ⟨hI.pb h,hk2⟩
    clear h hI hk2
    generalize nb - 1 = nb at hc ⊢
    generalize hbc : nb - at2 = bc
    replace hc := And.intro hc hbc
    clear hbc
    revert out nb
    refine en _ (λ n => HI a.size b.size (i + 1 + j + 1) na n) ?J2 (λ Z h => h.1.1) ?K2
    case K2 =>
     intro Gq out nb hc hk0
     refine q7 (λ h' => ?_) (λ h' => ?_)
     ·exact f6 (ss5 _ (_,_,_,_)) (λ X => Q2 (e8 (e8 (j8 a8) (j8 a8)) (v2 (e8 a8 (v2 (j8 a8))))) (e8 a8 (v2 (j8 a8)))) (.dsome e1 e2)
     refine q7 (λ h'' => ?_) (λ h'' => ?_)
     ·exact f6 (ss5 _ (_,_,_,_)) (λ X => Q2 (e8 (e8 (j8 a8) (j8 a8)) (v2 (e8 a8 (v2 (j8 a8))))) (e8 a8 (v2 (j8 a8)))) (.dsome e1 e2)
     exact j7 (λ X => by rw [Array.map_append,Array.map_reverse,Array.map_extract]) (Gq (out ++ (b.extract at2 nb).reverse) at2 (hc.1.1.bb hc.1.2 h'' h'))
    case J2 =>
     intro out nb hI
     refine p6 hI.a1 ?_
     refine j7 (λ X => psE (f := X.item) (a := out) rfl) ?_
     generalize out.push _ = out
     refine q7 (λ h => ?_) (λ h => ?_)
     ·exact f6 (ss5 _ (_,_,_,_)) (λ X => Q2 (e8 (e8 (j8 a8) (j8 a8)) (v2 a8)) a8) (.dsome e1 e2)
     refine rp ?_ ?_
     ·exact f6 (nn5 _ _ _ _) (λ X => Q1 a8) (.dnone e1 e2 ((hI.pa h).le (Nat.succ_le_succ (Nat.le_succ_of_le (yb7 _ _)))))
     ·exact exs_yield (nn5 _ _ _ _) (λ X => Q1 a8) (.yield e1 e2 ((hI.pa h).le (Nat.le_succ _)))
end
section
variable {c : Nat → Nat → Bool} {α β γ δ : Type} {t : AS}
theorem Z0 (f : Nat → Keyed) (sa : Nat) : ∀ (l : List Nat) (i : Nat) (xs : Array Nat),((l.map f).zipIdx i).foldl (λ a (p : Keyed × Nat) => a.setIfInBounds (sa + p.2) p.1) (xs.map f) = ((l.zipIdx i).foldl (λ a (p : Nat × Nat) => a.setIfInBounds (sa + p.2) p.1) xs).map f := by
 intro l
 induction l with
 | nil => intro i xs; exact rfl
 | cons x l ih =>
  intro i xs
  rw [yc8,List.zipIdx_cons,List.zipIdx_cons,List.foldl_cons,List.foldl_cons]
  rw [show (xs.map f).setIfInBounds (sa + i) (f x) = (xs.setIfInBounds (sa + i) x).map f by rw [Array.map_setIfInBounds]]
  exact ih (i + 1) _
theorem E5 (sa : Nat) : ∀ (l : List (Nat × Nat)) (xs : Array Nat),(l.foldl (λ a (p : Nat × Nat) => a.setIfInBounds (sa + p.2) p.1) xs).size = xs.size := by
 intro l
 induction l with
 | nil => intro xs; exact rfl
 | cons x l ih => intro xs; exact (ih _).trans Array.size_setIfInBounds
theorem cF {f : Cx c → SortSt → SortSt} {P : PUnit → AS → Prop} (t' : AS) (hf : ∀ X : Cx c,f X (stX X t) = stX X t') (h : P ⟨⟩ t') : Ex (λ X => (modify (f X) : StateT SortSt Sem PUnit)) (λ (_ : Cx c) (b : PUnit) => b) t P :=
 ⟨⟨⟩,t',h,λ X Q q => wpS_modify (by rw [hf]; exact q)⟩
theorem jr {f : Cx c → SortSt → SortSt} {k : Cx c → PUnit → StateT SortSt Sem α} {cv : Cx c → β → α} {P : β → AS → Prop} (t' : AS) (hf : ∀ X : Cx c,f X (stX X t) = stX X t') (h : Ex (λ X => k X ⟨⟩) cv t' P) : Ex (λ X => modify (f X) >>= k X) cv t P := l6 _ (cF t' hf h)
theorem uA {X : Cx c} {r : Array Nat} {sa : Nat} : SortSt.mk' X.κ ((r.map X.item).toList.zipIdx.foldl (λ a (p : Keyed × Nat) => a.setIfInBounds (sa + p.2) p.1) (t.a.map X.item)) t.p t.g none = stX X ⟨r.toList.zipIdx.foldl (λ a (p : Nat × Nat) => a.setIfInBounds (sa + p.2) p.1) t.a,t.p,t.g⟩ := by
 have := Z0 X.item sa r.toList 0 t.a
 rw [← Array.toList_map] at this
 exact congrArg (λ z => SortSt.mk' X.κ z t.p t.g none) this
theorem js {a : Array Nat} {i j : Nat} (h : i < j) (h2 : j ≤ a.size) : 0 < (a.extract i j).size := by
 rw [Array.size_extract]; exact Nat.sub_pos_of_lt (Nat.lt_min.mpr ⟨h,yb6 h h2⟩)
theorem cG {n1 n2 pw q : Nat} (hp : t.p = #[(0,n1,pw),(n1,n2,q)]) (h1 : 1 ≤ n1) (h2 : 1 ≤ n2) (hn : n1 + n2 ≤ t.a.size) :
  Ex (λ _ : Cx c => mergeAt' 0) (λ Z b => b) t (λ b t' => b = true ∧ t'.a.size = t.a.size ∧ t'.p = #[(0,n1 + n2,pw)]) := by
 refine y9 ?_
 obtain ⟨a,p,g⟩ := t
 subst hp
 dsimp +instances only [stX] at hn ⊢
 refine l6 (λ Z b => b) (ri ⟨a,#[(0,n1 + n2,pw)],g⟩ (λ X => ?_) ?_)
 ·simp [stX]
 have hn1 : n1 < a.size := yb6 (Nat.lt_add_of_pos_right h2) hn
 refine p6 hn1 ?_
 refine cB ((yc0 n1).symm ▸ yc1 hn1) h1 λ k hk => ?_
 have e : 0 + k + (n1 - k) = n1 := by rw [yc0,Nat.add_sub_of_le hk]
 refine q7 (λ h => ?_) (λ h => ?_)
 ·exact n0 ⟨rfl,rfl,rfl⟩
 refine p6 (e.symm ▸ Nat.lt_of_le_of_lt (Nat.sub_le n1 1) hn1) ?_
 refine cB hn (Nat.sub_lt h2 Nat.one_pos) λ k2 hk2 => ?_
 refine q7 (λ h => ?_) (λ h' => ?_)
 ·exact n0 ⟨rfl,rfl,rfl⟩
 simp only [← Array.map_extract]
 have p1 : 0 < (a.extract (0 + k) n1).size := js (by rw [yc0]; exact Nat.lt_of_sub_pos (Nat.pos_of_ne_zero h)) (yc1 hn1)
 have p2 : 0 < (a.extract n1 (n1 + k2)).size := js (Nat.lt_add_of_pos_right (Nat.pos_of_ne_zero h')) (ya6 (Nat.add_le_add_left hk2 n1) hn)
 refine n6 (λ h => ?_) (λ h => ?_)
 ·refine q6 (λ X (r : Array Nat) => r.map X.item) (cC p1 p2) ?_
  rintro r t' ⟨e1,e2⟩
  refine jr ⟨_,t'.p,t'.g⟩ (λ X => uA) ?_
  refine y9 ?_
  exact l5 true (λ X => rfl) ⟨rfl,by rw [E5,e1],e2⟩
 ·refine q6 (λ X (r : Array Nat) => r.map X.item) (cD p1 p2) ?_
  rintro r t' ⟨e1,e2⟩
  refine jr ⟨_,t'.p,t'.g⟩ (λ X => uA) ?_
  refine y9 ?_
  exact l5 true (λ X => rfl) ⟨rfl,by rw [E5,e1],e2⟩
end
section
variable {c : Nat → Nat → Bool} {α β γ δ : Type} {t : AS}
theorem K0 (h2 : 2 ≤ n) (h : n < 64) : minRun' n n 0 = n := by
 obtain ⟨f,hf⟩ : ∃ f,n = f + 1 := ⟨n - 1,(Nat.sub_add_cancel (Nat.le_of_succ_le h2)).symm⟩
 have : minRun' (f + 1) n 0 = n := by rw [minRun'_succ,if_pos h]; rfl
 rwa [← hf] at this
theorem V5 (h1 : 64 ≤ n) (h : n < 128) : minRun' n n 0 = n / 2 + n % 2 := by
 obtain ⟨f,hf⟩ : ∃ f,n = f + 2 := ⟨n - 2,(Nat.sub_add_cancel (ya6 (by decide) h1)).symm⟩
 have : minRun' (f + 1 + 1) n 0 = n / 2 + n % 2 := by
  rw [minRun'_succ,if_neg (Nat.not_lt.mpr h1),minRun'_succ,if_pos (Nat.div_lt_of_lt_mul h),Nat.zero_max]
 rwa [show f + 1 + 1 = n from hf.symm] at this
theorem jt (h2 : 2 ≤ n) (h : n < 128) : minRun' n n 0 ≤ n := by
 by_cases h1 : n < 64
 ·rw [K0 h2 h1]; exact ya7 n
 ·rw [V5 (by lia) h]; lia
theorem cH (h2 : 2 ≤ n) (h : n < 128) : n ≤ 2 * minRun' n n 0 := by
 by_cases h1 : n < 64
 ·rw [K0 h2 h1]; lia
 ·rw [V5 (by lia) h]; lia
inductive SR (n m : Nat) : Nat → Option Unit × Nat → AS → Prop
 | z {t : AS} : t.a.size = n → t.p = #[] → SR n m 0 (none,0) t
 | o {t : AS} {n1 : Nat} : t.a.size = n → 1 ≤ n1 → m ≤ n1 → n1 ≤ n → t.p = #[(0,n1,0)] → SR n m 1 (none,n1) t
 | w {t : AS} {n1 n2 pw x : Nat} : x = n → t.a.size = n → n1 + n2 = n → 1 ≤ n1 → 1 ≤ n2 → t.p = #[(0,n1,pw),(n1,n2,0)] → SR n m 2 (none,x) t
inductive SD (n : Nat) : Option Unit × Nat → AS → Prop
 | a {t : AS} {l : Nat} : t.a.size = n → t.p = #[(0,n,0)] → SD n (none,l) t
 | b {t : AS} {l n1 n2 pw : Nat} : t.a.size = n → n1 + n2 = n → 1 ≤ n1 → 1 ≤ n2 → t.p = #[(0,n1,pw),(n1,n2,0)] → SD n (none,l) t
inductive FR (n n1 n2 pw : Nat) : Nat → Option Unit × Unit → AS → Prop
 | z {t : AS} : t.a.size = n → t.p = #[(0,n1,pw),(n1,n2,0)] → FR n n1 n2 pw 0 (none,()) t
 | s {t : AS} {x : Nat} : t.a.size = n → t.p = #[(0,n1 + n2,pw)] → FR n n1 n2 pw (x + 1) (none,()) t
theorem FR.fin {n n1 n2 pw x : Nat} {b : Option Unit × Unit} (h : FR n n1 n2 pw x b t) : b = (none,()) ∧ t.a.size = n := by
 induction h using FR.casesOn with
 | z hs _ => exact ⟨rfl,hs⟩
 | s hs _ => exact ⟨rfl,hs⟩
theorem SR.fin {n m x : Nat} {b : Option Unit × Nat} (hx : 2 ≤ x) (h : SR n m x b t) : SD n b t := by
 induction h using SR.casesOn with
 | z => exact absurd hx (by decide)
 | o => exact absurd hx (by decide)
 | w _ hs a1 a2 a3 a4 => exact .b hs a1 a2 a3 a4
@[elab_as_elim] theorem azE {X : Cx c} {n : Nat} {motive : Nat → Prop} (hn : t.a.size = n) (h : motive n) : motive (arrOf (stX X t)).size := by
 have e : (arrOf (stX X t)).size = n := by show (t.a.map X.item).size = n; rw [yc5,hn]
 rw [e]; exact h
@[elab_as_elim] theorem pnE {X : Cx c} {p : Array (Nat × Nat × Nat)} {motive : Array (Nat × Nat × Nat) → Prop} (hp : t.p = p) (h : motive p) : motive (pendingOf (stX X t)) := by
 cases hp; exact h
section
variable {cv : Cx c → β → α} {P : β → AS → Prop}
theorem ju {lo r : Nat} {k : Cx c → Option Nat → StateT SortSt Sem α} (h1 : 1 ≤ r) (hn : lo + r ≤ t.a.size) (h : ∀ m t1,1 ≤ m → m ≤ r → t1.a.size = t.a.size → t1.p = t.p → Ex (λ X => k X (some m)) cv t1 P) : Ex (λ X => countRun' lo r >>= k X) cv t P := by
 refine q6 (λ Z b => b) (jm h1 hn) ?_
 rintro _ t1 ⟨m,rfl,a,b,c⟩
 exact h m t1 a b c.1 c.2.1
theorem jw {lo n ok : Nat} {k : Cx c → Bool → StateT SortSt Sem α} (hn : lo + n ≤ t.a.size) (h : ∀ t1,t1.a.size = t.a.size → t1.p = t.p → Ex (λ X => k X true) cv t1 P) : Ex (λ X => binarySort' lo n ok >>= k X) cv t P := by
 refine q6 (λ Z b => b) (rk hn) ?_
 rintro _ t1 ⟨rfl,c⟩
 exact h t1 c.1 c.2.1
theorem cI {S : Type} {b : S} {f : Cx c → Nat → S → StateT SortSt Sem (ForInStep S)} {k : Cx c → S → StateT SortSt Sem α} {e : Nat} {m' : Cx c → StateT SortSt Sem α} {q : Cx c → Nat → SortSt → StateT SortSt Sem (ForInStep S)} (hm : ∀ X,m' X = forIn [0:e] b (f X) >>= k X) (hf : ∀ i X,f X i b = get >>= q X i) (hq : ∀ i X,q X i (stX X t) = pure (.done b)) (h2 : Ex (λ X => k X b) cv t P) : Ex m' cv t P := by
 refine j7 hm (q6 (λ Z b => b) (v1 (P := λ b' t3 => b' = b ∧ t3 = t) b (λ Z b' t3 => b' = b ∧ t3 = t) (λ Z => rfl) ⟨rfl,rfl⟩ ?_ (λ Z Z h => h)) ?_)
 ·rintro i _ _ _ _ ⟨rfl,rfl⟩
  exact j7 (hf i) (y9 (j7 (hq i) (j3 ⟨rfl,rfl⟩)))
 ·rintro _ _ ⟨rfl,rfl⟩
  exact h2
theorem Z1 {m' : Cx c → StateT SortSt Sem α} {k : Cx c → PUnit → StateT SortSt Sem α} {x : Nat × Nat × Nat} {p : Array (Nat × Nat × Nat)} (hp : t.p = p) (hm : ∀ X,m' X = modify (λ s => setPending s ((pendingOf s).push x)) >>= k X) (h : Ex (λ X => k X ⟨⟩) cv ⟨t.a,p.push x,t.g⟩ P) : Ex m' cv t P := by
 cases hp
 exact j7 hm (jk ⟨t.a,t.p.push x,t.g⟩ (λ X => rfl) h)
theorem jx {k : Cx c → PUnit → StateT SortSt Sem α} {x : Nat × Nat × Nat} {g : Nat × Nat × Nat → Nat × Nat × Nat} (hp : t.p = #[x]) (h : Ex (λ X => k X ⟨⟩) cv ⟨t.a,#[g x],t.g⟩ P) : Ex (λ X => modify (λ s => setPending s ((pendingOf s).modify ((pendingOf s).size - 1) g)) >>= k X) cv t P := by
 refine jk ⟨t.a,#[g x],t.g⟩ (λ X => ?_) h
 show SortSt.mk' X.κ _ (t.p.modify (t.p.size - 1) _) t.g none = _
 rw [hp]; simp [stX]
theorem rq {m' : Cx c → StateT SortSt Sem α} {k : Cx c → Bool → StateT SortSt Sem α} {n1 n2 pw q : Nat} (hp : t.p = #[(0,n1,pw),(n1,n2,q)]) (h1 : 1 ≤ n1) (h2 : 1 ≤ n2) (hn : n1 + n2 ≤ t.a.size) (hm : ∀ X,m' X = mergeAt' 0 >>= k X) (h : ∀ t4,t4.a.size = t.a.size → t4.p = #[(0,n1 + n2,pw)] → Ex (λ X => k X true) cv t4 P) : Ex m' cv t P := by
 refine j7 hm (q6 (λ Z b => b) (cG hp h1 h2 hn) ?_)
 rintro _ t4 ⟨rfl,a,b⟩
 exact h t4 a b
end
theorem sz1 {x : Nat × Nat × Nat} : ¬ (#[x] : Array (Nat × Nat × Nat)).size > 1 := Nat.lt_irrefl 1
theorem nj (h2 : 2 ≤ n) (h : n < 128) (hn : t.a.size = n) (hp : t.p = #[]) : Ex (λ _ : Cx c => sortRuns') (λ Z b => b) t (λ Z t' => t'.a.size = n) := by
 refine j7 (λ Z => sortRuns'_eq) ?_
 refine y9 ?_
 refine j7 (λ X => azE (X := X) (t := t) hn rfl) ?_
 have hm := cH h2 h
 have hm2 := jt h2 h
 have m1 : 1 ≤ minRun' n n 0 := Nat.pos_of_ne_zero λ e => absurd (ya6 h2 (e ▸ hm)) (by decide)
 refine q6 (λ Z b => b) (v1 (P := SD n) (none,0) (SR n (minRun' n n 0)) (λ Z => rfl) (.z hn hp) ?step λ b t h => h.fin (by rw [Nat.max_eq_right (Nat.zero_le n)]; exact h2)) ?post
 clear hp hn
 case step =>
  rintro x b t _ hx h
  clear hx
  induction h using SR.casesOn with
  | z hs hp =>
   refine n6 (λ h => absurd h (Nat.not_le.mpr (Nat.lt_of_succ_lt h2))) (λ Z => ?_)
   refine ju (Nat.le_of_succ_le h2) (Nat.le_of_eq ((yc0 _).trans hs.symm)) λ k t1 hk1 hk2 hs1 hp1 => ?_
   refine n6 (λ hkm => ?_) (λ hkm => ?_)
   ·have hz : 0 + min (n - 0) (minRun' n n 0) = minRun' n n 0 := (yc0 _).trans (Nat.min_eq_right hm2)
    refine V2 (jw (by rw [hs1,hs]; exact hz.symm ▸ hm2) λ t2 hs2 hp2 => ?_)
    refine m5 (λ h => by cases h) (λ Z => ?_)
    refine y9 ?_
    refine Z1 (hp2.trans (hp1.trans hp)) (λ X => pnE (X := X) (hp2.trans (hp1.trans hp)) rfl) ?_
    exact exs_yield _ (λ X => rfl) (.o (hs2.trans (hs1.trans hs)) (hz.symm ▸ m1) (Nat.le_of_eq hz.symm) (hz.symm ▸ hm2) (by simp))
   ·refine y9 ?_
    refine Z1 (hp1.trans hp) (λ X => pnE (X := X) (hp1.trans hp) rfl) ?_
    exact exs_yield _ (λ X => rfl) (.o (hs1.trans hs) ((yc0 k).symm ▸ hk1) ((yc0 k).symm ▸ Nat.le_of_not_lt hkm) ((yc0 k).symm ▸ hk2) (by simp))
  | o hs hn1 hmn hn2 hp =>
   refine n6 (λ h => ?_) (λ h => ?_)
   ·exact j3 (.a hs (by rw [hp,Nat.le_antisymm hn2 h]))
   have ho := Nat.add_sub_of_le hn2
   have h0 := Nat.sub_pos_of_lt (Nat.lt_of_not_le h)
   have hq := Nat.sub_le_of_le_add (ya6 hm (by rw [Nat.two_mul]; exact Nat.add_le_add_left hmn _))
   refine ju h0 (Nat.le_of_eq (ho.trans hs.symm)) λ k t1 hk1 hk2 hs1 hp1 => ?_
   refine n6 (λ hkm => ?_) (λ hkm => ?_)
   ·have hz := Nat.min_eq_left hq
    have hw := (congrArg (_ + ·) hz).trans ho
    refine V2 (jw (Nat.le_of_eq (hw.trans (hs1.trans hs).symm)) λ t2 hs2 hp2 => ?_)
    refine m5 (λ h => by cases h) (λ Z => ?_)
    refine y9 ?_
    refine cI (λ X => pnE (X := X) (hp2.trans (hp1.trans hp)) rfl) (λ Z Z => rfl) ?_ ?_
    ·exact (λ i X => pnE (X := X) (hp2.trans (hp1.trans hp)) (by simp only [if_neg sz1]))
    refine jx (hp2.trans (hp1.trans hp)) ?_
    refine Z1 rfl (λ Z => rfl) ?_
    exact exs_yield _ (λ X => rfl) (.w hw (hs2.trans (hs1.trans hs)) hw hn1 (hz.symm ▸ h0) rfl)
   ·have hw : _ + k = n := Nat.le_antisymm hk2 (ya6 hq (Nat.le_of_not_lt hkm)) ▸ ho
    refine y9 ?_
    refine cI (λ X => pnE (X := X) (hp1.trans hp) rfl) (λ Z Z => rfl) ?_ ?_
    ·exact (λ i X => pnE (X := X) (hp1.trans hp) (by simp only [if_neg sz1]))
    refine jx (hp1.trans hp) ?_
    refine Z1 rfl (λ Z => rfl) ?_
    exact exs_yield _ (λ X => rfl) (.w hw (hs1.trans hs) hw hn1 hk1 rfl)
  | w hx hs a1 a2 a3 hp =>
   refine n6 (λ h => ?_) (λ h => absurd (Nat.le_of_eq hx.symm) h)
   exact j3 (.b hs a1 a2 a3 hp)
 case post =>
  intro b t h
  induction h using SD.casesOn with
  | a hs hp =>
   refine cI (λ Z => rfl) (λ Z Z => rfl) ?_ ?_
   ·exact (λ i X => pnE (X := X) hp (by simp only [show (#[(0,n,0)] : Array (Nat × Nat × Nat)).size ≤ 1 from ya7 1,if_true]))
   exact n0 hs
  | b hs a1 a2 a3 hp =>
   refine q6 (λ Z b => b) (v1 (P := λ b t3 => b = (none,()) ∧ t3.a.size = n) (none,()) (FR n _ _ _) (λ Z => rfl) (.z hs hp) ?_ (λ Z Z h => h.fin)) ?_
   ·rintro x b t3 _ _ h
    induction h using FR.casesOn with
    | z hs hp =>
     refine y9 ?_
     refine rq hp a2 a3 (by rw [hs,a1]; exact ya7 n) (λ X => pnE (X := X) hp rfl) λ t4 hs4 hp4 => ?_
     exact h9 (.s (hs4.trans hs) hp4)
    | s hs hp =>
     refine y9 ?_
     exact j7 (λ X => pnE (X := X) hp rfl) (j3 ⟨rfl,hs⟩)
   rintro _ t3 ⟨rfl,hs3⟩
   exact n0 hs3
end
section
open PySem.Spec
noncomputable def jy (p q : Int × Int) : Bool := if p.1 == q.1 then (if p.2 == q.2 then false else decide (p.2 < q.2)) else decide (p.1 < q.1)
noncomputable def cOf (ps : KF) (i j : Nat) : Bool := jy (ps.getD (i % ps.length) (0,0)) (ps.getD (j % ps.length) (0,0))
theorem PRs.at {ps : KF} (h : PRs F ps us) : ∀ (i : Nat),i < ps.length → ∃ ta tb x o n,us.getD i .none = .ref x ∧ F x = some o ∧ o.cls = .type "tuple" ∧ o.data = .seq #[.int (ps.getD i (0,0)).1 ta,.int (ps.getD i (0,0)).2 tb] n := by
 induction h with
 | nil => intro i h; cases h
 | @cons a b ta tb x o n ps us f c d r ih =>
  intro i h
  induction i using Nat.casesOn with
  | zero => exact ⟨ta,tb,x,o,n,rfl,f,c,d⟩
  | succ i => exact ih i (Nat.lt_of_succ_lt_succ h)
theorem PRs.but {F F' : PH} {a : Addr} {ps : KF} (q : PRs F ps us) (hF : ∀ x o,x ≠ a → F x = some o → F' x = some o) : (∀ x,.ref x ∈ us → x ≠ a) → PRs F' ps us := by
 induction q with
 | nil => intro _; exact .nil
 | cons f c d r ih => intro hn; exact .cons (hF _ _ (hn _ mS) f) c d (ih λ x hx => hn x (mM _ hx))
theorem PRs.len {ps : KF} (h : PRs F ps us) : us.length = ps.length := by
 induction h with
 | nil => rfl
 | cons f c d r ih => exact congrArg Nat.succ ih
theorem PRs.pick {ps : KF} (h : PRs F ps us) : ∀ (l : List Nat),(∀ i ∈ l,i < ps.length) → PRs F (l.map λ i => ps.getD i (0,0)) (l.map λ i => us.getD i .none) := by
 intro l
 induction l with
 | nil => intro hl; exact .nil
 | cons i l ih =>
  intro hl
  obtain ⟨ta,tb,x,o,n,e,f,c,d⟩ := h.at i (hl i mS)
  rw [yc8,yc8,e]
  exact .cons f c d (ih λ j hj => hl j (mM _ hj))
theorem Q3 (ps : KF) (h2 : 2 ≤ ps.length) (h : ps.length < 128) : ∃ p : Array Nat,p.size = ps.length ∧ ∀ (X : Cx (cOf ps)) (Q : Unit → SortSt → Prop),(∀ pd g,Q () (SortSt.mk' X.κ (p.map X.item) pd g none)) → wpS X.M X.A X.E X.s sortRuns' Q (SortSt.mk' X.κ ((List.range ps.length).toArray.map X.item) #[] 7 none) := by
 refine U5 (nj (c := cOf ps) (t := ⟨(List.range ps.length).toArray,#[],7⟩) h2 h (by simp) rfl) λ b t' hs hr => ?_
 exact ⟨t'.a,hs,λ X Q q => hr X Q (q _ _)⟩
noncomputable def u2 (ps : KF) : List Nat := open Classical in if h : 2 ≤ ps.length ∧ ps.length < 128 then ((Q3 ps h.1 h.2).choose.toList.map λ i => i % ps.length) else List.range ps.length
noncomputable def aR (ps : KF) : List (Int × Int) := (u2 ps).map λ i => ps.getD i (0,0)
section
theorem rt {ps : KF} {i j : Nat} (hr : PRs s.heap.get? ps us) (hi : i < ps.length) (hj : j < ps.length) {Q : Bool → Shared → Prop} (h : Q (jy (ps.getD i (0,0)) (ps.getD j (0,0))) s) :
  wpAny (model prog w) A (keyLt' (tuples' true) (us.getD i .none) (us.getD j .none)) Q E s := by
 refine z9 λ G kG => ?_
 obtain ⟨ta,tb,x,o,n,e,f,c,d⟩ := hr.at i hi
 obtain ⟨ta',tb',x',o',n',e',f',c',d'⟩ := hr.at j hj
 refine kG ?_
 refine e.symm ▸ e'.symm ▸ ?_
 generalize ps.getD i (0,0) = p at *
 generalize ps.getD j (0,0) = q at *
 refine kat_lt (b := true) f d f' d' ?_
 refine kat_cons (wpAny_eqBool_int ?_)
 unfold jy at h
 cases h1 : (p.1 == q.1) with
 | true =>
  rw [h1] at h
  refine kat_yes (kat_cons (wpAny_eqBool_int ?_))
  cases h2 : (p.2 == q.2) with
  | true =>
   rw [h2] at h
   exact kat_yes (kat_nil h)
  | false =>
   rw [h2] at h
   refine kat_no (kat_one _ _ (lt_int (by exact h)))
 | false =>
  replace h := h1 ▸ h
  exact kat_no (oneLt_int h)
theorem fV {ps : KF} (hr : PRs s.heap.get? ps us) (h0 : 0 < ps.length) {Q : SortKind → Shared → Prop} (h : Q (tuples' true) s) :
  wpAny (model prog w) A (keyKind' us.toArray) Q E s := by
 have key : ∀ {ps : KF} {us : KK},PRs s.heap.get? ps us → ∃ fs : List Value,fs.length = ps.length ∧ KatTups s.heap us fs ∧ ∀ v ∈ fs,Looks (model prog w) s.heap (typeOf v) (.type "int") := by
  intro ps us hr
  induction hr with
  | nil => exact ⟨[],rfl,.nil,λ v hv => by cases hv⟩
  | cons f c d r ih =>
   refine lL (ih) λ fs hl hk ht => ?_
   refine ⟨_ :: fs,by rw [yb2,yb2,hl],.cons f c d rfl hk,λ v hv => ?_⟩
   rcases mcs hv with rfl | hv
   ·exact .now
   ·exact ht v hv
 refine lL (key hr) λ fs hl hk ht => ?_
 exact kat_kind hk (by lia) ht rfl h
theorem nq {ps : KF} (hr : PRs s.heap.get? ps us) (h2 : 2 ≤ ps.length) (hlt : ps.length < 128) {Q : Unit × SortSt → Shared → Prop}
  (h : ∀ st : SortSt,failedOf st = none → (arrOf st).map (·.2) = ((u2 ps).map λ i => us.getD i .none).toArray → Q ((),st) s) :
  wpAny (model prog w) A ((sortRuns').run (SortSt.mk' (tuples' true) (us.toArray.zip us.toArray) #[] 7 none)) Q E s := by
 have hl := hr.len
 have ok : ∀ i j (Q : Option Bool → SortSt → Prop) (st : SortSt),PyProof.Rows.kindOf st = tuples' true → Q (some (cOf ps i j)) st → wpS (model prog w) A E s (lt' (us.getD (i % ps.length) .none,us.getD (i % ps.length) .none) (us.getD (j % ps.length) .none,us.getD (j % ps.length) .none)) Q st := by
  intro i j Q st hk hq
  rw [lt'_eq]
  refine wpS_bind (wpS_get ?_)
  refine hk.symm ▸ ?_
  refine wpS_bind (wpS_lift (wpAny_attempt (rt hr (Nat.mod_lt _ (by lia)) (Nat.mod_lt _ (by lia)) ⟨rfl,?_⟩)))
  exact wpS_pure hq
 let X : Cx (cOf ps) := ⟨model prog w,A,E,s,tuples' true,λ i => (us.getD (i % ps.length) .none,us.getD (i % ps.length) .none),ok⟩
 have e0 : (us.toArray.zip us.toArray) = (List.range ps.length).toArray.map X.item := by
  apply Array.ext_getElem?
  intro i
  by_cases hi : i < us.length
  ·have hi' : i < ps.length := by lia
   simp [hi,hi',X,Nat.mod_eq_of_lt hi']
  ·have hi' : ¬ i < ps.length := by lia
   simp [hi,hi',X]
 have spec := (Q3 ps h2 hlt).choose_spec
 have e1 : u2 ps = (Q3 ps h2 hlt).choose.toList.map λ i => i % ps.length := by unfold u2; rw [dif_pos ⟨h2,hlt⟩]
 refine e0.symm ▸ ?_
 refine wpAny_mono (spec.2 X (λ Z st => Q ((),st) s) λ pd g => h _ rfl ?_) (λ r s' hq => ?_) λ Z Z e => e
 ·rw [e1]
  refine (?_ : ((Q3 ps h2 hlt).choose.map X.item).map (·.2) = _)
  apply Array.ext_getElem?
  intro i
  simp [X]
  rfl
 ·obtain ⟨rfl,hq⟩ := hq
  exact hq
theorem jz {ps : KF} {a : Addr} {P : PySem.Fin → Shared → Prop} (hr : PRs s.heap.get? ps us) (hlt : ps.length < 128) (ho : s.heap.get? a = some (seqObj "list" us.toArray n)) (hna : ∀ u ∈ us,u ≠ .ref a)
  (h : P (.done (.ret .none)) { s with heap := sortedHeap s.heap a us ((u2 ps).map λ i => us.getD i .none).toArray }) :
  wpAny (model prog w) A (Builtin.«list.sort» ⟨[.ref a],[]⟩) P E s := by
 have hl := hr.len
 rw [list_sort_plain]
 have ha : a < s.heap.objs.size := yb8 ho
 have big : ∀ k,k < 128 → k ≤ sizeLine := λ k hk => by rw [sizeLine_eq]; lia
 refine ya0 (listItems_at ho rfl ?_)
 refine ya0 (listUpdate_at ho rfl ?_ (by rw [yb5]; exact big _ (by lia)) (Nat.zero_le _))
 obtain ⟨e1,ho1⟩ : ∃ e1,(s.heap.update a (Obj.mapSeq λ Z => #[])).get? a = some (seqObj "list" #[] e1) := ⟨_,get?_update_seq ho (λ Z => #[])⟩
 refine ya0 (seqEpoch_at ho1 rfl ?_)
 refine ya0 (wpAny_newTuple ?_ (by show us.length ≤ _; exact big _ (by lia)))
 refine ya0 (wpAny_newList ?_ (Nat.zero_le _))
 refine wpAny_holding ?_
 have ho6 : (((s.heap.update a (Obj.mapSeq λ Z => #[])).push (seqObj "tuple" us.toArray 0)).push (seqObj "list" #[] 0)).get? a = some (seqObj "list" #[] e1) := by
  rw [Heap.get?_push_ne _ _ _ (by rw [size_push',Heap.size_update]; exact yb9 (Nat.lt_succ_of_lt ha)),Heap.get?_push_ne _ _ _ (by rw [Heap.size_update]; exact yb9 ha)]
  exact ho1
 have hr6 : PRs (((s.heap.update a (Obj.mapSeq λ Z => #[])).push (seqObj "tuple" us.toArray 0)).push (seqObj "list" #[] 0)).get? ps us := hr.but (λ x o hx e => by
   have hlt : x < s.heap.objs.size := yb8 e
   rw [Heap.get?_push_ne _ _ _ (by rw [size_push',Heap.size_update]; exact yb9 (Nat.lt_succ_of_lt hlt)),Heap.get?_push_ne _ _ _ (by rw [Heap.size_update]; exact yb9 hlt),Heap.get?_update_ne _ _ _ _ hx]
   exact e) (λ x hx e => hna _ hx (e.symm ▸ rfl))
 refine (?_ : wpAny (model prog w) A _ P E { s with heap := ((s.heap.update a (Obj.mapSeq λ Z => #[])).push (seqObj "tuple" us.toArray 0)).push (seqObj "list" #[] 0) })
 dsimp +instances only
 by_cases h2 : us.toArray.size < 2
 ·rw [if_pos h2,if_pos h2]
  refine ya0 (ya1 ?_)
  rw [StateT.run_pure]
  refine ya0 (ya1 ?_)
  dsimp +instances only
  refine ya0 (seqEpoch_at ho6 rfl ?_)
  refine ya0 (listUpdate_at ho6 rfl ?_ (Nat.zero_le _) (by rw [yc5]; exact Nat.le_succ_of_le (big _ (by show (us.toArray.zip us.toArray).size < 128; simp; lia))))
  rw [bne_self_eq_false]
  have e2 : (us.toArray.zip us.toArray).map (·.2) = ((u2 ps).map λ i => us.getD i .none).toArray := by
   have : u2 ps = List.range ps.length := by unfold u2; rw [dif_neg (by rw [yb5] at h2; lia)]
   rw [this]
   apply Array.ext_getElem?
   intro i
   by_cases hi : i < us.length
   ·have hi' : i < ps.length := by lia
    simp [hi,hi']
   ·have hi' : ¬ i < ps.length := by lia
    simp [hi,hi']
  refine ya1 ?_
  refine e2.symm ▸ ?_
  exact h
 ·rw [if_neg h2,if_neg h2]
  rw [yb5] at h2
  refine ya0 (fV hr6 (by lia) ?_)
  refine ya0 (nq hr6 (by lia) hlt λ st hf har => ?_)
  refine ya0 (seqEpoch_at ho6 rfl ?_)
  have hlen : (u2 ps).length = ps.length := by
   unfold u2; rw [dif_pos ⟨by lia,hlt⟩,yb4,Array.length_toList]
   exact (Q3 ps (by lia) hlt).choose_spec.1
  refine ya0 (listUpdate_at ho6 rfl ?_ (Nat.zero_le _) (by rw [har,yb5,yb4,hlen]; exact Nat.le_succ_of_le (big _ hlt)))
  refine hf.symm ▸ har.symm ▸ ?_
  rw [bne_self_eq_false]
  exact ya1 h
end
end
section
open PySem.Spec
theorem jA {ps : KF} : ∀ i ∈ u2 ps,i < ps.length := by
 intro i hi
 unfold u2 at hi
 split at hi
 ·rename_i h
  refine a9 (List.mem_map.mp hi) λ j _ eR2 => ?_
  subst eR2
  exact Nat.mod_lt _ (by omega)
 ·exact List.mem_range.mp hi
theorem jB {ps : KF} (hl : ps.length < 128) (h : k (.prs (aR ps)) O) : Op X (RV X) d O [.prs ps] (λ us => call (.builtin "sorted") us) k := by
 intro A E Q s F G J us hA r hv hk
 refine hv.oneE λ u hu => ?_
 cases hu with
 | prs f q =>
  rename_i l us n
  have hg := r.f _ _ f
  have hL : s.heap.IsList l us.toArray := ⟨_,hg,rfl,_,rfl⟩
  have hlen := q.len
  have qh : PRs s.heap.get? ps us := q.mono λ a o e => r.f a o e
  refine Calls.call_function_entry kind_sorted plain_sorted entry_sorted (args_sorted1 _) ?_
  unfold Builtin.«sorted»
  refine ya0 (m := PySem.checkCount "sorted" 1 1 _) (ya1 ?_)
  refine ya0 (collect_list hL ?_ (by rw [sizeLine_eq]; lia))
  refine ya0 (wpAny_newList ?_ (by rw [sizeLine_eq]; lia))
  have hsz : ((s.heap.push (seqObj "list" #[] 0)).update s.heap.objs.size (Obj.mapSeq (· ++ us.toArray))).objs.size = s.heap.objs.size + 1 := by
   rw [Heap.size_update,size_push']
  have hoL : (((s.heap.push (seqObj "list" #[] 0)).update s.heap.objs.size (Obj.mapSeq (· ++ us.toArray))).push (seqObj "list" us.toArray 0)).get? (s.heap.objs.size + 1) = some (seqObj "list" us.toArray 0) := by
   rw [← hsz]; exact ya8 _ rfl
  have keep : ∀ b o,s.heap.get? b = some o → (((s.heap.push (seqObj "list" #[] 0)).update s.heap.objs.size (Obj.mapSeq (· ++ us.toArray))).push (seqObj "list" us.toArray 0)).get? b = some o := λ b o e => by
   have hlt : b < s.heap.objs.size := yb8 e
   rw [Heap.get?_push_ne _ _ _ (by rw [hsz]; exact yb9 (Nat.lt_succ_of_lt hlt)),Heap.get?_update_ne _ _ _ _ (yb9 hlt),Heap.get?_push_ne _ _ _ (yb9 hlt)]
   exact e
  refine (?_ : wpAny _ _ _ _ _ { s with heap := ((s.heap.push (seqObj "list" #[] 0)).update s.heap.objs.size (Obj.mapSeq (· ++ us.toArray))).push (seqObj "list" us.toArray 0) })
  refine hsz.symm ▸ ?_
  have hsz2 : (((s.heap.push (seqObj "list" #[] 0)).update s.heap.objs.size (Obj.mapSeq (· ++ us.toArray))).push (seqObj "list" us.toArray 0)).objs.size = s.heap.objs.size + 2 := by rw [size_push',hsz]
  generalize hh : ((s.heap.push (seqObj "list" #[] 0)).update s.heap.objs.size (Obj.mapSeq (· ++ us.toArray))).push (seqObj "list" us.toArray 0) = h1 at hoL keep hsz2
  refine ya0 (wpAny_holding (wpAny_call_entry slot_list_sort ⟨_,hoL,rfl⟩ entry_list_sort (jz (ps := ps) (qh.mono keep) hl hoL (λ u hu e => ?_) ⟨_,rfl,?_⟩) (args_list_sort _)))
  ·subst e
   have key : ∀ {ps : KF} {us : KK},PRs s.heap.get? ps us → ∀ x,Value.ref x ∈ us → x < s.heap.objs.size := by
    intro ps us q x hx
    induction q with
    | nil => cases hx
    | cons f c d r ih =>
     rcases List.mem_cons.mp hx with e | hx
     ·cases e; exact yb8 f
     ·exact ih hx
   exact absurd (key qh _ hu) (Nat.not_lt.mpr (Nat.le_succ _))
  ·refine ya1 ⟨_,rfl,?_⟩
   have keep2 : ∀ b o,s.heap.get? b = some o → (sortedHeap h1 (s.heap.objs.size + 1) us ((u2 ps).map λ i => us.getD i .none).toArray).get? b = some o := λ b o e => by
    have hlt : b < s.heap.objs.size := yb8 e
    unfold sortedHeap
    have ne : ∀ k : Nat,s.heap.objs.size ≤ k → b ≠ k := λ k hk => yb9 (yb6 hlt hk)
    rw [Heap.get?_update_ne _ _ _ _ (ne _ (by lia)),Heap.get?_push_ne _ _ _ (ne _ (by rw [size_push',Heap.size_update,hsz2]; lia)),Heap.get?_push_ne _ _ _ (ne _ (by rw [Heap.size_update,hsz2]; lia)),Heap.get?_update_ne _ _ _ _ (ne _ (by lia))]
    exact keep b o e
   have own : ∃ n,(sortedHeap h1 (s.heap.objs.size + 1) us ((u2 ps).map λ i => us.getD i .none).toArray).get? (s.heap.objs.size + 1) = some (d7 ((u2 ps).map λ i => us.getD i .none).toArray n) := by
    obtain ⟨e1,ho1⟩ : ∃ e1,(h1.update (s.heap.objs.size + 1) (Obj.mapSeq λ _ => #[])).get? (s.heap.objs.size + 1) = some (seqObj "list" #[] e1) := ⟨_,get?_update_seq hoL (λ _ => #[])⟩
    have ho6 : (((h1.update (s.heap.objs.size + 1) (Obj.mapSeq λ _ => #[])).push (seqObj "tuple" us.toArray 0)).push (seqObj "list" #[] 0)).get? (s.heap.objs.size + 1) = some (seqObj "list" #[] e1) := by
     rw [Heap.get?_push_ne _ _ _ (yb9 (by rw [size_push',Heap.size_update,hsz2]; lia)),Heap.get?_push_ne _ _ _ (yb9 (by rw [Heap.size_update,hsz2]; lia))]
     exact ho1
    exact ⟨_,get?_update_seq ho6 _⟩
   obtain ⟨n',own⟩ := own
   refine i5 (r.newAt keep2 (Nat.le_succ _) own) λ x r' => ?_
   refine hk _ _ _ s.toks _ _ _ h x r' (.prs (n := n') ?_ ((q.mono x.f).pick (u2 ps) jA))
   unfold put; rw [if_pos rfl]
end
section
open PySem.Spec
noncomputable def ar1 (l : KN) (f : V → Prop) : Prop := match l with
 | [a] => f a
 | _ => False
noncomputable def ar2 (l : KN) (f : V → V → Prop) : Prop := match l with
 | [a,b] => f a b
 | _ => False
noncomputable def ar3 (l : KN) (f : V → V → V → Prop) : Prop := match l with
 | [a,b,c] => f a b c
 | _ => False
noncomputable def isI (v : V) (f : Int → Prop) : Prop := (fk v).elim False f
noncomputable def isH (v : V) (f : Nat → Prop) : Prop := (lW v).elim False f
noncomputable def isS (v : V) (f : Str → Prop) : Prop := (dM v).elim False f
@[elab_as_elim] theorem pj {l : KN} {f : V → Prop} {C : List V → Prop} (h : ar1 l f) (k : ∀ a,f a → C [a]) : C l := by
 rcases l with _ | ⟨a,_ | ⟨b,l⟩⟩
 ·exact False.elim h
 ·exact k _ h
 ·exact False.elim h
@[elab_as_elim] theorem eo {l : KN} {f : V → V → Prop} {C : List V → Prop} (h : ar2 l f) (k : ∀ a b,f a b → C [a,b]) : C l := by
 rcases l with _ | ⟨a,_ | ⟨b,_ | ⟨c,l⟩⟩⟩
 ·exact False.elim h
 ·exact False.elim h
 ·exact k _ _ h
 ·exact False.elim h
@[elab_as_elim] theorem uB {l : KN} {f : V → V → V → Prop} {C : List V → Prop} (h : ar3 l f) (k : ∀ a b c,f a b c → C [a,b,c]) : C l := by
 rcases l with _ | ⟨a,_ | ⟨b,_ | ⟨c,_ | ⟨d,l⟩⟩⟩⟩
 ·exact False.elim h
 ·exact False.elim h
 ·exact False.elim h
 ·exact k _ _ _ h
 ·exact False.elim h
@[elab_as_elim] theorem G2 {v : V} {f : Int → Prop} {C : V → Prop} (h : isI v f) (k : ∀ i,f i → C (.int i)) : C v := by
 cases v <;> first | exact k _ h | exact False.elim h
@[elab_as_elim] theorem V6 {v : V} {f : Nat → Prop} {C : V → Prop} (h : isH v f) (k : ∀ i,f i → C (.h i)) : C v := by
 cases v <;> first | exact k _ h | exact False.elim h
@[elab_as_elim] theorem V7 {v : V} {f : Str → Prop} {C : V → Prop} (h : isS v f) (k : ∀ i,f i → C (.str i)) : C v := by
 cases v <;> first | exact k _ h | exact False.elim h
noncomputable def s64 (a : Int) : Bool := decide (a.natAbs < 18446744073709551616)
theorem V8 {a : Int} (h : s64 a = true) : p8 a := by
 unfold s64 at h
 unfold p8
 have := ya3 h
 assumption
noncomputable def opB (op : Operator) (a b : Int) (k : Int → Prop) : Prop := match op with
 | .Add => k (a + b)
 | .Sub => k (a - b)
 | .Mult => cond (s64 a || s64 b) (k (a * b)) False
 | .FloorDiv => cond (decide (0 < b) && s64 b) (k (a / b)) False
 | .Mod => cond (decide (0 < b)) (k (a % b)) False
 | .Pow => cond (decide (0 ≤ b) && decide (b ≤ 1000000) && s64 a) (k (a ^ b.toNat)) False
 | .LShift => cond (decide (0 ≤ b) && decide (b ≤ 1000000) && s64 a) (k (a * 2 ^ b.toNat)) False
 | .RShift => cond (decide (0 ≤ b)) (k (a / 2 ^ b.toNat)) False
 | .BitAnd => k (Builtin.bitAnd a b)
 | .BitOr => k (Builtin.bitOr a b)
 | _ => False
theorem er {a b : Int} (h : 0 < b) : a.fdiv b = a / b := Int.fdiv_eq_ediv_of_nonneg a (Int.le_of_lt h)
theorem nt {a b : Int} (h : 0 < b) : a.fmod b = a % b := Int.fmod_eq_emod_of_nonneg a (Int.le_of_lt h)
theorem two_pow_pos (n : Nat) : (0 : Int) < 2 ^ n := by
 have := Nat.two_pow_pos n
 have e : ((2 ^ n : Nat) : Int) = 2 ^ n := by simp
 exact Int.ofNat_lt.mpr (by assumption)
theorem yx {op : Operator} {a b : Int} {k : Int → Prop} (h : opB op a b k) : opI op a b k := by
 unfold opB at h
 unfold opI
 cases op <;> dsimp only at h ⊢ <;> first | exact h | (obtain ⟨c,h⟩ := d8 h; simp only [Bool.and_eq_true,Bool.or_eq_true,decide_eq_true_eq] at c)
 ·exact ⟨c.imp V8 V8,h⟩
 ·rw [nt c]; exact ⟨by exact Int.ne_of_gt (by assumption),h⟩
 ·exact ⟨c.1.1,c.1.2,V8 c.2,h⟩
 ·exact ⟨c.1.1,c.1.2,V8 c.2,h⟩
 ·rw [er (two_pow_pos _)]; exact ⟨c,h⟩
 ·rw [er c.1]; exact ⟨by lia,V8 c.2,h⟩
theorem uC {op : Operator} (h : (op.ctorIdx == 0) = true) : op = .Add := Operator.Add.elim (motive := λ o => o = .Add) op (beq_iff_eq.mp h) rfl
theorem yy {op : Operator} (h : (op.ctorIdx == 2) = true) : op = .Mult := Operator.Mult.elim (motive := λ o => o = .Mult) op (beq_iff_eq.mp h) rfl
noncomputable def AV (xs : KM) (f : Int → Prop) : Prop := match xs with
 | [x] => f x
 | _ => False
@[elab_as_elim] theorem ru {l : KM} {f : Int → Prop} {C : List Int → Prop} (h : AV l f) (k : ∀ a,f a → C [a]) : C l := by
 rcases l with _ | ⟨a,_ | ⟨b,l⟩⟩
 ·exact False.elim h
 ·exact k _ h
 ·exact False.elim h
noncomputable def yz (held : Bool) (op : Operator) (a b : V) (O : KG) (k : KC) : Prop :=
 cond (op.ctorIdx == 0) (v7 (lO O a) λ i => v7 (lO O b) λ j => cond (decide (i.len + j.len ≤ 100000)) (cond held (k (.h O.length) (O ++ [(i.cat j).M])) (k (i.cat j).V O)) False) False
noncomputable def AW (op : Operator) (a : V) (n : Int) (O : KG) (k : KC) : Prop :=
 cond (op.ctorIdx == 2) (v7 (n4 O a) λ xs => AV xs λ x => cond (decide (0 ≤ n) && decide (n ≤ 100000)) (k (.h O.length) (O ++ [.nums (List.replicate n.toNat x)])) False) False
noncomputable def AX (op : Operator) (x y : Str) (O : KG) (k : KC) : Prop :=
 cond (op.ctorIdx == 0) (cond (decide (x.length + y.length ≤ 100000)) (k (.str (x ++ y)) O) False) False
noncomputable def BV (op : Operator) (a : V) (y : Int) (O : KG) (k : KC) : Prop := S9 (fk a) (λ x => opB op x y λ i => k (.int i) O) (AW op a y O k)
noncomputable def BW (held : Bool) (op : Operator) (a : V) (y : Str) (O : KG) (k : KC) : Prop := S9 (dM a) (λ x => AX op x y O k) (yz held op a (.str y) O k)
noncomputable def AY (held : Bool) (op : Operator) (a b : V) (O : KG) (k : KC) : Prop := S9 (fk b) (λ y => BV op a y O k) (S9 (dM b) (λ y => BW held op a y O k) (yz held op a b O k))
noncomputable abbrev yc (op : Operator) : List Value → Sem Value := λ us => binaryOp op (us.getD 0 .none) (us.getD 1 .none)
theorem V9 {held : Bool} {op : Operator} {a b : V} (h : yz held op a b O k) : Op X (RV X) d O [a,b] (yc op) k := by
 refine i5 (d8 h) λ c h1 => ?_
 obtain rfl := uC c
 refine a9 (c9 h1) λ i e1 h => a9 (c9 h) λ j e2 h => i5 (d8 h) λ c h => ?_
 replace c := ya3 c
 induction held using Bool.casesOn with
 | true => exact Y2 e1 e2 c h
 | false => exact aF e1 e2 c h
theorem fW {op : Operator} {a : V} {n : Int} (h : AW op a n O k) : Op X (RV X) d O [a,.int n] (yc op) k := by
 refine i5 (d8 h) λ c h1 => ?_
 obtain rfl := yy c
 refine a9 (c9 h1) λ xs e1 h2 => ?_
 revert e1
 refine ru h2 λ x h e1 => i5 (d8 h) λ c h => anB c λ c1 c2 => ?_
 exact cg e1 (ya3 c1) (ya3 c2) h
theorem fX {op : Operator} {x y : Str} (h : AX op x y O k) : Op X (RV X) d O [.str x,.str y] (yc op) k := by
 refine i5 (d8 h) λ c h1 => ?_
 obtain rfl := uC c
 exact cc (ya3 (d8 h1).1) (d8 h1).2
theorem fY {held : Bool} {op : Operator} {a b : V} (h : AY held op a b O k) : Op X (RV X) d O [a,b] (yc op) k := by
 refine k9 h (λ y e h1 => ?_) λ h1 => k9 h1 (λ y e h2 => ?_) λ h2 => V9 h2
 ·cases C5 e
  refine k9 h1 (λ x e2 h2 => ?_) λ h2 => fW h2
  cases C5 e2
  exact ij (yx h2)
 ·cases C6 e
  refine k9 h2 (λ x e2 h3 => ?_) λ h3 => V9 h3
  cases C6 e2
  exact fX h3
inductive Bi where
 | len | int | str | abs | sum | any | tuple | list | range | bytes | sorted | enumerate | zip
noncomputable def Bi.val : Bi → Value
 | .len => .builtin "len" | .int => .type "int" | .str => .type "str" | .abs => .builtin "abs" | .sum => .builtin "sum" | .any => .builtin "any"
 | .tuple => .type "tuple" | .list => .type "list" | .range => .type "range" | .bytes => .type "bytes" | .sorted => .builtin "sorted"
 | .enumerate => .type "enumerate" | .zip => .type "zip"
theorem Bi.keep (b : Bi) : v9 X b.val := by cases b <;> first | exact J6 | exact il
noncomputable def AZ (v : V) (O : KG) : Option Nat := orE (lN v) (λ ws => some ws.length) (orE (qs v) (λ xs => some xs.length) (U7 O v))
noncomputable def uD (i : Int) : Int := if i < 0 then -i else i
noncomputable def b2i (b : Bool) : Int := cond b 1 0
noncomputable def uE (v : V) (O : KG) (k : KC) : Prop := v7 (AZ v O) λ n => cond (decide (n < 1000000)) (k (.int n) O) False
noncomputable def pk (x : Str) (O : KG) (k : KC) : Prop := v7 (PySem.intText? x) λ n => cond (decide (x.length ≤ 640)) (k (.int n) O) False
noncomputable def uF (v : V) (O : KG) (k : KC) : Prop := S9 (fk v) (λ i => k (.int i) O) (S9 (qr v) (λ b => k (.int (b2i b)) O) (isS v λ x => pk x O k))
noncomputable def uG (v : V) (O : KG) (k : KC) : Prop := v7 (n4 O v) λ xs => k (.int xs.sum) O
noncomputable def uH (v : V) (O : KG) (k : KC) : Prop := v7 (V1 O v) λ ws => v7 (Y4 ws) λ bs => k (.bool (um bs)) O
noncomputable def pn (v : V) (O : KG) (k : KC) : Prop := v7 (V1 O v) λ ws => cond (decide (ws.length ≤ 100000)) (k (.tup ws) O) False
noncomputable def uI (v : V) (O : KG) (k : KC) : Prop := S9 (lN v) (λ ws => k (.tup ws) O) (pn v O k)
noncomputable def pp (v : V) (O : KG) (k : KC) : Prop := v7 (oW O v) λ ws => cond (decide (ws.length ≤ 100000)) (k (w3 ws) O) False
noncomputable def uJ (v : V) (O : KG) (k : KC) : Prop := v7 (n4 O v) λ xs => cond (i9 xs && decide (xs.length ≤ 100000)) (k (.byt xs) O) False
noncomputable def uK (v : V) (O : KG) (k : KC) : Prop := v7 (yn v) λ ps => cond (Nat.blt ps.length 128) (k (.prs (aR ps)) O) False
noncomputable def BX (b : Bi) (v : V) (O : KG) (k : KC) : Prop := match b with
 | .len => uE v O k
 | .int => uF v O k
 | .str => isI v λ i => cond (s64 i) (k (.str (toString i)) O) False
 | .abs => isI v λ i => k (.int (uD i)) O
 | .sum => uG v O k
 | .any => uH v O k
 | .tuple => uI v O k
 | .list => pp v O k
 | .range => isI v λ n => k (.rng 0 n) O
 | .bytes => uJ v O k
 | .sorted => uK v O k
 | .enumerate => False
 | .zip => False
noncomputable def biV (b : Bi) (args : KN) (O : KG) (k : KC) : Prop := ar1 args λ v => BX b v O k
theorem uL (e : AZ v O = some n) (hb : n < 1000000) (h : k (.int n) O) : Op X (RV X) d O [v] (λ us => call (.builtin "len") us) k := by
 refine i8 e (λ ws q e => ?_) λ e => i8 e (λ xs q e => ?_) λ e => bZ e hb h
 ·cases A4 q; obtain rfl := sj e; exact fH hb h
 ·cases N2 q; obtain rfl := sj e; exact fJ hb h
section
theorem cJ (h : uE v O k) : Op X (RV X) d O [v] (λ us => call (.builtin "len") us) k :=
 a9 (c9 h) λ n e h => uL e (ya3 (d8 h).1) (d8 h).2
theorem aS (h : pk x O k) : Op X (RV X) d O [.str x] (λ us => call (.type "int") us) k :=
 a9 (c9 h) λ n e h => fP e (ya3 (d8 h).1) (d8 h).2
theorem cK (h : uF v O k) : Op X (RV X) d O [v] (λ us => call (.type "int") us) k := by
 refine k9 h (λ i e h1 => ?_) λ h1 => k9 h1 (λ i e h2 => ?_) λ h2 => V7 h2 λ x h => aS h
 ·cases C5 e; exact fK h1
 ·cases E6 e; exact ca h2
theorem cL (h : uG v O k) : Op X (RV X) d O [v] (λ us => call (.builtin "sum") us) k :=
 a9 (c9 h) λ n e h => ug e h
theorem cM (h : uH v O k) : Op X (RV X) d O [v] (λ us => call (.builtin "any") us) k :=
 a9 (c9 h) λ n e h => a9 (c9 h) λ n e' h => un e e' h
theorem aT (h : pn v O k) : Op X (RV X) d O [v] (λ us => call (.type "tuple") us) k :=
 a9 (c9 h) λ n e h => Y1 e (ya3 (d8 h).1) (d8 h).2
theorem cN (h : uI v O k) : Op X (RV X) d O [v] (λ us => call (.type "tuple") us) k := by
 refine k9 h (λ ws e h1 => ?_) λ h => aT h
 cases A4 e; exact aE h1
theorem aU (h : pp v O k) : Op X (RV X) d O [v] (λ us => call (.type "list") us) k :=
 a9 (c9 h) λ n e h => qL e (ya3 (d8 h).1) (d8 h).2
theorem cO (h : uJ v O k) : Op X (RV X) d O [v] (λ us => call (.type "bytes") us) k :=
 a9 (c9 h) λ n e h => i5 (d8 h) λ c h => anB c λ c1 c2 => mX e c1 (ya3 c2) h
theorem cP (h : uK v O k) : Op X (RV X) d O [v] (λ us => call (.builtin "sorted") us) k := by
 refine a9 (c9 h) λ ps e h1 => ?_
 cases iu e
 exact jB (yc3 (d8 h1).1) (d8 h1).2
theorem jC {b : Bi} (h : biV b args O k) : Op X (RV X) d O args (λ us => call b.val us) k := by
 refine pj h λ v h => ?_
 induction b using Bi.casesOn with
 | len => exact cJ h
 | int => exact cK h
 | str => exact G2 h λ i h => fL (V8 (d8 h).1) (d8 h).2
 | abs => exact G2 h λ i h => uf h
 | sum => exact cL h
 | any => exact cM h
 | tuple => exact cN h
 | list => exact aU h
 | range => exact G2 h λ i h => mw h
 | bytes => exact cO h
 | sorted => exact cP h
 | enumerate => exact False.elim h
 | zip => exact False.elim h
end
end
section
open PySem.Spec
noncomputable def unfz : V → V
 | .fz v => v
 | v => v
theorem VR.unfz {P : Params} {F : PH} {J : KH} {v : V} {u : Value} (h : VR P F J v u) : VR P F J (unfz v) u := by
 cases h <;> first | assumption | (constructor <;> assumption)
noncomputable def asI : MO → Option (List (Int × Int))
 | .imap es => some es
 | .emp => some []
 | _ => none
noncomputable def asS : MO → Option (List (Str × V))
 | .smap es => some es
 | .emp => some []
 | _ => none
noncomputable def asT : MO → Option (List (List Int × V))
 | .tmap es => some es
 | .emp => some []
 | _ => none
section
variable {m : MO}
theorem et {K : Type} [DecidableEq K] {knd : KeyKind prog w K} {ep : Nat} (h1 : o.ExactDict) (h2 : o.data = .dict #[] ep) : o.IsDictOf knd [] :=
 ⟨#[],ep,h1,h2,by intro e he; simp at he,.nil,.nil⟩
theorem MR.asI {es : KF} (h : MR prog w F J m o) (e : Mine.Internal.asI m = some es) : MR prog w F J (.imap es) o := by
 cases h <;> cases e
 ·exact .imap ‹_› ‹_›
 ·exact .imap .nil (et ‹_› ‹_›)
theorem MR.asS {es : KD} (h : MR prog w F J m o) (e : Mine.Internal.asS m = some es) : MR prog w F J (.smap es) o := by
 cases h <;> cases e
 ·exact .smap ‹_› ‹_›
 ·exact .smap .nil (et ‹_› ‹_›)
theorem MR.asT {es : KJ} (h : MR prog w F J m o) (e : Mine.Internal.asT m = some es) : MR prog w F J (.tmap es) o := by
 cases h <;> cases e
 ·exact .tmap ‹_› ‹_› ‹_› ‹_› ‹_›
 ·exact .tmap (xs := []) .nil ‹_› ‹_› rfl .nil
end
theorem Rel.re {h : Heap} {m m' : MO} (r : Rel X F G J O h) (hs : O[n]? = some m) (hm : ∀ o,MR X.prog X.w F J m o → MR X.prog X.w F J m' o) : Rel X F G J (O.set n m') h := by
 refine ⟨r.base,r.f,r.g,r.fg,r.nd,r.rf,by simp [r.len],λ k a o e1 e2 => ?_⟩
 by_cases q : k = n
 ·subst q
  have hl : k < O.length := (List.getElem?_eq_some_iff.mp hs).1
  rw [List.getElem?_set_self hl] at e2
  obtain rfl := sj e2
  obtain ⟨x,hx,hr⟩ := r.m k a m e1 hs
  exact ⟨x,hx,hm x hr⟩
 ·rw [List.getElem?_set_ne (Ne.symm q)] at e2
  exact r.m k a o e1 e2
theorem y4 {a m : MO} (h : O[n]? = some m) : (O.set n a)[n]? = some a := by
 rw [List.getElem?_set_self (List.getElem?_eq_some_iff.mp h).1]
theorem eu {m : MO} (h : O[n]? = some m) : O.set n m = O := by
 induction O generalizing n with
 | nil => rfl
 | cons a O ih =>
  induction n using Nat.casesOn with
  | zero => exact congrArg (λ x => x :: O) (sj h).symm
  | succ n => exact congrArg (λ x => a :: x) (ih h)
theorem ry {α β : Type} {R : PH → List Addr → β → α → Prop} {t : List Value → Sem α} {k : β → List MO → Prop} {m m' : MO} (hs : O[n]? = some m) (hm : ∀ F J o,MR X.prog X.w F J m o → MR X.prog X.w F J m' o)
  (h : Op X R d (O.set n m') vs t k) : Op X R d O vs t k :=
 λ A E Q s F G J us hA r hv hk => h A E Q s F G J us hA (r.re hs (hm F J)) hv hk
noncomputable def uM (n : Nat) (xs : KM) (i : Int) (v : V) (O : KG) (k : List MO → Prop) : Prop := isI v λ v => cond (inB i xs.length) (k (O.set n (.nums (xs.set i.toNat v)))) False
noncomputable def rz (n : Nat) (m : MO) (i : Int) (v : V) (O : KG) (k : List MO → Prop) : Prop := match asI m with
 | some es => isI v λ v => cond (decide (es.length ≤ 1000000)) (k (O.set n (.imap (Y3 es i v)))) False
 | none => False
noncomputable def pq (n : Nat) (m : MO) (i : Int) (v : V) (O : KG) (k : List MO → Prop) : Prop := match m with
 | .nums xs => uM n xs i v O k
 | .lst xs => cond (inB i xs.length) (k (O.set n (.lst (xs.set i.toNat v)))) False
 | m => rz n m i v O k
noncomputable def jD (n : Nat) (m : MO) (i : Str) (v : V) (O : KG) (k : List MO → Prop) : Prop := match asS m with
 | some es => cond (decide (es.length ≤ 1000000)) (k (O.set n (.smap (uk es i v)))) False
 | none => False
noncomputable def jE (n : Nat) (m : MO) (ws : KN) (v : V) (O : KG) (k : List MO → Prop) : Prop := match asT m with
 | some es => match s8 ws with
  | some ks => cond (decide (es.length ≤ 100000)) (k (O.set n (.tmap (ya es ks v)))) False
  | none => False
 | none => False
noncomputable def setM (n : Nat) (m : MO) (i v : V) (O : KG) (k : List MO → Prop) : Prop := match i with
 | .int i => pq n m i v O k
 | .str i => jD n m i v O k
 | .tup ws => jE n m ws v O k
 | _ => False
noncomputable def setH (n : Nat) (i v : V) (O : KG) (k : List MO → Prop) : Prop := match O[n]? with
 | some m => setM n m i v O k
 | none => False
noncomputable def Ba (o i v : V) (O : KG) (k : List MO → Prop) : Prop := isH o λ n => setH n i v O k
noncomputable abbrev uN : List Value → Sem Unit := λ us => setItem (us.getD 0 .none) (us.getD 1 .none) (us.getD 2 .none)
section
variable {m : MO} {k : List MO → Prop}
theorem aV {i : Int} (hs : O[n]? = some m) (h : pq n m i v O k) : Op X RU d O [.h n,.int i,v] uN (λ Z σ' => k σ') := by
 have gen : rz n m i v O k → Op X RU d O [.h n,.int i,v] uN (λ Z σ' => k σ') := λ h => by
  unfold rz at h
  split at h
  ·rename_i es e
   refine G2 h λ v h => ?_
   refine i5 (d8 h) λ c h => ?_
   refine ry hs (λ F J o hm => hm.asI e) (O1 (k := λ Z σ' => k σ') (y4 hs) (ya3 c) ?_)
   rw [List.set_set]; exact h
  ·exact h.elim
 induction m using MO.casesOn with
 | nums xs => exact G2 h λ v h => N6 (k := λ Z σ' => k σ') hs (d8 h).1 (d8 h).2
 | lst xs => exact T0 (k := λ Z σ' => k σ') hs (d8 h).1 (d8 h).2
 | _ => exact gen h
theorem aW {i : Str} (hs : O[n]? = some m) (h : jD n m i v O k) : Op X RU d O [.h n,.str i,v] uN (λ Z σ' => k σ') := by
 unfold jD at h
 split at h
 ·rename_i es e
  refine i5 (d8 h) λ c h => ?_
  refine ry hs (λ F J o hm => hm.asS e) (O2 (k := λ Z σ' => k σ') (y4 hs) (ya3 c) ?_)
  rw [List.set_set]; exact h
 ·exact h.elim
theorem aX {ws : KN} (hs : O[n]? = some m) (h : jE n m ws v O k) : Op X RU d O [.h n,.tup ws,v] uN (λ Z σ' => k σ') := by
 unfold jE at h
 split at h
 ·rename_i es e
  split at h
  ·rename_i ks ek
   refine i5 (d8 h) λ c h => ?_
   refine ry hs (λ F J o hm => hm.asT e) (O7 (k := λ Z σ' => k σ') (y4 hs) ek (ya3 c) ?_)
   rw [List.set_set]; exact h
  ·exact h.elim
 ·exact h.elim
theorem fZ {o i : V} (h : Ba o i v O k) : Op X RU d O [o,i,v] uN (λ Z σ' => k σ') := by
 refine V6 h λ n h => ?_
 unfold setH at h
 split at h
 ·rename_i m hs
  induction i using V.casesOn with
  | int i => exact aV hs h
  | str i => exact aW hs h
  | tup ws => exact aX hs h
  | _ => exact False.elim h
 ·exact h.elim
end
noncomputable def gc (es : KF) (i : Int) (k : V → Prop) : Prop := match s6 es i with
 | some v => k (.int v)
 | none => False
noncomputable def jF (n : Nat) (i : Int) (O : KG) (k : V → Prop) : Prop := match O[n]? with
 | some m => match m with
  | .imap es => gc es i k
  | .pin _ es => gc es i k
  | _ => yr O (.h n) i k
 | none => False
noncomputable def uO (o : V) (i : Int) (O : KG) (k : V → Prop) : Prop := match o with
 | .h n => jF n i O k
 | o => yr O o i k
noncomputable def pr (n : Nat) (x : Str) (O : KG) (k : V → Prop) : Prop := match O[n]? with
 | some m => match m with
  | .smap es => match oY es x with
   | some v => k v
   | none => False
  | _ => False
 | none => False
noncomputable def pt (n : Nat) (ws : KN) (O : KG) (k : V → Prop) : Prop := match O[n]? with
 | some m => match m with
  | .tmap es => match s8 ws with
   | some ks => match ck es ks with
    | some v => k (unfz v)
    | none => False
   | none => False
  | _ => False
 | none => False
noncomputable def yA (o i : V) (O : KG) (k : V → Prop) : Prop := match i with
 | .int i => uO o i O k
 | .str x => isH o λ n => pr n x O k
 | .tup ws => isH o λ n => pt n ws O k
 | _ => False
section
variable {value slice : Expr} {o i : V} {u w : Value} {k : V → Prop}
theorem ew {i : Int} (h : gc es i k) : ∃ v,s6 es i = some v ∧ k (.int v) := by
 unfold gc at h
 split at h
 ·rename_i v e; exact ⟨v,e,h⟩
 ·exact h.elim
theorem nu {a : Addr} {j : Int} {t : Tok} (r : Rel X F G J O s.heap) (ho : VR X.w.params F J (.h n) (.ref a)) (ha : J[n]? = some a) (hp : m4 slice = true) (h : jF n j O k) (hQ : ∀ v x tk,k v → VR X.w.params F J v x → Q x { s with toks := tk }) :
  wpAny (model X.prog X.w) A (subscriptTail value slice (.ref a) (.int j t)) Q E s := by
 unfold jF at h
 split at h
 ·rename_i m hs
  induction m using MO.casesOn with
  | imap es =>
   refine a9 (ew h) λ v hg h => ?_
   exact aG r ha hs hg hp λ t' tk => hQ _ _ tk h (.int _ _)
  | pin o es =>
   refine a9 (ew h) λ v hg h => ?_
   exact cj r ha hs hg hp λ t' tk => hQ _ _ tk h (.int _ _)
  | _ => exact iF r ho hp h hQ
 ·exact h.elim
theorem rA (hA : C3 d A) (r : Rel X F G J O s.heap) (ho : VR X.w.params F J o u) (hi : VR X.w.params F J i w) (hp : m4 slice = true) (h : yA o i O k) (hQ : ∀ v x tk,k v → VR X.w.params F J v x → Q x { s with toks := tk }) :
  wpAny (model X.prog X.w) A (subscriptTail value slice u w) Q E s := by
 induction i using V.casesOn with
 | int j =>
  refine hi.intE λ t => ?_
  induction o using V.casesOn with
  | h n =>
   have ho' := ho
   revert ho'
   refine ho.hE λ a ha ho' => ?_
   exact nu r ho' ha hp h hQ
  | _ => exact iF r ho hp h hQ
 | str x =>
  refine hi.strE λ t => ?_
  revert ho
  refine V6 h λ n h ho => ?_
  refine ho.hE λ a ha => ?_
  unfold pr at h
  split at h
  ·rename_i m hs
   induction m using MO.casesOn with
   | smap es =>
    dsimp only at h
    split at h
    ·rename_i v hg; exact aH r ha hs hg hp λ u tk hu => hQ _ _ tk h hu
    ·exact h.elim
   | _ => exact False.elim h
  ·exact h.elim
 | tup ws =>
  revert ho
  refine V6 h λ n h ho => ?_
  refine ho.hE λ a ha => ?_
  unfold pt at h
  split at h
  ·rename_i m hs
   induction m using MO.casesOn with
   | tmap es =>
    dsimp only at h
    split at h
    ·rename_i ks hk
     split at h
     ·rename_i v hg; exact aJ hA r ha hs hi hk hg hp λ u tk hu => hQ _ _ tk h hu.unfz
     ·exact h.elim
    ·exact h.elim
   | _ => exact False.elim h
  ·exact h.elim
 | _ => exact False.elim h
end
theorem pu {value slice : Expr} {pos : Pos} {k : KB} (hp : m4 slice = true)
  (h : Ev X (RV X) d env D O [] (λ Z => eval value env) (λ o Eg Eh => Ev X (RV X) d env Eg Eh [o] (λ Z => eval slice env) (λ iv Ej Ei => yA o iv Ei (λ v => k v Ej Ei)))) :
  Ev X (RV X) d env D O vs (λ Z => eval (.Subscript value slice pos) env) k := by
 intro A E Q s F G J us hA r f hv hk
 refine Subscript_ ?_
 refine h A E _ s F G J [] hA r f .nil λ o u Eo Er Eu Em Eh Eg z Ey En Es Et => ?_
 refine z A E _ _ Eu G Em [u] hA En Es (.cons Et .nil) λ b EO Ew Ek EE El Ei Ej EF EA Ep EC Ez => ?_
 exact rA hA Ep (Et.mono EA) Ez hp EF λ v x tk hkk hx => hk v x Ew tk EE El Ei Ej hkk (Ey.trans EA) Ep EC hx
inductive Me where
 | append | extend | get | split | lstrip
noncomputable def Me.val : Me → Value
 | .append => .builtin "list.append" | .extend => .builtin "list.extend" | .get => .builtin "dict.get" | .split => .builtin "str.split" | .lstrip => .builtin "str.lstrip"
theorem Me.keep (b : Me) : v9 X b.val := by cases b <;> exact J6
noncomputable def nv (name : Str) : Option Me := if name == "append" then some .append else if name == "extend" then some .extend else none
noncomputable def gd (name : Str) : Option Me := if name == "get" then some .get else none
noncomputable def rB (name : Str) : Option Me := if name == "split" then some .split else if name == "lstrip" then some .lstrip else none
noncomputable def meM (m : MO) (name : Str) : Option Me := match m with
 | .nums _ => nv name
 | .lst _ => nv name
 | .imap _ => gd name
 | .tmap _ => gd name
 | .ftm _ => gd name
 | .emp => gd name
 | _ => none
noncomputable def meH (n : Nat) (name : Str) (O : KG) : Option Me := match O[n]? with
 | some m => meM m name
 | none => none
noncomputable def yB (ov : V) (name : Str) (O : KG) : Option Me := match ov with
 | .h n => meH n name O
 | .str _ => rB name
 | _ => none
theorem ez {name : Str} {me : Me} (e : nv name = some me) : (name = "append" ∧ me = .append) ∨ (name = "extend" ∧ me = .extend) := by
 unfold nv at e
 split at e
 ·rename_i q; obtain rfl := sj e; exact .inl ⟨beq_iff_eq.mp q,rfl⟩
 ·split at e
  ·rename_i q; obtain rfl := sj e; exact .inr ⟨beq_iff_eq.mp q,rfl⟩
  ·cases e
theorem nw {name : Str} {me : Me} (e : rB name = some me) : (name = "split" ∧ me = .split) ∨ (name = "lstrip" ∧ me = .lstrip) := by
 unfold rB at e
 split at e
 ·rename_i q; obtain rfl := sj e; exact .inl ⟨beq_iff_eq.mp q,rfl⟩
 ·split at e
  ·rename_i q; obtain rfl := sj e; exact .inr ⟨beq_iff_eq.mp q,rfl⟩
  ·cases e
theorem M2 {name : Str} {me : Me} (e : gd name = some me) : name = "get" ∧ me = .get := by
 unfold gd at e
 split at e
 ·rename_i q; obtain rfl := sj e; exact ⟨beq_iff_eq.mp q,rfl⟩
 ·cases e
theorem jG {m : MO} {name : Str} {me : Me} (hs : O[n]? = some m) (e : meM m name = some me) : hX X d (.h n) name me.val [.h n] O := by
 induction m using MO.casesOn with
 | nums xs =>
  rcases ez e with ⟨rfl,rfl⟩ | ⟨rfl,rfl⟩
  ·exact O3 hs rfl
  ·exact O4 hs rfl
 | lst xs =>
  rcases ez e with ⟨rfl,rfl⟩ | ⟨rfl,rfl⟩
  ·exact O3 hs rfl
  ·exact O4 hs rfl
 | imap xs =>
  obtain ⟨rfl,rfl⟩ := M2 e
  exact dU hs
 | tmap xs =>
  obtain ⟨rfl,rfl⟩ := M2 e
  intro A E Q s F G J u pl hA r hu hQ
  have hu' := hu
  revert hQ hu'
  refine hu.hE λ a ha hQ hu' => ?_
  obtain ⟨xs,_,hd⟩ := r.tmap ha hs
  exact getMethod_builtin hd.typeIs PySem.F.plainAttrs_dict PySem.F.slot_dict_get PySem.F.type_dict_get (dictOfH_noDict hd) (hQ _ s.toks (.cons hu' .nil))
 | ftm xs =>
  obtain ⟨rfl,rfl⟩ := M2 e
  intro A E Q s F G J u pl hA r hu hQ
  have hu' := hu
  revert hQ hu'
  refine hu.hE λ a ha hQ hu' => ?_
  obtain ⟨xs,_,hd⟩ := r.ftm ha hs
  exact getMethod_builtin hd.typeIs PySem.F.plainAttrs_dict PySem.F.slot_dict_get PySem.F.type_dict_get (dictOfH_noDict hd) (hQ _ s.toks (.cons hu' .nil))
 | emp =>
  obtain ⟨rfl,rfl⟩ := M2 e
  intro A E Q s F G J u pl hA r hu hQ
  exact dU (O := O.set _ (.imap [])) (es := []) (y4 hs) A E Q s F G J u pl hA (r.re hs λ o hm => hm.asI rfl) hu hQ
 | _ => cases e
theorem ge {ov : V} {name : Str} {me : Me} (e : yB ov name O = some me) : hX X d ov name me.val [ov] O := by
 induction ov using V.casesOn with
 | h n =>
  have e : meH n name O = some me := e
  unfold meH at e
  split at e
  ·rename_i m hs; exact jG hs e
  ·cases e
 | str x =>
  rcases nw e with ⟨rfl,rfl⟩ | ⟨rfl,rfl⟩
  ·exact dX PySem.F.slot_str_split PySem.F.type_str_split
  ·exact dX PySem.F.slot_str_lstrip PySem.F.type_str_lstrip
 | _ => cases e
noncomputable def Z2 (n : Nat) (v : V) (O : KG) (k : KC) : Prop := match O[n]? with
 | some m => match iG v m with
  | some m' => cond (decide (fw m ≤ 100000)) (k .none (O.set n m')) False
  | none => False
 | none => False
noncomputable def Z3 (n : Nat) (v : V) (O : KG) (k : KC) : Prop := match O[n]? with
 | some m => match lO O v with
  | some i => match ul i m with
   | some m' => cond (decide (fw m + i.len ≤ 100000)) (k .none (O.set n m')) False
   | none => False
  | none => False
 | none => False
noncomputable def jH (n : Nat) (i dv : Int) (O : KG) (k : KC) : Prop := match O[n]? with
 | some m => match m with
  | .imap es => k (.int ((s6 es i).getD dv)) O
  | .emp => k (.int dv) O
  | _ => False
 | none => False
noncomputable def jI (n : Nat) (ws : KN) (dv : V) (O : KG) (k : KC) : Prop := match O[n]? with
 | some m => match s8 ws with
  | some ks => match m with
   | .tmap es => k (unfz ((ck es ks).getD dv)) O
   | .ftm es => k (unfz ((ck es ks).getD dv)) O
   | _ => False
  | none => False
 | none => False
noncomputable def uP (n : Nat) (i dv : V) (O : KG) (k : KC) : Prop := match i with
 | .int i => isI dv λ dv => jH n i dv O k
 | .tup ws => jI n ws dv O k
 | _ => False
noncomputable def eA (x : Str) (O : KG) (k : KC) : Prop := cond (decide (x.length ≤ 100000) && decide ((Builtin.Str.spaceWords x (x.length + 1)).length ≤ 100000)) (k (.lst ((Txt.words x).map .str)) O) False
noncomputable def eC (x y : Str) (O : KG) (k : KC) : Prop := cond (decide (x.length ≤ 100000) && !(y.length == 0) && decide ((Builtin.Str.partsBetween x (Builtin.Str.occurrences x y 0 x.length (x.length + 1)) y.length).length ≤ 100000)) (k (.lst ((Txt.split x y).map .str)) O) False
noncomputable def jJ (args : KN) (O : KG) (k : KC) : Prop := match args with
 | [a] => isS a λ x => eA x O k
 | [a,b] => isS a λ x => isS b λ y => eC x y O k
 | _ => False
noncomputable def meV (me : Me) (args : KN) (O : KG) (k : KC) : Prop := match me with
 | .append => ar2 args λ a v => isH a λ n => Z2 n v O k
 | .extend => ar2 args λ a v => isH a λ n => Z3 n v O k
 | .get => ar3 args λ a i dv => isH a λ n => uP n i dv O k
 | .split => jJ args O k
 | .lstrip => ar2 args λ a b => isS a λ x => isS b λ y => cond (decide (x.length ≤ 100000)) (k (.str (Txt.lstripChars x y)) O) False
theorem Z4 {t : List Value → Sem Value} {k : KC} (h : Op X (RV X) d O vs t (λ v σ' => k (unfz v) σ')) : Op X (RV X) d O vs t k :=
 λ A E Q s F G J us hA r hv hk => h A E Q s F G J us hA r hv λ v u h' tk' F' ρ' σ' z x r' hr => hk _ u h' tk' F' ρ' σ' z x r' (VR.unfz hr)
theorem gf {i dv : Int} {k : KC} (hsys : ∃ o,X.h₀.get? sysModules = some o) (hs : O[n]? = some .emp) (h : k (.int dv) O) : Op X (RV X) d O [.h n,.int i,.int dv] (λ us => call (.builtin "dict.get") us) k := by
 intro A E Q s F G J us hA r hv hk
 refine O5 (O := O.set n (.imap [])) (es := []) (k := λ v σ' => v = .int dv ∧ σ' = O.set n (.imap [])) hsys (y4 hs) ⟨rfl,rfl⟩ A E Q s F G J us hA (r.re hs λ o hm => hm.asI rfl) hv λ v u h' tk' F' ρ' σ' z x r' hr => ?_
 obtain ⟨rfl,rfl⟩ := z
 have r2 := r'.re (y4 (a := .imap []) hs) (m' := .emp) λ o hm => by
  refine hm.imapE λ _ q hd => ?_
  cases q
  refine Ax (hd) λ es ep h1 h2 Z h4 Z => ?_
  have : es = #[] := by
   have e : es.toList = [] := by
    generalize es.toList = l at h4
    cases h4; rfl
   exact Array.toList_inj.mp e
  subst this
  exact .emp h1 h2
 rw [List.set_set,eu hs] at r2
 exact hk _ u h' tk' F' ρ' O h x r2 hr
section
theorem T7 (h : Z2 n v O k) : Op X (RV X) d O [.h n,v] (λ us => call (.builtin "list.append") us) k := by
 unfold Z2 at h
 split at h
 ·rename_i hs
  split at h
  ·rename_i e; exact iH hs e (ya3 (d8 h).1) (d8 h).2
  ·exact h.elim
 ·exact h.elim
theorem T8 (h : Z3 n v O k) : Op X (RV X) d O [.h n,v] (λ us => call (.builtin "list.extend") us) k := by
 unfold Z3 at h
 split at h
 ·rename_i hs
  split at h
  ·rename_i hi
   split at h
   ·rename_i e; exact iT hs hi e (ya3 (d8 h).1) (d8 h).2
   ·exact h.elim
  ·exact h.elim
 ·exact h.elim
theorem aY {i dv : Int} (hsys : ∃ o,X.h₀.get? sysModules = some o) (h : jH n i dv O k) : Op X (RV X) d O [.h n,.int i,.int dv] (λ us => call (.builtin "dict.get") us) k := by
 unfold jH at h
 split at h
 ·rename_i m hs
  induction m using MO.casesOn with
  | imap es => exact O5 hsys hs h
  | emp => exact gf hsys hs h
  | _ => exact False.elim h
 ·exact h.elim
theorem aZ {ws : KN} {dv : V} (hsys : ∃ o,X.h₀.get? sysModules = some o) (h : jI n ws dv O k) : Op X (RV X) d O [.h n,.tup ws,dv] (λ us => call (.builtin "dict.get") us) k := by
 unfold jI at h
 split at h
 ·rename_i m hs
  split at h
  ·rename_i hk
   induction m using MO.casesOn with
   | tmap es => exact Z4 (cm hsys hs hk h)
   | ftm es => exact Z4 (fQ hsys hs hk h)
   | _ => exact False.elim h
  ·exact h.elim
 ·exact h.elim
theorem cQ {i dv : V} (hsys : ∃ o,X.h₀.get? sysModules = some o) (h : uP n i dv O k) : Op X (RV X) d O [.h n,i,dv] (λ us => call (.builtin "dict.get") us) k := by
 induction i using V.casesOn with
 | int i => exact G2 h λ dv h => aY hsys h
 | tup ws => exact aZ hsys h
 | _ => exact False.elim h
theorem T9 (h : eA x O k) : Op X (RV X) d O [.str x] (λ us => call (.builtin "str.split") us) k := by
 refine i5 (d8 h) λ c h => ?_
 rw [ya4,ya5,ya5] at c
 exact iW c.1 c.2 h
theorem U0 {x y : Str} (h : eC x y O k) : Op X (RV X) d O [.str x,.str y] (λ us => call (.builtin "str.split") us) k := by
 refine i5 (d8 h) λ c h => ?_
 rw [ya4,ya4,ya5,ya5] at c
 exact iX c.1.1 (by simpa using c.1.2) c.2 h
theorem Z5 (h : jJ args O k) : Op X (RV X) d O args (λ us => call (.builtin "str.split") us) k := by
 rcases args with _ | ⟨a,_ | ⟨b,_ | ⟨c,l⟩⟩⟩
 ·exact False.elim h
 ·exact V7 h λ x h => T9 h
 ·exact V7 (v := a) h λ x h => V7 h λ y h => U0 h
 ·exact False.elim h
theorem jK {me : Me} (hsys : ∃ o,X.h₀.get? sysModules = some o) (h : meV me args O k) : Op X (RV X) d O args (λ us => call me.val us) k := by
 induction me using Me.casesOn with
 | append => exact eo h λ a v h => V6 h λ n h => T7 h
 | extend => exact eo h λ a v h => V6 h λ n h => T8 h
 | get => exact uB h λ a i dv h => V6 h λ n h => cQ hsys h
 | split => exact Z5 h
 | lstrip => exact eo h λ a b h => V7 h λ x h => V7 h λ y h => iV (ya3 (d8 h).1) (d8 h).2
end
end
section
open PySem.Spec
structure FnE where
 scope : Scope
 body : List Stmt
 pars : List Str
 dfl : List V
 fz : Bool
noncomputable abbrev Spec := List V → List MO → (V → List MO → Prop) → Prop
inductive CalE where
 | fn (e : FnE)
 | cls (init : Addr) (fz : Bool)
 | spec (d : Nat) (S : Spec)
noncomputable def L4 (x : Str) : Nat := x.cps.toList.foldl (λ n c => n * 1114112 + c + 1) 0
structure Tab where
 glob : List (Nat × Str × V)
 blt : List (Nat × Str × Bi)
 cold : List Nat
 cal : List (Addr × CalE)
 attrs : List (Addr × List Str)
 meths : List (Addr × List (Str × Addr))
 clm : List (Addr × List (Str × Addr))
noncomputable def jL (pars : List Str) (dfl args : KN) : Option (List (Str × V)) :=
 let vals := args ++ dfl.drop (args.length + dfl.length - pars.length)
 cond (vals.length == pars.length && Nat.ble (pars.length - dfl.length) args.length) (some (pars.zip vals)) none
structure FnFact (X : Wd) (a : Addr) (e : FnE) : Prop where
 ok : Nonempty (FnOK X a e.scope e.body (jL e.pars e.dfl))
 nd : (e.scope.names.map (·.1)).Nodup
noncomputable def yC (X : Wd) (a : Addr) : CalE → Prop
 | .fn e => FnFact X a e
 | .cls init _ => ClsOK X a init ∧ keepIn X.K (.ref a) = true
 | .spec d S => (∀ args O k,S args O k → OpC X d O args (.ref a) k) ∧ v9 X (.ref a)
noncomputable def uRf (v : Value) : Option Addr := ifc λ c : v.ctorIdx = 10 => Value.ref.elim (motive := λ Z => Option Addr) v c λ a => some a
theorem W0 {v : Value} {x : Addr} (h : uRf v = some x) : v = .ref x := by
 refine i6 (g6 h) λ c h => ?_
 exact Value.ref.elim (motive := λ v => ∀ c,Value.ref.elim (motive := λ Z => Option Addr) v c (λ a => some a) = some x → v = .ref x) v c (λ a c h => by obtain rfl := sj h; exact rfl) c h
noncomputable def rC (v : V) : Option Value := ifc λ c : v.ctorIdx = 5 => V.val.elim (motive_1 := λ Z => Option Value) v c λ w => some w
theorem eD {x : Value} (h : rC v = some x) : v = .val x := by
 refine i6 (g6 h) λ c h => ?_
 exact V.val.elim (motive_1 := λ v => ∀ c,V.val.elim (motive_1 := λ Z => Option Value) v c (λ w => some w) = some x → v = .val x) v c (λ w c h => by obtain rfl := sj h; exact rfl) c h
noncomputable def yD (v : V) : Option (Addr × Nat) := ifc λ c : v.ctorIdx = 7 => V.io.elim (motive_1 := λ Z => Option (Addr × Nat)) v c λ C n => some (C,n)
theorem jM {x : (Addr × Nat)} (h : yD v = some x) : v = .io x.1 x.2 := by
 refine i6 (g6 h) λ c h => ?_
 exact V.io.elim (motive_1 := λ v => ∀ c,V.io.elim (motive_1 := λ Z => Option (Addr × Nat)) v c (λ C n => some (C,n)) = some x → v = .io x.1 x.2) v c (λ C n c h => by obtain rfl := sj h; exact rfl) c h
noncomputable def tH (v : MO) : Option (List (Str × V)) := ifc λ c : v.ctorIdx = 2 => MO.flds.elim (motive := λ Z => Option (List (Str × V))) v c λ fs => some fs
theorem Z6 {v : MO} {x : (List (Str × V))} (h : tH v = some x) : v = .flds x := by
 refine i6 (g6 h) λ c h => ?_
 exact MO.flds.elim (motive := λ v => ∀ c,MO.flds.elim (motive := λ Z => Option (List (Str × V))) v c (λ fs => some fs) = some x → v = .flds x) v c (λ fs c h => by obtain rfl := sj h; exact rfl) c h
noncomputable def uQ (v : V) : Option Addr := (rC v).bind uRf
theorem eE {a : Addr} (h : uQ v = some a) : v = .val (.ref a) := by
 refine a9 (d6 h) λ w hw ha => ?_
 rw [eD hw,W0 ha]
noncomputable def ny {α : Type} (l : List (Nat × Str × α)) (x : Str) : Option α := (l.lookup (L4 x)).bind λ p => cond (x == p.1) (some p.2) none
theorem y5 {α : Type} {a : Nat} {v : α} {l : List (Nat × α)} : l.lookup a = some v → (a,v) ∈ l := by
 induction l with
 | nil => intro h; cases h
 | cons p l ih =>
  intro h
  rw [yc6] at h
  cases q : (a == p.1) with
  | true => rw [q] at h; obtain rfl := sj h; rw [beq_iff_eq.mp q]; exact mS
  | false => rw [q] at h; exact mM _ (ih h)
theorem Q4 {α : Type} {l : List (Nat × Str × α)} {v : α} (h : ny l x = some v) : ∃ n,(n,x,v) ∈ l := by
 refine a9 (d6 h) λ p hp e => cnE e (λ q e => ?_) nofun
 obtain rfl := sj e
 exact ⟨L4 x,(show p = (x,p.2) by rw [beq_iff_eq.mp q]) ▸ y5 hp⟩
structure TabOK (X : Wd) (T : Tab) : Prop where
 glob : ∀ n x v,(n,x,v) ∈ T.glob → ∃ u,X.mg x = some u ∧ ∀ F J,VR X.w.params F J v u
 blt : ∀ n x b,(n,x,b) ∈ T.blt → X.mg x = none ∧ X.mb x = some b.val
 cal : ∀ a e,T.cal.lookup a = some e → yC X a e
 attrs : ∀ C l,T.attrs.lookup C = some l → ∀ x ∈ l,AttrOK X C x ∧ SetOK X C x
 meths : ∀ C l x f,T.meths.lookup C = some l → l.lookup x = some f → MethOK X C x f
 clm : ∀ C l x f,T.clm.lookup C = some l → l.lookup x = some f → Nonempty (ClsAttr X C x (.ref f))
 sys : ∃ o,X.h₀.get? sysModules = some o
structure Rec where
 ev : Bool → Scope → Expr → Gam → List MO → (V → Gam → List MO → Prop) → Prop
 tt : Scope → Expr → Gam → List MO → (Bool → Gam → List MO → Prop) → Prop
 ss : Scope → List Stmt → Gam → List MO → (Fl → Gam → List MO → Prop) → Prop
 asg : Scope → Expr → V → Gam → List MO → (Gam → List MO → Prop) → Prop
 call : Addr → List V → List MO → (V → List MO → Prop) → Prop
structure Sound (X : Wd) (n : Nat) (R : Rec) : Prop where
 ev : ∀ held sc e D O k,R.ev held sc e D O k → ∀ (env : Env) (vs : KN),env.scope = sc → Ev X (RV X) n env D O vs (λ Z => eval e env) k
 tt : ∀ sc e D O k,R.tt sc e D O k → ∀ (env : Env) (vs : KN),env.scope = sc → Ev X RB n env D O vs (λ Z => isTrue e env (eval e env)) k
 ss : ∀ sc b D O k,R.ss sc b D O k → ∀ (env : Env) (vs : KN),env.scope = sc → Ev X (RFl X) n env D O vs (λ Z => execs b env) k
 asg : ∀ sc t v D O k,R.asg sc t v D O k → ∀ (env : Env),env.scope = sc → Asg X n env t v D O (λ Z => k)
 call : ∀ a args O k,R.call a args O k → OpC X n O args (.ref a) k
theorem Sound.mono {n m : Nat} {R : Rec} (h : Sound X n R) (hm : n ≤ m) : Sound X m R where
 ev := λ held sc e D O k q env vs he => (h.ev held sc e D O k q env vs he).mono hm
 tt := λ sc e D O k q env vs he => (h.tt sc e D O k q env vs he).mono hm
 ss := λ sc b D O k q env vs he => (h.ss sc b D O k q env vs he).mono hm
 asg := λ sc t v D O k q env he => Ev.mono (h.asg sc t v D O k q env he) hm
 call := λ a args O k q A Rr s F G J us hA => h.call a args O k q A Rr s F G J us (hA.mono hm)
noncomputable def esR (R : Rec) (held : Bool) (sc : Scope) : List Expr → Gam → List MO → (List V → Gam → List MO → Prop) → Prop
 | [],D,O,k => k [] D O
 | e :: r,D,O,k => cond (j9 e) (R.ev held sc e D O λ v Eg Eh => esR R held sc r Eg Eh λ ws Ej Ei => k (v :: ws) Ej Ei) False
theorem z0 {R : Rec} {held : Bool} (hR : Sound X n R) {pos : Pos} (henv : env.scope = sc) : ∀ {es : KL} {D : Gam} {O : KG} {vs : KN} {k : List V → Gam → List MO → Prop},esR R held sc es D O k →
  Ev X (RVs X) n env D O vs (λ Z => spliced (backTo pos (starEach es env))) k := by
 intro es
 induction es with
 | nil =>
  intro Z Z Z Z h
  exact oR h
 | cons e r ih =>
  intro D O vs k h
  refine i5 (d8 h) λ c h => ?_
  refine bM c ?_
  intro A E Q s F G J us hA rr f hv hk
  refine hR.ev _ _ _ _ _ _ h env [] henv A E Q s F G J us hA rr f hv λ v u h' tk' F' ρ' σ' Γ' z x r' f' hr => ?_
  exact hk v u h' tk' F' ρ' σ' Γ' (ih z) x r' f' hr
noncomputable def bf (T : Tab) (C : Addr) (name : Str) : Bool := lM (T.attrs.lookup C) λ l => l.any (· == name)
theorem Q5 {T : Tab} (hT : TabOK X T) {name : Str} (h : bf T C name = true) : AttrOK X C name ∧ SetOK X C name := by
 refine a9 (A2 h) λ l e h => a9 (List.any_eq_true.mp h) λ y hy q => hT.attrs C l e name (beq_iff_eq.mp q ▸ hy)
noncomputable def yE (T : Tab) (C : Addr) (fs : KD) (name : Str) (k : V → Prop) : Prop := cond (bf T C name) (v7 (fs.lookup name) λ v => cond (oS v) (k (unfz v)) False) False
noncomputable def uR (T : Tab) (ov : V) (name : Str) (O : KG) (k : V → Prop) : Prop := match ov with
 | .obj C fs => yE T C fs name k
 | .io C n => v7 ((O[n]?).bind tH) λ fs => yE T C fs name k
 | _ => False
theorem Q6 {T : Tab} (hT : TabOK X T) {ov : V} {name : Str} (h : uR T ov name O (λ v => k v O)) : Op X (RV X) d O [ov] (λ us => getAttr (us.getD 0 .none) name true) k := by
 have key : ∀ {C : Addr} {fs : KD} {G : Prop},yE T C fs name (λ v => k v O) → (∀ v,bf T C name = true → fs.lookup name = some v → oS v = true → k (unfz v) O → G) → G := λ h g => i5 (d8 h) λ c h => a9 (c9 h) λ v e h => i5 (d8 h) λ q h => g v c e q h
 induction ov using V.casesOn with
 | obj C fs => exact key h λ v c e q h => Z4 (bN (Q5 hT c).1 e q h)
 | io C n =>
  refine a9 (c9 h) λ fs hf h => a9 (d6 hf) λ m hs hm => ?_
  rw [Z6 hm] at hs
  exact key h λ v c e q h => Z4 (fj (Q5 hT c).1 hs e q h)
 | _ => exact False.elim h
noncomputable def Bb (T : Tab) (ov : V) (name : Str) (v : V) (O : KG) (k : List MO → Prop) : Prop := v7 (yD ov) λ p => v7 ((O[p.2]?).bind tH) λ fs => cond (bf T p.1 name && Nat.ble fs.length 800) (k (O.set p.2 (.flds (uc name v fs)))) False
theorem gg {T : Tab} (hT : TabOK X T) {ov v : V} {name : Str} {k : List MO → Prop} (h : Bb T ov name v O k) : Op X RU d O [ov,v] (λ us => setAttr (us.getD 0 .none) name (us.getD 1 .none)) (λ Z σ' => k σ') := by
 refine a9 (c9 h) λ p hp h => a9 (c9 h) λ fs hf h => a9 (d6 hf) λ m hs hm => i5 (d8 h) λ c h => anB c λ c1 c2 => ?_
 rw [Z6 hm] at hs
 rw [jM hp]
 exact fu (k := λ Z σ' => k σ') (Q5 hT c1).2 hs (Nat.lt_of_le_of_lt (yc3 c2) (by decide)) h
inductive Cee where
 | ad (x : Addr) (fst : KN)
 | bi (x : Bi)
 | me (x : Me) (fst : KN)
noncomputable def adV (v : V) : Option Cee := (uQ v).map λ a => .ad a []
noncomputable def yF (T : Tab) (sc : Scope) (D : Gam) (x : Str) : Option Cee := cond (x == ("__debug__" : Str)) none (cond (sc.names.lookup x == some .local) ((D.loc.lookup x).bind adV) (cond (sc.names.lookup x == some .globalImplicit) (orE (ny T.glob x) adV ((ny T.blt x).map .bi)) none))
noncomputable def rD (T : Tab) (C : Addr) (fs : KD) (name : Str) (ov : V) : Option Cee := cond (fs.lookup name).isNone (((T.meths.lookup C).bind λ l => l.lookup name).map λ f => .ad f [ov]) none
noncomputable def Bc (T : Tab) (ov : V) (name : Str) (O : KG) : Option Cee := match ov with
 | .obj C fs => rD T C fs name ov
 | .io C n => ((O[n]?).bind tH).bind λ fs => rD T C fs name ov
 | .val w => (((uRf w).bind λ C => T.clm.lookup C).bind λ l => l.lookup name).map λ f => .ad f []
 | ov => (yB ov name O).map λ m => .me m [ov]
noncomputable def Cee.val : Cee → Value
 | .ad a _ => .ref a
 | .bi b => b.val
 | .me m _ => m.val
noncomputable def Cee.fst : Cee → List V
 | .ad _ f => f
 | .bi _ => []
 | .me _ f => f
noncomputable def Bd (T : Tab) (R : Rec) (c : Cee) (ws : KN) (O : KG) (k : KC) : Prop := match c with
 | .ad a f => cond (T.cal.lookup a).isSome (R.call a (f ++ ws) O k) False
 | .bi b => biV b ws O k
 | .me m f => meV m (f ++ ws) O k
theorem eF {T : Tab} (hT : TabOK X T) {a : Addr} (h : (T.cal.lookup a).isSome = true) : v9 X (.ref a) := by
 refine i6 (Option.isSome_iff_exists.mp h) λ e h => ?_
 have := hT.cal a e h
 induction e using CalE.casesOn with
 | fn e => obtain ⟨⟨ok⟩,_⟩ := (this : FnFact X a e); exact qo ok
 | cls i f => exact tT this.2
 | spec d S => exact this.2
theorem W1 {T : Tab} (hT : TabOK X T) {R : Rec} (hR : Sound X n R) {c : Cee} {ws : KN} (h : Bd T R c ws O k) : Op X (RV X) n O (c.fst ++ ws) (λ us => call c.val us) k := by
 induction c using Cee.casesOn with
 | ad a f => exact iK (hR.call _ _ _ _ (d8 h).2)
 | bi b => exact jC h
 | me m f => exact jK hT.sys h
noncomputable def uS (T : Tab) : Cee → Bool
 | .ad a _ => (T.cal.lookup a).isSome
 | _ => true
theorem W2 {T : Tab} (hT : TabOK X T) {c : Cee} (h : uS T c = true) : v9 X c.val := by
 induction c using Cee.casesOn with
 | ad a f => exact eF hT h
 | bi b => exact b.keep
 | me m f => exact m.keep
theorem gh {T : Tab} (hT : TabOK X T) {ov : V} {name : Str} {c : Cee} (e : Bc T ov name O = some c) : hX X d ov name c.val c.fst O := by
 have key : ∀ {C : Addr} {fs : KD} {G : Prop},rD T C fs name ov = some c → (∀ f,.ad f [ov] = c → MethOK X C name f → fs.lookup name = none → G) → G := λ {C fs G} e g => cnE e (λ hn e => a9 (map_some e) λ f hf q => a9 (d6 hf) λ l hl hf => g f q (hT.meths C l name f hl hf) (Option.isNone_iff_eq_none.mp hn)) nofun
 have gen : (yB ov name O).map (λ m => Cee.me m [ov]) = some c → hX X d ov name c.val c.fst O := λ e => a9 (map_some e) λ m hm q => q ▸ ge hm
 induction ov using V.casesOn with
 | obj C fs => exact key e λ f q ok hn => q ▸ lV ok hn
 | io C n =>
  refine a9 (d6 e) λ fs hf e => a9 (d6 hf) λ m hs hm => ?_
  rw [Z6 hm] at hs
  exact key e λ f q ok hn => q ▸ qq ok hs hn
 | val w =>
  refine a9 (map_some e) λ f hf q => a9 (d6 hf) λ l hl hf => a9 (d6 hl) λ C hC hl => ?_
  obtain ⟨ok⟩ := hT.clm _ l name f hl hf
  rw [W0 hC]
  exact q ▸ mz ok
 | _ => exact gen e
end
section
open PySem.Spec
theorem gi {f : Value} (h : OpC X d O args f (λ v σ' => fzK O.length v σ' k)) : OpC X d O args f k := by
 intro A R s F G J us hA r hv hk
 refine h A R s F G J us hA r hv λ v u h' tk' F' ρ' σ' z x r' hr => ?_
 have z : cond (O.length == σ'.length) (k v σ') (k (j5 (w9 O.length σ') σ' 30 v) (σK (w9 O.length σ') σ')) := z
 cases q : (O.length == σ'.length) with
 | true => rw [q] at z; exact hk v u h' tk' F' ρ' σ' z x r' hr
 | false =>
  rw [q] at z
  have hle : J.length ≤ ρ'.length := by
   by_cases h0 : J.length = 0
   ·lia
   ·have hl : J.length - 1 < J.length := by lia
    have := x.r (J.length - 1) _ (yb1 hl)
    have := (List.getElem?_eq_some_iff.mp this).1
    lia
  refine C2 (fD (n := O.length) (O := σ') (by rw [← r.len,← r'.len]; exact hle)) λ a b c => ?_
  have b' : ∀ k ∈ w9 O.length σ',k < ρ'.length := λ k hk => by rw [r'.len]; exact b k hk
  exact hk _ _ h' tk' _ _ _ z (x.freeze r' (r.len.symm ▸ c)) (r'.freeze a b') (VR.fzV r' b' 30 hr)
theorem M3 {e : Nat} {f : Value} (h : OpC X e O args f k) (he : e ≤ d) : OpC X d O args f k := λ A R s F G J us hA => h A R s F G J us (hA.mono he)
noncomputable def fin (fz : Bool) (n : Nat) (v : V) (O : KG) (k : KC) : Prop := cond fz (fzK n v O k) (k v O)
theorem cS {f : Value} {fz : Bool} (h : OpC X d O args f (λ v σ' => fin fz O.length v σ' k)) : OpC X d O args f k := by
 induction fz using Bool.casesOn with
 | true => exact gi h
 | false => exact h
noncomputable def rE (T : Tab) (R : Rec) (n : Nat) (a : Addr) (args : KN) (O : KG) (k : KC) : Prop := match T.cal.lookup a with
 | some (.fn e) => match jL e.pars e.dfl args with
  | some Fe => R.ss e.scope e.body ⟨Fe.filter λ p => mC e.scope p.1,Fe.filter λ p => mD e.scope p.1⟩ O (λ fl Z σ' => match fl with
   | .ret v => fin e.fz O.length v σ' k
   | .next => fin e.fz O.length .none σ' k
   | _ => False)
  | none => False
 | some (.cls init fz) => R.call init (.io a O.length :: args) (O ++ [.flds []]) (λ v σ' => match v with
  | .none => fin fz O.length (.io a O.length) σ' k
  | _ => False)
 | some (.spec d S) => cond (Nat.ble d n) (S args O k) False
 | none => False
theorem cT {T : Tab} (hT : TabOK X T) {R : Rec} (hR : Sound X n R) {a : Addr} (h : rE T R (n + 1) a args O k) : OpC X (n + 1) O args (.ref a) k := by
 unfold rE at h
 split at h
 ·rename_i e he
  obtain ⟨⟨ok⟩,nd⟩ := (hT.cal a _ he : FnFact X a e)
  split at h
  ·rename_i Fe hb
   refine cS (fz := e.fz) (A7 ok hb nd λ env henv => ?_)
   intro A E Q s F G J us hA r f hv hk
   refine hR.ss _ _ _ _ _ h env [] henv A E Q s F G J us hA r f hv λ fl u h' tk' F' ρ' σ' Γ' z x r' f' hr => ?_
   refine hk fl u h' tk' F' ρ' σ' Γ' ?_ x r' f' hr
   cases fl <;> exact z
  ·exact h.elim
 ·rename_i init fz he
  have ok := (hT.cal a _ he : ClsOK X a init ∧ _)
  refine cS (fz := fz) (qJ ok.1 ?_)
  intro A Rr s F G J us hA r hv hk
  refine hR.call _ _ _ _ h A Rr s F G J us hA r hv λ v u h' tk' F' ρ' σ' z x r' hr => ?_
  cases v <;> first | exact z.elim | exact hk _ u h' tk' F' ρ' σ' ⟨rfl,z⟩ x r' hr
 ·rename_i d S he
  refine i5 (d8 h) λ c h => ?_
  have ok := (hT.cal a _ he : (∀ args O k,S args O k → OpC X d O args (.ref a) k) ∧ _)
  exact M3 (ok.1 _ _ _ h) (yc3 c)
 ·exact h.elim
noncomputable def rF (op : CmpOp) (a b : V) (O : KG) (k : Bool → Prop) : Prop := v7 (tF op O a b) k
theorem cU {op : CmpOp} {a b : V} {k : Bool → Prop} (h : rF op a b O k) : ∃ c,tF op O a b = some c ∧ k c := c9 h
noncomputable def eG (v : V) : Bool := v.ctorIdx == 6
theorem BY {op : CmpOp} (h : (op.ctorIdx == 8) = true) : op = .In := CmpOp.In.elim (motive := λ o => o = .In) op (beq_iff_eq.mp h) rfl
theorem yG {op : CmpOp} (h : (op.ctorIdx == 9) = true) : op = .NotIn := CmpOp.NotIn.elim (motive := λ o => o = .NotIn) op (beq_iff_eq.mp h) rfl
theorem uT {b : Bool} {P Q G : Prop} (h : cond b P Q) (h1 : b = true → P → G) (h2 : Q → G) : G := by
 cases b with
 | true => exact h1 rfl h
 | false => exact h2 h
noncomputable def yH (op : CmpOp) (a b : V) (O : KG) (k : Bool → Prop) : Prop :=
 cond (op.ctorIdx == 8 && eG b) (S9 (iZ O a b) k (rF op a b O k)) (cond (op.ctorIdx == 9 && eG b) (S9 (iZ O a b) (λ c => k (!c)) (rF op a b O k)) (rF op a b O k))
theorem jN {op : CmpOp} {a b : V} {k : Bool → Prop} (h : rF op a b O k) : ∃ c,qO X d op a b c O ∧ k c := by
 refine a9 (cU h) λ c e h => ?_
 exact ⟨c,iY e,h⟩
theorem jO (hsys : ∃ o,X.h₀.get? sysModules = some o) {op : CmpOp} {a b : V} {k : Bool → Prop} (h : yH op a b O k) : ∃ c,qO X d op a b c O ∧ k c := by
 refine uT h (λ c h1 => ?_) λ h => uT h (λ c h1 => ?_) jN
 ·cases BY (anB c λ c Z => c)
  exact k9 h1 (λ c e h => ⟨c,(aK hsys e).1,h⟩) jN
 ·cases yG (anB c λ c Z => c)
  exact k9 h1 (λ c e h => ⟨!c,(aK hsys e).2,h⟩) jN
noncomputable def rH (R : Rec) (sc : Scope) : List Expr → Gam → List MO → (Bool → Gam → List MO → Prop) → Prop
 | [],D,O,k => k true D O
 | x :: r,D,O,k => R.tt sc x D O λ c Eg Eh => cond c (rH R sc r Eg Eh k) (k false Eg Eh)
noncomputable def yI (R : Rec) (sc : Scope) : List Expr → Gam → List MO → (Bool → Gam → List MO → Prop) → Prop
 | [],D,O,k => k false D O
 | x :: r,D,O,k => R.tt sc x D O λ c Eg Eh => cond c (k true Eg Eh) (yI R sc r Eg Eh k)
noncomputable def Be (R : Rec) (sc : Scope) (l : Expr) (Fa Fd : CmpOp) (En Ep : Expr) (D : Gam) (O : KG) (k : Bool → Gam → List MO → Prop) : Prop := cond (lastMarks [Fa,Fd] [En,Ep]) False (R.ev false sc l D O λ a Eg Eh => R.ev false sc En Eg Eh λ b Ej Ei => rF Fa a b Ei λ c =>
   cond c (R.ev false sc Ep Ej Ei λ b' EH ED => rF Fd b b' ED λ c => k c EH ED) (k false Ej Ei))
noncomputable def ttG (R : Rec) (sc : Scope) (e : Expr) (D : Gam) (O : KG) (k : Bool → Gam → List MO → Prop) : Prop := cond (az e) (R.ev false sc e D O λ v Eg Eh => v7 (qr v) λ c => k c Eg Eh) False
noncomputable def ttS (R : Rec) (sc : Scope) (e : Expr) (D : Gam) (O : KG) (k : Bool → Gam → List MO → Prop) : Prop := match e with
 | .Compare l [op] [r] _ => cond (behindInMarks op r) False (R.ev false sc l D O λ a Eg Eh => R.ev false sc r Eg Eh λ b Ej Ei => yH op a b Ei λ c => k c Ej Ei)
 | .Compare l [Fa,Fd] [En,Ep] _ => Be R sc l Fa Fd En Ep D O k
 | .BoolOp .And xs _ => rH R sc xs D O k
 | .BoolOp .Or xs _ => yI R sc xs D O k
 | .UnaryOp .Not x _ => R.tt sc x D O λ c Eg Eh => k (!c) Eg Eh
 | e => ttG R sc e D O k
theorem Ev.imp {α β : Type} {R : PH → List Addr → β → α → Prop} {t : List Value → Sem α} {k k' : β → Gam → List MO → Prop} (h : Ev X R d env D O vs t k) (hk : ∀ v Γ' σ',k v Γ' σ' → k' v Γ' σ') : Ev X R d env D O vs t k' :=
 λ A E Q s F G J us hA r f hv hq => h A E Q s F G J us hA r f hv λ v u h' tk' F' ρ' σ' Γ' z x r' f' hr => hq v u h' tk' F' ρ' σ' Γ' (hk v Γ' σ' z) x r' f' hr
theorem cW {R : Rec} (hR : Sound X n R) {pos : Pos} {whole : Sem Value} (henv : env.scope = sc) : ∀ {xs : KL} {D : Gam} {O : KG} {vs : KN} {k : Bool → Gam → List MO → Prop},rH R sc xs D O k →
  Ev X RB n env D O vs (λ Z => isTrue (.BoolOp .And xs pos) env whole) k := by
 intro xs
 induction xs with
 | nil =>
  intro Z Z Z Z h
  exact ft h
 | cons x r ih =>
  intro D O vs k h
  refine tY ((hR.tt _ _ _ _ _ h env [] henv).imp λ c Γ' σ' z => ?_)
  induction c using Bool.casesOn with
  | true => exact ih z
  | false => exact z
theorem gj {R : Rec} (hR : Sound X n R) {pos : Pos} {whole : Sem Value} (henv : env.scope = sc) : ∀ {xs : KL} {D : Gam} {O : KG} {vs : KN} {k : Bool → Gam → List MO → Prop},yI R sc xs D O k →
  Ev X RB n env D O vs (λ Z => isTrue (.BoolOp .Or xs pos) env whole) k := by
 intro xs
 induction xs with
 | nil =>
  intro Z Z Z Z h
  exact iC h
 | cons x r ih =>
  intro D O vs k h
  refine yp ((hR.tt _ _ _ _ _ h env [] henv).imp λ c Γ' σ' z => ?_)
  induction c using Bool.casesOn with
  | true => exact z
  | false => exact ih z
theorem Z7 {b : Bool} {P : Prop} (h : cond b False P) : b = false ∧ P := by
 induction b using Bool.casesOn with
 | true => exact h.elim
 | false => exact ⟨rfl,h⟩
theorem gk (hsys : ∃ o,X.h₀.get? sysModules = some o) {R : Rec} (hR : Sound X n R) {l En Ep : Expr} {Fa Fd : CmpOp} {p : Pos} {k : Bool → Gam → List MO → Prop} (h : Be R sc l Fa Fd En Ep D O k) (henv : env.scope = sc) : Ev X RB n env D O vs (λ Z => isTrue (.Compare l [Fa,Fd] [En,Ep] p) env (eval (.Compare l [Fa,Fd] [En,Ep] p) env)) k := by
 refine iB (Z7 h).1 ((hR.ev _ _ _ _ _ _ (Z7 h).2 env [] henv).imp λ a Eg Eh z => (hR.ev _ _ _ _ _ _ z env [a] henv).imp λ b Ej Ei z => ?_)
 refine a9 (cU z) λ c e z => ?_
 refine ⟨c,e,?_⟩
 induction c using Bool.casesOn with
 | true => exact (hR.ev _ _ _ _ _ _ z env [b] henv).imp λ b' EH ED z => cU z
 | false => exact z
theorem jP {R : Rec} (hR : Sound X n R) {k : Bool → Gam → List MO → Prop} (h : ttG R sc e D O k) (henv : env.scope = sc) : Ev X RB n env D O vs (λ Z => isTrue e env (eval e env)) k := by
 refine lY (d8 h).1 ((hR.ev _ _ _ _ _ _ (d8 h).2 env [] henv).imp λ v Eg Eh z => ?_)
 exact a9 (c9 z) λ c e z => ⟨c,E6 e,z⟩
theorem jQ (hsys : ∃ o,X.h₀.get? sysModules = some o) {R : Rec} (hR : Sound X n R) {k : Bool → Gam → List MO → Prop} (h : ttS R sc e D O k) (henv : env.scope = sc) : Ev X RB n env D O vs (λ Z => isTrue e env (eval e env)) k := by
 have gen : ∀ {e},ttG R sc e D O k → Ev X RB n env D O vs (λ Z => isTrue e env (eval e env)) k := λ h => jP hR h henv
 induction e using Expr.casesOn with
 | Compare l ops rs p =>
  rcases ops with _ | ⟨Fa,_ | ⟨Fd,_ | ⟨Go,ops⟩⟩⟩
  ·exact gen h
  ·rcases rs with _ | ⟨En,_ | ⟨Ep,rs⟩⟩
   ·exact gen h
   ·exact jb (Z7 h).1 ((hR.ev _ _ _ _ _ _ (Z7 h).2 env [] henv).imp λ a Eg Eh z => (hR.ev _ _ _ _ _ _ z env [a] henv).imp λ b Ej Ei z => jO hsys z)
   ·exact gen h
  ·rcases rs with _ | ⟨En,_ | ⟨Ep,_ | ⟨EN,rs⟩⟩⟩
   ·exact gen h
   ·exact gen h
   ·exact gk hsys hR h henv
   ·exact gen h
  ·exact gen h
 | BoolOp op xs p =>
  induction op using BoolOp.casesOn with
  | And => exact cW hR henv h
  | Or => exact gj hR henv h
 | UnaryOp op x p =>
  induction op using UnaryOp.casesOn with
  | Not => exact tX (hR.tt _ _ _ _ _ h env [] henv)
  | _ => exact gen h
 | _ => exact gen h
end
section
open PySem.Spec
theorem Rel.setM {h : Heap} {m' : MO} (r : Rel X F G J O h) (hm : ∀ a x,J[n]? = some a → h.get? a = some x → MR X.prog X.w F J m' x) : Rel X F G J (O.set n m') h :=
 { r with
  len := by rw [List.length_set]; exact r.len
  m := λ i a m e1 e2 => by
   rw [List.getElem?_set] at e2
   split at e2
   ·rename_i q
    subst q
    split at e2
    ·obtain rfl := sj e2
     rename_i hl
     obtain ⟨x,hx,_⟩ := r.m n a _ e1 (yb1 hl)
     exact ⟨x,hx,hm a x e1 hx⟩
    ·cases e2
   ·exact r.m i a m e1 e2 }
noncomputable def gm (p : Int × Int) : V := .tup [.int p.1,.int p.2]
theorem uU {ps : KF} {u : Value} (h : VR P F J (w3 (ps.map gm)) u) : VR P F J (.prs ps) u := by
 induction ps using List.casesOn with
 | nil =>
  cases h with
  | nums f q => cases q; exact .prs f .nil
 | cons p ps =>
  have e : w3 ((p :: ps).map gm) = .lst ((p :: ps).map gm) := rfl
  replace h := e ▸ h
  cases h with
  | lst f q =>
   refine .prs f ?_
   have key : ∀ {l : KF} {us : KK},VRs P F J (l.map gm) us → PRs F l us := by
    intro l
    induction l with
    | nil => intro us q; cases q; exact .nil
    | cons p l ih =>
     intro us q
     cases q with
     | cons a b =>
      refine a.tupE λ _ _ _ _ f c d q => ?_
      refine z9 λ G kG => ?_
      refine S8 (q.two) λ y z eR2 hy hz => ?_
      subst eR2
      obtain ⟨ta,rfl⟩ := hy.int'
      obtain ⟨tb,rfl⟩ := hz.int'
      refine kG ?_
      exact .cons f c d (ih b)
   exact key q
theorem jR {target : Expr} {I a : Addr} {n ep : Nat} {o : Obj} {kvs : List (Int × Value)} {EJ : PH} {EB : KH} (ht : m6 target = true) (ha : EB[n]? = some a) (hne : a ≠ I) (hkv : IMs es kvs)
  (ho : ∀ h : Heap,h.get? a = some o → h.DictAt (PySem.intKind X.prog X.w) a kvs ep) :
  IterP X target (.ref I) [I] (es.map λ p => .int p.1) (λ i h => h.IsKeyIter I a i kvs.length ep) EJ EB (λ O => O[n]? = some (.pin o es)) where
 frame := λ i h h' st hk _ => st.at λ o e => hk I mS o e
 next := λ i v A E Q s F G J O hh hv x r fr st ok hQ => by
  refine a9 (r.m n a _ (x.r n a ha) ok) λ y hy hm => ?_
  have hy' : s.heap.get? a = some o := by cases hm; exact hy
  have hD := ho s.heap hy'
  obtain ⟨hi,hv⟩ := List.getElem?_eq_some_iff.mp hv
  rw [List.getElem_map] at hv
  rw [yb4] at hi
  subst hv
  obtain ⟨u,hu⟩ : ∃ u,kvs[i]? = some (es[i].1,u) := by
   have key : ∀ {es : KF} {kvs : List (Int × Value)},IMs es kvs → ∀ (i : Nat) (hi : i < es.length),∃ u,kvs[i]? = some (es[i].1,u) := by
    intro es kvs q
    induction q with
    | nil => intro i hi; cases hi
    | cons q ih =>
     intro i hi
     induction i using Nat.casesOn with
     | zero => exact ⟨_,rfl⟩
     | succ i => exact ih i (by simpa using hi)
   exact key hkv i hi
  refine wpAny_pyNext_dict_item st hD hu λ key h' hkey hit' hs' => ?_
  refine ⟨key,rfl,λ E' => ?_⟩
  refine (AJ ht).symm ▸ ?_
  have hk' : ∀ b o,b ∉ [I] → s.heap.get? b = some o → h'.get? b = some o := λ b o hb e => hs'.extBut b o (λ q => hb (q.symm ▸ mS)) e
  have hV : VR X.w.params F J (.int es[i].1) key := by
   refine i6 (Value.isInt_shape hkey) λ t eR1 => ?_
   subst eR1
   exact .int _ _
  refine V0 (hQ key h' s.toks F (.refl F J) (r.freeKeep fr hk') (λ b hb => ?_) hV hit' hk' λ a o e => .inl e)
  refine L7 (fr b hb) λ a1 a2 a3 a4 => ?_
  replace hb := (List.mem_singleton.mp hb).symm
  subst hb
  refine a9 (hit') λ o' ho' _ => ?_
  exact ⟨a1,a2,a3,o',ho'⟩
 done := λ A E Q s F G J O hh x r fr st ok hQ => by
  refine a9 (r.m n a _ (x.r n a ha) ok) λ y hy hm => ?_
  have hy' : s.heap.get? a = some o := by cases hm; exact hy
  have hD := ho s.heap hy'
  rw [yb4,← hkv.len] at st
  exact wpAny_pyNext_dict_end hh st hD (by simp) λ h' he' => ⟨rfl,hQ h' s.toks (r.freeKeep fr λ b o hb e => he' b o (λ q => hb (by rw [q]; exact mS)) e) λ b o hb e => he' b o (λ q => hb (by rw [q]; exact mS)) e⟩
noncomputable def nz (X : Wd) (d : Nat) (sc : Scope) (target : Expr) (ifs : KL) (elt : Expr) (scope : Scope) (k : KB) (v : V) (D : Gam) (O : KG) : Prop :=
 ∃ n es ps,v = .h n ∧ O[n]? = some (.imap es) ∧ es.length ≤ 100000 ∧ ∀ (o : Obj) (cenv : Env),cenv.scope = w6 sc scope →
  Y7 X d cenv target ifs elt (λ σ' => σ'[n]? = some (.pin o es)) (λ acc Γ' σ' => σ' = O.set n (.pin o es) ∧ acc = ps.map gm ∧ k (.prs ps) (A9 scope D Γ') O) (es.map λ p => .int p.1) [] (Y8 scope D) (O.set n (.pin o es))
theorem nA {elt target iter : Expr} {ifs : KL} {scope : Scope} {pos : Pos} {k : KB} (hsys : ∃ o,X.h₀.get? sysModules = some o) (hok : E4 env.scope scope = true) (hp : n9 iter = true) (ht : m6 target = true)
  (h : Ev X (RV X) d env D O [] (λ _ => eval iter env) (nz X d env.scope target ifs elt scope k)) : Ev X (RV X) d env D O vs (λ _ => eval (.ListComp elt [⟨target,iter,ifs,0⟩] scope pos) env) k := by
 intro A E Q s F G J us hA r f hv hk
 refine L7 (D4 hok) λ hkind hnd hcell hfree => ?_
 refine (?_ : wpAny (model X.prog X.w) A (eval (.ListComp elt [⟨target,iter,ifs,0⟩] scope pos) env) Q E s)
 rw [eval_ListComp]
 refine wpAny_comprehension_free (use := none) (M := model X.prog X.w) rfl (w4 hp) (P6 hok f) hkind (I1 hnd) ?_
 refine h A E _ s F G J [] hA r f .nil λ v u Eo Er Eu Em Eh Eg hK Ey En Es hu => ?_
 obtain ⟨n,es,ps,rfl,hs,hlen,hK⟩ := hK
 refine hu.hE λ _ ha => ?_
 rename_i a
 refine a9 (En.m n a _ ha hs) λ o ho hm => ?_
 refine hm.imapE λ _ hkv hd => ?_
 rename_i kvs
 refine Ax (hd) λ ents ep d1 d2 d3 d4 d5 => ?_
 have hD : ∀ h : Heap,h.get? a = some o → h.DictAt (PySem.intKind X.prog X.w) a kvs ep := λ h e => ⟨o,ents,e,d1,d2,d3,d4,d5⟩
 have hns : (a == sysModules) = false := by
  refine i6 (hsys) λ o' e' => ?_
  cases q : (a == sysModules) with
  | false => rfl
  | true =>
   rw [beq_iff_eq.mp q] at ha
   have := (En.rf _ (yc7 ha)).1
   rw [En.base _ _ e'] at this; cases this
 refine wpAny_pyIter_dict (s := { s with heap := Eo,toks := Er }) hns (hD Eo ho) ?_
 let Ew := Eo.push { cls := .type "dict_keyiterator", data := .fields #[.ref a,.int 0 0,.int kvs.length 0,.int ep 0] }
 have hlt : a < Eo.objs.size := yb8 ho
 have rP : Rel X Eu G Em (Eh.set n (.pin o es)) Eo := En.setM λ b x e1 e2 => by
  rw [ha] at e1; obtain rfl := sj e1
  rw [ho] at e2; obtain rfl := sj e2
  exact .pin hkv ⟨ents,ep,d1,d2,d3,d4,d5⟩
 have own : Ew.get? Eo.objs.size = some { cls := .type "dict_keyiterator", data := .fields #[.ref a,.int 0 0,.int kvs.length 0,.int ep 0] } := ya8 _ rfl
 refine P4 (EP := { s with heap := Ew,toks := Er }) (RR := λ acc C => compPost (model X.prog X.w) A E none Q acc C) (own := [Eo.objs.size]) hA hok rP Es (λ b o e => ya9 _ e) ⟨_,mS⟩
  (λ b hb => by replace hb := (List.mem_singleton.mp hb).symm; subst hb; exact ya7 _) (jR (n := n) (ep := ep) (o := o) (es := es) (kvs := kvs) ht ha (yb9 hlt) hkv hD) ⟨_,own,rfl,rfl⟩
  (λ i h st b hb => by replace hb := (List.mem_singleton.mp hb).symm; subst hb; obtain ⟨o',ho',_⟩ := st; exact ⟨o',ho'⟩) (λ A E Q' s _ st hQ => wpAny_pyIter_keyiter st hQ) (by rw [yb4]; exact hlen) (hK o) ?_
 intro acc Gr C m h' tk' F' ρ' σ' Γ' z x r' f' hD' hn c1 c2 c3 c4
 obtain ⟨rfl,rfl,z⟩ := z
 refine ⟨m,hn,λ h'' hs' => ?_⟩
 have rI : Rel X F' G ρ' Eh h' := by
  have := r'.setM (n := n) (m' := .imap es) λ b y e1 e2 => by
   refine a9 (r'.m n b _ e1 (y4 hs)) λ y' hy' hm' => ?_
   rw [hy'] at e2; obtain rfl := sj e2
   cases hm' with
   | pin q1 q2 => exact .imap q1 q2
  rw [List.set_set,eu hs] at this
  exact this
 refine i5 (P5 rI f' hn c1 c2 c3 c4 hs') λ r'' f'' => ?_
 exact hk _ _ h'' tk' F' ρ' Eh _ z (Ey.trans x) r'' f'' (uU hD')
end
section
open PySem.Spec
noncomputable def I4 (es : KF) : List (Int × Int) := (es.filter λ e => !((s6 es e.1).getD 0 == 0)).map λ e => (e.1,(s6 es e.1).getD 0)
theorem nB {e : Int × Int} (h : e ∈ es) : ∃ v,s6 es e.1 = some v := by
 unfold s6
 cases q : es.find? λ x => decide (x.1 = e.1) with
 | some x => exact ⟨x.2,rfl⟩
 | none =>
  have := List.find?_eq_none.mp q e h
  simp at this
noncomputable def jS (o : Option NameKind) : Bool := o == some .cell
theorem gn {o : Option NameKind} (h : jS o = true) : o = some .cell := beq_iff_eq.mp h
theorem nC {α : Type} {b : Bool} {o : Option α} {x : α} (h : cond b o none = some x) : b = true ∧ o = some x := by
 induction b using Bool.casesOn with
 | true => exact ⟨rfl,h⟩
 | false => cases h
theorem yJ {α : Type} {b : Bool} {o : Option α} {x : α} (h : cond b none o = some x) : b = false ∧ o = some x := by
 induction b using Bool.casesOn with
 | true => cases h
 | false => exact ⟨rfl,h⟩
noncomputable def yK (sc : Scope) (cel : KD) (x : Str) : Option V := cond (x == ("__debug__" : Str)) none (cond (jS (sc.names.lookup x)) (cel.lookup x) none)
noncomputable def BZ (T : Tab) (sc : Scope) (cel : KD) (O : KG) (x a : Str) : Option Nat := ((yK sc cel x).bind yD).bind λ p => (O[p.2]?.bind tH).bind λ fs => cond (bf T p.1 a) ((fs.lookup a).bind lW) none
noncomputable def tI (T : Tab) (sc : Scope) (cel : KD) (O : KG) (e : Expr) : Option Nat := orE (F8 e) (λ x => (yK sc cel x).bind lW) ((pe e).bind λ y => (F8 y.1).bind λ x => BZ T sc cel O x y.2)
theorem jT {cel : KD} {p : Pos} {k : KB} (h : yK sc cel x = some v) (henv : env.scope = sc) (hc : D.cel = cel) (hk : k v D O) : Ev X (RV X) d env D O vs (λ Z => eval (.Name x p) env) k := by
 refine i5 (yJ h) λ q h => ?_
 refine i5 (nC h) λ l h => ?_
 exact ii (by show env.scope.names.lookup x = _; rw [henv]; exact gn l) q (hc.symm ▸ h) hk
theorem rJ {T : Tab} (hT : TabOK X T) {cel : KD} {m' : MO} {k : KB} (h : tI T sc cel O e = some n) (henv : env.scope = sc) (hc : D.cel = cel) (hn : ∀ fs,O[n]? ≠ some (.flds fs)) (hk : k (.h n) D (O.set n m')) :
  Ev X (RV X) d env D (O.set n m') vs (λ Z => eval e env) k := by
 refine i8 h (λ x ex h => ?_) λ h => ?_
 ·obtain ⟨p,rfl⟩ := s4 ex
  refine a9 (d6 h) λ v hv h => ?_
  rw [A3 h] at hv
  exact jT hv henv hc hk
 ·refine a9 (d6 h) λ y ey h' => ?_
  refine a9 (d6 h') λ x ex h' => ?_
  clear h
  refine i6 (ja ey) λ p ep => ?_
  refine i6 (s4 ex) λ p2 ex => ?_
  refine ep.symm ▸ ex.symm ▸ ?_
  refine a9 (d6 h') λ io h1 h => ?_
  refine a9 (d6 h1) λ v hv h1 => ?_
  rw [jM h1] at hv
  refine a9 (d6 h) λ fs h2 h => ?_
  refine a9 (d6 h2) λ m hs h2 => ?_
  rw [Z6 h2] at hs
  refine i5 (nC h) λ ok h => ?_
  refine a9 (d6 h) λ w l3 h => ?_
  rw [A3 h] at l3
  have hmn : io.2 ≠ n := λ e => hn fs (e ▸ hs)
  refine iq rfl (jT hv henv hc ?_)
  refine Q6 (k := λ v Ei => k v D Ei) hT ?_
  have hs' : ((O.set n m')[io.2]?).bind tH = some fs := by rw [List.getElem?_set_ne (Ne.symm hmn),hs]; rfl
  exact oT hs' (ym ok (oT l3 hk))
noncomputable def two {α : Type} : List α → Option (α × α)
 | [a,b] => some (a,b)
 | _ => none
theorem uV {α : Type} {l : List α} {x : α × α} (h : two l = some x) : l = [x.1,x.2] := by
 rcases l with _ | ⟨a,_ | ⟨b,_ | ⟨c,l⟩⟩⟩ <;> cases h
 rfl
noncomputable def one {α : Type} : List α → Option α
 | [a] => some a
 | _ => none
theorem bg {α : Type} {l : List α} {x : α} (h : one l = some x) : l = [x] := by
 rcases l with _ | ⟨a,_ | ⟨b,l⟩⟩ <;> cases h
 rfl
noncomputable def isZ : Const → Bool
 | .int i => i == 0
 | _ => false
theorem uW {c : Const} (h : isZ c = true) : c = .int 0 := by
 cases c with
 | int i => rw [show i = 0 from beq_iff_eq.mp h]
 | _ => cases h
noncomputable def pv (elt : Expr) : Option (Str × Expr × Str) := (qQ elt).bind λ l => (two l).bind λ x => (F8 x.1).bind λ p => (qP x.2).bind λ y => (F8 y.2).bind λ q => some (p,y.1,q)
theorem jU {elt : Expr} {x : Str × Expr × Str} (h : pv elt = some x) : ∃ (a : Nat → Pos) (b : Nat),elt = .Tuple [.Name x.1 (a 0),.Subscript x.2.1 (.Name x.2.2 (a 1)) (a 2)] b (a 3) := by
 refine z9 λ G kG => ?_
 refine a9 (d6 h) λ l h1 h => ?_
 refine a9 (d6 h) λ y h2 h => ?_
 refine a9 (d6 h) λ p h3 h => ?_
 refine a9 (d6 h) λ z h4 h => ?_
 refine a9 (d6 h) λ q h5 h => ?_
 refine kG ?_
 obtain rfl := sj h
 refine z9 λ G kG => ?_
 refine L8 (dZ h1) λ a4 a5 h1 => ?_
 obtain ⟨a1,h3⟩ := s4 h3
 obtain ⟨a3,h4⟩ := dY h4
 obtain ⟨a2,h5⟩ := s4 h5
 refine kG ?_
 exact ⟨λ i => [a1,a2,a3].getD i a5,a4,by rw [h1,uV h2,h3,h4,h5]; rfl⟩
noncomputable def uX (ifs : KL) : Option (Expr × Str) := (one ifs).bind λ c => (ur c).bind λ x => (qP x.1).bind λ y => (F8 y.2).bind λ q => (one x.2.1).bind λ op => (one x.2.2).bind λ r => (H6 r).bind λ z => cond ((op == .NotEq) && isZ z) (some (y.1,q)) none
theorem nD {ifs : KL} {x : Expr × Str} (h : uX ifs = some x) : ∃ (a : Nat → Pos) (b : Nat),ifs = [.Compare (.Subscript x.1 (.Name x.2 (a 0)) (a 1)) [.NotEq] [.Constant (.int 0) b (a 2)] (a 3)] := by
 refine z9 λ G kG => ?_
 refine a9 (d6 h) λ c h1 h => ?_
 refine a9 (d6 h) λ y h2 h => ?_
 refine a9 (d6 h) λ z h3 h => ?_
 refine a9 (d6 h) λ q h4 h => ?_
 refine a9 (d6 h) λ op h5 h => ?_
 refine a9 (d6 h) λ r h6 h => ?_
 refine a9 (d6 h) λ w h7 h => ?_
 refine i5 (nC h) λ e h8 => anB e λ e1 e2 => i6 (mH h2) λ a5 h2 => i6 (dY h3) λ a2 h3 => i6 (s4 h4) λ a1 h4 => L8 (H7 h7) λ a3 a4 h7 => kG ?_
 obtain rfl := sj h8
 exact ⟨λ i => [a1,a2,a4].getD i a5,a3,by rw [bg h1,h2,h3,h4,bg h5,bg h6,h7,beq_iff_eq.mp e1,uW e2]; rfl⟩
noncomputable def M4 (elt target : Expr) (ifs : KL) : Option (Str × Expr × Expr) := (pv elt).bind λ x => (F8 target).bind λ p => (uX ifs).bind λ y =>
 cond ((x.1 == p) && (x.2.2 == p) && (y.2 == p) && !(p == ("__debug__" : Str)) && j9 (.Name x.1 ⟨0,0,0,0⟩)) (some (p,x.2.1,y.1)) none
theorem Q7 {elt target : Expr} {ifs : KL} {p : Str} {d1 d2 : Expr} (h : M4 elt target ifs = some (p,d1,d2)) : ∃ (a c : Nat → Pos) (b e : Nat) (q : Pos),elt = .Tuple [.Name p (a 0),.Subscript d1 (.Name p (a 1)) (a 2)] b (a 3) ∧ target = .Name p q ∧ ifs = [.Compare (.Subscript d2 (.Name p (c 0)) (c 1)) [.NotEq] [.Constant (.int 0) e (c 2)] (c 3)] ∧ (p == ("__debug__" : Str)) = false := by
 refine z9 λ G kG => ?_
 refine a9 (d6 h) λ x h1 h => ?_
 refine a9 (d6 h) λ p' h2 h => ?_
 refine a9 (d6 h) λ y h3 h => ?_
 refine i5 (nC h) λ q h4 => ?_
 have k1 : p' = p := congrArg (·.1) (sj h4)
 have k2 : x.2.1 = d1 := congrArg (·.2.1) (sj h4)
 have k3 : y.1 = d2 := congrArg (·.2.2) (sj h4)
 refine anB q λ q Z => anB q λ q q4 => anB q λ q q3 => anB q λ q1 q2 => L8 (jU h1) λ a b e1 => i6 (s4 h2) λ a6 e2 => L8 (nD h3) λ c e e3 => ?_
 rw [beq_iff_eq.mp q1,beq_iff_eq.mp q2,k1,k2] at e1
 rw [beq_iff_eq.mp q3,k1,k3] at e3
 rw [k1] at e2 q4
 exact kG ⟨a,c,b,e,a6,e1,e2,e3,eq_false_of_ne_true λ z => by rw [z] at q4; cases q4⟩
theorem B7 {l : KD} : (dL x v l).lookup x = some v := by
 rw [A1,if_pos rfl]
theorem gp {T : Tab} (hT : TabOK X T) {elt target : Expr} {ifs : KL} {p : Str} {d1 d2 : Expr} {sc : Scope} {cel : KD} {n : Nat} {es : KF} {o : Obj} {k : List V → Gam → List MO → Prop} (hpc : M4 elt target ifs = some (p,d1,d2))
  (henv : env.scope = sc) (hp : sc.names.lookup p = some .local) (h1 : tI T sc cel O d1 = some n) (h2 : tI T sc cel O d2 = some n) (hs : O[n]? = some (.imap es))
  : ∀ (l : KF) (acc : KN) (D : Gam),(∀ e ∈ l,e ∈ es) → D.cel = cel →
   (∀ Γ' : Gam,Γ'.cel = cel → k (acc ++ (((l.filter λ e => !((s6 es e.1).getD 0 == 0)).map λ e => (e.1,(s6 es e.1).getD 0)).map gm)) Γ' (O.set n (.pin o es))) →
   Y7 X d env target ifs elt (λ σ' => σ'[n]? = some (.pin o es)) k (l.map λ e => .int e.1) acc D (O.set n (.pin o es)) := by
 intro l
 induction l with
 | nil => intro acc D hl hc h; exact ⟨y4 hs,by have := h D hc; rw [List.filter_nil,List.map_nil,List.map_nil,List.append_nil] at this; exact this⟩
 | cons e l ih =>
  intro acc D hl hc h
  refine ⟨y4 hs,?_⟩
  refine z9 λ G kG => ?_
  obtain ⟨_,_,_,_,_,rfl,rfl,rfl,hd⟩ := Q7 hpc
  obtain ⟨v,hv⟩ := nB (hl e mS)
  refine kG ?_
  have kp : env.kindOf p = some .local := by show env.scope.names.lookup p = _; rw [henv]; exact hp
  have hn : ∀ fs,O[n]? ≠ some (.flds fs) := λ fs q => by rw [hs] at q; cases q
  refine dT kp ?_
  have read : ∀ {dd : Expr} {q : Pos} {vs : KN} {kk : KB},tI T sc cel O dd = some n → kk (.int v) { D with loc := dL p (.int e.1) D.loc } (O.set n (.pin o es)) →
    ∀ {a : Pos},Ev X (RV X) d env { D with loc := dL p (.int e.1) D.loc } (O.set n (.pin o es)) vs (λ Z => eval (.Subscript dd (.Name p a) q) env) kk := by
   intro dd q vs kk hdd hkk a
   refine pu rfl (rJ hT hdd henv hc hn (L9 kp hd B7 ?_))
   refine (?_ : jF n e.1 _ _)
   unfold jF
   rw [y4 hs]
   refine (?_ : gc es e.1 _)
   unfold gc
   refine hv.symm ▸ ?_
   exact hkk
  refine jb rfl (read h2 (oO ?_))
  refine ⟨!(v == 0),iY rfl,?_⟩
  have hf : List.filter (λ e => !((s6 es e.1).getD 0 == 0)) (e :: l) = if (!(v == 0)) = true then e :: List.filter (λ e => !((s6 es e.1).getD 0 == 0)) l else List.filter (λ e => !((s6 es e.1).getD 0 == 0)) l := by
   rw [List.filter_cons,hv]; rfl
  rw [hf] at h
  cases q : !(v == 0) with
  | true =>
   replace h := q ▸ h
   simp only [if_true,yc8] at h
   refine dR (bM rfl (L9 kp hd B7 (bM rfl (read h1 (oR ?_)))))
   refine N5 (yc3 rfl) ?_
   refine ih _ _ (λ e he => hl e (mM _ he)) hc λ Γ' hΓ' => ?_
   have := h Γ' hΓ'
   rw [hv] at this
   rw [List.append_assoc]
   exact this
  | false =>
   replace h := q ▸ h
   simp only [Bool.false_eq_true,if_false] at h
   exact ih _ _ (λ e he => hl e (mM _ he)) hc h
noncomputable def uY (v : MO) : Option (List (Int × Int)) := ifc λ c : v.ctorIdx = 3 => MO.imap.elim (motive := λ Z => Option (List (Int × Int))) v c λ w => some w
theorem nE {v : MO} {x : KF} (h : uY v = some x) : v = .imap x := by
 refine i6 (g6 h) λ c h => ?_
 revert h
 exact MO.imap.elim (motive := λ v => ∀ c,MO.imap.elim (motive := λ Z => Option (List (Int × Int))) v c (λ w => some w) = some x → v = .imap x) v c (λ w c h => by obtain rfl := sj h; rfl) c
noncomputable def uZ (T : Tab) (R : Rec) (sc : Scope) (p : Str) (d1 d2 iter : Expr) (scope : Scope) (D : Gam) (O : KG) (k : KB) : Prop :=
 cond (E4 sc scope && n9 iter) (R.ev false sc iter D O λ v Eg Eh => v7 (lW v) λ n => v7 (Eh[n]?) λ m => v7 (uY m) λ es => cond (decide (es.length ≤ 100000) && (tI T (w6 sc scope) (Y8 scope Eg).cel Eh d1 == some n) && (tI T (w6 sc scope) (Y8 scope Eg).cel Eh d2 == some n) && ((w6 sc scope).names.lookup p == some .local))
     (k (.prs (I4 es)) (A9 scope Eg (Y8 scope Eg)) Eh) False) False
theorem cX {T : Tab} (hT : TabOK X T) {R : Rec} {N : Nat} (hR : Sound X N R) {sc scope : Scope} {elt target iter : Expr} {ifs : KL} {p : Str} {d1 d2 : Expr} {pos : Pos} {k : KB} (hpc : M4 elt target ifs = some (p,d1,d2))
  (h : uZ T R sc p d1 d2 iter scope D O k) (henv : env.scope = sc) : Ev X (RV X) N env D O vs (λ Z => eval (.ListComp elt [⟨target,iter,ifs,0⟩] scope pos) env) k := by
 refine i5 (d8 h) λ c h => ?_
 rw [ya4] at c
 have ht : m6 target = true := by
  refine z9 λ G kG => ?_
  obtain ⟨_,_,_,_,_,rfl,rfl,rfl,hd⟩ := Q7 hpc
  refine kG ?_
  rfl
 subst henv
 refine nA hT.sys c.1 c.2 ht ((hR.ev _ _ _ _ _ _ h env [] rfl).imp λ v Eg Eh z => ?_)
 refine a9 (c9 z) λ n ev z1 => a9 (c9 z1) λ m hs z2 => a9 (c9 z2) λ es em z3 => ?_
 clear z z1 z2
 cases A3 ev
 replace hs := nE em ▸ hs
 refine i5 (d8 z3) λ c2 z => ?_
 simp only [ya4,ya5,beq_iff_eq] at c2
 refine ⟨n,es,I4 es,rfl,hs,c2.1.1.1,λ o cenv hc => ?_⟩
 refine gp hT hpc hc c2.2 c2.1.1.2 c2.1.2 hs es [] _ (λ Z h => h) rfl λ Γ' hΓ' => ?_
 rw [List.nil_append]
 refine ⟨rfl,rfl,?_⟩
 have e : A9 scope Eg Γ' = A9 scope Eg (Y8 scope Eg) := by unfold A9; rw [hΓ']
 rw [e]; exact z
end
section
open PySem.Spec
noncomputable abbrev KE := V → Gam → List MO → Prop
noncomputable def vc (T : Tab) (sc : Scope) (x : Str) (D : Gam) (O : KG) (k : KE) : Prop := cond (x == ("__debug__" : Str)) False (v7 (sc.names.lookup x) λ nk => cond (nk == .local) (v7 (D.loc.lookup x) λ v => k v D O) (cond (nk == .cell) (v7 (D.cel.lookup x) λ v => k v D O) (cond (nk == .globalImplicit) (v7 (ny T.glob x) λ v => k v D O) False)))
theorem vd {b : Bool} {P Q G : Prop} (h : cond b P Q) (h1 : b = true → P → G) (h2 : b = false → Q → G) : G := by
 induction b using Bool.casesOn with
 | true => exact h1 rfl h
 | false => exact h2 rfl h
theorem jV {u : Value} {k : KE} (hl : env.kindOf x = some .globalImplicit) (hd : (x == ("__debug__" : Str)) = false) (hv : X.mg x = some u) (hr : ∀ F J,VR X.w.params F J v u) (h : k v D O) : Ev X (RV X) d env D O vs (λ Z => eval (.Name x pos) env) k := by
 intro A E Q s F G J us _ r f _ hk
 exact Calls.Name_function_global f.kind hl (Calls.loadGlobal_global (by rw [f.glob]; exact X.top.g.keeps (f8 r)) hv (hk v u s.heap s.toks F J O D h (.refl F J) r f (hr F J))) hd
theorem cY {T : Tab} (hT : TabOK X T) {k : KE} (h : vc T sc x D O k) (henv : env.scope = sc) : Ev X (RV X) d env D O vs (λ Z => eval (.Name x pos) env) k := by
 subst henv
 refine i5 (Z7 h) λ c h => a9 (c9 h) λ nk hl h => ?_
 refine vd h (λ q h => a9 (c9 h) λ v e h => ?_) λ Z h => vd h (λ q h => a9 (c9 h) λ v e h => ?_) λ Z h => i5 (d8 h) λ q h => a9 (c9 h) λ v e h => i6 (Q4 e) λ Z hm => a9 (hT.glob _ x v hm) λ u hu hr => ?_
 ·exact L9 (beq_iff_eq.mp q ▸ hl) c e h
 ·exact ii (beq_iff_eq.mp q ▸ hl) c e h
 ·exact jV (beq_iff_eq.mp q ▸ hl) c hu hr h
noncomputable def px (c : Const) (D : Gam) (O : KG) (k : KE) : Prop := match c with
 | .int i => k (.int i) D O
 | .str s => k (.str s) D O
 | .bool b => k (.bool b) D O
 | .none => k .none D O
 | _ => False
theorem bj {c : Const} {kd : Nat} {k : KE} (h : px c D O k) : Ev X (RV X) d env D O vs (λ Z => eval (.Constant c kd pos) env) k := by
 induction c using Const.casesOn with
 | int i => exact oO h
 | str s => exact tS h
 | bool b => exact qi h
 | none => exact qj h
 | _ => exact h.elim
noncomputable def nF (R : Rec) (sc : Scope) (op : BoolOp) : List Expr → Gam → List MO → KE → Prop
 | [],_,_,_ => False
 | x :: r,D,O,k => cond r.isEmpty (R.ev false sc x D O k) (R.ev false sc x D O λ v Eg Eh => v7 (qr v) λ c => match op with
   | .And => cond c (nF R sc op r Eg Eh k) (k (.bool false) Eg Eh)
   | .Or => cond c (k (.bool true) Eg Eh) (nF R sc op r Eg Eh k))
theorem cZ {R : Rec} (hR : Sound X n R) {op : BoolOp} (henv : env.scope = sc) {xs : KL} : ∀ {D : Gam} {O : KG} {vs : KN} {k : KE},nF R sc op xs D O k → Ev X (RV X) n env D O vs (λ Z => eval (.BoolOp op xs pos) env) k := by
 induction xs with
 | nil => intro _ _ _ _ h; exact h.elim
 | cons x r ih =>
  intro D O vs k h
  induction r using List.casesOn with
  | nil => exact bQ (hR.ev _ _ _ _ _ _ h env [] henv)
  | cons y r =>
   have h1 := (hR.ev _ _ _ _ _ _ h env [] henv)
   induction op using BoolOp.casesOn with
   | And =>
    refine ub (h1.imp λ v Eg Eh z => a9 (c9 z) λ c hc z => ⟨c,E6 hc,?_⟩)
    induction c using Bool.casesOn with
    | true => exact ih z
    | false => exact z
   | Or =>
    refine yq (h1.imp λ v Eg Eh z => a9 (c9 z) λ c hc z => ⟨c,E6 hc,?_⟩)
    induction c using Bool.casesOn with
    | true => exact z
    | false => exact ih z
noncomputable def ve (T : Tab) (R : Rec) (sc : Scope) (c : Cee) (args : KL) (D : Gam) (O : KG) (k : KE) : Prop :=
 cond (uS T c) (esR R false sc args D O λ ws Eg Eh => Bd T R c ws Eh λ v Ei => k v Eg Ei) False
theorem eH {T : Tab} (hT : TabOK X T) {xp : Pos} {c : Cee} (henv : env.scope = sc) (e : yF T sc D x = some c) : c.fst = [] ∧ Ev X (RV X) d env D O vs (λ Z => eval (.Name x xp) env) (λ v Γ' σ' => v = .val c.val ∧ Γ' = D ∧ σ' = O) := by
 subst henv
 refine cnE e (λ Z e => nomatch e) λ q e => cnE e (λ hl e => a9 (d6 e) λ v hv e => a9 (map_some e) λ a ha e => ?_) λ Z e => cnE e (λ hl e => i8 e (λ v hv e => a9 (map_some e) λ a ha e => i6 (Q4 hv) λ Z hm => a9 (hT.glob _ x _ hm) λ u hu hr => ?_) λ e => a9 (map_some e) λ b hb e => i6 (Q4 hb) λ Z hm => ?_) nofun
 ·rw [eE ha] at hv
  exact e ▸ ⟨rfl,L9 (beq_iff_eq.mp hl) q hv ⟨rfl,rfl,rfl⟩⟩
 ·rw [eE ha] at hr
  exact e ▸ ⟨rfl,jV (beq_iff_eq.mp hl) q hu hr ⟨rfl,rfl,rfl⟩⟩
 ·exact e ▸ ⟨rfl,fh (beq_iff_eq.mp hl) q (hT.blt _ x b hm).1 (hT.blt _ x b hm).2 ⟨rfl,rfl,rfl⟩⟩
noncomputable def bk (O : KG) (o : V) : Bool := ((dM o).elim true λ x => Nat.ble x.length 1000000) && (n4 O o).elim true λ xs => Nat.ble xs.length 2000000
theorem jW {o : V} (h : bk O o = true) : iQ O o := by
 refine anB h λ h1 h2 => ⟨λ x e => ?_,λ xs e => ?_⟩
 ·rw [e] at h1; exact yc3 h1
 ·rw [e] at h2; exact yc3 h2
noncomputable def isB (v : V) (f : List Int → Prop) : Prop := v7 (qs v) f
@[elab_as_elim] theorem vf {v : V} {f : List Int → Prop} {C : V → Prop} (h : isB v f) (k : ∀ i,f i → C (.byt i)) : C v := by
 cases v <;> first | exact k _ h | exact False.elim h
noncomputable def py (o : V) (n : Int) (D : Gam) (O : KG) (k : KE) : Prop := match my O o n with
 | some v => cond (bk O o) (k v D O) False
 | none => False
noncomputable def pz (R : Rec) (sc : Scope) (value : Expr) (lo : Option Expr) (up : Expr) (D : Gam) (O : KG) (k : KE) : Prop := match lo with
 | none => R.ev false sc value D O λ o Eg Eh => R.ev false sc up Eg Eh λ iv Ej Ei => isI iv λ n => py o n Ej Ei k
 | some lo => R.ev false sc value D O λ o Eg Eh => R.ev false sc lo Eg Eh λ iv Ej Ei => R.ev false sc up Ej Ei λ jv EH ED => isB o λ xs => isI iv λ i => isI jv λ j =>
  cond (decide (0 ≤ i) && decide (i ≤ j) && decide (j ≤ xs.length) && decide (xs.length ≤ 100000)) (k (.byt ((xs.drop i.toNat).take (j - i).toNat)) EH ED) False
theorem bm {R : Rec} (hR : Sound X n R) {value up : Expr} {lo : Option Expr} {p pos : Pos} {k : KE} (h : pz R sc value lo up D O k) (henv : env.scope = sc) :
  Ev X (RV X) n env D O vs (λ Z => eval (.Subscript value (.Slice lo (some up) none p) pos) env) k := by
 have E1 : ∀ {held : Bool} {e : Expr} {D : Gam} {O : KG} {vs : KN} {k : KE},R.ev held sc e D O k → Ev X (RV X) n env D O vs (λ Z => eval e env) k := λ {held e D O vs k} h => hR.ev held sc e D O k h env vs henv
 induction lo using Option.casesOn with
 | none =>
  refine qN ((E1 h).imp λ o Eg Eh z => (E1 z).imp λ iv Ej Ei z => ?_)
  refine G2 z λ n z => ?_
  unfold py at z
  split at z
  ·rename_i v e
   exact ⟨_,v,rfl,e,jW (d8 z).1,(d8 z).2⟩
  ·exact z.elim
 | some lo =>
  refine iR ((E1 h).imp λ o Eg Eh z => (E1 z).imp λ iv Ej Ei z => (E1 z).imp λ jv EH ED z => ?_)
  refine vf z λ xs z => G2 z λ i z => G2 z λ j z => ?_
  refine i5 (d8 z) λ c z => ?_
  simp only [ya4,ya5] at c
  exact ⟨_,_,_,rfl,rfl,rfl,⟨c.1.1.1,c.1.1.2,c.1.2,c.2⟩,z⟩
noncomputable def yL (held : Bool) (ws : KN) (O : KG) (k : KC) : Prop := cond (decide (ws.length ≤ 100000)) (cond held (k (.h O.length) (O ++ [xZ ws])) (k (w3 ws) O)) False
theorem gq {held : Bool} {ws : KN} (h : yL held ws O k) : Op X (RV X) d O ws (λ us => newList us) k := by
 refine i5 (d8 h) λ c h => ?_
 have c := ya3 c
 induction held using Bool.casesOn with
 | true => exact bS c h
 | false => exact bR c h
theorem nG {k : KE} (h : k (.h O.length) D (O ++ [.emp])) : Ev X (RV X) d env D O vs (λ Z => eval (.Dict [] [] pos) env) k := by
 intro A E Q s F G J us hA r f hv hk
 refine wpAny_Dict_empty ?_
 have hd := Heap.DictOf.new (prog := X.prog) (w := X.w) (knd := PySem.intKind X.prog X.w) s.heap
 refine ig (hd) λ o es ep ho hx Z => ?_
 have he := ya8 s.heap (o := { cls := .type "dict", data := .dict #[] }) rfl
 rw [he] at ho
 obtain rfl := sj ho
 refine C2 (r.newH (o := { cls := .type "dict", data := .dict #[] }) (m := .emp) rfl (.emp (ep := 0) hx rfl)) λ x r' l => ?_
 have hk' : ∀ b o',s.heap.get? b = some o' → (s.heap.push { cls := .type "dict", data := .dict #[] }).get? b = some o' := λ b o' e => ya9 _ e
 refine hk _ _ _ _ _ _ _ _ h x r' ((f.keep hk').more x λ a ha => ⟨(f.as.1 a ha).1,λ q => ?_⟩) (.h l)
 rcases List.mem_append.mp q with q | q
 ·exact (f.as.1 a ha).2 q
 ·exact f.apart a q ha
noncomputable def Ca (v : V) (D : Gam) (O : KG) (K : List V → Gam → List MO → Prop) : Prop := v7 (cr v) λ items => K (A8 0 items) D O
noncomputable def Cb (v w : V) (D : Gam) (O : KG) (K : List V → Gam → List MO → Prop) : Prop := v7 (je v w) λ items => K items D O
noncomputable def Cc (b : Bi) (R : Rec) (sc : Scope) (args : KL) (D : Gam) (O : KG) (K : List V → Gam → List MO → Prop) : Prop := match b with
 | .enumerate => esR R false sc args D O λ ws Eg Eh => ar1 ws λ v => Ca v Eg Eh K
 | .zip => esR R false sc args D O λ ws Eg Eh => ar2 ws λ v w => Cb v w Eg Eh K
 | _ => False
noncomputable def Bf (v : Expr) : Option (Expr × List Expr × List Keyword) := ifc λ c : v.ctorIdx = 16 => Expr.Call.elim (motive_1 := λ Z => Option (Expr × List Expr × List Keyword)) v c λ f a w p => some (f,a,w)
theorem rK {v : Expr} {x : (Expr × List Expr × List Keyword)} (h : Bf v = some x) : ∃ p,v = .Call x.1 x.2.1 x.2.2 p := by
 refine i6 (g6 h) λ c h => ?_
 exact Expr.Call.elim (motive_1 := λ v => ∀ c,Expr.Call.elim (motive_1 := λ Z => Option (Expr × List Expr × List Keyword)) v c (λ f a w p => some (f,a,w)) = some x → ∃ p,v = .Call x.1 x.2.1 x.2.2 p) v c (λ f a w p c h => by obtain rfl := sj h; exact ⟨p,rfl⟩) c h
noncomputable def Bg (v : Expr) : Option (Expr × Str × Pos) := ifc λ c : v.ctorIdx = 20 => Expr.Attribute.elim (motive_1 := λ Z => Option (Expr × Str × Pos)) v c λ o a p => some (o,a,p)
theorem rL {v : Expr} {x : (Expr × Str × Pos)} (h : Bg v = some x) : v = .Attribute x.1 x.2.1 x.2.2 := by
 refine i6 (g6 h) λ c h => ?_
 exact Expr.Attribute.elim (motive_1 := λ v => ∀ c,Expr.Attribute.elim (motive_1 := λ Z => Option (Expr × Str × Pos)) v c (λ o a p => some (o,a,p)) = some x → v = .Attribute x.1 x.2.1 x.2.2) v c (λ o a p c h => by obtain rfl := sj h; exact rfl) c h
noncomputable def Bh (v : Expr) : Option (Option Expr × Option Expr × Option Expr) := ifc λ c : v.ctorIdx = 26 => Expr.Slice.elim (motive_1 := λ Z => Option (Option Expr × Option Expr × Option Expr)) v c λ l u s p => some (l,u,s)
theorem rM {v : Expr} {x : (Option Expr × Option Expr × Option Expr)} (h : Bh v = some x) : ∃ p,v = .Slice x.1 x.2.1 x.2.2 p := by
 refine i6 (g6 h) λ c h => ?_
 exact Expr.Slice.elim (motive_1 := λ v => ∀ c,Expr.Slice.elim (motive_1 := λ Z => Option (Option Expr × Option Expr × Option Expr)) v c (λ l u s p => some (l,u,s)) = some x → ∃ p,v = .Slice x.1 x.2.1 x.2.2 p) v c (λ l u s p c h => by obtain rfl := sj h; exact ⟨p,rfl⟩) c h
noncomputable def Bj (e : Expr) : Option (Str × List Expr) := (Bf e).bind λ z => cond z.2.2.isEmpty ((F8 z.1).map λ x => (x,z.2.1)) none
theorem rN {q : Str × List Expr} (h : Bj e = some q) : ∃ p1 p2,e = .Call (.Name q.1 p1) q.2 [] p2 := by
 refine a9 (d6 h) λ z hz h => cnE h (λ c h => a9 (map_some h) λ x hx q => i6 (rK hz) λ p e => i6 (s4 hx) λ p1 e1 => ?_) nofun
 subst q
 exact ⟨p1,p,by rw [e,e1,List.isEmpty_iff.mp c]⟩
noncomputable def Bk (T : Tab) (R : Rec) (sc : Scope) (x : Str) (args : KL) (D : Gam) (O : KG) (K : List V → Gam → List MO → Prop) : Prop := cond (args.all j9) (v7 (yF T sc D x) λ c => match c with
 | .bi b => Cc b R sc args D O K
 | _ => False) False
noncomputable def Cd (v : V) (D : Gam) (O : KG) (K : List V → Gam → List MO → Prop) : Prop := v7 (M1 v) λ vals => K vals D O
noncomputable def Ce (R : Rec) (sc : Scope) (target iter : Expr) (D : Gam) (O : KG) (K : List V → Gam → List MO → Prop) : Prop := cond (m6 target) (R.ev false sc iter D O λ v Eg Eh => Cd v Eg Eh K) False
noncomputable def yM (T : Tab) (R : Rec) (sc : Scope) (target iter : Expr) (D : Gam) (O : KG) (K : List V → Gam → List MO → Prop) : Prop := S9 ((qQ target).bind λ Z => Bj iter) (λ q => Bk T R sc q.1 q.2 D O K) (Ce R sc target iter D O K)
theorem gr {T : Tab} (hT : TabOK X T) {R : Rec} (hR : Sound X n R) {a : KL} {b : Nat} {p1 p2 p3 : Pos} {args : KL} {K : List V → Gam → List MO → Prop} (h : Bk T R sc x args D O K) (henv : env.scope = sc) : Fst X n env (.Tuple a b p1) (.Call (.Name x p2) args [] p3) D O K := by
 refine i5 (d8 h) λ c h => a9 (c9 h) λ ce hc h => ?_
 induction ce using Cee.casesOn with
 | bi bb =>
  have hn := (eH (vs := []) (O := O) (d := n) (xp := p2) hT henv hc).2
  induction bb using Bi.casesOn with
  | enumerate => exact O9 c (Bi.keep .enumerate) hn ((z0 hR henv h).imp λ ws Eg Eh z => pj z λ v z => a9 (c9 z) λ items e z => ⟨_,mU e,z⟩)
  | zip => exact O9 c (Bi.keep .zip) hn ((z0 hR henv h).imp λ ws Eg Eh z => eo z λ v w z => a9 (c9 z) λ items e z => ⟨_,qW e,z⟩)
  | _ => exact False.elim h
 | _ => exact False.elim h
theorem W3 {T : Tab} (hT : TabOK X T) {R : Rec} (hR : Sound X n R) {target iter : Expr} {K : List V → Gam → List MO → Prop} (h : yM T R sc target iter D O K) (henv : env.scope = sc) : Fst X n env target iter D O K := by
 refine k9 h (λ q hq h => a9 (d6 hq) λ z hz hq => L8 (dZ hz) λ a p e => L8 (rN hq) λ p1 p2 e2 => ?_) λ h => mV (d8 h).1 ((hR.ev _ _ _ _ _ _ (d8 h).2 env [] henv).imp λ v Eg Eh z => c9 z)
 exact e ▸ e2 ▸ gr hT hR h henv
noncomputable def jX (R : Rec) (sc : Scope) (k : Bool → Gam → List MO → Prop) : List Expr → Gam → List MO → Prop
 | [],D,O => k true D O
 | c :: r,D,O => R.tt sc c D O λ b Eg Eh => cond b (jX R sc k r Eg Eh) (k false Eg Eh)
noncomputable def jY (R : Rec) (sc : Scope) (target : Expr) (ifs : KL) (elt : Expr) (k : List V → Gam → List MO → Prop) : List V → List V → Gam → List MO → Prop
 | [],acc,D,O => k acc D O
 | v :: vs,acc,D,O => R.asg sc target v D O λ Eg Eh => jX R sc (λ ok Ej Ei => cond ok (R.ev false sc elt Ej Ei λ x EH ED => jY R sc target ifs elt k vs (acc ++ [x]) EH ED) (jY R sc target ifs elt k vs acc Ej Ei)) ifs Eg Eh
theorem bn {R : Rec} (hR : Sound X n R) {k k' : Bool → Gam → List MO → Prop} (henv : env.scope = sc) (hk : ∀ b D O,k b D O → k' b D O) : ∀ {ifs : KL} {D : Gam} {O : KG},jX R sc k ifs D O → ec X n env k' ifs D O := by
 intro ifs
 induction ifs with
 | nil =>
  intro Z Z h
  exact hk _ _ _ h
 | cons c r ih =>
  intro D O h
  refine Ev.imp (hR.tt _ _ _ _ _ h env [] henv) λ b Eg Eh z => ?_
  induction b using Bool.casesOn with
  | true => exact ih z
  | false => exact hk _ _ _ z
theorem da {R : Rec} (hR : Sound X n R) {target elt : Expr} {ifs : KL} {k : List V → Gam → List MO → Prop} (henv : env.scope = sc) : ∀ {vals acc : KN} {D : Gam} {O : KG},jY R sc target ifs elt k vals acc D O → Y7 X n env target ifs elt (λ Z => True) k vals acc D O := by
 intro vals
 induction vals with
 | nil =>
  intro Z Z Z h
  exact ⟨trivial,h⟩
 | cons v vals ih =>
  intro acc D O h
  refine ⟨trivial,Ev.imp (hR.asg _ _ _ _ _ _ h env henv) λ Z Eg Eh z => bn hR henv (λ b Ej Ei z => ?_) z⟩
  induction b using Bool.casesOn with
  | true => exact (hR.ev _ _ _ _ _ _ z env [] henv).imp λ x EH ED z => ih z
  | false => exact ih z
noncomputable def rO (T : Tab) (R : Rec) (sc : Scope) (target iter : Expr) (ifs : KL) (elt : Expr) (scope : Scope) (D : Gam) (O : KG) (k : KE) : Prop :=
 cond (E4 sc scope && n9 iter) (yM T R sc target iter D O λ vals Eg Eh => cond (decide (vals.length ≤ 100000)) (jY R (w6 sc scope) target ifs elt (λ acc Γ' σ' => k (w3 acc) (A9 scope Eg Γ') σ') vals [] (Y8 scope Eg) Eh) False) False
theorem Q8 {T : Tab} (hT : TabOK X T) {R : Rec} (hR : Sound X n R) {sc scope : Scope} {target iter elt : Expr} {ifs : KL} {k : KE} (h : rO T R sc target iter ifs elt scope D O k) (henv : env.scope = sc) :
  E4 env.scope scope = true ∧ n9 iter = true ∧ Fst X n env target iter D O (cw X n env.scope target ifs elt scope k) := by
 refine i5 (d8 h) λ c h => ?_
 rw [ya4] at c
 subst henv
 refine ⟨c.1,c.2,(W3 hT hR h rfl).imp λ vals Eg Eh z => ?_⟩
 refine i5 (d8 z) λ c2 z => ?_
 exact ⟨ya3 c2,λ cenv hc => da hR hc z⟩
noncomputable def Cf (R : Rec) (sc : Scope) (value slice : Expr) (D : Gam) (O : KG) (k : KE) : Prop := cond (m4 slice) (R.ev false sc value D O λ o Eg Eh => R.ev false sc slice Eg Eh λ i Ej Ei => yA o i Ei λ v => k v Ej Ei) False
noncomputable def rQ (ks : List (Option Expr)) (es : KL) (D : Gam) (O : KG) (k : KE) : Prop := v7 (p9 ks es) λ ps => cond (!(ks.isEmpty) && Nat.ble ks.length 15) (k (.h O.length) D (O ++ [.smap (fR [] ps)])) False
noncomputable def vg (T : Tab) (R : Rec) (sc : Scope) (x : Str) (args : KL) (D : Gam) (O : KG) (k : KE) : Prop := cond (args.all j9) (v7 (yF T sc D x) λ c => ve T R sc c args D O k) False
noncomputable def vh (T : Tab) (R : Rec) (sc : Scope) (o : Expr) (name : Str) (apos : Pos) (args : KL) (pos : Pos) (D : Gam) (O : KG) (k : KE) : Prop := cond ((C4 o && args.all j9) && (Nat.blt args.length 30 && (apos.endLine == pos.line))) (R.ev false sc o D O λ ov Eg Eh => v7 (Bc T ov name Eh) λ c => ve T R sc c args Eg Eh k) False
noncomputable def yN (T : Tab) (R : Rec) (sc : Scope) (f : Expr) (args : KL) (pos : Pos) (D : Gam) (O : KG) (k : KE) : Prop := S9 (F8 f) (λ x => vg T R sc x args D O k) (v7 (Bg f) λ q => vh T R sc q.1 q.2.1 q.2.2 args pos D O k)
noncomputable def Ch (R : Rec) (sc : Scope) (value slice : Expr) (D : Gam) (O : KG) (k : KE) : Prop := S9 ((Bh slice).bind λ z => cond z.2.2.isNone (z.2.1.map λ up => (z.1,up)) none) (λ q => pz R sc value q.1 q.2 D O k) (Cf R sc value slice D O k)
noncomputable def vi (T : Tab) (R : Rec) (sc : Scope) (elt target iter : Expr) (ifs : KL) (scope : Scope) (D : Gam) (O : KG) (k : KE) : Prop := S9 (M4 elt target ifs) (λ q => uZ T R sc q.1 q.2.1 q.2.2 iter scope D O k) (rO T R sc target iter ifs elt scope D O k)
noncomputable def Bl (v : Expr) : Option (Expr × List Comprehension × Scope × Pos) := ifc λ c : v.ctorIdx = 8 => Expr.ListComp.elim (motive_1 := λ Z => Option (Expr × List Comprehension × Scope × Pos)) v c λ e g s p => some (e,g,s,p)
theorem rR {v : Expr} {x : (Expr × List Comprehension × Scope × Pos)} (h : Bl v = some x) : v = .ListComp x.1 x.2.1 x.2.2.1 x.2.2.2 := by
 refine i6 (g6 h) λ c h => ?_
 exact Expr.ListComp.elim (motive_1 := λ v => ∀ c,Expr.ListComp.elim (motive_1 := λ Z => Option (Expr × List Comprehension × Scope × Pos)) v c (λ e g s p => some (e,g,s,p)) = some x → v = .ListComp x.1 x.2.1 x.2.2.1 x.2.2.2) v c (λ e g s p c h => by obtain rfl := sj h; exact rfl) c h
noncomputable def yO (gs : List Comprehension) : Option Comprehension := (one gs).bind λ g => cond (g.is_async == 0) (some g) none
theorem jZ {gs : List Comprehension} {g : Comprehension} (h : yO gs = some g) : gs = [⟨g.target,g.iter,g.ifs,0⟩] := by
 refine a9 (d6 h) λ g' hg h => cnE h (λ q h => ?_) nofun
 obtain rfl := sj h
 obtain ⟨a,b,c,z⟩ := g'
 obtain rfl : z = 0 := beq_iff_eq.mp q
 exact bg hg
noncomputable def evS (T : Tab) (R : Rec) (held : Bool) (sc : Scope) (e : Expr) (D : Gam) (O : KG) (k : KE) : Prop := match e with
 | .Name x _ => vc T sc x D O k
 | .Constant c _ _ => px c D O k
 | .BinOp l op r _ => R.ev false sc l D O λ a Eg Eh => R.ev false sc r Eg Eh λ b Ej Ei => AY held op a b Ei λ v ED => k v Ej ED
 | .UnaryOp .Not x _ => R.ev false sc x D O λ v Eg Eh => v7 (qr v) λ c => k (.bool (!c)) Eg Eh
 | .UnaryOp .USub x _ => R.ev false sc x D O λ v Eg Eh => v7 (fk v) λ i => k (.int (-i)) Eg Eh
 | .BoolOp op xs _ => nF R sc op xs D O k
 | .Compare l [op] [r] _ => cond (behindInMarks op r) False (R.ev false sc l D O λ a Eg Eh => R.ev false sc r Eg Eh λ b Ej Ei => yH op a b Ei λ c => k (.bool c) Ej Ei)
 | .IfExp t a b _ => R.tt sc t D O λ c Eg Eh => cond c (R.ev held sc a Eg Eh k) (R.ev held sc b Eg Eh k)
 | .Call f args kws pos => cond kws.isEmpty (yN T R sc f args pos D O k) False
 | .Attribute o name _ => cond (C4 o) (R.ev false sc o D O λ ov Eg Eh => uR T ov name Eh λ v => k v Eg Eh) False
 | .Subscript value slice _ => Ch R sc value slice D O k
 | .List elts _ => esR R false sc elts D O λ ws Eg Eh => yL held ws Eh λ v Ei => k v Eg Ei
 | .Tuple elts _ _ => esR R held sc elts D O λ ws Eg Eh => cond (decide (ws.length ≤ 100000)) (k (.tup ws) Eg Eh) False
 | .Dict [] [] _ => k (.h O.length) D (O ++ [.emp])
 | .Dict ks es _ => rQ ks es D O k
 | .ListComp elt gs scope _ => v7 (yO gs) λ g => vi T R sc elt g.target g.iter g.ifs scope D O k
 | _ => False
theorem db {ks : List (Option Expr)} {es : KL} {k : KE} {p : Pos} (h : rQ ks es D O k) : Ev X (RV X) d env D O vs (λ Z => eval (.Dict ks es p) env) k := by
 refine a9 (c9 h) λ ps e h => i5 (d8 h) λ c h => anB c λ c1 c2 => ?_
 exact mL e (by simpa using c1) (yc3 c2) h
theorem nH {T : Tab} (hT : TabOK X T) {R : Rec} (hR : Sound X n R) {xp p : Pos} {args : KL} {k : KE} (h : vg T R sc x args D O k) (henv : env.scope = sc) : Ev X (RV X) n env D O vs (λ Z => eval (.Call (.Name x xp) args [] p) env) k := by
 refine i5 (d8 h) λ q0 h => a9 (c9 h) λ c hc h => i5 (d8 h) λ q h => i5 (eH (vs := []) (O := O) (d := n) (xp := xp) hT henv hc) λ hf hn => ?_
 refine qp q0 (Ev.imp hn λ v Γ' σ' z => ?_)
 obtain ⟨rfl,rfl,rfl⟩ := z
 refine ⟨c.val,rfl,W2 hT q,(z0 hR henv h).imp λ ws Eg Eh z => ?_⟩
 have := W1 hT hR z
 rwa [hf] at this
theorem kc {T : Tab} (hT : TabOK X T) {R : Rec} (hR : Sound X n R) {o : Expr} {name : Str} {apos p : Pos} {args : KL} {k : KE} (h : vh T R sc o name apos args p D O k) (henv : env.scope = sc) : Ev X (RV X) n env D O vs (λ Z => eval (.Call (.Attribute o name apos) args [] p) env) k := by
 refine i5 (d8 h) λ q h => anB q λ q1 q2 => anB q1 λ a1 a2 => anB q2 λ a3 a4 => ?_
 exact lU a1 a2 (yc3 a3) a4 ((hR.ev _ _ _ _ _ _ h env [] henv).imp λ ov Eg Eh z => a9 (c9 z) λ c hc z => i5 (d8 z) λ q z => ⟨c.val,c.fst,gh hT hc,W2 hT q,λ Z Z => (z0 hR henv z).imp λ ws Ej Ei z => W1 hT hR z⟩)
theorem dc {T : Tab} (hT : TabOK X T) {R : Rec} (hR : Sound X n R) {elt target iter : Expr} {ifs : KL} {scope : Scope} {p : Pos} {k : KE} (h : vi T R sc elt target iter ifs scope D O k) (henv : env.scope = sc) : Ev X (RV X) n env D O vs (λ Z => eval (.ListComp elt [⟨target,iter,ifs,0⟩] scope p) env) k := by
 exact k9 h (λ q e h => cX hT hR e h henv) λ h => C2 (Q8 hT hR h henv) λ c1 c2 h => ra c1 c2 h
theorem ke {T : Tab} (hT : TabOK X T) {R : Rec} (hR : Sound X n R) {held : Bool} {k : KE} (h : evS T R held sc e D O k) (henv : env.scope = sc) : Ev X (RV X) n env D O vs (λ Z => eval e env) k := by
 have E1 : ∀ {held : Bool} {e : Expr} {D : Gam} {O : KG} {vs : KN} {k : KE},R.ev held sc e D O k → Ev X (RV X) n env D O vs (λ Z => eval e env) k := λ {held e D O vs k} h => hR.ev held sc e D O k h env vs henv
 induction e using Expr.casesOn with
 | Name x p => exact cY hT h henv
 | Constant c kd p => exact bj h
 | BinOp l op r p => exact lT ((E1 h).imp λ a Eg Eh z => (E1 z).imp λ b Ej Ei z => fY z)
 | UnaryOp op x p =>
  induction op using UnaryOp.casesOn with
  | Not => exact tZ ((E1 h).imp λ v Eg Eh z => a9 (c9 z) λ c hc z => ⟨c,E6 hc,z⟩)
  | USub => exact uh ((E1 h).imp λ v Eg Eh z => a9 (c9 z) λ c hc z => ⟨c,C5 hc,z⟩)
  | _ => exact False.elim h
 | BoolOp op xs p => exact cZ hR henv h
 | Compare l ops rs p =>
  rcases ops with _ | ⟨op,_ | ⟨op2,ops⟩⟩
  ·exact False.elim h
  ·rcases rs with _ | ⟨r,_ | ⟨r2,rs⟩⟩
   ·exact False.elim h
   ·exact qR (Z7 h).1 ((E1 (Z7 h).2).imp λ a Eg Eh z => (E1 z).imp λ b Ej Ei z => jO hT.sys z)
   ·exact False.elim h
  ·exact False.elim h
 | IfExp t a b p =>
  refine lZ ((hR.tt _ _ _ _ _ h env [] henv).imp λ c Eg Eh z => ?_)
  induction c using Bool.casesOn with
  | true => exact E1 z
  | false => exact E1 z
 | Call f args kws p =>
  refine i5 (d8 h) λ q h => ?_
  rw [List.isEmpty_iff.mp q]
  refine k9 h (λ x e h => i6 (s4 e) λ xp e => ?_) λ h => a9 (c9 h) λ z e h => ?_
  ·exact e ▸ nH hT hR h henv
  ·exact rL e ▸ kc hT hR h henv
 | Attribute o name p => exact iq (d8 h).1 ((E1 (d8 h).2).imp λ ov Eg Eh z => Q6 (k := λ v Ei => k v Eg Ei) hT z)
 | Subscript value slice p =>
  refine k9 h (λ q hq h => a9 (d6 hq) λ z hz hq => i6 (rM hz) λ p2 e => cnE hq (λ n hq => a9 (map_some hq) λ up hu q' => ?_) nofun) λ h => pu (d8 h).1 ((E1 (d8 h).2).imp λ o Eg Eh z => E1 z)
  rw [e,Option.isNone_iff_eq_none.mp n,hu]
  subst q'
  exact bm hR h henv
 | List elts p => exact mf ((z0 hR henv h).imp λ ws Eg Eh z => gq z)
 | Tuple elts kk p => exact dR ((z0 hR henv h).imp λ ws Eg Eh z => N5 (ya3 (d8 z).1) (d8 z).2)
 | Dict ks es p =>
  have gen : rQ ks es D O k → Ev X (RV X) n env D O vs (λ Z => eval (.Dict ks es p) env) k := db
  induction ks using List.casesOn with
  | nil =>
   induction es using List.casesOn with
   | nil => exact nG h
   | cons _ _ => exact gen h
  | cons _ _ => exact gen h
 | ListComp elt gens scope p => exact a9 (c9 h) λ g hg h => jZ hg ▸ dc hT hR h henv
 | _ => exact False.elim h
end
section
open PySem.Spec
noncomputable abbrev KS := Fl → Gam → List MO → Prop
noncomputable abbrev KU := Gam → List MO → Prop
noncomputable def rS (R : Rec) (sc : Scope) : List Expr → List V → Gam → List MO → KU → Prop
 | t :: ts,v :: ws,D,O,k => R.asg sc t v D O λ Eg Eh => rS R sc ts ws Eg Eh k
 | [],[],D,O,k => k D O
 | _,_,_,_,_ => False
noncomputable abbrev Bm (o : Option NameKind) (A B : Prop) : Prop := match o with
 | some .local => A
 | some .cell => B
 | _ => False
theorem rT {o : Option NameKind} {A B G : Prop} (h : Bm o A B) (h1 : o = some .local → A → G) (h2 : o = some .cell → B → G) : G := by
 rcases o with _ | k
 ·exact False.elim h
 ·cases k <;> first | exact h1 rfl h | exact h2 rfl h | exact False.elim h
noncomputable def yP (T : Tab) (R : Rec) (sc : Scope) (t : Expr) (v : V) (D : Gam) (O : KG) (k : KU) : Prop := match t with
 | .Name y _ => Bm (sc.names.lookup y) (k { D with loc := dL y v D.loc } O) (k { D with cel := dL y v D.cel } O)
 | .Attribute o name _ => R.ev false sc o D O λ ov Eg Eh => Bb T ov name v Eh λ Ei => k Eg Ei
 | .Subscript o i _ => R.ev false sc o D O λ ov Eg Eh => R.ev false sc i Eg Eh λ iv Ej Ei => Ba ov iv v Ei λ ED => k Ej ED
 | .Tuple ts _ _ => v7 (lN v) λ ws => cond (ts.all j9 && (ts.length == ws.length)) (rS R sc ts ws D O k) False
 | _ => False
theorem de {R : Rec} (hR : Sound X n R) (henv : env.scope = sc) {ts : KL} : ∀ {ws : KN} {D : Gam} {O : KG} {k : KU},rS R sc ts ws D O k → ud X n env ts ws D O (λ Z => k) := by
 induction ts with
 | nil =>
  intro ws D O k h
  induction ws using List.casesOn with
  | nil => exact mt (k := λ Z => _) h
  | cons => exact False.elim h
 | cons t ts ih =>
  intro ws D O k h
  induction ws using List.casesOn with
  | nil => exact False.elim h
  | cons => exact iI (k := λ Z => k) ((hR.asg _ _ _ _ _ _ h env henv).imp λ Z Z Z z => ih z)
theorem kf {T : Tab} {R : Rec} {y : Str} {p : Pos} {k : KU} (h : yP T R sc (.Name y p) v D O k) (henv : env.scope = sc) : Asg X n env (.Name y p) v D O (λ Z => k) := by
 subst henv
 exact rT h (λ c h => dT (k := λ Z => k) c h) λ c h => mq (k := λ Z => k) c h
theorem gt {T : Tab} (hT : TabOK X T) {R : Rec} (hR : Sound X n R) {t : Expr} {k : KU} (h : yP T R sc t v D O k) (henv : env.scope = sc) : Asg X n env t v D O (λ Z => k) := by
 have E1 : ∀ {held : Bool} {e : Expr} {D : Gam} {O : KG} {vs : KN} {k : KE},R.ev held sc e D O k → Ev X (RV X) n env D O vs (λ Z => eval e env) k := λ {held e D O vs k} h => hR.ev held sc e D O k h env vs henv
 induction t using Expr.casesOn with
 | Name y p => exact kf h henv
 | Attribute o name p => exact mr (k := λ Z => k) ((E1 h).imp λ ov Eg Eh z => gg (k := λ Ei => k Eg Ei) hT z)
 | Subscript o i p => exact qG (k := λ Z => k) ((E1 h).imp λ ov Eg Eh z => (E1 z).imp λ iv Ej Ei z => fZ (k := λ ED => k Ej ED) z)
 | Tuple ts a p =>
  refine a9 (c9 h) λ ws e h1 => ?_
  cases A4 e
  exact i5 (d8 h1) λ c h => anB c λ c1 c2 => iJ (k := λ Z => k) c1 (beq_iff_eq.mp c2) (de hR henv h)
 | _ => exact False.elim h
noncomputable def eI (e : Expr) : Bool := e.ctorIdx == 8 || e.ctorIdx == 9 || e.ctorIdx == 10
theorem K1 {value : Expr} {t : Option Expr} {line : Nat} (h : eI value = false) : swapsWith value t line env = pure false := by
 cases value <;> first | rfl | cases h
noncomputable def kg (sc : Scope) : ScopeKind := if sc.kind.isAnnotationScope then .function else sc.kind
noncomputable def l8 (sc : Scope) (ts : KL) : List Str :=
 ts.filterMap fun
  | .Name id pos => if sc.names.lookup id == some .local && pos.line == (ts.head?.map (·.pos.line)).getD 0 then some id else none
  | _ => none
noncomputable def rV (sc : Scope) (ts : KL) (vs : KL) : Option (Option (List Str)) :=
 cond (!(ts.length == 2 || ts.length == 3) || vs.length != ts.length || kg sc != .function) (some none)
 (cond (vs.any λ | .Starred .. => true | _ => false) (some none)
 (cond ((l8 sc ts).length != ts.length || (l8 sc ts).eraseDups.length != (l8 sc ts).length) (some none)
 (cond (vs.all (foldedForSure 8)) (some none)
 (cond (vs.all (constantsAlone 8)) none
 (some (some (l8 sc ts)))))))
theorem v3 {ts vs : KL} {a b : Nat} {p q : Pos} {r : Option (List Str)} (h : rV env.scope ts vs = some r) : swappedStores [.Tuple ts a p] (.Tuple vs b q) env = pure r := by
 have e0 : swappedStores [.Tuple ts a p] (.Tuple vs b q) env = (if (!(ts.length == 2 || ts.length == 3) || vs.length != ts.length || kg env.scope != .function) = true then pure none
  else if (vs.any λ | .Starred .. => true | _ => false) = true then pure none
  else if ((l8 env.scope ts).length != ts.length || (l8 env.scope ts).eraseDups.length != (l8 env.scope ts).length) = true then pure none
  else if vs.all (foldedForSure 8) = true then pure none
  else if vs.all (constantsAlone 8) = true then (do let _ ← (unsupported "assign.tuple-of-constant-expressions:order-of-the-stores" : Sem PUnit); pure (some (l8 env.scope ts)))
  else pure (some (l8 env.scope ts))) := rfl
 rw [e0]
 unfold rV at h
 cases c1 : (!(ts.length == 2 || ts.length == 3) || vs.length != ts.length || kg env.scope != .function) with
 | true => rw [c1] at h; obtain rfl := sj h; rw [if_pos rfl]
 | false =>
  replace h := c1 ▸ h
  dsimp only [cond] at h
  refine (if_neg Bool.false_ne_true).symm ▸ ?_
  cases c2 : (vs.any λ | .Starred .. => true | _ => false) with
  | true => rw [c2] at h; obtain rfl := sj h; rw [if_pos rfl]
  | false =>
   replace h := c2 ▸ h
   dsimp only [cond] at h
   refine (if_neg Bool.false_ne_true).symm ▸ ?_
   cases c3 : ((l8 env.scope ts).length != ts.length || (l8 env.scope ts).eraseDups.length != (l8 env.scope ts).length) with
   | true => rw [c3] at h; obtain rfl := sj h; rw [if_pos rfl]
   | false =>
    replace h := c3 ▸ h
    dsimp only [cond] at h
    refine (if_neg Bool.false_ne_true).symm ▸ ?_
    cases c4 : vs.all (foldedForSure 8) with
    | true => rw [c4] at h; obtain rfl := sj h; rw [if_pos rfl]
    | false =>
     replace h := c4 ▸ h
     dsimp only [cond] at h
     refine (if_neg Bool.false_ne_true).symm ▸ ?_
     cases c5 : vs.all (constantsAlone 8) with
     | true => rw [c5] at h; cases h
     | false => rw [c5] at h; obtain rfl := sj h; rw [if_neg Bool.false_ne_true]
noncomputable def Z8 (e : Expr) : Bool := e.ctorIdx == 25
noncomputable def kh (e : Expr) : Bool := e.ctorIdx == 24
theorem L5 {t value : Expr} (h : (Z8 t && Z8 value) = false) (hl : kh t = false) : swappedStores [t] value env = pure none := by
 induction t using Expr.casesOn with
 | List => cases hl
 | Tuple => cases value <;> first | rfl | cases h
 | _ => rfl
end
section
open PySem.Spec
noncomputable def vj (R : Rec) (sc : Scope) (target : Expr) (body : List Stmt) (k : KS) : List V → Gam → List MO → Prop
 | [],D,O => k .next D O
 | v :: vs,D,O => R.asg sc target v D O λ Eg Eh => R.ss sc body Eg Eh λ fl Ej Ei => match fl with
  | .next => vj R sc target body k vs Ej Ei
  | .cont => vj R sc target body k vs Ej Ei
  | .brk => k .next Ej Ei
  | .ret v => k (.ret v) Ej Ei
theorem gu {R : Rec} (hR : Sound X n R) {target : Expr} {body : List Stmt} {k : KS} (henv : env.scope = sc) : ∀ {vals : KN} {D : Gam} {O : KG},vj R sc target body k vals D O → qH X n env target body k vals D O := by
 intro vals
 induction vals with
 | nil =>
  intro Z Z h
  exact h
 | cons v vals ih =>
  intro D O h
  refine Ev.imp (hR.asg _ _ _ _ _ _ h env henv) λ Z Eg Eh z => (hR.ss _ _ _ _ _ z env [] henv).imp λ fl Ej Ei z => ?_
  induction fl using Fl.casesOn with
  | next => exact ih z
  | cont => exact ih z
  | brk => exact z
  | ret v => exact z
noncomputable def eJ (R : Rec) (sc : Scope) (test : Expr) (body : List Stmt) (k : KS) : Nat → Gam → List MO → Prop
 | 0,_,_ => False
 | n + 1,D,O => R.tt sc test D O λ c Eg Eh => cond c (R.ss sc body Eg Eh λ fl Ej Ei => match fl with
  | .next => eJ R sc test body k n Ej Ei
  | .cont => eJ R sc test body k n Ej Ei
  | .brk => k .next Ej Ei
  | .ret v => k (.ret v) Ej Ei) (k .next Eg Eh)
theorem bo {R : Rec} (hR : Sound X n R) {test : Expr} {body : List Stmt} {k : KS} (henv : env.scope = sc) : ∀ {m : Nat} {D : Gam} {O : KG},eJ R sc test body k m D O → aD X n env test body k m D O := by
 intro m
 induction m with
 | zero =>
  intro Z Z h
  exact h.elim
 | succ m ih =>
  intro D O h
  refine Ev.imp (hR.tt _ _ _ _ _ h env [] henv) λ c Eg Eh z => ?_
  induction c using Bool.casesOn with
  | true =>
   refine (hR.ss _ _ _ _ _ z env [] henv).imp λ fl Ej Ei z => ?_
   induction fl using Fl.casesOn with
   | next => exact ih z
   | cont => exact ih z
   | brk => exact z
   | ret v => exact z
  | false => exact z
noncomputable def M5 (sc : Scope) : List Str → Bool
 | [] => true
 | n :: r => (sc.names.lookup n == some .local) && M5 sc r
theorem dg : ∀ {l : List Str},M5 sc l = true → ∀ n ∈ l,sc.names.lookup n = some .local := by
 intro l
 induction l with
 | nil =>
  intro Z Z h
  cases h
 | cons m r ih =>
  intro h n hn
  unfold M5 at h
  rw [ya4] at h
  rcases mcs hn with rfl | hn
  ·exact beq_iff_eq.mp h.1
  ·exact ih h.2 n hn
noncomputable def vk (T : Tab) (line : Nat) : Bool := !(T.cold.any (· == line))
noncomputable def dj (T : Tab) (R : Rec) (sc : Scope) (t value : Expr) (line : Nat) (D : Gam) (O : KG) (k : KS) : Prop :=
 R.ev (vk T line) sc value D O λ v Eg Eh => R.asg sc t v Eg Eh λ Ej Ei => k .next Ej Ei
noncomputable def isFn : ScopeKind → Bool
 | .function => true
 | _ => false
noncomputable def yQ (v : Expr) : Option (List Expr × Nat × Pos) := ifc λ c : v.ctorIdx = 25 => Expr.Tuple.elim (motive_1 := λ Z => Option (List Expr × Nat × Pos)) v c λ e n p => some (e,n,p)
theorem ki {v : Expr} {x : (List Expr × Nat × Pos)} (h : yQ v = some x) : v = .Tuple x.1 x.2.1 x.2.2 := by
 refine i6 (g6 h) λ c h => ?_
 exact Expr.Tuple.elim (motive_1 := λ v => ∀ c,Expr.Tuple.elim (motive_1 := λ Z => Option (List Expr × Nat × Pos)) v c (λ e n p => some (e,n,p)) = some x → v = .Tuple x.1 x.2.1 x.2.2) v c (λ e n p c h => by obtain rfl := sj h; exact rfl) c h
noncomputable def Bn (v : Expr) : Option (Str × Pos) := ifc λ c : v.ctorIdx = 23 => Expr.Name.elim (motive_1 := λ Z => Option (Str × Pos)) v c λ y p => some (y,p)
theorem rW {v : Expr} {x : (Str × Pos)} (h : Bn v = some x) : v = .Name x.1 x.2 := by
 refine i6 (g6 h) λ c h => ?_
 exact Expr.Name.elim (motive_1 := λ v => ∀ c,Expr.Name.elim (motive_1 := λ Z => Option (Str × Pos)) v c (λ y p => some (y,p)) = some x → v = .Name x.1 x.2) v c (λ y p c h => by obtain rfl := sj h; exact rfl) c h
noncomputable def vl (T : Tab) (R : Rec) (sc : Scope) (ts : KL) (a : Nat) (p : Pos) (vs : KL) (b : Nat) (q pos : Pos) (D : Gam) (O : KG) (k : KS) : Prop := cond (ts.all j9) (v7 (rV sc ts vs) λ o => S9 o (λ names => cond (M5 sc names.reverse) (R.ev true sc (.Tuple vs b q) D O λ v Eg Eh => v7 (lN v) λ ws => cond (names.length == ws.length) (k .next { Eg with loc := X9 names.reverse ws.reverse Eg.loc } Eh) False) False)
  (dj T R sc (.Tuple ts a p) (.Tuple vs b q) pos.line D O k)) False
noncomputable def vm (T : Tab) (R : Rec) (sc : Scope) (y : Str) (p : Pos) (elt target iter : Expr) (ifs : KL) (scope : Scope) (pos : Pos) (D : Gam) (O : KG) (k : KS) : Prop := cond (rb sc y p pos scope) (cond (sc.names.lookup y == some .local)
  (rO T R sc target iter ifs elt scope D O λ v Γ' σ' => k .next { Γ' with loc := dL y v Γ'.loc } σ') False) False
noncomputable def Bo (T : Tab) (R : Rec) (sc : Scope) (t value : Expr) (pos : Pos) (D : Gam) (O : KG) (k : KS) : Prop := cond (eI value || kh t || !(j9 t) || (Z8 t && Z8 value)) False (dj T R sc t value pos.line D O k)
noncomputable def Ci (T : Tab) (R : Rec) (sc : Scope) (t value : Expr) (pos : Pos) (D : Gam) (O : KG) (k : KS) : Prop := S9 ((yQ t).bind λ a => (yQ value).map λ b => (a,b)) (λ q => vl T R sc q.1.1 q.1.2.1 q.1.2.2 q.2.1 q.2.2.1 q.2.2.2 pos D O k)
 (S9 ((Bn t).bind λ a => (Bl value).bind λ b => (yO b.2.1).map λ g => (a,b,g)) (λ q => vm T R sc q.1.1 q.1.2 q.2.1.1 q.2.2.target q.2.2.iter q.2.2.ifs q.2.1.2.2.1 q.2.1.2.2.2 D O k) (Bo T R sc t value pos D O k))
noncomputable def stS (T : Tab) (R : Rec) (sc : Scope) (st : Stmt) (D : Gam) (O : KG) (k : KS) : Prop := match st with
 | .Assign ts value pos => v7 (one ts) λ t => Ci T R sc t value pos D O k
 | .Expr e _ => cond (eI e || !(isFn sc.kind)) False (R.ev false sc e D O λ v Eg Eh => cond (oQ v) (k .next Eg Eh) False)
 | .Return (some e) _ => R.ev true sc e D O λ v Eg Eh => k (.ret v) Eg Eh
 | .Return none _ => k (.ret .none) D O
 | .If t a b _ => R.tt sc t D O λ c Eg Eh => cond c (R.ss sc a Eg Eh k) (R.ss sc b Eg Eh k)
 | .For target iter body [] _ => cond (n9 iter) (yM T R sc target iter D O λ vals Eg Eh => vj R sc target body k vals Eg Eh) False
 | .While test body [] _ => eJ R sc test body k 20 D O
 | .Try body (_ :: _) [] [] _ => R.ss sc body D O k
 | .Continue _ => k .cont D O
 | _ => False
theorem G3 {T : Tab} {line : Nat} {R : Rec} (hR : Sound X n R) {t value : Expr} {pos : Pos} {k : KS} (h : dj T R sc t value line D O k) (henv : env.scope = sc) (c1 : eI value = false) (c3 : j9 t = true) (hw : swappedStores [t] value env = pure none) :
  Ev X (RFl X) n env D O vs (λ Z => exec (.Assign [t] value pos) env) k :=
 bU (K1 c1) hw c3 ((hR.ev _ _ _ _ _ _ h env [] henv).imp λ Z Z Z z => Ev.imp (hR.asg _ _ _ _ _ _ z env henv) λ Z Z Z z => z)
theorem dk {T : Tab} {R : Rec} (hR : Sound X n R) {ts ws : KL} {a b : Nat} {p q pos : Pos} {k : KS} (h : vl T R sc ts a p ws b q pos D O k) (henv : env.scope = sc) : Ev X (RFl X) n env D O vs (λ Z => exec (.Assign [.Tuple ts a p] (.Tuple ws b q) pos) env) k := by
 refine i5 (d8 h) λ c h => a9 (c9 h) λ o e h => ?_
 induction o using Option.casesOn with
 | none => exact G3 hR h henv rfl rfl (v3 (henv.symm ▸ e))
 | some names =>
  refine i5 (d8 h) λ c2 h => ?_
  refine T1 (names := names) rfl (v3 (henv.symm ▸ e)) (λ n hn => ?_) ((hR.ev _ _ _ _ _ _ h env [] henv).imp λ v Eg Eh z => a9 (c9 z) λ ws hw z => i5 (d8 z) λ c z => ⟨_,A4 hw,beq_iff_eq.mp c,z⟩)
  subst henv; exact dg c2 n hn
theorem dm {T : Tab} (hT : TabOK X T) {R : Rec} (hR : Sound X n R) {y : Str} {elt target iter : Expr} {ifs : KL} {scope : Scope} {p pos p2 : Pos} {k : KS} (h : vm T R sc y p elt target iter ifs scope pos D O k) (henv : env.scope = sc) : Ev X (RFl X) n env D O vs (λ Z => exec (.Assign [.Name y p] (.ListComp elt [⟨target,iter,ifs,0⟩] scope pos) p2) env) k := by
 refine i5 (d8 h) λ c h => i5 (d8 h) λ hl h => C2 (Q8 hT hR h henv) λ c1 c2 h2 => ?_
 subst henv
 exact rc c1 c2 c (beq_iff_eq.mp hl) h2
theorem gv {T : Tab} {R : Rec} (hR : Sound X n R) {t value : Expr} {k : KS} (h : Bo T R sc t value pos D O k) (henv : env.scope = sc) : Ev X (RFl X) n env D O vs (λ Z => exec (.Assign [t] value pos) env) k := by
 refine i5 (Z7 h) λ c h => ?_
 simp only [Bool.or_eq_false_iff] at c
 exact G3 hR h henv c.1.1.1 (by simpa using c.1.2) (L5 c.2 c.1.1.2)
theorem nI (h : (!(isFn env.scope.kind)) = false) : interactive env = false := by
 unfold interactive
 cases q : env.scope.kind <;> rw [q] at h <;> first | rfl | cases h
theorem Q9 {T : Tab} (hT : TabOK X T) {R : Rec} (hR : Sound X n R) {st : Stmt} {k : KS} (h : stS T R sc st D O k) (henv : env.scope = sc) : Ev X (RFl X) n env D O vs (λ Z => exec st env) k := by
 have E1 : ∀ {held : Bool} {e : Expr} {D : Gam} {O : KG} {vs : KN} {k : KE},R.ev held sc e D O k → Ev X (RV X) n env D O vs (λ Z => eval e env) k := λ {held e D O vs k} h => hR.ev held sc e D O k h env vs henv
 induction st using Stmt.casesOn with
 | Assign targets value pos =>
  refine a9 (c9 h) λ t ht h => ?_
  rw [bg ht]
  refine k9 h (λ q hq h => a9 (d6 hq) λ a ha hq => a9 (map_some hq) λ b hb q' => ?_) λ h => k9 h (λ q hq h => a9 (d6 hq) λ a ha hq => a9 (d6 hq) λ b hb hq => a9 (map_some hq) λ g hg q' => ?_) λ h => gv hR h henv
  ·subst q'
   rw [ki ha,ki hb]
   exact dk hR h henv
  ·subst q'
   rw [rW ha,rR hb,jZ hg]
   exact dm hT hR h henv
 | Expr e p =>
  refine i5 (Z7 h) λ c h => ?_
  rw [Bool.or_eq_false_iff] at c
  subst henv
  exact qm (K1 c.1) (nI c.2) ((E1 h).imp λ v Eg Eh z => d8 z)
 | Return e p =>
  induction e using Option.casesOn with
  | some e => exact ik (E1 h)
  | none => exact fE h
 | If t a b p =>
  refine ua ((hR.tt _ _ _ _ _ h env [] henv).imp λ c Eg Eh z => ?_)
  induction c using Bool.casesOn with
  | true => exact hR.ss _ _ _ _ _ z env [] henv
  | false => exact hR.ss _ _ _ _ _ z env [] henv
 | For target iter body orelse p =>
  induction orelse using List.casesOn with
  | nil => exact rg (d8 h).1 ((W3 hT hR (d8 h).2 henv).imp λ vals Eg Eh z => gu hR henv z)
  | cons _ _ => exact False.elim h
 | While test body orelse p =>
  induction orelse using List.casesOn with
  | nil => exact mv 20 (bo hR henv h)
  | cons _ _ => exact False.elim h
 | Try body hs orelse fin p =>
  induction hs using List.casesOn with
  | nil => exact False.elim h
  | cons _ _ =>
   induction orelse using List.casesOn with
   | cons _ _ => exact False.elim h
   | nil =>
    induction fin using List.casesOn with
    | cons _ _ => exact False.elim h
    | nil => exact ue (hR.ss _ _ _ _ _ h env [] henv)
 | Continue p => exact qK h
 | _ => exact False.elim h
noncomputable def ssS (T : Tab) (R : Rec) (sc : Scope) : List Stmt → Gam → List MO → KS → Prop
 | [],D,O,k => k .next D O
 | st :: r,D,O,k => stS T R sc st D O λ fl Eg Eh => match fl with
  | .next => ssS T R sc r Eg Eh k
  | .brk => k .brk Eg Eh
  | .cont => k .cont Eg Eh
  | .ret v => k (.ret v) Eg Eh
theorem kj {T : Tab} (hT : TabOK X T) {R : Rec} (hR : Sound X n R) (henv : env.scope = sc) : ∀ {b : List Stmt} {D : Gam} {O : KG} {vs : KN} {k : KS},ssS T R sc b D O k → Ev X (RFl X) n env D O vs (λ Z => execs b env) k := by
 intro b
 induction b with
 | nil =>
  intro Z Z Z Z h
  exact oP h
 | cons st r ih =>
  intro D O vs k h
  refine bL ((Q9 hT hR h henv).imp λ fl Eg Eh z => ?_)
  induction fl using Fl.casesOn with
  | next => exact ih z
  | brk => exact z
  | cont => exact z
  | ret v => exact z
noncomputable def step (T : Tab) (n : Nat) (R : Rec) : Rec where
 ev := evS T R
 tt := ttS R
 ss := ssS T R
 asg := yP T R
 call := rE T R (n + 1)
noncomputable def Cj : Rec where
 ev := λ Z Z Z Z Z Z => False
 tt := λ Z Z Z Z Z => False
 ss := λ Z Z Z Z Z => False
 asg := λ Z Z Z Z Z Z => False
 call := λ Z Z Z Z => False
noncomputable def g8 (T : Tab) : Nat → Rec
 | 0 => Cj
 | n + 1 => step T n (g8 T n)
theorem u9 {T : Tab} (hT : TabOK X T) (n : Nat) : Sound X n (g8 T n) := by
 induction n with
 | zero => exact ⟨λ Z Z Z Z Z Z h => h.elim,λ Z Z Z Z Z h => h.elim,λ Z Z Z Z Z h => h.elim,λ Z Z Z Z Z Z h => h.elim,λ Z Z Z Z h => h.elim⟩
 | succ n hR =>
  have hR' := hR.mono (Nat.le_succ n)
  exact ⟨λ held sc e D O k h env vs he => ke hT hR' h he,λ sc e D O k h env vs he => jQ hT.sys hR' h he,λ sc b D O k h env vs he => kj hT hR' he h,
   λ sc t v D O k h env he => gt hT hR' h he,λ a args O k h => cT hT hR h⟩
end
section
open PySem.Spec
noncomputable def mapV (g : Nat → Option Nat) : Nat → V → V
 | 0,_ => .junk
 | k + 1,v => match v with
  | .h m => (g m).elim .junk V.h
  | .io C m => (g m).elim .junk (V.io C)
  | .tup vs => .tup (vs.map (mapV g k))
  | .lst vs => .lst (vs.map (mapV g k))
  | .obj C fs => .obj C (fs.map λ p => (p.1,mapV g k p.2))
  | v => v
noncomputable def mapM (g : Nat → Option Nat) (k : Nat) : MO → MO
 | .lst vs => .lst (vs.map (mapV g k))
 | .flds fs => .flds (fs.map λ p => (p.1,mapV g k p.2))
 | .smap es => .smap (es.map λ p => (p.1,mapV g k p.2))
 | .tmap es => .tmap (es.map λ p => (p.1,mapV g k p.2))
 | m => m
section
variable {J ρ' : KH} {g : Nat → Option Nat}
theorem VR.mapV (hg : ∀ m a i,J[m]? = some a → g m = some i → ρ'[i]? = some a) : ∀ (k : Nat) {v : V} {u : Value},VR P F J v u → VR P F ρ' (Mine.Internal.mapV g k v) u := by
 intro k
 induction k with
 | zero => intro v u _; exact .junk _
 | succ k ih =>
  intro v u q
  cases q with
  | none => exact .none
  | bool b => exact .bool b
  | int i t => exact .int i t
  | str s t => exact .str s t
  | byt t e => exact .byt t e
  | val => exact .val _
  | nums f q => exact .nums f q
  | rng f => exact .rng f
  | prs f q => exact .prs f q
  | junk => exact .junk _
  | fz n q => exact .fz n (q.noH (λ Z Z e => e) n)
  | tup f c1 c2 q => exact .tup f c1 c2 (VRs.mapF ih q)
  | lst f q => exact .lst f (VRs.mapF ih q)
  | obj f f2 q => exact .obj f f2 (FRs.mapF ih q)
  | @h m a ha =>
   refine (?_ : VR P F ρ' ((g m).elim .junk V.h) (.ref a))
   cases hp : g m with
   | some i => exact .h (hg _ _ _ ha hp)
   | none => exact .junk _
  | @io C m x a ha hx =>
   refine (?_ : VR P F ρ' ((g m).elim .junk (V.io C)) (.ref x))
   cases hp : g m with
   | some i => exact .io (hg _ _ _ ha hp) hx
   | none => exact .junk _
theorem VRs.mapV (hg : ∀ m a i,J[m]? = some a → g m = some i → ρ'[i]? = some a) (k : Nat) {vs : KN} {us : KK} (q : VRs P F J vs us) : VRs P F ρ' (vs.map (Mine.Internal.mapV g k)) us := VRs.mapF (VR.mapV hg k) q
theorem MR.mapM {prog : Program} {w : World} (hg : ∀ m a i,J[m]? = some a → g m = some i → ρ'[i]? = some a) (k : Nat) {m : MO} {o : Obj} (hm : MR prog w F J m o) : MR prog w F ρ' (Mine.Internal.mapM g k m) o := by
 cases hm with
 | lst q => exact .lst (VRs.mapF (VR.mapV hg k) q)
 | nums q => exact .nums q
 | flds q => exact .flds (FRs.mapF (VR.mapV hg k) q)
 | imap a b => exact .imap a b
 | smap a b => exact .smap (SMs.mapF (VR.mapV hg k) a) b
 | tmap a b c d e => exact .tmap (TMs.mapF (f := Mine.Internal.mapV g k) (λ Z Z e => e) (VR.mapV hg k) a) b c d e
 | ftm a b c d e => exact .ftm a b c d e
 | emp a b => exact .emp a b
 | pin a b => exact .pin a b
end
mutual
noncomputable def hsV : V → List Nat
 | .h m => [m]
 | .io _ m => [m]
 | .tup vs => tJ vs
 | .lst vs => tJ vs
 | .obj _ fs => hsF fs
 | _ => []
noncomputable def tJ : List V → List Nat
 | [] => []
 | v :: r => hsV v ++ tJ r
noncomputable def hsF : List (Str × V) → List Nat
 | [] => []
 | (_,v) :: r => hsV v ++ hsF r
end
noncomputable def hsT : List (List Int × V) → List Nat
 | [] => []
 | (_,v) :: r => hsV v ++ hsT r
noncomputable def hsM : MO → List Nat
 | .lst vs => tJ vs
 | .flds fs => hsF fs
 | .smap es => hsF es
 | .tmap es => hsT es
 | _ => []
noncomputable def nJ (O : KG) : Nat → List Nat → List Nat → List Nat
 | 0,_,seen => seen
 | _ + 1,[],seen => seen
 | k + 1,m :: todo,seen => cond (seen.elem m) (nJ O k todo seen) (nJ O k (hsM (O.getD m .emp) ++ todo) (seen ++ [m]))
noncomputable def yd : List Nat → Bool
 | [] => true
 | a :: r => !(r.elem a) && yd r
theorem kl : ∀ {l : List Nat},yd l = true → l.Nodup := by
 intro l
 induction l with
 | nil =>
  intro Z
  exact List.nodup_nil
 | cons a r ih =>
  intro h
  unfold yd at h
  rw [ya4] at h
  rw [List.nodup_cons]
  refine ⟨λ q => ?_,ih h.2⟩
  have := h.1
  replace this := (List.elem_eq_true_of_mem q) ▸ this
  cases this
noncomputable def rX (ks : List Nat) (n : Nat) : Bool := yd ks && ks.all λ m => Nat.blt m n
noncomputable def bkN (ks : List Nat) (n : Nat) (j : Nat) : Option Nat := match ks[j]? with
 | some m => some m
 | none => some (n + (j - ks.length))
noncomputable def R1 (ks : List Nat) (n : Nat) (σ' : KG) : Nat → List MO → List MO
 | _,[] => []
 | i,m :: r => (match y8 i ks 0 with
  | some j => mapM (bkN ks n) 30 (σ'.getD j .emp)
  | none => m) :: R1 ks n σ' (i + 1) r
noncomputable def eK (ks : List Nat) (O σ' : KG) : List MO := R1 ks O.length σ' 0 O ++ (σ'.drop ks.length).map (mapM (bkN ks O.length) 30)
noncomputable def vn (ks : List Nat) (O : KG) : List MO := ks.map λ m => mapM (λ m => y8 m ks 0) 30 (O.getD m .emp)
theorem B0 {ks : List Nat} {σ' : KG} : ∀ {l : KG} {i : Nat},(R1 ks n σ' i l).length = l.length := by
 intro l
 induction l with
 | nil =>
  intro Z
  exact rfl
 | cons Z r ih =>
  intro i
  unfold R1; rw [yb2,yb2,ih]
theorem dn {ks : List Nat} {σ' : KG} {l : KG} : ∀ {i t : Nat},(R1 ks n σ' i l)[t]? = (l[t]?).map λ m => match y8 (i + t) ks 0 with
  | some j => mapM (bkN ks n) 30 (σ'.getD j .emp)
  | none => m := by
 induction l with
 | nil => intro i t; exact rfl
 | cons m r ih =>
  intro i t
  induction t using Nat.casesOn with
  | zero => exact rfl
  | succ t => exact (ih (i := i + 1)).trans (by rw [Nat.add_right_comm]; rfl)
theorem km {ks : List Nat} {J : KH} : (ρK ks J).length = ks.length := yb4 ..
theorem I5 {J : KH} {k : Nat} (h : k < J.length) : J.getD k 0 = J[k] := by simp [h]
theorem rY {f : Value} {args : KN} {k : KC} (ks : List Nat) (hks : rX ks O.length = true)
  (h : OpC X d (vn ks O) (args.map (mapV (λ m => y8 m ks 0) 30)) f (λ v σ' => k (mapV (bkN ks O.length) 30 v) (eK ks O σ'))) : OpC X d O args f k := by
 intro A R s F G J us hA r hv hk
 unfold rX at hks
 rw [ya4] at hks
 have nd := kl hks.1
 have lt : ∀ m ∈ ks,m < J.length := λ m hm => by
  rw [r.len]
  have := List.all_eq_true.mp hks.2 m hm
  simpa [Nat.blt,Nat.lt_iff_add_one_le] using this
 have hg : ∀ m a i,J[m]? = some a → y8 m ks 0 = some i → (ρK ks J)[i]? = some a := λ m a i e p => bY p e
 let as := J.filter λ a => !((ρK ks J).elem a)
 have has : ∀ a,a ∈ as ↔ a ∈ J ∧ a ∉ ρK ks J := λ a => by
  rw [List.mem_filter]
  simp
 have hS : ∀ a ∈ J,∃ o,s.heap.get? a = some o := λ a ha => by
  obtain ⟨i,hi,rfl⟩ := List.getElem_of_mem ha
  refine a9 (r.m i _ _ (yb1 hi) (yb1 (by rw [← r.len]; exact hi))) λ x hx Z => ?_
  exact ⟨x,hx⟩
 have hS' : ∀ a ∈ as,∃ o,s.heap.get? a = some o := λ a ha => hS a ((has a).mp ha).1
 have mem : ∀ a ∈ ρK ks J,a ∈ J := λ a ha => by
  unfold ρK at ha
  refine a9 (List.mem_map.mp ha) λ k hk eR2 => ?_
  subst eR2
  rw [I5 (lt k hk)]; exact List.getElem_mem _
 have r1 : Rel X F (guard as s.heap G) (ρK ks J) (vn ks O) s.heap := by
  refine ⟨r.base,r.f,λ a o q => ?_,λ a o q => ?_,?_,λ a ha => ⟨(r.rf a (mem a ha)).1,?_⟩,?_,λ i a m e1 e2 => ?_⟩
  ·unfold guard at q
   split at q
   ·exact q
   ·exact r.g a o q
  ·unfold guard at q
   split at q
   ·rename_i z; exact (r.rf a ((has a).mp z).1).1
   ·exact r.fg a o q
  ·unfold ρK
   refine List.pairwise_map.mpr ?_
   refine List.Pairwise.imp_of_mem (R := λ x y => x ≠ y) (λ {x y} hx hy hne q => ?_) nd
   rw [I5 (lt x hx),I5 (lt y hy)] at q
   exact hne ((List.getElem_inj r.nd).mp q)
  ·unfold guard
   rw [if_neg (λ z => ((has a).mp z).2 ha)]
   exact (r.rf a (mem a ha)).2
  ·unfold ρK vn; rw [yb4,yb4]
  ·unfold ρK at e1
   unfold vn at e2
   rw [List.getElem?_map] at e1 e2
   refine a9 (map_some e1) λ k hk eR2 => ?_
   subst eR2
   rw [hk] at e2
   obtain rfl := sj e2
   have hl := lt k (yc7 hk)
   have hs : k < O.length := by rw [← r.len]; exact hl
   refine (I5 hl).symm ▸ ?_
   have e2 : O.getD k .emp = O[k] := by simp [hs]
   dsimp only
   refine e2.symm ▸ ?_
   refine a9 (r.m k J[k] O[k] (yb1 hl) (yb1 hs)) λ x hx hm => ?_
   exact ⟨x,hx,MR.mapM hg 30 hm⟩
 refine h A R s F (guard as s.heap G) (ρK ks J) us hA r1 (VRs.mapV hg 30 hv) λ v u h' tk' F' ρ' σ' z x r' hr => ?_
 have hle : ks.length ≤ ρ'.length := by
  by_cases h0 : ks.length = 0
  ·lia
  ·have hl : ks.length - 1 < (ρK ks J).length := by rw [km]; lia
   have := x.r _ _ (yb1 hl)
   have := (List.getElem?_eq_some_iff.mp this).1
   lia
 have hnew : ∀ a ∈ ρ'.drop ks.length,a ∉ J := λ a ha hb => by
  obtain ⟨i,hi,rfl⟩ := List.getElem_of_mem ha
  rw [List.getElem_drop] at hb ha
  replace hi := List.length_drop ▸ hi
  have hi' : ks.length + i < ρ'.length := by lia
  by_cases hc : ρ'[ks.length + i] ∈ ρK ks J
  ·obtain ⟨j,hj,e⟩ := List.getElem_of_mem hc
   have e2 := x.r j _ (yb1 hj)
   obtain ⟨hj',e2⟩ := List.getElem?_eq_some_iff.mp e2
   rw [e] at e2
   have := (List.getElem_inj r'.nd).mp e2
   rw [km] at hj
   lia
  ·have hm := (has _).mpr ⟨hb,hc⟩
   obtain ⟨o,ho⟩ := hS' _ hm
   exact (u7 r' hm ho).2 (List.getElem_mem _)
 have hbk : ∀ m a i,ρ'[m]? = some a → bkN ks O.length m = some i → (J ++ ρ'.drop ks.length)[i]? = some a := λ m a i e p => by
  unfold bkN at p
  split at p
  ·rename_i j hj
   cases p
   have hl := lt _ (yc7 hj)
   have e3 : (ρK ks J)[m]? = some J[i] := by unfold ρK; rw [List.getElem?_map,hj,Option.map_some,I5 hl]
   have e4 := x.r m _ e3
   rw [e] at e4
   obtain rfl := sj e4
   rw [List.getElem?_append_left hl,yb1 hl]
  ·rename_i hj
   obtain rfl := sj p
   have hm := List.getElem?_eq_none_iff.mp hj
   rw [← r.len,List.getElem?_append_right (by exact yb7 _ _),List.getElem?_drop,show ks.length + (J.length + (m - ks.length) - J.length) = m by lia]
   exact e
 have hext : Ext F J F' (J ++ ρ'.drop ks.length) := ⟨x.f,λ n a e => by rw [List.getElem?_append_left (List.getElem?_eq_some_iff.mp e).1]; exact e⟩
 refine hk _ u h' tk' F' (J ++ ρ'.drop ks.length) _ z hext ?_ (VR.mapV hbk 30 hr)
 refine ⟨r'.base,r'.f,λ a o q => ?_,λ a o q => ?_,?_,λ a ha => ?_,?_,λ i a m e1 e2 => ?_⟩
 ·refine r'.g a o ?_
  unfold guard
  split
  ·exact r.g a o q
  ·exact q
 ·refine r'.fg a o ?_
  unfold guard
  split
  ·exact r.g a o q
  ·exact q
 ·rw [List.nodup_append]
  exact ⟨r.nd,r'.nd.sublist (List.drop_sublist _ _),λ a ha b hb e => hnew b hb (e ▸ ha)⟩
 ·rcases List.mem_append.mp ha with ha | ha
  ·refine ⟨?_,(r.rf a ha).2⟩
   by_cases hc : a ∈ ρK ks J
   ·obtain ⟨j,hj,e⟩ := List.getElem_of_mem hc
    have e2 := x.r j _ (yb1 hj)
    rw [e] at e2
    exact (r'.rf a (yc7 e2)).1
   ·have hm := (has _).mpr ⟨ha,hc⟩
    refine i6 (hS' _ hm) λ o ho => ?_
    exact (u7 r' hm ho).1
  ·have hb := List.mem_of_mem_drop ha
   refine ⟨(r'.rf a hb).1,?_⟩
   have := (r'.rf a hb).2
   unfold guard at this
   rwa [if_neg (λ z => hnew a ha ((has a).mp z).1)] at this
 ·unfold eK
  rw [yb3,yb3,B0,yb4,List.length_drop,List.length_drop,r.len,r'.len]
 ·unfold eK at e2
  by_cases hi : i < J.length
  ·rw [List.getElem?_append_left hi,yb1 hi] at e1
   obtain rfl := sj e1
   have hs : i < O.length := by rw [← r.len]; exact hi
   rw [List.getElem?_append_left (by rw [B0]; exact hs),dn,yb1 hs,Option.map_some,yc0] at e2
   obtain rfl := sj e2
   split
   ·rename_i j hj
    have e3 := hg i _ j (yb1 hi) hj
    have e4 := x.r j _ e3
    have hj' := (List.getElem?_eq_some_iff.mp e4).1
    rw [r'.len] at hj'
    have e5 : σ'.getD j .emp = σ'[j] := by simp [hj']
    refine e5.symm ▸ ?_
    refine a9 (r'.m j _ _ e4 (yb1 hj')) λ y hy hm => ?_
    exact ⟨y,hy,MR.mapM hbk 30 hm⟩
   ·rename_i hj
    obtain ⟨y,hy,hm⟩ := r.m i _ _ (yb1 hi) (yb1 hs)
    have hc := iN r.nd lt hj (yb1 hi)
    exact ⟨y,r7 r' ((has _).mpr hc) hy,hm.mono hext⟩
  ·have hi' : J.length ≤ i := by exact Nat.le_of_not_lt (by assumption)
   rw [List.getElem?_append_right hi',List.getElem?_drop] at e1
   rw [List.getElem?_append_right (by rw [B0,← r.len]; exact hi'),B0,List.getElem?_map,List.getElem?_drop] at e2
   rw [show σ'[ks.length + (i - O.length)]? = σ'[ks.length + (i - J.length)]? by rw [r.len]] at e2
   obtain ⟨m',hm',rfl⟩ := map_some e2
   obtain ⟨y,hy,hm⟩ := r'.m _ _ _ e1 hm'
   exact ⟨y,hy,MR.mapM hbk 30 hm⟩
noncomputable def kq (S : Spec) : Spec := λ args O k =>
 let ks := nJ O 400 (tJ args) []
 cond (rX ks O.length) (S (args.map (mapV (λ m => y8 m ks 0) 30)) (vn ks O) (λ v σ' => k (mapV (bkN ks O.length) 30 v) (eK ks O σ'))) False
theorem Z9 {S : Spec} {f : Value} (h : ∀ args O k,S args O k → OpC X d O args f k) : ∀ args O k,kq S args O k → OpC X d O args f k := λ args O k z => by
 refine i5 (d8 (b := rX (nJ O 400 (tJ args) []) O.length) z) λ c z => ?_
 exact rY _ c (h _ _ _ z)
end
section
open PySem.Spec
theorem R2 {α : Type} {n : Str} {ns : List Str} : ∀ {us : List α},n ∉ ns → (ns.zip us).lookup n = none := by
 induction ns with
 | nil => intro us h; exact rfl
 | cons m ns ih =>
  intro us h
  induction us using List.casesOn with
  | nil => exact rfl
  | cons u us =>
  rw [List.zip_cons_cons,yc6]
  have h1 : (n == m) = false := by
   cases q : (n == m) with
   | false => rfl
   | true => exact absurd (beq_iff_eq.mp q ▸ mS) h
  refine h1.symm ▸ ?_
  exact ih λ q => h (mM _ q)
theorem kr {α β : Type} : ∀ {ns ms : List β} {us ds : List α},ns.length = us.length → (ns ++ ms).zip (us ++ ds) = ns.zip us ++ ms.zip ds := by
 intro ns ms us ds h
 exact List.zip_append h
theorem ab {α : Type} {ns : List Str} : ∀ {us : List α},ns.Nodup → ns.length = us.length → ∀ {pre : List (Str × α)},(∀ n ∈ ns,pre.lookup n = none) → ns.filterMap (λ n => ((pre ++ ns.zip us).lookup n).map (n,·)) = ns.zip us := by
 induction ns with
 | nil => intro us nd hl pre hp; exact rfl
 | cons n ns ih =>
  intro us nd hl pre hp
  induction us using List.casesOn with
  | nil => cases hl
  | cons u us =>
  rw [List.nodup_cons] at nd
  refine List.zip_cons_cons.symm ▸ List.filterMap_cons.symm ▸ ?_
  have e : (pre ++ (n,u) :: ns.zip us).lookup n = some u := by
   rw [D8,hp n mS]
   simp
  rw [e]
  dsimp only [Option.map_some]
  congr 1
  have := ih (us := us) nd.2 (by simpa using hl) (pre := pre ++ [(n,u)]) (λ m hm => by
   rw [D8,hp m (mM _ hm)]
   have : (m == n) = false := by
    cases q : (m == n) with
    | false => rfl
    | true => exact absurd (beq_iff_eq.mp q ▸ hm) nd.1
   refine (?_ : List.lookup m [(n,u)] = none)
   rw [yc6,this]; rfl)
  rw [List.append_assoc] at this
  exact this
theorem nK {M : Model} {A : Around} {E : KA} {s : Shared} {Q : List (Str × Value) → Shared → Prop} : ∀ {l slots : List (Str × Value)} {f : (Str × Value) → List (Str × Value) → Sem (ForInStep (List (Str × Value)))},(l.map (·.1)).Nodup →
  (∀ p sl,f p sl = if (sl.lookup p.1).isNone then pure (.yield (sl ++ [(p.1,p.2)])) else pure (.yield sl)) → Q (slots ++ l.filter λ p => (slots.lookup p.1).isNone) s → wpAny M A (forIn l slots f) Q E s := by
 intro l
 induction l with
 | nil =>
  intro slots f Z Z h
  rw [List.forIn_nil]; rw [List.filter_nil,List.append_nil] at h; exact ya1 h
 | cons p l ih =>
  intro slots f nd hf h
  rw [yc8,List.nodup_cons] at nd
  rw [List.forIn_cons,hf]
  rw [List.filter_cons] at h
  cases e : (slots.lookup p.1).isNone with
  | false =>
   rw [e] at h
   refine ya0 (ya1 ?_)
   exact ih nd.2 hf h
  | true =>
   rw [e] at h
   refine ya0 (ya1 ?_)
   refine ih nd.2 hf ?_
   have eq : (l.filter λ q => ((slots ++ [(p.1,p.2)]).lookup q.1).isNone) = l.filter λ q => (slots.lookup q.1).isNone := List.filter_congr λ q hq => by
    rw [D8]
    cases z : slots.lookup q.1 with
    | some v => rfl
    | none =>
     have : (q.1 == p.1) = false := by
      cases e : (q.1 == p.1) with
      | false => rfl
      | true => exact absurd (beq_iff_eq.mp e ▸ List.mem_map.mpr ⟨q,hq,rfl⟩) nd.1
     refine (?_ : (List.lookup q.1 [(p.1,p.2)]).isNone = _)
     rw [yc6,this]; rfl
   rw [eq,List.append_assoc]
   exact h
noncomputable def nL (h : Heap) (v : Value) (ds : KK) : Prop := (v = .none ∧ ds = []) ∨ ∃ T o n,v = .ref T ∧ h.get? T = some o ∧ o.data = .seq ds.toArray n
structure PlainPar (fd : FuncData) (names : List Str) : Prop where
 po : fd.params.posonlyargs = []
 ar : fd.params.args.map (·.arg) = names
 va : fd.params.vararg = none
 ko : fd.params.kwonlyargs = []
 ka : fd.params.kwarg = none
 nd : names.Nodup
section
variable {M : Model} {α β γ : Type} {Q : γ → Shared → Prop}
theorem pA {init : β} {f : α → β → Sem (ForInStep β)} {k : β → Sem γ} (h : wpAny M A (k init) Q E s) : wpAny M A (forIn ([] : List α) init f >>= k) Q E s := by
 rw [List.forIn_nil,pure_bind]; exact h
theorem vo {v : Value} {ds : KK} {k : Option (Array Value) → Sem γ} (hd : nL s.heap v ds) (h : ∀ x : Option (Array Value),(x.getD #[]).toList = ds → wpAny M A (k x) Q E s) : wpAny M A (seqItems? v >>= k) Q E s := by
 rcases hd with ⟨e1,e2⟩ | ⟨T,o,n,e1,ho,e2⟩
 ·exact e1 ▸ ya0 (ya1 (h none (e2.symm ▸ rfl)))
 ·exact e1 ▸ ya0 (wpAny_seqItems ho e2 (h _ rfl))
theorem rZ {c : Prop} {i : Decidable c} {a b : Sem γ} (hc : ¬ c) (h : wpAny M A b Q E s) : wpAny M A (@ite _ c i a b) Q E s := by
 rw [if_neg hc]; exact h
end
theorem eL {names : List Str} : ∀ {us : KK},us.length ≤ names.length → ∀ n ∈ names.take us.length,((names.zip us).lookup n).isSome = true := by
 induction names with
 | nil => intro us h n hn; rw [List.take_nil] at hn; cases hn
 | cons m ns ih =>
  intro us h n hn
  induction us using List.casesOn with
  | nil => cases hn
  | cons u us =>
   rw [List.zip_cons_cons,yc6]
   cases q : (n == m) with
   | true => rfl
   | false =>
    rcases List.mem_cons.mp hn with hn | hn
    ·exact absurd (beq_iff_eq.mpr hn) (q ▸ Bool.false_ne_true)
    ·exact ih (Nat.le_of_succ_le_succ h) n hn
theorem kt {names : List Str} {us : KK} (h1 : us.length ≤ names.length) : names.zip us = (names.take us.length).zip us := by
 rw [List.zip_eq_zip_take_min,Nat.min_eq_right h1,List.take_of_length_le (ya7 us.length)]
theorem nM {names : List Str} {us : KK} (nd : names.Nodup) (h1 : us.length ≤ names.length) : ∀ n ∈ names.drop us.length,(names.zip us).lookup n = none := by
 intro n hn
 rw [kt h1]
 refine R2 λ q => ?_
 rw [← List.take_append_drop us.length names,List.nodup_append] at nd
 exact nd.2.2 n q n hn rfl
theorem ku {names : List Str} {us : KK} (h1 : us.length ≤ names.length) {l : List Str} (hl : ∀ n ∈ l,n ∈ names.take us.length) : l.filter (λ n => ((names.zip us).lookup n).isNone) = [] := by
 rw [List.filter_eq_nil_iff]
 intro n hn
 have := eL h1 n (hl n hn)
 generalize (names.zip us).lookup n = q at this ⊢
 cases q with
 | none => cases this
 | some _ => exact Bool.false_ne_true
section
variable {names : List Str} {us ds : KK} (h1 : us.length ≤ names.length) (h2 : names.length ≤ us.length + ds.length) (h3 : ds.length ≤ names.length)
include h2 h3
theorem vq : names.length - ds.length + (us.length + ds.length - names.length) = us.length := by
 obtain ⟨e,he⟩ := Nat.le.dest h3
 rw [← he] at h2 ⊢
 rw [Nat.add_sub_cancel_left,Nat.add_comm us.length,Nat.add_sub_add_left]
 exact Nat.add_sub_of_le (Nat.le_of_add_le_add_left (Nat.add_comm us.length _ ▸ h2))
include h1
theorem vr : us.length + (ds.length - (us.length + ds.length - names.length)) = names.length := by
 obtain ⟨e,he⟩ := Nat.le.dest h3
 rw [← he] at h1 h2 ⊢
 obtain ⟨f,hf⟩ := Nat.le.dest (Nat.le_of_add_le_add_left (Nat.add_comm us.length _ ▸ h2))
 rw [← hf] at h1 ⊢
 rw [Nat.add_right_comm e f ds.length,Nat.add_comm ds.length e,Nat.add_sub_cancel_left,Nat.add_assoc,Nat.add_sub_of_le (Nat.le_of_add_le_add_left (Nat.add_comm _ e ▸ h1))]
theorem sb (nd : names.Nodup) : ((names.drop (names.length - ds.length)).zip ds).filter (λ p => ((names.zip us).lookup p.1).isNone) = (names.drop us.length).zip (ds.drop (us.length + ds.length - names.length)) := by
 have hj := vq h2 h3
 generalize us.length + ds.length - names.length = j at hj ⊢
 have e1 : (names.drop (names.length - ds.length)).zip ds = ((names.drop (names.length - ds.length)).take j).zip (ds.take j) ++ (names.drop us.length).zip (ds.drop j) := by
  have e2 : names.drop us.length = (names.drop (names.length - ds.length)).drop j := by rw [List.drop_drop,hj]
  rw [e2,← kr (by rw [List.length_take,List.length_take,List.length_drop,Nat.sub_sub_self h3]),List.take_append_drop,List.take_append_drop]
 rw [e1,List.filter_append]
 have f1 : (((names.drop (names.length - ds.length)).take j).zip (ds.take j)).filter (λ p => ((names.zip us).lookup p.1).isNone) = [] := by
  rw [List.filter_eq_nil_iff]
  intro p hp
  have hm : p.1 ∈ (names.drop (names.length - ds.length)).take j := (List.of_mem_zip (a := p.1) (b := p.2) hp).1
  rw [List.take_drop,hj] at hm
  have := eL h1 _ (List.mem_of_mem_drop hm)
  generalize (names.zip us).lookup p.1 = q at this ⊢
  cases q with
  | none => cases this
  | some _ => exact Bool.false_ne_true
 have f2 : ((names.drop us.length).zip (ds.drop j)).filter (λ p => ((names.zip us).lookup p.1).isNone) = (names.drop us.length).zip (ds.drop j) := by
  rw [List.filter_eq_self]
  intro p hp
  rw [nM nd h1 p.1 (List.of_mem_zip (a := p.1) (b := p.2) hp).1]; rfl
 rw [f1,f2,List.nil_append]
theorem vt (nd : names.Nodup) : (names ++ []).filterMap (λ n => ((names.zip us ++ ((names.drop (names.length - ds.length)).zip ds).filter (λ p : Str × Value => ((names.zip us).lookup p.1).isNone)).lookup n).map (n,·)) = names.zip (us ++ ds.drop (us.length + ds.length - names.length)) := by
 rw [List.append_nil,sb h1 h2 h3 nd]
 have hz : names.zip us ++ (names.drop us.length).zip (ds.drop (us.length + ds.length - names.length)) = names.zip (us ++ ds.drop (us.length + ds.length - names.length)) := by
  rw [kt h1,← kr (by rw [List.length_take,Nat.min_eq_left h1]),List.take_append_drop]
 rw [hz]
 exact ab (ns := names) (us := us ++ ds.drop (us.length + ds.length - names.length)) nd (by rw [yb3,List.length_drop]; exact (vr h1 h2 h3).symm) (pre := []) (λ Z Z => rfl)
end
theorem sd {l : List Str} (e : l = []) : ¬ (!l.isEmpty) = true := by rw [e]; exact Bool.false_ne_true
theorem Ck {α : Type} {Q : α → Shared → Prop} {l l' : α} (e : l = l') (h : Q l' s) : Q l s := e ▸ h
theorem yR {names : List Str} {ds : KK} (h3 : ds.length ≤ names.length) (nd : names.Nodup) : (((names.drop (names.length - ds.length)).zip ds).map (λ p : Str × Value => p.1)).Nodup := by
 rw [List.map_fst_zip (by rw [List.length_drop,Nat.sub_sub_self h3]; exact ya7 _)]
 exact nd.sublist (List.drop_sublist _ _)
theorem gw {fd : FuncData} {names : List Str} {us ds : KK} (P : PlainPar fd names) (hd : nL s.heap fd.defaults ds) (h1 : us.length ≤ names.length) (h2 : names.length ≤ us.length + ds.length) (h3 : ds.length ≤ names.length) :
  BindsTo s fd ⟨us,[]⟩ (names.zip (us ++ ds.drop (us.length + ds.length - names.length))) := by
 obtain ⟨nm,qn,⟨po,ar,va,ko,kd,ka,df⟩,bd,sc,gl,cl,dfl,kdf,doc,pm,an,co,ct,bu⟩ := fd
 have nd := P.nd
 have e1 : po = [] := P.po
 have e2 : ar.map (·.arg) = names := P.ar
 have e3 : va = none := P.va
 have e4 : ko = [] := P.ko
 have e5 : ka = none := P.ka
 clear P
 subst e1 e2 e3 e4 e5
 intro M A E Q hQ
 refine pA (vo hd λ x hx => ?_)
 have hD : (((x.getD #[]).toList).drop ((x.getD #[]).toList.length - (ar.map (·.arg)).length)) = ds := by rw [hx,Nat.sub_eq_zero_of_le h3,List.drop_zero]
 rw [← hD] at h2 h3 hQ
 refine rZ (λ h => Nat.not_lt.mpr h1 (ya3 (Bool.and_eq_true_iff.mp h).1)) ?_
 refine rZ (sd (ku h1 λ n hn => List.take_subset_take_left _ (Nat.sub_le_of_le_add h2) hn)) ?_
 refine ya0 (nK (yR h3 nd) (λ p sl => rfl) ?_)
 refine pA (rZ (λ h => by cases h) ?_)
 exact ya1 (Ck (vt h1 h2 h3 nd) hQ)
end
section
open PySem.Spec
noncomputable def uSt (v : Value) : Option Str := ifc λ c : v.ctorIdx = 6 => Value.str.elim (motive := λ Z => Option Str) v c λ s t => some s
theorem kw {v : Value} (h : uSt v = some x) : ∃ t,v = .str x t := by
 refine i6 (g6 h) λ c h => ?_
 exact Value.str.elim (motive := λ v => ∀ c,Value.str.elim (motive := λ Z => Option Str) v c (λ s t => some s) = some x → ∃ t,v = .str x t) v c (λ s t c h => by obtain rfl := sj h; exact ⟨t,rfl⟩) c h
noncomputable def uIn (v : Value) : Option Int := ifc λ c : v.ctorIdx = 4 => Value.int.elim (motive := λ Z => Option Int) v c λ i t => some i
theorem vu {v : Value} {x : Int} (h : uIn v = some x) : ∃ t,v = .int x t := by
 refine i6 (g6 h) λ c h => ?_
 exact Value.int.elim (motive := λ v => ∀ c,Value.int.elim (motive := λ Z => Option Int) v c (λ i t => some i) = some x → ∃ t,v = .int x t) v c (λ i t c h => by obtain rfl := sj h; exact ⟨t,rfl⟩) c h
noncomputable def uBo (v : Value) : Option Bool := ifc λ c : v.ctorIdx = 3 => Value.bool.elim (motive := λ Z => Option Bool) v c λ b => some b
theorem vv {v : Value} {x : Bool} (h : uBo v = some x) : v = .bool x := by
 refine i6 (g6 h) λ c h => ?_
 exact Value.bool.elim (motive := λ v => ∀ c,Value.bool.elim (motive := λ Z => Option Bool) v c (λ b => some b) = some x → v = .bool x) v c (λ b c h => by obtain rfl := sj h; exact rfl) c h
noncomputable def dSq (v : Data) : Option (Array Value) := ifc λ c : v.ctorIdx = 2 => Data.seq.elim (motive := λ Z => Option (Array Value)) v c λ us n => some us
theorem vw {v : Data} {x : (Array Value)} (h : dSq v = some x) : ∃ n,v = .seq x n := by
 refine i6 (g6 h) λ c h => ?_
 exact Data.seq.elim (motive := λ v => ∀ c,Data.seq.elim (motive := λ Z => Option (Array Value)) v c (λ us n => some us) = some x → ∃ n,v = .seq x n) v c (λ us n c h => by obtain rfl := sj h; exact ⟨n,rfl⟩) c h
noncomputable def dFl (v : Data) : Option (Array Value) := ifc λ c : v.ctorIdx = 9 => Data.fields.elim (motive := λ Z => Option (Array Value)) v c λ vs => some vs
theorem vx {v : Data} {x : (Array Value)} (h : dFl v = some x) : v = .fields x := by
 refine i6 (g6 h) λ c h => ?_
 exact Data.fields.elim (motive := λ v => ∀ c,Data.fields.elim (motive := λ Z => Option (Array Value)) v c (λ vs => some vs) = some x → v = .fields x) v c (λ vs c h => by obtain rfl := sj h; exact rfl) c h
noncomputable def dFn (v : Data) : Option FuncData := ifc λ c : v.ctorIdx = 7 => Data.func.elim (motive := λ Z => Option FuncData) v c λ f => some f
theorem vy {v : Data} {x : FuncData} (h : dFn v = some x) : v = .func x := by
 refine i6 (g6 h) λ c h => ?_
 exact Data.func.elim (motive := λ v => ∀ c,Data.func.elim (motive := λ Z => Option FuncData) v c (λ f => some f) = some x → v = .func x) v c (λ f c h => by obtain rfl := sj h; exact rfl) c h
theorem uNo {v : Value} (c : (v.ctorIdx == 0) = true) : v = .none := Value.none.elim (motive := λ v => v = .none) v (beq_iff_eq.mp c) rfl
noncomputable def vz (v : V) (u : Value) : Bool := eqO (fk v) (uIn u) || (eqO (qr v) (uBo u) || (eqO (dM v) (uSt u) || ((v.ctorIdx == 0) && (u.ctorIdx == 0))))
section
variable {u : Value}
theorem bq (h : eqO (fk v) (uIn u) = true) : VR P F J v u := by
 refine a9 (av h) λ x a b => i6 (vu b) λ t e => ?_
 exact C5 a ▸ e ▸ .int _ _
theorem br (h : eqO (dM v) (uSt u) = true) : VR P F J v u := by
 refine a9 (av h) λ x a b => i6 (kw b) λ t e => ?_
 exact C6 a ▸ e ▸ .str _ _
theorem kx (h : vz v u = true) : VR P F J v u := by
 refine N1 h bq λ h => N1 h (λ h => a9 (av h) λ x a b => ?_) λ h => N1 h br λ h => anB h λ a b => ?_
 ·exact E6 a ▸ vv b ▸ .bool _
 ·exact qx a ▸ uNo b ▸ .none
end
noncomputable def ky : List V → List Value → Bool
 | [],[] => true
 | v :: vs,u :: us => vz v u && ky vs us
 | _,_ => false
theorem gx : ∀ {vs : KN} {us : KK},ky vs us = true → VRs P F J vs us := by
 intro vs
 induction vs with
 | nil => intro us h; cases us with | nil => exact .nil | cons _ _ => cases h
 | cons v vs ih =>
  intro us h
  induction us using List.casesOn with
  | nil => cases h
  | cons u us => exact .cons (kx (Bool.and_eq_true_iff.mp h).1) (ih (Bool.and_eq_true_iff.mp h).2)
noncomputable def Bp (g : Addr → Option Obj) (v : Value) (vs : KN) : Bool := ((v.ctorIdx == 0) && vs.isEmpty) || lM (((uRf v).bind g).bind λ o => dSq o.data) λ us => ky vs us.toList
theorem se {g : Addr → Option Obj} {h : Heap} (hg : ∀ b o,g b = some o → h.get? b = some o) {v : Value} (e : Bp g v vs = true) : ∃ ds,nL h v ds ∧ ∀ (P : Params) (F : PH) (J : KH),VRs P F J vs ds := by
 refine N1 e (λ e => anB e λ a b => ?_) λ e => a9 (A2 e) λ us hu e => a9 (d6 hu) λ o ho hd => a9 (d6 ho) λ T hT ho => i6 (vw hd) λ n hd => ?_
 ·exact ⟨[],.inl ⟨uNo a,rfl⟩,λ Z Z Z => List.isEmpty_iff.mp b ▸ .nil⟩
 ·exact ⟨us.toList,.inr ⟨T,o,n,W0 hT,hg _ _ ho,hd⟩,λ Z Z Z => gx e⟩
noncomputable def vA (g : Addr → Option Obj) (cd : Value) (q : Str) : Bool := lM (((((uRf cd).bind g).bind λ o => dFl o.data).bind λ vs => vs[1]?).bind uSt) (· == q)
theorem nN {g : Addr → Option Obj} {h : Heap} (hg : ∀ b o,g b = some o → h.get? b = some o) {cd : Value} {q : Str} (e : vA g cd q = true) : h.CodeRec cd q := by
 refine a9 (A2 e) λ x hx e => a9 (d6 hx) λ w hw hx => a9 (d6 hw) λ vs hv hw => a9 (d6 hv) λ o ho hd => a9 (d6 ho) λ c hc ho => i6 (kw hx) λ t ht => ?_
 exact ⟨c,o,vs,t,W0 hc,hg _ _ ho,vx hd,beq_iff_eq.mp e ▸ ht ▸ hw⟩
noncomputable def bt : List Str → Bool
 | [] => true
 | x :: r => !(jh x r) && bt r
theorem bv : ∀ {l : List Str},bt l = true → l.Nodup := by
 intro l
 induction l with
 | nil =>
  intro Z
  exact List.nodup_nil
 | cons x r ih =>
  intro h
  unfold bt at h
  rw [ya4] at h
  rw [List.nodup_cons]
  refine ⟨λ q => ?_,ih h.2⟩
  have := h.1
  rw [ef q] at this; cases this
noncomputable def Cl (fd : FuncData) : Bool := fd.params.posonlyargs.isEmpty && fd.params.vararg.isNone
noncomputable def Cm (fd : FuncData) : Bool := fd.params.kwonlyargs.isEmpty && fd.params.kwarg.isNone
noncomputable def Cn (e : FnE) (fd : FuncData) : Bool := (fd.params.args.map (·.arg) == e.pars) && bt e.pars
noncomputable def Co (fd : FuncData) : Bool := (fd.globals == mainGlobals) && ((fd.builtins == builtinsNs) && fd.closure.isEmpty)
noncomputable def Cp (e : FnE) (x : Str) : Bool := e.scope.names.lookup x == some .local || e.scope.names.lookup x == some .cell
noncomputable def Cq (e : FnE) : Bool := Nat.ble e.dfl.length e.pars.length && e.pars.all (Cp e)
noncomputable def Cr (e : FnE) : Bool := !e.scope.isCoroutine && !e.scope.isGenerator
noncomputable def Cu (e : FnE) : Bool := decide (e.scope.kind = .function) && bt (e.scope.names.map (·.1))
noncomputable def fnB (g : Addr → Option Obj) (e : FnE) (fd : FuncData) : Bool :=
 (Cl fd && Cm fd) && ((Cn e fd && Co fd) && (((Cq e && Cr e) && Cu e) && (vA g fd.code fd.qualname && Bp g fd.defaults e.dfl)))
theorem gy {α : Type} {l : List (Str × α)} (h : (l.map (·.1)).Nodup) (x : Str) : l.reverse.lookup x = l.lookup x := by
 have nr : (l.reverse.map (·.1)).Nodup := by rw [List.map_reverse]; exact List.pairwise_reverse.mpr (List.Pairwise.imp (λ h => Ne.symm h) h)
 cases q : l.lookup x with
 | some v => exact m7 nr (List.mem_reverse.mpr (mem_of_lookup q))
 | none =>
  cases q2 : l.reverse.lookup x with
  | none => rfl
  | some v =>
   have := m7 h (List.mem_reverse.mp (mem_of_lookup q2))
   rw [q] at this; cases this
theorem sh : ∀ {ns : List Str} {vs : KN} {us : KK},VRs P F J vs us → (ns.zip vs).lookup x = some v → ∃ u,(ns.zip us).lookup x = some u ∧ VR P F J v u := by
 intro ns
 induction ns with
 | nil => intro vs us q h; cases h
 | cons n ns ih =>
  intro vs us q h
  induction q using VRs.casesOn with
  | nil => cases h
  | cons a r =>
   rw [List.zip_cons_cons,yc6] at h ⊢
   cases q : (x == n) with
   | true => rw [q] at h; obtain rfl := sj h; exact ⟨_,rfl,a⟩
   | false => rw [q] at h; exact ih r h
theorem VRs.drop' (n : Nat) (h : VRs P F J vs us) : VRs P F J (vs.drop n) (us.drop n) := by
 induction n generalizing vs us with
 | zero => exact h
 | succ n ih =>
  induction h using VRs.casesOn with
  | nil => exact .nil
  | cons a r => exact ih r
theorem gz {pars : List Str} {dfl args : KN} {D : KD} (h : jL pars dfl args = some D) : D = pars.zip (args ++ dfl.drop (args.length + dfl.length - pars.length)) ∧ (args ++ dfl.drop (args.length + dfl.length - pars.length)).length = pars.length ∧ pars.length - dfl.length ≤ args.length := by
 refine cnE h (λ q e => anB q λ q1 q2 => ?_) nofun
 exact ⟨(sj e).symm,beq_iff_eq.mp q1,yc3 q2⟩
theorem Bq {b : Bool} (h : (!b) = true) : b = false := by
 cases b with
 | true => cases h
 | false => rfl
theorem sk {g : Addr → Option Obj} {a : Addr} {fd : FuncData} {e : FnE} (hg : ∀ b o,g b = some o → X.h₀.get? b = some o) (get : g a = some o) (data : o.data = .func fd) (bod : fd.body = .stmts e.body) (sc : fd.scope = e.scope) (hb : fnB g e fd = true) : FnFact X a e := by
 refine anB hb λ h1 h2 => anB h1 λ p1 p2 => anB h2 λ h3 h4 => anB h3 λ p3 p4 => anB h4 λ h5 h6 => anB h5 λ h7 s3 => anB h7 λ s1 s2 => anB h6 λ cd df => ?_
 clear hb h1 h2 h3 h4 h5 h6 h7
 refine anB p3 λ b5 b6 => anB p4 λ b7 b8 => anB b8 λ b8 b9 => anB s1 λ b12 b13 => anB s3 λ b16 b17 => ?_
 have nd := bv b6
 have P : PlainPar fd e.pars := anB p1 λ b1 b2 => anB p2 λ b3 b4 => ⟨List.isEmpty_iff.mp b1,beq_iff_eq.mp b5,Option.isNone_iff_eq_none.mp b2,List.isEmpty_iff.mp b3,Option.isNone_iff_eq_none.mp b4,nd⟩
 refine a9 (se hg df) λ ds hds hvr => ?_
 refine ⟨⟨⟨o,fd,hg _ _ get,data,bod,sc,beq_iff_eq.mp b7,beq_iff_eq.mp b8,List.isEmpty_iff.mp b9,nN hg cd,anB s2 λ a Z => Bq a,anB s2 λ Z a => Bq a,ya3 b16,λ s F J args us D hk1 hk2 hv hB => ?_⟩⟩,bv b17⟩
 clear p1 p2 p3 p4 s1 s2 s3 cd df b5 b6 b7 b8 b9 b16 b17 get data bod sc
 refine C2 (gz hB) λ eB q1 q2 => ?_
 have hr := hvr X.w.params F J
 have ldd : e.dfl.length = ds.length := hr.len.symm
 have hz : (us ++ ds.drop (us.length + ds.length - e.pars.length)).length = e.pars.length := Eq.trans (by rw [yb3,yb3,List.length_drop,List.length_drop,hv.len,ldd]) q1
 have b12 := yc3 b12
 have hds' : nL s.heap fd.defaults ds := hds.imp id λ ⟨T,o,n,e1,e2,e3⟩ => ⟨T,o,n,e1,hk1 _ _ e2,e3⟩
 have l1 : us.length ≤ e.pars.length := by rw [← hz,yb3]; exact yb7 _ _
 have l2 : e.pars.length ≤ us.length + ds.length := Nat.le_add_of_sub_le (by rw [hv.len,← ldd]; exact q2)
 refine ⟨_,gw P hds' l1 l2 (ldd ▸ b12),λ x hx => ?_,λ x v hl => ?_⟩
 ·exact N1 (List.all_eq_true.mp b13 x.1 (List.of_mem_zip (a := x.1) (b := x.2) hx).1) (λ z => .inl (beq_iff_eq.mp z)) λ z => .inr (beq_iff_eq.mp z)
 ·rw [eB] at hl
  refine a9 (sh (hv.append (hr.drop' _)) hl) λ u hu hr => ⟨u,?_,hr⟩
  rw [gy,hv.len,← ldd]
  ·exact hu
  ·rw [List.map_fst_zip (Nat.le_of_eq hz.symm)]
   exact nd
end
section
open PySem.Spec
noncomputable def yS (K : Frag) (C : Addr) (x : Str) (f : Addr) : Bool := plainGet K C x && (findIn K (.ref C) x == some (some (.ref f))) && PySem.W.isFn K (.ref f)
noncomputable def Cv (K : Frag) (C fI : Addr) : Bool := makesIn K C && (findIn K (.ref C) "__init__" == some (some (.ref fI))) && (typeIn K (.ref fI) == some (.type "function")) && keepIn K (.ref C)
noncomputable def cfV : CFound → Option Value
 | .val v => some v
 | _ => none
theorem vB {c : CFound} {v : Value} (h : cfV c = some v) : c = .val v := by
 cases c <;> first | exact congrArg CFound.val (sj h) | exact nomatch h
noncomputable def Br (K : Frag) (C : Addr) (x : Str) (f : Addr) : Bool :=
 (specialIn K (.ref C) "__getattribute__" == some (some (.builtin "type.__getattribute__"))) && lM (typeIn K (.ref C)) λ mc => readsIn K C mc && eqO ((findCls K (.ref C) mc x).bind cfV) (some (.ref f))
theorem sm {C f : Addr} (h : Br X.K C x f = true) : Nonempty (ClsAttr X C x (.ref f)) := by
 refine anB h λ b1 h => a9 (A2 h) λ mc e h => anB h λ b2 h => a9 (av h) λ v hv hf => a9 (d6 hv) λ c hc hv => ?_
 obtain rfl := sj hf
 exact ⟨⟨mc,beq_iff_eq.mp b1,e,b2,vB hv ▸ hc,rfl⟩⟩
noncomputable def vE (v : V) (u : Value) : Bool := eqO ((rC v).bind uRf) (uRf u) || (eqO (fk v) (uIn u) || eqO (dM v) (uSt u))
theorem kz {u : Value} (h : vE v u = true) : VR P F J v u := by
 refine N1 h (λ h => a9 (av h) λ a p q => a9 (d6 p) λ w hw ha => ?_) λ h => N1 h bq br
 rw [eD hw,W0 ha,W0 q]
 exact .val _
noncomputable def fnO : CalE → Option FnE
 | .fn e => some e
 | _ => none
noncomputable def kA (l : List (Addr × CalE)) : List (Option (FuncBody × Scope)) := l.filterMap λ p => (fnO p.2).map λ e => some (.stmts e.body,e.scope)
noncomputable def pB (T : Tab) : Bool := T.cal.all λ p => match p.2 with
 | .spec .. => false
 | _ => true
theorem B1 {β : Type} {a : Addr} {l : List (Addr × β)} {b : β} (h : l.lookup a = some b) : (a,b) ∈ l := y5 h
end
section
open PySem.Spec
noncomputable section
noncomputable def vF (t : BT) (n : Nat) (a : Addr) : Option Obj := cond (Nat.blt a n) ((t.get a).bind alive) none
theorem kB {t : BT} {life : Life} {a : Addr} (h : vF t n a = some o) : (absHeap t n life).get? a = some o := by
 refine cnE h (λ q h => a9 (d6 h) λ o' ho h => ?_) nofun
 rw [abs_get (yc3 q) ho]; exact h
noncomputable def kG (g : Addr → Option Obj) (as : KH) : Frag := as.filterMap λ a => (g a).map λ o => (a,o)
theorem yT {g : Addr → Option Obj} {as : KH} {h : Heap} (hg : ∀ b o,g b = some o → h.get? b = some o) : (kG g as).In h := λ a o e => by
 refine a9 (List.mem_filterMap.mp (y5 e)) λ b Z hb => a9 (map_some hb) λ x hx q => ?_
 obtain ⟨rfl,rfl⟩ := Prod.mk.inj q
 exact hg _ _ hx
noncomputable def vG (g : Addr → Option Obj) (a : Addr) (e : FnE) : Bool := lM ((g a).bind λ o => dFn o.data) λ fd => fnB g e fd
noncomputable def Cy (g : Addr → Option Obj) (K : Frag) : Addr × CalE → Bool
 | (a,.fn e) => vG g a e
 | (a,.cls init _) => Cv K a init
 | _ => true
noncomputable def vH (K : Frag) (C : Addr) (x : Str) : Bool := findIn K (.ref C) x == some none
noncomputable def vI (K : Frag) (C : Addr) (l : List Str) : Bool := (plainGet K C "" && hasDictIn K C) && (((findIn K (.ref C) "__setattr__" == some (some (.builtin "object.__setattr__"))) && plainOver K C) && l.all (vH K C))
theorem nO {l : List Str} (h : vI X.K C l = true) (hx : x ∈ l) : AttrOK X C x ∧ SetOK X C x := by
 refine anB h λ h1 h2 => anB h1 λ b1 b2 => anB h2 λ h3 h4 => anB h3 λ b3 b4 => ?_
 have e : findIn X.K (.ref C) x = some none := beq_iff_eq.mp (List.all_eq_true.mp h4 x hx)
 exact ⟨⟨b1,b2,none,e,rfl⟩,⟨beq_iff_eq.mp b3,b4,by unfold takerIn; rw [e]; rfl,b2⟩⟩
noncomputable def dDc (v : Data) : Option (Array DictEntry) := ifc λ c : v.ctorIdx = 3 => Data.dict.elim (motive := λ Z => Option (Array DictEntry)) v c λ es n => some es
theorem vJ {v : Data} {x : (Array DictEntry)} (h : dDc v = some x) : ∃ n,v = .dict x n := by
 refine i6 (g6 h) λ c h => ?_
 exact Data.dict.elim (motive := λ v => ∀ c,Data.dict.elim (motive := λ Z => Option (Array DictEntry)) v c (λ es n => some es) = some x → ∃ n,v = .dict x n) v c (λ es n c h => by obtain rfl := sj h; exact ⟨n,rfl⟩) c h
noncomputable def nsO (g : Addr → Option Obj) (a : Addr) : Option (Array DictEntry) := (g a).bind λ o => dDc o.data
noncomputable def nsG (g : Addr → Option Obj) (a : Addr) : List DictEntry := ((nsO g a).map λ es => es.toList).getD []
noncomputable def U1 (e : DictEntry) : Nat × Str × Value := (((uSt e.key).map λ x => L4 x + 1).getD 0,(uSt e.key).getD "", e.val)
noncomputable def dq (n : Nat) (l : List (Nat × Str × Value)) : Option (Str × Value) := (l.find? λ p => Nat.beq p.1 n).map (·.2)
theorem eM {α : Type} {p q : α → Bool} (hpq : ∀ e,q e = true → p e = true) {l : List α} : (∀ a,l.find? p = some a → q a = true → l.find? q = some a) ∧ (l.find? p = none → l.find? q = none) := by
 induction l with
 | nil => exact ⟨λ a h Z => h,λ h => h⟩
 | cons e r ih =>
  rw [List.find?_cons,List.find?_cons]
  cases hp : p e with
  | true => exact ⟨λ a h ha => by obtain rfl := sj h; rw [ha],λ h => by cases h⟩
  | false =>
   have : q e = false := Bool.eq_false_iff.mpr λ z => Bool.false_ne_true (hp.symm.trans (hpq e z))
   rw [this]
   exact ih
theorem kC {v : Value} (h : v.isStr x = true) : uSt v = some x := by
 induction v using Value.casesOn with
 | str y t => exact congrArg some (beq_iff_eq.mp h)
 | _ => cases h
theorem eN (e : DictEntry) (h : e.key.isStr x = true) : Nat.beq (U1 e).1 (L4 x + 1) = true := by
 unfold U1
 rw [kC h]
 exact Nat.beq_refl _
theorem W4 {x y : Str} {u : Value} {es : List DictEntry} (h : dq (L4 x + 1) (es.map U1) = some (y,u)) (hy : y = x) : (es.find? λ e => e.key.isStr x).map (·.val) = some u := by
 unfold dq at h
 rw [List.find?_map] at h
 refine a9 (map_some h) λ tr htr h => a9 (map_some htr) λ e he htr => ?_
 subst htr
 have hp : Nat.beq (U1 e).1 (L4 x + 1) = true := List.find?_some (p := λ e => Nat.beq (U1 e).1 (L4 x + 1)) he
 obtain ⟨h1,h2⟩ := Prod.mk.inj h
 have hq : e.key.isStr x = true := by
  unfold U1 at hp
  dsimp only at hp h1
  cases z : uSt e.key with
  | none => rw [z] at hp; cases hp
  | some w =>
   refine i6 (kw z) λ t ht => ?_
   rw [z] at h1
   have h1 : w = y := h1
   rw [ht,h1,hy]
   exact beq_self_eq_true x
 rw [(eM eN).1 e he hq,← h2]; rfl
theorem gC {es : List DictEntry} (h : dq (L4 x + 1) (es.map U1) = none) : (es.find? λ e => e.key.isStr x).map (·.val) = none := by
 unfold dq at h
 rw [List.find?_map,Option.map_eq_none_iff,Option.map_eq_none_iff] at h
 rw [(eM eN).2 h]; rfl
theorem dt {g : Addr → Option Obj} {h : Heap} (hg : ∀ b o,g b = some o → h.get? b = some o) {a : Addr} {r : Option Value} (hs : (nsO g a).isSome = true) (e : ((nsG g a).find? λ e => e.key.isStr x).map (·.val) = r) : h.nsMap a x = r := by
 refine i6 (Option.isSome_iff_exists.mp hs) λ es hes => a9 (d6 hes) λ o ho hd => i6 (vJ hd) λ n hd => ?_
 unfold nsG at e
 rw [hes] at e
 unfold Heap.nsMap
 rw [hg _ _ ho]
 dsimp only
 rw [hd]
 dsimp only
 unfold nsFind findBy
 rw [← Array.find?_toList]
 exact e
noncomputable def yU (l : List (Nat × Str × Value)) (p : Nat × Str × V) : Bool := Nat.beq p.1 (L4 p.2.1) && lM (dq (p.1 + 1) l) λ z => (z.1 == p.2.1) && vE p.2.2 z.2
noncomputable def Cz (l m : List (Nat × Str × Value)) (p : Nat × Str × Bi) : Bool := Nat.beq p.1 (L4 p.2.1) && ((dq (p.1 + 1) l).isNone && lM (dq (p.1 + 1) m) λ z => (z.1 == p.2.1) && (z.2 == p.2.2.val))
noncomputable def sn (g : Addr → Option Obj) (K : Frag) (T : Tab) : Bool := T.cal.all (Cy g K)
noncomputable def so (g : Addr → Option Obj) (K : Frag) (T : Tab) : Bool :=
 T.attrs.all (λ p => vI K p.1 p.2) && (T.meths.all (λ p => p.2.all λ q => yS K p.1 q.1 q.2) && (T.clm.all (λ p => p.2.all λ q => Br K p.1 q.1 q.2) &&
 (T.glob.all (yU ((nsG g mainGlobals).map U1)) && (T.blt.all (Cz ((nsG g mainGlobals).map U1) ((nsG g builtinsNs).map U1)) && ((g sysModules).isSome && ((nsO g mainGlobals).isSome && (nsO g builtinsNs).isSome))))))
noncomputable def yV (g : Addr → Option Obj) (K : Frag) (T : Tab) : Bool := sn g K T && so g K T
noncomputable def kD (g : Addr → Option Obj) (a : Addr) : Option (FuncBody × Scope) := ((g a).bind λ o => dFn o.data).map λ fd => (fd.body,fd.scope)
noncomputable def kE (g : Addr → Option Obj) (l : List (Addr × CalE)) : List (Option (FuncBody × Scope)) := l.filterMap λ p => (fnO p.2).map λ Z => kD g p.1
theorem nP {g : Addr → Option Obj} {l : List (Addr × CalE)} : kE g l = kA l → ∀ a e,(a,CalE.fn e) ∈ l → kD g a = some (.stmts e.body,e.scope) := by
 unfold kE kA
 induction l with
 | nil => intro _ a e h; cases h
 | cons p r ih =>
  rw [List.filterMap_cons,List.filterMap_cons]
  cases q : fnO p.2 with
  | none =>
   intro h a e hm
   rcases mcs hm with rfl | hm
   ·cases q
   ·exact ih h a e hm
  | some e' =>
   intro h a e hm
   obtain ⟨h1,h2⟩ := List.cons.inj h
   rcases mcs hm with rfl | hm
   ·obtain rfl := sj q
    exact h1
   ·exact ih h2 a e hm
theorem sq {g : Addr → Option Obj} {T : Tab} (hg : ∀ b o,g b = some o → X.h₀.get? b = some o) (hT : yV g X.K T = true) (hv : kE g T.cal = kA T.cal) (hn : pB T = true) : TabOK X T := by
 refine anB hT λ t1 hT => anB hT λ t2 hT => anB hT λ t3 hT => anB hT λ t4 hT => anB hT λ t5 hT => anB hT λ t6 hT => anB hT λ t7 hT => anB hT λ t8 t9 => ?_
 clear hT
 have emg : X.mg = X.h₀.nsMap mainGlobals := X.top.g.eq_nsMap
 have emb : X.mb = X.h₀.nsMap builtinsNs := X.top.b.eq_nsMap
 refine ⟨λ n x v hm => ?_,λ n x b hm => ?_,λ a e hl => ?_,λ C l hl x hx => nO (List.all_eq_true.mp t2 _ (B1 hl)) hx,λ C l x f hl hf => ?_,λ C l x f hl hf => ?_,(Option.isSome_iff_exists.mp t7).imp λ o => hg _ _⟩
 ·refine anB (List.all_eq_true.mp t5 _ hm) λ c h => a9 (A2 h) λ z hz h => anB h λ hy h => ?_
  have c : n = L4 x := Nat.eq_of_beq_eq_true c
  subst c
  exact ⟨z.2,by rw [emg]; exact dt hg t8 (W4 hz (beq_iff_eq.mp hy)),λ F J => kz h⟩
 ·refine anB (List.all_eq_true.mp t6 _ hm) λ c h => anB h λ h1 h => a9 (A2 h) λ z hz h => anB h λ hy h => ?_
  have c : n = L4 x := Nat.eq_of_beq_eq_true c
  subst c
  exact ⟨by rw [emg]; exact dt hg t8 (gC (Option.isNone_iff_eq_none.mp h1)),by rw [emb,← beq_iff_eq.mp h]; exact dt hg t9 (W4 hz (beq_iff_eq.mp hy))⟩
 ·have hm := B1 hl
  have hb := List.all_eq_true.mp t1 _ hm
  induction e using CalE.casesOn with
  | fn e =>
   have hvw := nP hv a e hm
   refine a9 (A2 hb) λ fd hfd hb => ?_
   unfold kD at hvw
   rw [hfd] at hvw
   obtain ⟨h1,h2⟩ := Prod.mk.inj (sj hvw)
   exact a9 (d6 hfd) λ o ho hd => sk hg ho (vy hd) h1 h2 hb
  | cls init fz => exact anB hb λ hb h4 => anB hb λ hb h3 => anB hb λ h1 h2 => ⟨⟨h1,beq_iff_eq.mp h2,beq_iff_eq.mp h3⟩,h4⟩
  | spec d S => cases List.all_eq_true.mp hn _ hm
 ·exact anB (List.all_eq_true.mp (List.all_eq_true.mp t3 _ (B1 hl)) _ (mem_of_lookup hf)) λ h h3 => anB h λ h1 h2 => ⟨h1,beq_iff_eq.mp h2,h3⟩
 ·have h4 := List.all_eq_true.mp (List.all_eq_true.mp t4 _ (B1 hl)) _ (mem_of_lookup hf)
  exact sm (X := X) (C := C) (x := x) (f := f) h4
end
end
section
open PySem.Spec
noncomputable section
noncomputable def du : List Stmt := PySem.Challenge.pw_nn0099_01.main.body
noncomputable def gD (l : List Stmt) (n : Nat) : Stmt := l.getD n (.Pass ⟨0,0,0,0⟩)
noncomputable def pC (s : Stmt) : List Stmt := if c : s.ctorIdx = 2 then Stmt.ClassDef.elim (motive_2 := λ _ => List Stmt) s c λ _ _ _ b _ _ _ _ _ _ _ => b else []
noncomputable def cV : Const → V
 | .int i => .int i
 | .bool b => .bool b
 | .str s => .str s
 | .none => .none
 | _ => .junk
noncomputable def ngV (v : V) : V := ((fk v).map λ i => V.int (-i)).getD .junk
noncomputable def CA (e : Expr) : V := if c : e.ctorIdx = 3 then Expr.UnaryOp.elim (motive_1 := λ _ => V) e c λ op x _ => cond (op.ctorIdx == 3) (ngV (((H6 x).map cV).getD .junk)) .junk else ((H6 e).map cV).getD .junk
noncomputable def fnE (fz : Bool) (s : Stmt) : FnE := if c : s.ctorIdx = 0 then Stmt.FunctionDef.elim (motive_2 := λ _ => FnE) s c λ _ args body _ _ _ scope _ _ _ => ⟨scope,body,args.args.map (·.arg),args.defaults.map CA,fz⟩ else ⟨⟨.module,[],false,false,[]⟩,[],[],[],false⟩
noncomputable def fT (i : Nat) : CalE := .fn (fnE true (gD du i))
noncomputable def fF (i : Nat) : CalE := .fn (fnE false (gD du i))
noncomputable def mT (i j : Nat) : CalE := .fn (fnE true (gD (pC (gD du i)) j))
noncomputable def mF (i j : Nat) : CalE := .fn (fnE false (gD (pC (gD du i)) j))
noncomputable def Bs : List (Addr × CalE) := [
 (104,fT 7),
 (111,fT 8),
 (118,fT 9),
 (125,fT 10),
 (132,fT 11),
 (139,fT 12),
 (146,fT 17),
 (153,fT 18),
 (160,fT 19),
 (167,fT 20),
 (174,fT 21),
 (181,fT 22),
 (188,fT 23),
 (201,mF 24 0),
 (208,mT 24 1),
 (215,mT 24 2),
 (222,mT 24 3),
 (229,mT 24 4),
 (257,fT 25),
 (264,fT 26),
 (278,mT 28 0),
 (285,mT 28 1),
 (292,mT 28 2),
 (299,mT 28 3),
 (320,mT 29 0),
 (327,mT 29 1),
 (334,mT 29 2),
 (354,mT 30 0),
 (361,mT 30 1),
 (368,mT 30 2),
 (388,mT 31 0),
 (395,mT 31 1),
 (402,mT 31 2),
 (409,mT 31 3),
 (429,mT 32 0),
 (436,mT 32 1),
 (443,mT 32 2),
 (448,mT 32 3),
 (482,mT 33 0),
 (487,mT 33 1),
 (494,mT 33 2),
 (501,mT 33 3),
 (536,mT 40 0),
 (543,mT 40 1),
 (557,mT 40 3),
 (571,mT 40 5),
 (585,fT 41),
 (592,fT 42),
 (599,fT 43),
 (606,fT 44),
 (613,fT 45),
 (620,fT 46),
 (627,fT 52),
 (634,fT 53),
 (641,fT 54),
 (648,fT 55),
 (655,fT 56),
 (662,fT 57),
 (669,fT 58),
 (676,fT 66),
 (683,fT 67),
 (690,fT 68),
 (697,fT 69),
 (712,mT 70 0),
 (719,mT 70 1),
 (726,mT 70 2),
 (733,mT 70 3),
 (740,mT 70 4),
 (747,mT 70 5),
 (761,fT 71),
 (768,fT 72),
 (775,fT 73),
 (789,mT 80 0),
 (796,mT 80 1),
 (817,mF 81 0),
 (824,mT 81 1),
 (831,mT 81 2),
 (838,mT 81 3),
 (845,mT 81 4),
 (852,mT 81 5),
 (866,fT 82),
 (871,fT 83),
 (878,fT 84),
 (885,fT 85),
 (892,fT 86),
 (899,fT 87),
 (906,fT 88),
 (913,fT 89),
 (920,fT 90),
 (927,fT 91),
 (934,fT 92),
 (941,fT 93),
 (946,fT 94),
 (953,fT 95),
 (958,fF 96),
 (966,fT 97),
 (980,mT 107 0),
 (987,mT 107 1),
 (994,mT 107 2),
 (1001,mT 107 3),
 (1022,mT 107 6),
 (1029,mT 107 7),
 (1057,mF 111 0),
 (1064,mT 111 1),
 (1071,mT 111 2),
 (1078,mT 111 3),
 (1085,mT 111 4),
 (1092,mT 111 5),
 (1097,mT 111 6),
 (1102,mT 111 7),
 (1130,mT 111 11),
 (1144,fT 112),
 (1158,mF 113 0),
 (1165,mT 113 1),
 (1172,mT 113 2),
 (1179,mT 113 3),
 (1184,mT 113 4),
 (1191,mT 113 5),
 (1198,mT 113 6),
 (1205,mT 113 7),
 (1212,mT 113 8),
 (1219,mT 113 9),
 (1240,mT 113 12),
 (1261,fT 114),
 (1268,fT 115),
 (1275,fT 116),
 (1282,fT 117),
 (1289,fT 118),
 (1294,fT 120),
 (1308,mF 121 0),
 (1313,mT 121 1),
 (1327,mT 121 3),
 (1334,mT 121 4),
 (1341,mT 121 5),
 (1348,mT 121 6),
 (1377,fF 123),
 (1384,fF 124),
 (1391,fF 125),
 (1398,fF 126),
 (1405,fT 128),
 (1412,fT 129),
 (1417,fF 131),
 (1424,fT 132),
 (1431,fT 133),
 (1438,fT 134),
 (1443,fT 135),
 (1450,fT 136),
 (1457,fT 137),
 (1464,fT 138),
 (1471,fT 139),
 (1478,fT 140),
 (1485,fT 141),
 (1492,fT 142),
 (1497,fT 143),
 (1502,fT 144),
 (246,.cls 201 false),
 (302,.cls 278 true),
 (337,.cls 320 true),
 (371,.cls 354 true),
 (412,.cls 388 true),
 (465,.cls 429 true),
 (518,.cls 482 true),
 (574,.cls 536 true),
 (750,.cls 712 true),
 (799,.cls 789 true),
 (855,.cls 817 false),
 (1039,.cls 980 true),
 (1133,.cls 1057 false),
 (1250,.cls 1158 false),
 (1365,.cls 1308 true)]
noncomputable def sr : List (Addr × List Str) := [
 (246,["name", "kinds", "opcode", "escape", "digit", "size", "must", "is_wide", "number", "places"]),
 (302,["kind"]),
 (337,["kind", "register"]),
 (371,["kind", "worth", "name"]),
 (412,["kind", "worth", "name"]),
 (465,["kind", "base", "index", "scale", "worth", "size", "segment", "name"]),
 (518,["name", "operands", "prefix"]),
 (574,["name", "kind", "number", "size"]),
 (750,["segment", "is_data", "repeat", "is_lock", "rex"]),
 (799,["instruction", "length", "form", "prefixes"]),
 (855,["begin", "prefixes", "code_at", "w", "r", "x", "b", "escape", "opcode", "must", "modrm_at", "mod", "reg", "rm", "sib", "disp", "width", "rest_at"]),
 (1039,["cf", "pf", "af", "zf", "sf", "of", "df"]),
 (1133,["held"]),
 (1250,["iset", "regs", "xmm", "flags", "memory", "rip", "begin", "segments", "is_halted"]),
 (1365,["forms", "by_name", "by_code"])]
noncomputable def yW : List (Addr × List (Str × Addr)) := [
 (246,[((Str.ofString "told"),208),((Str.ofString "slots"),215),((Str.ofString "has_modrm"),222),((Str.ofString "has_plus"),229)]),
 (302,[((Str.ofString "told"),285),((Str.ofString "symbol"),292),((Str.ofString "registers"),299)]),
 (337,[((Str.ofString "told"),327),((Str.ofString "registers"),334)]),
 (371,[((Str.ofString "told"),361),((Str.ofString "symbol"),368)]),
 (412,[((Str.ofString "told"),395),((Str.ofString "symbol"),402),((Str.ofString "target"),409)]),
 (465,[((Str.ofString "told"),436),((Str.ofString "symbol"),443),((Str.ofString "registers"),448)]),
 (518,[((Str.ofString "told"),487),((Str.ofString "memory_at"),494),((Str.ofString "memory"),501)]),
 (574,[((Str.ofString "code"),543),((Str.ofString "is_high"),557),((Str.ofString "told"),571)]),
 (750,[((Str.ofString "told"),719),((Str.ofString "has_rex"),726),((Str.ofString "bits"),733),((Str.ofString "count"),740),((Str.ofString "octets"),747)]),
 (799,[((Str.ofString "told"),796)]),
 (855,[((Str.ofString "has_rex"),824),((Str.ofString "is_narrow"),831),((Str.ofString "take_code"),838),((Str.ofString "take_must"),845),((Str.ofString "take_modrm"),852)]),
 (1039,[((Str.ofString "told"),987),((Str.ofString "pack"),994),((Str.ofString "unpack"),1001),((Str.ofString "get"),1022),((Str.ofString "put"),1029)]),
 (1133,[((Str.ofString "octet"),1064),((Str.ofString "set_octet"),1071),((Str.ofString "read"),1078),((Str.ofString "write"),1085),((Str.ofString "load"),1092),((Str.ofString "octets"),1097),((Str.ofString "written"),1102),((Str.ofString "told"),1130)]),
 (1250,[((Str.ofString "get"),1165),((Str.ofString "put"),1172),((Str.ofString "put_low"),1179),((Str.ofString "registers"),1184),((Str.ofString "offset"),1191),((Str.ofString "place"),1198),((Str.ofString "size_of"),1205),((Str.ofString "read"),1212),((Str.ofString "write"),1219),((Str.ofString "told"),1240)]),
 (1365,[((Str.ofString "told"),1313),((Str.ofString "has"),1327),((Str.ofString "at"),1334),((Str.ofString "names"),1341),((Str.ofString "codes"),1348)])]
noncomputable def CB : List (Addr × List (Str × Addr)) := [(302,[("__init__", 278)])]
noncomputable def vK : List (Nat × Str × V) := [
 (185150951584840407823100265380142516622261562114163, "MintError", .val (.ref 46)),
 (262607974283355875544741381333554150846040653685576299184133090836595, "OperandError", .val (.ref 59)),
 (206246780595490179726701018950157079126587389156142720499056755, "EncodeError", .val (.ref 71)),
 (203300378407752696377211069131613892759307231549335607362715763, "DecodeError", .val (.ref 83)),
 (256042739054116579292015842329626922401818022630185797559835270578291, "MachineError", .val (.ref 95)),
 (152117643305932816492, "mask", .val (.ref 104)),
 (165946530012881617009, "wrap", .val (.ref 111)),
 (199114370658764019240248732418149, "signed", .val (.ref 118)),
 (122883427401845, "bit", .val (.ref 125)),
 (303477277923636518418967317539496577490350538037525961655517286, "from_little", .val (.ref 132)),
 (646588749875104333955724971559690315530777890537333478594914612093228709208294990242126866291094542745701, "from_little_signed", .val (.ref 139)),
 (132170760889798756084621578207301, "LOCKED", .str (Str.ofString "add adc and or sbb sub xor inc dec neg not xchg xadd cmpxchg bts btr btc")),
 (120173970549895880717500485, "MOVED", .str (Str.ofString "movsb movsw movsd movsq stosb stosw stosd stosq lodsb lodsw lodsd lodsq")),
 (144880966777374034515228554003442138402390085, "COMPARED", .str (Str.ofString "cmpsb cmpsw cmpsd cmpsq scasb scasw scasd scasq")),
 (225843843327537047055227425879380952950898789, "is_fixed", .val (.ref 146)),
 (347955466558731919140923373604313957665450460921708618211862253994086, "is_immediate", .val (.ref 153)),
 (312316415727262536587243384720134853555311834531284734404132966, "is_relative", .val (.ref 160)),
 (384063964208522864278538056022379612985493425462929248713595389411450, "takes_memory", .val (.ref 167)),
 (256362769177535270151868538301606439233103929737318, "kind_size", .val (.ref 174)),
 (285616837493922174899438560944285515988918979241959555177, "kind_width", .val (.ref 181)),
 (221835714872894586917889158383909470311, "slot_of", .val (.ref 188)),
 (98185084820770717806, "Form", .val (.ref 246)),
 (213060207688288985448164067888728781332152428, "can_lock", .val (.ref 257)),
 (219923327617952346430774428921898532980, "repeats", .val (.ref 264)),
 (152990213119360648267755131226143260773, "Operand", .val (.ref 302)),
 (103023494168680, "Reg", .val (.ref 337)),
 (91852293144686, "Imm", .val (.ref 371)),
 (103023494168685, "Rel", .val (.ref 412)),
 (96817266425966, "Mem", .val (.ref 465)),
 (218032294140949466572413095959335474531585647540283907679191151, "Instruction", .val (.ref 518)),
 (151077757204308392053617833268807204921, "NAMES_8", .str (Str.ofString "al cl dl bl spl bpl sil dil"))]
noncomputable def vL : List (Nat × Str × V) := [
 (168317542234406431287640271458777332681146423, "NAMES_16", .str (Str.ofString "ax cx dx bx sp bp si di")),
 (168317542234406431287640271458777332683374643, "NAMES_32", .str (Str.ofString "eax ecx edx ebx esp ebp esi edi")),
 (168317542234406431287640271458777332686716981, "NAMES_64", .str (Str.ofString "rax rcx rdx rbx rsp rbp rsi rdi")),
 (193055830925762447659133754016474282048103273598003052628, "HIGH_NAMES", .str (Str.ofString "ah ch dh bh")),
 (176840011890972679488760496656855043387293811, "Register", .val (.ref 574)),
 (300530854579122017093783822879066399705219882798108008790753396, "early_names", .val (.ref 585)),
 (321155503283614052131642572329402150150752192732585148907716712, "late_ending", .val (.ref 592)),
 (129089662943347, "gpr", .val (.ref 599)),
 (145203220432986570857, "high", .val (.ref 606)),
 (150190833926254, "xmm", .val (.ref 613)),
 (142743356178545, "rip", .val (.ref 620)),
 (168317569007690680363742377473536972932120665, "NO_INDEX", .int 4),
 (151077781235361148926640702113942077510, "NO_BASE", .int 5),
 (187492959358199611295300514030055180605194307, "WITH_SIB", .int 4),
 (151272773122762935488113066213444094238785617, "FROM_RIP", .int 5),
 (387346598028234215729904230978703655529082675342100303405458334810214, "unpack_three", .val (.ref 627)),
 (387346598028234215729904230978703655529082664557276401131936744145006, "unpack_modrm", .val (.ref 634)),
 (312062829536506854373059553724787465100981206328143380579, "unpack_sib", .val (.ref 641)),
 (238627413946088762051170140885784498867929205, "octet_at", .val (.ref 648)),
 (369375432650836679800837888314203818013782660796837835156281064751996338279, "disp_width_of", .val (.ref 655)),
 (304129014120746371718354003230705110282869867652447404142, "read_modrm", .val (.ref 662)),
 (261110215161312204272926566565629817749353213722727, "memory_of", .val (.ref 669)),
 (79102036, "FS", .int 100),
 (80216148, "GS", .int 101),
 (252345571542450969071768929547415352271828441345573205546692737630833344628, "DATA_prefixes", .int 102),
 (127877409279924304762306630, "REPNE", .int 242),
 (103023458517073, "REP", .int 243),
 (106482364464337518668, "LOCK", .int 240),
 (245019218379105856591738503415514238787321972, "rex_bits", .val (.ref 676)),
 (181949368191052388594575814819961, "is_rex", .val (.ref 683)),
 (424233105366266303812670270880619061096125412961769658398560962431687196789, "segment_octet", .val (.ref 690))]
noncomputable def vM : List (Nat × Str × V) := [
 (221835720022404571371130107602651840615, "sort_of", .val (.ref 697)),
 (172578836346340859300309736293047928965431412, "Prefixes", .val (.ref 750)),
 (255672227042366197790405307231405893898076281, "with_rex", .val (.ref 761)),
 (353565686690306786090633069680849207147688630705214442195648634, "with_legacy", .val (.ref 768)),
 (420575926309858822340095687027521686652397461047977350139060716533105164404, "read_prefixes", .val (.ref 775)),
 (229817725703756275204270818170872867478137886794363848830025812, "MOST_OCTETS", .int 15),
 (120155254540336823440615468499014, "ESCAPE", .int 15),
 (226499285118956594194990207041473195733045260082699496474193865080947, "DATA_decoder", .int 102),
 (98058487464017, "NOP", .int 144),
 (176839950694910089581653764923566600464236627, "REGISTER", .int 3),
 (131954066604093946554390945845108670565, "Decoded", .val (.ref 799)),
 (109389185368477086520311910, "Frame", .val (.ref 855)),
 (244494132912097600703013942483299333036843073208422, "fits_size", .val (.ref 866)),
 (219452023595560949619978909197002667348459621, "fits_mod", .val (.ref 871)),
 (219452023595560949619978909197003908594008177, "fits_nop", .val (.ref 878)),
 (193964865296376782081950317150309, "picked", .val (.ref 885)),
 (338833784180107224062050393481121631869119989966385518324351093, "register_at", .val (.ref 892)),
 (338833784180107224040744383804081309203145008040763881435365477, "reg_operand", .val (.ref 899)),
 (304129033110560135257614615207116770073807946464576340069, "rm_operand", .val (.ref 906)),
 (370933614551595136794435939580486977385455683515143783279059267420261, "plus_operand", .val (.ref 913)),
 (376689790763631018020589209612228873244827461463298586871609078639402877029, "fixed_operand", .val (.ref 920)),
 (219452023595535202082382174000914362764755061, "field_at", .val (.ref 927)),
 (544735335445363788251584005543392592374078037184745855949180511779647961205145834815589, "written_operand", .val (.ref 934)),
 (329994678111614687566030485043756855926832774818775961789530215, "operands_of", .val (.ref 941)),
 (264460050981020424142025578570608216258260093014821437541, "check_used", .val (.ref 946)),
 (332941061787166049129046266862064758016865793001833213513105509, "prefix_word", .val (.ref 953)),
 (304129014120746371718354003230694325453436061542219907174, "read_frame", .val (.ref 958)),
 (173366837684087912532404012908646, "decode", .val (.ref 966)),
 (75759687, "CF", .int 0),
 (90243143, "PF", .int 2),
 (73531463, "AF", .int 4)]
noncomputable def vN : List (Nat × Str × V) := [
 (101384263, "ZF", .int 6),
 (93585479, "SF", .int 7),
 (76873799, "DF", .int 10),
 (89129031, "OF", .int 11),
 (187766642012142592759529319082046889623449004825672810580, "FLAG_NAMES", .str (Str.ofString "cf pf af zf sf of df")),
 (109389177071157723036909684, "Flags", .val (.ref 1039)),
 (135778762154876175263480964559147499589, "FETCHED", .int 15),
 (130958808280991564535234644, "TRAPS", .str (Str.ofString "ud2 int int3 syscall cpuid")),
 (133887296572508665067461723488378, "Memory", .val (.ref 1133)),
 (183665863815764738870145572012133, "joined", .val (.ref 1144)),
 (129418164787394048673775718, "State", .val (.ref 1250)),
 (196974824744783281995214253002070556773, "fetched", .val (.ref 1261)),
 (139671681638149849190, "done", .val (.ref 1268)),
 (216098599453611504859080927798939222117, "proceed", .val (.ref 1275)),
 (364368402893345907000212623471576912307059381414729977166046225694824, "need_running", .val (.ref 1282)),
 (221835728604893479691788098073267470458, "step_by", .val (.ref 1289)),
 (213060234461525172477298675602690291115491431, "codes_of", .val (.ref 1294)),
 (301513929339825214200689750275578226740133997123952406463827742644923821858357365, "InstructionSet", .val (.ref 1365)),
 (341780173144899721248750205644706580601746557936052164621107316, "sized_forms", .val (.ref 1377)),
 (234999236683339502222800814875832989253802860871796, "both_ways", .val (.ref 1384)),
 (261110236467331443155116334647764919750968050843764, "mov_forms", .val (.ref 1391)),
 (258736487908199426997381602202003298432492298436724, "lea_forms", .val (.ref 1398)),
 (217321452078407110648303539416232187499380838, "exchange", .val (.ref 1405)),
 (261110236467331443165415334587679536737261973799013, "move_deed", .val (.ref 1412)),
 (204537827913381305132362133525979818044555375, "_law_pen", .val (.ref 1417)),
 (227878048532233072623626241306879832418664902164600, "_law_draw", .val (.ref 1424)),
 (227878048532233072623626241306896427046220647891052, "_law_pick", .val (.ref 1431)),
 (253881668406343253006853478954919776971198778513589338217, "_law_worth", .val (.ref 1438)),
 (282852613351527894293971543145404701032030006968526174523555942, "_law_little", .val (.ref 1443)),
 (204537827913381305132362133525974853057904762, "_law_lay", .val (.ref 1450)),
 (204537827913381305132362133525983541781201013, "_law_set", .val (.ref 1457))]
noncomputable def vO : List (Nat × Str × V) := [
 (204537827913381305132362133525967405584613491, "_law_far", .val (.ref 1464)),
 (253881668406343253006853478954919776962901441772674941033, "_law_width", .val (.ref 1471)),
 (253881668406343253006853478954908992118255904597253357684, "_law_parts", .val (.ref 1478)),
 (227878048532233072623626241306899192814376822374501, "_law_read", .val (.ref 1485)),
 (253881668406343253006853478954919776975347427024117760102, "_law_write", .val (.ref 1492)),
 (435788337622959544284930857384659180680648213236601532666188951486499548587403003887733, "_law_turn_right", .val (.ref 1497)),
 (135295873974392, "law", .val (.ref 1502))]
noncomputable def yX : List (Nat × Str × V) := vK ++ (vL ++ (vM ++ (vN ++ (vO))))
noncomputable def CC : List (Nat × Str × Bi) := [(135295878430831, "len", .len),(131572151812213, "int", .int),(143984613982323, "str", .str),(121642174054516, "abs", .abs),(143984615096430, "sum", .sum),(121642187423866, "any", .any),(180260953059048978124701798, "tuple", .tuple),(150734766675317751925, "list", .list),(177179544377754693117935718, "range", .range),(152528529378554867127550068, "bytes", .bytes),(199114379902922301681635342811237, "sorted", .sorted),(242120416312010698088996097097551920883391466373222, "enumerate", .enumerate),(152673320566897, "zip", .zip)]
noncomputable def yY : List Nat := [1028]
noncomputable def eO : Tab := ⟨yX,CC,yY,Bs,sr,yW,CB⟩
noncomputable abbrev kH : Addr := 111
noncomputable abbrev f9 : Addr := 139
noncomputable abbrev nQ : Addr := 599
noncomputable abbrev pD : Addr := 606
noncomputable abbrev vP : Addr := 620
noncomputable abbrev k8 : Addr := 662
noncomputable abbrev q8 : Addr := 669
noncomputable abbrev I6 : Addr := 676
noncomputable abbrev v4 : Addr := 775
noncomputable abbrev m8 : Addr := 892
noncomputable abbrev ae : Addr := 966
noncomputable abbrev B2 : Addr := 1078
noncomputable abbrev y6 : Addr := 1085
noncomputable abbrev v5 : Addr := 1097
noncomputable abbrev q9 : Addr := 1172
noncomputable abbrev y7 : Addr := 1191
noncomputable abbrev u6 : Addr := 1198
noncomputable abbrev j4 : Addr := 1212
noncomputable abbrev i7 : Addr := 1219
noncomputable abbrev bw : Addr := 1289
noncomputable abbrev l7 : Addr := 1412
noncomputable abbrev R3 : Addr := 1417
noncomputable abbrev I7 : Addr := 1424
noncomputable abbrev F1 : Addr := 1438
noncomputable abbrev K3 : Addr := 1443
noncomputable abbrev j0 : Addr := 1450
noncomputable abbrev G4 : Addr := 1457
noncomputable abbrev R4 : Addr := 1464
noncomputable abbrev R5 : Addr := 1471
noncomputable abbrev R6 : Addr := 1478
noncomputable abbrev W5 : Addr := 1485
noncomputable abbrev R7 : Addr := 1492
noncomputable abbrev n3 : Addr := 1497
noncomputable abbrev gE : Addr := 1502
end
end
section
open PySem.Spec
noncomputable section
noncomputable def kAs : List Addr := cStatics :: (sr.map (·.1) ++ ((sr.map (·.1)).map (· - 1) ++ Bs.map (·.1)))
noncomputable def YP0 (h : Heap) : Prop := ∃ g : Addr → Option Obj,(∀ b o,g b = some o → h.get? b = some o) ∧ yV g (kG g kAs) eO = true ∧ kE g eO.cal = kA eO.cal
theorem kI {h h' : Heap} (y : YP0 h) (hk : ∀ b o,h.get? b = some o → h'.get? b = some o) : YP0 h' := by
 obtain ⟨g,a,b,c⟩ := y
 exact ⟨g,λ x o e => hk x o (a x o e),b,c⟩
theorem su {g : Addr → Option Obj} {K : Frag} {T : Tab} (h1 : sn g K T = true) (h2 : so g K T = true) : yV g K T = true := Bool.and_eq_true_iff.mpr ⟨h1,h2⟩
end
end
end Mine.Internal
open PySem PySem.W PyProof.Rows
namespace MineH.Internal
open Mine.Internal
noncomputable section
noncomputable abbrev pw : Program := PySem.Challenge.pw_nn0099_01
noncomputable abbrev rw0 : OpenLaw := PySem.Challenge.rw_nn0099_01
noncomputable def pE : Env := { scope := pw.main.scope,locals := mainNs,globals := mainNs,cells := [],code := .ref 13,frame := some 14 }
noncomputable def p00 : Pos := ⟨0,0,0,0⟩
noncomputable def tK : Pos := ⟨1053,0,1067,80⟩
noncomputable def dy : List Stmt := behindTheImports pw
noncomputable def pF : List Frame := [topFrame p00]
noncomputable def cE : Code := .body dy pE
noncomputable def go0 (w : World) (os : OsState) : Option (Shared × Thread) := topGo treeTable pw w 11 (some (.ref 6)) 12 ⟨boot_heap w.params,#[],boot_drawn,boot_toks,os⟩ (topStub pw)
noncomputable def Bt : Nat → BT → List Obj → BT
 | _,t,[] => t
 | n,t,o :: r => Bt (n + 1) (t.ins n o) r
noncomputable def sA (w : World) (os : OsState) : Shared := match go0 w os with
 | some (s,_) => s
 | none => {}
noncomputable def st0 (w : World) (os : OsState) : SharedT := ⟨Bt 0 .nil (sA w os).heap.objs.toList,15,{},#[],boot_drawn,187,os⟩
noncomputable def qv : Program := view pw [144]
noncomputable def lv : List Str := pw.boundNames.filter λ n => !(n == ("law" : Str))
theorem g0 (w : World) (os : OsState) : topGo treeTable pw w 11 (some (.ref 6)) 12 ⟨boot_heap w.params,#[],boot_drawn,boot_toks,os⟩ (topStub pw) = some (sA w os,⟨denote treeTable cE,cE,p00,pF⟩) := by
 unfold sA go0
 rw [PySem.W.Fast.te15667345088766844465,PySem.W.Fast.te14364793385576792824,PySem.W.Fast.te11892475500146522536]
 kernel_rfl
theorem g1 (w : World) (os : OsState) : (st0 w os).abs = sA w os := by
 unfold st0 sA go0
 rw [PySem.W.Fast.te15667345088766844465,PySem.W.Fast.te14364793385576792824]
 kernel_rfl
theorem g2 (w : World) (os : OsState) (s : Shared) : segRun treeTable pw w 11 (some (.ref 6)) 1 1 s (blockOf dy pE cE p00 pF) = some (.next,s,cE,p00) := by
 kernel_rfl
theorem g3 (w : World) (s : Shared) : topRun treeTable pw w 11 (some (.ref 6)) 4 s (restOf [] pE cE tK pF) = some s := by
 kernel_rfl
noncomputable def Bu (w : World) (s : Shared) : Bool := staticsOk (importedModules pw.main.body) (boot_heap w.params) s.heap && namesBound pw s.heap && gensDone s && laidKept (boot_heap w.params) s.heap
noncomputable def Xt0 : Shared → Bool := λ _ => true
noncomputable def vQ (S : SharedT) : Addr → Option Obj := vF S.tree S.n
noncomputable def Bv (S : SharedT) : Frag := kG (vQ S) kAs
theorem CD (w : World) (os : OsState) : (segRunT treeTable pw w 11 (some (.ref 6)) 1 10200 (st0 w os) (piecesOf dy pE cE p00 pF)).map
   (λ r => (r.1,r.2.2.1,r.2.2.2,Bu w r.2.1.abs,kE (vQ r.2.1) eO.cal)) = some (.next,cE,tK,true,kA eO.cal) := by
 unfold piecesOf
 rw [PySem.W.Fast.te10110043849684766642,PySem.W.Fast.te14364793385576792824,PySem.W.Fast.te12563942051412417395]
 kernel_rfl
theorem CE (w : World) (os : OsState) : (segRunT treeTable pw w 11 (some (.ref 6)) 1 10200 (st0 w os) (piecesOf dy pE cE p00 pF)).map
   (λ r => (r.1,r.2.2.1,r.2.2.2,openSeen qv lv (importedModules pw.main.body) Xt0 true r.2.1.abs)) = some (.next,cE,tK,openGood qv lv) := by
 unfold piecesOf
 rw [PySem.W.Fast.te10110043849684766642,PySem.W.Fast.te14364793385576792824,PySem.W.Fast.te12563942051412417395,PySem.W.Fast.te4187177175401517315]
 kernel_rfl
theorem CG (w : World) (os : OsState) : (segRunT treeTable pw w 11 (some (.ref 6)) 1 10200 (st0 w os) (piecesOf dy pE cE p00 pF)).map
   (λ r => (r.1,r.2.2.1,r.2.2.2,sn (vQ r.2.1) (Bv r.2.1) eO)) = some (.next,cE,tK,true) := by
 unfold piecesOf
 rw [PySem.W.Fast.te10110043849684766642,PySem.W.Fast.te14364793385576792824,PySem.W.Fast.te12563942051412417395]
 kernel_rfl
theorem CH (w : World) (os : OsState) : (segRunT treeTable pw w 11 (some (.ref 6)) 1 10200 (st0 w os) (piecesOf dy pE cE p00 pF)).map
   (λ r => (r.1,r.2.2.1,r.2.2.2,so (vQ r.2.1) (Bv r.2.1) eO)) = some (.next,cE,tK,true) := by
 unfold piecesOf
 rw [PySem.W.Fast.te10110043849684766642,PySem.W.Fast.te14364793385576792824,PySem.W.Fast.te12563942051412417395]
 kernel_rfl
theorem yZ : ∀ w : World,(fencedOpening treeTable pw w 20000).map (λ s => (s.heap,s.gens,s.drawn,s.toks)) = some (boot_heap w.params,Array.mk [],boot_drawn,boot_toks) :=
 boot_open (by kernel_rfl) (by decide) (λ s => by kernel_rfl)
theorem CI {α β γ δ ε : Type} {a a' : α} {b b' : β} {c c' : γ} {d d' : δ} {e e' : ε} (h : (a,b,c,d,e) = (a',b',c',d',e')) : a = a' ∧ b = b' ∧ c = c' ∧ d = d' ∧ e = e' := by
 simpa only [Prod.mk.injEq] using h
theorem bz {α β : Type} {x : Option α} {f : α → β} {b : β} (h : x.map f = some b) : ∃ a,x = some a ∧ f a = b := Option.map_eq_some_iff.mp h
theorem CJ (w : World) (os : OsState) (S : SharedT) (e : segRunT treeTable pw w 11 (some (.ref 6)) 1 10200 (st0 w os) (piecesOf dy pE cE p00 pF) = some (.next,S,cE,tK)) :
  topRun treeTable pw w 11 (some (.ref 6)) (12 + (1 + (10200 + 4))) ⟨boot_heap w.params,#[],boot_drawn,boot_toks,os⟩ (topStub pw) = some S.abs := by
 have a := segRun_of e
 rw [g1 w os] at a
 have b := piece_app (rest := []) a (g3 w S.abs)
 rw [List.append_nil] at b
 exact go_top (g0 w os) (piece_block (g2 w os (sA w os)) b)
theorem ye {α β γ δ : Type} {a a' : α} {b b' : β} {c c' : γ} {d d' : δ} (h : (a,b,c,d) = (a',b',c',d')) : a = a' ∧ b = b' ∧ c = c' ∧ d = d' := by
 simpa only [Prod.mk.injEq] using h
theorem CK (w : World) (os : OsState) : ∃ EG : Shared,topRun treeTable pw w 11 (some (.ref 6)) 20000 ⟨boot_heap w.params,#[],boot_drawn,boot_toks,os⟩ (topStub pw) = some EG ∧
  Bu w EG = true ∧ openSeen qv lv (importedModules pw.main.body) Xt0 true EG = openGood qv lv ∧ YP0 EG.heap := by
 obtain ⟨r,e,o⟩ := bz (CD w os)
 obtain ⟨r2,e2,o2⟩ := bz (CG w os)
 rw [e] at e2
 cases e2
 obtain ⟨r3,e3,o3'⟩ := bz (CH w os)
 rw [e] at e3
 cases e3
 obtain ⟨r4,e4,o4'⟩ := bz (CE w os)
 rw [e] at e4
 cases e4
 obtain ⟨f,S,c,q⟩ := r
 obtain ⟨o1,o2',o3,o4,o6⟩ := CI o
 obtain ⟨_,_,_,o5⟩ := ye o4'
 obtain ⟨_,_,_,o7⟩ := ye o2
 obtain ⟨_,_,_,o8⟩ := ye o3'
 subst o1 o2' o3
 have d := CJ w os S e
 have m := topRun_mono 9783 _ _ _ _ d
 exact ⟨S.abs,m,o4,o5,vQ S,λ b o hb => kB hb,su o7 o8,o6⟩
theorem Ef {α β γ : Type} {a a' : α} {b b' : β} {c c' : γ} (h : (a,b,c) = (a',b',c')) : a = a' ∧ b = b' ∧ c = c' := by
 simpa only [Prod.mk.injEq] using h
theorem gF {tb : String → Option Builtin} {p : Program} {w : World} {N Fp : Nat} {ann : Option Value} {Fc EG : Shared} (h1 : (Fc.heap.isNs mainGlobals && Fc.gens.size == 0) = true) (h2 : Fc.heap.objs.size = Fp)
  (h3 : Fc.heap.nsMap mainGlobals "__annotations__" = ann) (r : topRun tb p w Fp ann N Fc (topStub p) = some EG)
  (z : (staticsOk (importedModules p.main.body) Fc.heap EG.heap && namesBound p EG.heap && gensDone EG && laidKept Fc.heap EG.heap) = true) : topFrom tb p w N Fc = some EG := by
 subst h2 h3
 unfold topFrom
 rw [h1,r]
 show (match (staticsOk (importedModules p.main.body) Fc.heap EG.heap && namesBound p EG.heap && gensDone EG && laidKept Fc.heap EG.heap) with | true => some EG | false => none) = some EG
 rw [z]
theorem nR {p q : Program} {loose : List Str} {Xt : Shared → Bool} {α : Type} {Yf : Shared → α} {Ya : World → α} {N Fp : Nat} {ann : Option Value} {Fr : Params → Heap} {Gg : Drawn} {Gh : Nat}
  (op : ∀ w : World,(fencedOpening treeTable p w N).map (λ s => (s.heap,s.gens,s.drawn,s.toks)) = some (Fr w.params,Array.mk [],Gg,Gh))
  (h1 : ∀ w : World,((Fr w.params).isNs mainGlobals && (Array.mk [] : Array GenState).size == 0) = true) (h2 : ∀ w : World,(Fr w.params).objs.size = Fp) (h3 : ∀ w : World,(Fr w.params).nsMap mainGlobals "__annotations__" = ann)
  (run : ∀ (w : World) (os : OsState),∃ EG : Shared,topRun treeTable p w Fp ann N ⟨Fr w.params,Array.mk [],Gg,Gh,os⟩ (topStub p) = some EG ∧
   (staticsOk (importedModules p.main.body) (Fr w.params) EG.heap && namesBound p EG.heap && gensDone EG && laidKept (Fr w.params) EG.heap) = true ∧ openSeen q loose (importedModules p.main.body) Xt true EG = openGood q loose ∧ Yf EG = Ya w) :
  LeftO p q loose Xt Yf Ya N := by
 intro w
 obtain ⟨Fc,e,e'⟩ := bz (op w)
 obtain ⟨h,gs,d,k,os⟩ := Fc
 obtain ⟨e1,e2,e3,e4⟩ := ye e'
 dsimp only at e1 e2 e3 e4
 subst e1 e2 e3 e4
 obtain ⟨EG,r,z,q1,q2⟩ := run w os
 have t := gF (Fc := ⟨Fr w.params,Array.mk [],d,k,os⟩) (h1 w) (h2 w) (h3 w) r z
 unfold openEnds
 rw [e]
 show (topFrom treeTable p w N _).map _ = _
 rw [t]
 exact congrArg some (Prod.ext q1 q2)
theorem za : LeftO pw qv lv Xt0 (λ s => YP0 s.heap) (λ _ => True) 20000 :=
 nR yZ (λ w => by kernel_rfl) (λ w => by kernel_rfl) (λ w => by kernel_rfl) λ w os => by
  obtain ⟨EG,r,z,q,y⟩ := CK w os
  exact ⟨EG,r,z,q,eq_true y⟩
noncomputable def dlo : Option (DefRec × List (Str × Expr)) := defOf qv rw0.row.name
theorem eP : dlo.isSome = true := by kernel_rfl
noncomputable def dl : DefRec × List (Str × Expr) := dlo.get eP
theorem zb : defOf qv rw0.row.name = some (dl.1,dl.2) := (Option.some_get eP).symm
theorem vR : pw.theDef rw0.row.name = some (dl.1.params,dl.1.body,dl.1.scope) := by kernel_rfl
theorem zc : kwWritten? dl.1.params.kwonlyargs dl.1.params.kw_defaults = some dl.2 := by kernel_rfl
theorem ok0 : (chainsOk qv && opensWell pw && (frees rw0.row.toRowW && rw0.row.within.isEmpty)) = true := by kernel_rfl
theorem zd : pw.bare := ⟨rfl,rfl,rfl,rfl,rfl,by decide +kernel⟩
theorem ze : rw0.row.toRowW.promised := ⟨[.list []],by decide +kernel,by decide +kernel⟩
theorem sv : dl.1.name = Str.ofString "law" := by kernel_rfl
end
end MineH.Internal
namespace Mine.Internal
open PySem PySem.W PyProof.Rows
variable {O : KG} {J : KH} {n : Nat} {us : KK} {vs : List Mine.Internal.V} {X : Wd} {D : Gam} {P : Params} {env : Env} {v : Mine.Internal.V} {pos : Pos} {A : Around} {F : PH} {s : Shared} {E : KA} {Q : KA} {xs : KM} {o : Obj} {e : Expr} {sc : Scope} {prog : Program} {w : World} {es : KF} {k : Mine.Internal.V → List MO → Prop} {x : Str} {i : Int} {d : Nat} {G : PH} {args : List Mine.Internal.V} {fs : List (Str × Mine.Internal.V)} {C : Addr} {ks : KM} {H : Heap}
section
open PySem.Spec
noncomputable def Tab.upd (T : Tab) (a : Addr) (n : Nat) (S : Spec) : Tab := { T with cal := (a,.spec n (kq S)) :: T.cal }
theorem TabOK.upd {T : Tab} (hT : TabOK X T) {a : Addr} {n : Nat} {S : Spec} {e : CalE} (ha : T.cal.lookup a = some e) (h : ∀ args O k,S args O k → OpC X n O args (.ref a) k) : TabOK X (T.upd a n S) where
 glob := hT.glob
 blt := hT.blt
 cal := λ b f hb => by
  unfold Tab.upd at hb
  dsimp only at hb
  rw [yc6] at hb
  split at hb
  ·rename_i q
   obtain rfl := sj hb
   rw [beq_iff_eq.mp q]
   exact ⟨Z9 h,eF hT (Option.isSome_iff_exists.mpr ⟨_,ha⟩)⟩
  ·exact hT.cal b f hb
 attrs := hT.attrs
 meths := hT.meths
 clm := hT.clm
 sys := hT.sys
theorem TabOK.updR {T : Tab} (hT : TabOK X T) {a : Addr} {S : Spec} {e : CalE} (ha : T.cal.lookup a = some e) (h : ∀ args O k,S args O k → (g8 T n).call a args O k) : TabOK X (T.upd a n S) :=
 hT.upd ha λ args O k z => (u9 hT n).call a args O k (h args O k z)
noncomputable def LeV (v w : V) : Prop := ∀ (P : Params) (F : PH) (J : KH) (u : Value),VR P F J v u → VR P F J w u
noncomputable def hZ (v w : KD) : Prop := ∀ (P : Params) (F : PH) (J : KH) (u : List DictEntry),FRs P F J v u → FRs P F J w u
noncomputable def LeM (m m' : MO) : Prop := ∀ (prog : Program) (w : World) (F : PH) (J : KH) (o : Obj),MR prog w F J m o → MR prog w F J m' o
inductive LeS : List MO → List MO → Prop
 | nil : LeS [] []
 | cons {m m' : MO} {O σ' : KG} : LeM m m' → LeS O σ' → LeS (m :: O) (m' :: σ')
theorem LeV.refl (v : V) : LeV v v := λ Z Z Z Z h => h
theorem LeV.junk (v : V) : LeV v .junk := λ Z Z Z u Z => .junk u
theorem LeV.obj {C : Addr} {fs gs : KD} (h : hZ fs gs) : LeV (.obj C fs) (.obj C gs) := λ P F J u q => by
 cases q with
 | obj a b c => exact .obj a b (h _ _ _ _ c)
theorem hZ.nil : hZ [] [] := λ Z Z Z Z h => h
theorem hZ.cons {x : Str} {v w : V} {vs ws : KD} (a : LeV v w) (b : hZ vs ws) : hZ ((x,v) :: vs) ((x,w) :: ws) := λ P F J u q => by
 cases q with
 | cons c d => exact .cons (a _ _ _ _ c) (b _ _ _ _ d)
theorem LeM.refl (m : MO) : LeM m m := λ Z Z Z Z Z h => h
theorem LeM.flds {a b : KD} (h : hZ a b) : LeM (.flds a) (.flds b) := λ prog w F J o q => by
 cases q with
 | flds q => exact .flds (h _ _ _ _ q)
theorem LeM.emp : LeM .emp (.imap []) := λ prog w F J o q => q.asI rfl
theorem LeS.len {O σ' : KG} (h : LeS O σ') : O.length = σ'.length := by
 induction h with
 | nil => rfl
 | cons _ b ih => rw [yb2,yb2,ih]
theorem LeS.get {O σ' : KG} {m' : MO} (q : LeS O σ') (h : σ'[n]? = some m') : ∃ m,O[n]? = some m ∧ LeM m m' := by
 induction q generalizing n with
 | nil => cases h
 | cons a b ih =>
  induction n using Nat.casesOn with
  | zero => obtain rfl := sj h; exact ⟨_,rfl,a⟩
  | succ n => exact ih h
theorem Rel.le {σ' : KG} {h : Heap} (r : Rel X F G J O h) (l : LeS O σ') : Rel X F G J σ' h :=
 ⟨r.base,r.f,r.g,r.fg,r.nd,r.rf,r.len.trans l.len,λ n a o e1 e2 => let ⟨_,hm,q⟩ := l.get e2; let ⟨x,hx,hr⟩ := r.m n a _ e1 hm; ⟨x,hx,q _ _ _ _ _ hr⟩⟩
noncomputable def EvW (X : Wd) (d : Nat) (env : Env) (D : Gam) (O : KG) (b : List Stmt) (k : KS) : Prop :=
 ∀ (A : Around) (E : KA) (Q : Flow → Shared → Prop) (s : Shared) (F G : PH) (J : KH),C3 d A → Rel X F G J O s.heap → Fram X env F G J D s.heap →
  (∀ (v : Fl) (u : Flow) (h' : Heap) (tk' : Nat) (F' : PH) (ρ' : KH) (σ' : KG) (Γ' : Gam),k v Γ' σ' → (∀ a o,F a = some o → F' a = some o) → Rel X F' G ρ' σ' h' → Fram X env F' G ρ' Γ' h' → RFl X F' ρ' v u → Q u { s with heap := h',toks := tk' }) →
  wpAny (model X.prog X.w) A (execs b env) Q E s
theorem vS {b : List Stmt} {k : KS} (h : Ev X (RFl X) d env D O [] (λ Z => execs b env) k) : EvW X d env D O b k :=
 λ A E Q s F G J hA r f hk => h A E Q s F G J [] hA r f .nil λ v u h' tk' F' ρ' σ' Γ' z x r' f' hr => hk v u h' tk' F' ρ' σ' Γ' z x.f r' f' hr
theorem sw {a b : List Stmt} {k : KS} (h : EvW X d env D O a (λ fl Eg Eh => match fl with | .next => EvW X d env Eg Eh b k | fl => k fl Eg Eh)) : EvW X d env D O (a ++ b) k := by
 intro A E Q s F G J hA r f hk
 refine iP a A E Q s (h A E _ s F G J hA r f λ fl u Eo Er Eu Em Eh Eg z Ey En Es Et => ?_)
 cases Et with
 | next => exact z A E _ _ Eu G Em hA En Es λ b EO Ew Ek EE El Ei Ej EF EA Ep EC Ez => hk b EO Ew Ek EE El Ei Ej EF (λ a o e => EA a o (Ey a o e)) Ep EC Ez
 | brk => exact hk _ _ Eo Er Eu Em Eh Eg z Ey En Es .brk
 | cont => exact hk _ _ Eo Er Eu Em Eh Eg z Ey En Es .cont
 | ret q => exact hk _ _ Eo Er Eu Em Eh Eg z Ey En Es (.ret q)
theorem pG {σ' : KG} {b : List Stmt} {k : KS} (l : LeS O σ') (h : EvW X d env D σ' b k) : EvW X d env D O b k :=
 λ A E Q s F G J hA r f hk => h A E Q s F G J hA (r.le l) f hk
noncomputable def pH (ks : List Nat) (O : KG) (l : KD) : List (Str × V) := l.map λ p => (p.1,j5 ks O 30 p.2)
theorem R8 {ks : List Nat} : ∀ {l : KD},(pH ks O l).lookup x = some v → ∃ w,l.lookup x = some w ∧ v = j5 ks O 30 w := by
 intro l
 induction l with
 | nil =>
  intro h
  cases h
 | cons hd l ih =>
  obtain ⟨y,w⟩ := hd
  intro h
  unfold pH at h
  rw [yc8,yc6] at h
  rw [yc6]
  cases q : (x == y) with
  | true => rw [q] at h; obtain rfl := sj h; exact ⟨w,rfl,rfl⟩
  | false => rw [q] at h; exact ih h
theorem Fram.freeze {h : Heap} {ks : List Nat} (f : Fram X env F G J D h) (r : Rel X F G J O h) (hv : ∀ k ∈ ks,k < J.length) : Fram X env (l4 F J ks h) G (ρK ks J) ⟨pH ks O D.loc,pH ks O D.cel⟩ h := by
 have mem : ∀ a ∈ ρK ks J,a ∈ J := λ a ha => by
  unfold ρK at ha
  obtain ⟨k,hk,rfl⟩ := List.mem_map.mp ha
  rw [I5 (hv k hk)]; exact List.getElem_mem _
 have off : ∀ {a : Addr},F a = none → a ∉ J → l4 F J ks h a = none ∧ a ∉ ρK ks J := λ {a} e q => by
  refine ⟨?_,λ z => q (mem _ z)⟩
  unfold l4
  rw [if_neg (λ z => q z.1)]
  exact e
 refine ⟨f.glob,f.bilt,f.kind,?_,⟨(off f.out.1 f.out.2.2).1,f.out.2.1,(off f.out.1 f.out.2.2).2⟩,λ y v e => ?_,λ y c hc => ?_,f.ev⟩
 ·obtain ⟨m,hn,hm⟩ := f.ns
  refine ⟨m,hn,λ y v e => ?_⟩
  obtain ⟨w,e',rfl⟩ := R8 e
  obtain ⟨u,a,b⟩ := hm y w e'
  exact ⟨u,a,VR.fzV r hv 30 b⟩
 ·obtain ⟨w,e',rfl⟩ := R8 e
  obtain ⟨c,u,hc,hi,hr⟩ := f.cel y w e'
  exact ⟨c,u,hc,hi,VR.fzV r hv 30 hr⟩
 ·obtain ⟨a,b,c,d⟩ := f.cout y c hc
  exact ⟨(off a c).1,b,(off a c).2,d⟩
theorem gG {ks : List Nat} {b : List Stmt} {k : KS} (hks : rX ks O.length = true) (h : EvW X d env ⟨pH ks O D.loc,pH ks O D.cel⟩ (σK ks O) b k) : EvW X d env D O b k := by
 intro A E Q s F G J hA r f hk
 unfold rX at hks
 rw [ya4] at hks
 have nd := kl hks.1
 have lt : ∀ m ∈ ks,m < J.length := λ m hm => by
  rw [r.len]
  have := List.all_eq_true.mp hks.2 m hm
  simpa [Nat.blt,Nat.lt_iff_add_one_le] using this
 refine h A E Q s _ G _ hA (r.freeze nd lt) (f.freeze r lt) λ v u h' tk' F' ρ' σ' Γ' z x r' f' hr => ?_
 exact hk v u h' tk' F' ρ' σ' Γ' z (λ a o e => x a o (r.freezeF_ext e)) r' f' hr
noncomputable def F2 (C : Addr) (x : Str) : V → V
 | .obj Gr fs => .obj Gr (cond (Nat.beq Gr C) (fs.map λ p => (p.1,cond (p.1 == x) .junk p.2)) fs)
 | v => v
noncomputable def vT (keep : List (List Int)) (es : KJ) : List (List Int × V) := es.map λ p => (p.1,cond (keep.elem p.1 && V.noH p.2) p.2 .junk)
noncomputable def sx (C : Addr) (x : Str) (keep : List (List Int)) : MO → MO
 | .flds fs => .flds (fs.map λ p => (p.1,F2 C x p.2))
 | .tmap es => .ftm (vT keep es)
 | .emp => .imap []
 | m => m
theorem hZ.mapJ {f : Str → V → V} (hf : ∀ x v,LeV v (f x v)) (fs : KD) : hZ fs (fs.map λ p => (p.1,f p.1 p.2)) := by
 induction fs with
 | nil => exact .nil
 | cons p fs ih => exact .cons (hf p.1 p.2) ih
theorem B3 (v : V) : LeV v (F2 C x v) := by
 induction v using V.casesOn with
 | obj Gr fs =>
  refine .obj ?_
  cases Nat.beq Gr C with
  | true => exact hZ.mapJ (f := λ y v => cond (y == x) .junk v) (λ y v => by cases y == x <;> first | exact .junk _ | exact .refl _) fs
  | false => exact λ Z Z Z Z h => h
 | _ => exact .refl _
theorem kJ {J ρ' : KH} {keep : List (List Int)} {es : KJ} {xs : List (List Int × Addr × Value)} (h : TMs P F J es xs) : TMs P F ρ' (vT keep es) xs := by
 induction h with
 | nil => exact .nil
 | @cons ks x ko us n v u es xs f c d i a b ih =>
  refine .cons f c d i ?_ ih
  cases q : (keep.elem ks && V.noH v) with
  | true => rw [ya4] at q; exact a.noH (λ Z Z e => e) q.2
  | false => exact .junk _
theorem nS {keep : List (List Int)} (m : MO) : LeM m (sx C x keep m) := by
 induction m using MO.casesOn with
 | flds fs => exact .flds (hZ.mapJ (f := λ Z v => F2 C x v) (λ Z v => B3 v) fs)
 | tmap es =>
  intro prog w F J o q
  exact q.tmapE λ Z Z Z a b c d e => .ftm (λ ρ' => kJ a) b c d e
 | emp => exact .emp
 | _ => exact .refl _
theorem kK {keep : List (List Int)} : ∀ (O : KG),LeS O (O.map (sx C x keep)) := by
 intro O
 induction O with
 | nil =>
  exact .nil
 | cons m O ih =>
  exact .cons (nS m) (ih)
end
section
open PySem.Spec
theorem D5 (n : Nat) : ((2 ^ n : Nat) : Int) = 2 ^ n := by simp
theorem R9 (x : Int) (n : Nat) : Builtin.bitAnd x (2 ^ n - 1) = x % 2 ^ n := by
 have hp := Nat.two_pow_pos n
 rw [← D5]
 have hy : (0 : Int) ≤ ((2 ^ n : Nat) : Int) - 1 := by lia
 have ht : (((2 ^ n : Nat) : Int) - 1).toNat = 2 ^ n - 1 := by lia
 by_cases hx : 0 ≤ x
 ·rw [bitAnd_pp hx hy,ht,Nat.and_two_pow_sub_one_eq_mod]
  have e : ((x.toNat : Nat) : Int) = x := Int.toNat_of_nonneg hx
  rw [Int.natCast_emod,e]
 ·rw [bitAnd_np hx hy,ht,Nat.and_comm,Nat.and_two_pow_sub_one_eq_mod]
  have hb : (0 : Int) ≤ Builtin.bitNot x := by unfold Builtin.bitNot; lia
  have e : (((Builtin.bitNot x).toNat : Nat) : Int) = -x - 1 := by rw [Int.toNat_of_nonneg hb]; rfl
  rw [Int.natCast_emod,e]
  generalize ((2 ^ n : Nat) : Int) = m at *
  have hm : 0 < m := by lia
  have h1 := Int.emod_add_mul_ediv (-x - 1) m
  have h2 := Int.emod_nonneg (-x - 1) (show m ≠ 0 by lia)
  have h3 := Int.emod_lt_of_pos (-x - 1) hm
  have h4 : m * (-((-x - 1) / m) - 1) = -(m * ((-x - 1) / m)) - m := by rw [Int.mul_sub,Int.mul_neg,Int.mul_one]
  have h5 : x = (m - 1 - (-x - 1) % m) + m * (-((-x - 1) / m) - 1) := by lia
  conv => rhs; rw [h5]
  rw [Int.add_mul_emod_self_left]
  exact (Int.emod_eq_of_lt (by lia) (by lia)).symm
theorem bA {a : Nat} (b : Nat) (h : a < 2 ^ n) : a ||| b * 2 ^ n = a + b * 2 ^ n := by
 have e := Nat.two_pow_add_eq_or_of_lt h b
 rw [Nat.mul_comm b,Nat.or_comm,← e,Nat.add_comm]
theorem B4 {a b : Int} (h0 : 0 ≤ a) (h : a < 2 ^ n) (hb : 0 ≤ b) : Builtin.bitOr a (b * 2 ^ n) = a + b * 2 ^ n := by
 have hp := Nat.two_pow_pos n
 have h2 : (0 : Int) ≤ b * 2 ^ n := Int.mul_nonneg hb (Int.le_of_lt (two_pow_pos n))
 rw [bitOr_and,bitAnd_pp h0 h2]
 have e1 : a.toNat < 2 ^ n := by rw [← D5] at h; lia
 have e2 : (b * 2 ^ n).toNat = b.toNat * 2 ^ n := by
  have : b * 2 ^ n = ((b.toNat * 2 ^ n : Nat) : Int) := by rw [Int.natCast_mul,D5,Int.toNat_of_nonneg hb]
  rw [this]; rfl
 refine e2.symm ▸ ?_
 have h3 := nat_or_add_and (a.toNat) (b.toNat * 2 ^ n)
 rw [bA _ e1] at h3
 have : a.toNat &&& b.toNat * 2 ^ n = 0 := by lia
 rw [this]; simp
theorem c8 {b : Bool} {P : Prop} (h : b = true) (p : P) : cond b P False := by subst h; exact p
theorem E3 {b : Bool} {P : Prop} (h : cond b P False) : b = true ∧ P := d8 h
section
noncomputable def tkI (l : KN) (f : Int → List V → Prop) : Prop := match l with
 | .int i :: r => f i r
 | _ => False
noncomputable def tkB (l : KN) (f : Bool → List V → Prop) : Prop := match l with
 | .bool i :: r => f i r
 | _ => False
noncomputable def tkS (l : KN) (f : Str → List V → Prop) : Prop := match l with
 | .str i :: r => f i r
 | _ => False
noncomputable def tkX (l : KN) (f : List Int → List V → Prop) : Prop := match l with
 | .byt i :: r => f i r
 | _ => False
noncomputable def tkH (l : KN) (f : List V → Prop) : Prop := match l with
 | .h 0 :: r => f r
 | _ => False
noncomputable def tkE {α : Type} (l : List α) (P : Prop) : Prop := match l with
 | [] => P
 | _ => False
noncomputable def tkN (l : KG) (f : List Int → Prop) : Prop := match l with
 | [.nums xs] => f xs
 | _ => False
@[elab_as_elim] theorem i4 {l : KN} {f : Int → List V → Prop} {C : List V → Prop} (h : tkI l f) (k : ∀ i r,f i r → C (.int i :: r)) : C l := by
 induction l using List.casesOn with
 | nil => exact False.elim h
 | cons v r => cases v <;> first | exact k _ _ h | exact False.elim h
@[elab_as_elim] theorem kL {l : KN} {f : Bool → List V → Prop} {C : List V → Prop} (h : tkB l f) (k : ∀ i r,f i r → C (.bool i :: r)) : C l := by
 induction l using List.casesOn with
 | nil => exact False.elim h
 | cons v r => cases v <;> first | exact k _ _ h | exact False.elim h
@[elab_as_elim] theorem vU {l : KN} {f : Str → List V → Prop} {C : List V → Prop} (h : tkS l f) (k : ∀ i r,f i r → C (.str i :: r)) : C l := by
 induction l using List.casesOn with
 | nil => exact False.elim h
 | cons v r => cases v <;> first | exact k _ _ h | exact False.elim h
@[elab_as_elim] theorem vV {l : KN} {f : List Int → List V → Prop} {C : List V → Prop} (h : tkX l f) (k : ∀ i r,f i r → C (.byt i :: r)) : C l := by
 induction l using List.casesOn with
 | nil => exact False.elim h
 | cons v r => cases v <;> first | exact k _ _ h | exact False.elim h
@[elab_as_elim] theorem bB {l : KN} {f : List V → Prop} {C : List V → Prop} (h : tkH l f) (k : ∀ r,f r → C (.h 0 :: r)) : C l := by
 induction l using List.casesOn with
 | nil => exact False.elim h
 | cons v r =>
  induction v using V.casesOn with
  | h n =>
   induction n using Nat.casesOn with
   | zero => exact k _ h
   | succ n => exact False.elim h
  | _ => exact False.elim h
@[elab_as_elim] theorem k7 {α : Type} {l : List α} {P : Prop} {C : List α → Prop} (h : tkE l P) (k : P → C []) : C l := by
 induction l using List.casesOn with
 | nil => exact k h
 | cons v r => exact False.elim h
@[elab_as_elim] theorem pI {l : KG} {f : List Int → Prop} {C : List MO → Prop} (h : tkN l f) (k : ∀ xs,f xs → C [.nums xs]) : C l := by
 induction l using List.casesOn with
 | nil => exact False.elim h
 | cons v r =>
  induction v using MO.casesOn with
  | nums xs =>
   induction r using List.casesOn with
   | nil => exact k _ h
   | cons _ _ => exact False.elim h
  | _ => exact False.elim h
noncomputable def vW : Spec := λ args O k => tkI args λ w args => tkI args λ s args => tkE args (tkE O (cond (decide (0 ≤ s) && decide (s ≤ 128)) (k (.int (w % 2 ^ s.toNat)) []) False))
theorem zg {w s : Int} : (g8 eO 20).call kH [.int w,.int s] [] k = cond (decide (0 ≤ s) && decide (s ≤ 1000000) && s64 1) (k (.int (Builtin.bitAnd w (1 * 2 ^ s.toNat - 1))) []) False := by kernel_rfl
theorem zh (h : vW args O k) : (g8 eO 20).call kH args O k := by
 refine i4 h λ w Z h => ?_
 refine i4 h λ s Z h => ?_
 refine k7 h λ h => ?_
 refine k7 h λ h => ?_
 refine i5 (E3 h) λ c h => ?_
 simp only [ya4,ya5] at c
 rw [zg]
 refine c8 ?_ ?_
 ·simp only [ya4,ya5]; exact ⟨⟨c.1,by lia⟩,by decide⟩
 ·rw [Int.one_mul,R9]; exact h
end
theorem TabOK.updI {T : Tab} (hT : TabOK X T) {a : Addr} {S : Spec} (ha : (T.cal.lookup a).isSome = true) (h : ∀ args O k,S args O k → (g8 T n).call a args O k) : TabOK X (T.upd a n S) := by
 cases e : T.cal.lookup a with
 | none => rw [e] at ha; cases ha
 | some c => exact hT.updR e h
theorem vX {f : Value} (W : V → V) (hW : ∀ v,LeV v (W v)) (h : OpC X d O args f (λ v σ' => k (W v) σ')) : OpC X d O args f k := by
 intro A R s F G J us hA r hv hk
 exact h A R s F G J us hA r hv λ v u h' tk' F' ρ' σ' z x r' hr => hk _ u h' tk' F' ρ' σ' z x r' (hW v _ _ _ _ hr)
theorem TabOK.updW {T : Tab} (hT : TabOK X T) {a : Addr} {S : Spec} (W : V → V) (hW : ∀ v,LeV v (W v)) (ha : (T.cal.lookup a).isSome = true) (h : ∀ args O k,S args O k → (g8 T n).call a args O (λ v σ' => k (W v) σ')) : TabOK X (T.upd a n S) := by
 cases e : T.cal.lookup a with
 | none => rw [e] at ha; cases ha
 | some c => exact hT.upd e λ args O k z => vX W hW ((u9 hT n).call a args O _ (h args O k z))
noncomputable def tb1 : Tab := eO.upd kH 20 vW
theorem vY (h : TabOK X eO) : TabOK X tb1 := h.updI (by kernel_rfl) λ Z Z Z => zh
end
section
open PySem.Spec
section
noncomputable def leU : List Int → Int
 | [] => 0
 | x :: r => x + 256 * leU r
noncomputable def leS (xs : KM) : Int := cond (decide (256 ^ xs.length ≤ 2 * leU xs)) (leU xs - 256 ^ xs.length) (leU xs)
noncomputable def Bw : Spec := λ args O k => tkX args λ xs args => tkE args (tkE O (cond (i9 xs && (Nat.beq xs.length 1 || Nat.beq xs.length 4)) (k (.int (leS xs)) []) False))
theorem zj {a : Int} : (g8 tb1 40).call f9 [.byt [a]] [] k = cond (s64 a) (cond (Builtin.bitOr 0 (a * 2 ^ 0) % 2 ^ 8 / 2 ^ 7 == 1)
  (k (.int (Builtin.bitOr 0 (a * 2 ^ 0) % 2 ^ 8 - 1 * 2 ^ 8)) []) (k (.int (Builtin.bitOr 0 (a * 2 ^ 0) % 2 ^ 8)) [])) False := by kernel_rfl
noncomputable def or4 (a b c e : Int) : Int := Builtin.bitOr (Builtin.bitOr (Builtin.bitOr (Builtin.bitOr 0 (a * 2 ^ 0)) (b * 2 ^ 8)) (c * 2 ^ 16)) (e * 2 ^ 24)
theorem zk {a b c e : Int} : (g8 tb1 40).call f9 [.byt [a,b,c,e]] [] k = cond (s64 a) (cond (s64 b) (cond (s64 c) (cond (s64 e) (cond (or4 a b c e % 2 ^ 32 / 2 ^ 31 == 1)
  (k (.int (or4 a b c e % 2 ^ 32 - 1 * 2 ^ 32)) []) (k (.int (or4 a b c e % 2 ^ 32)) [])) False) False) False) False := by kernel_rfl
theorem I8 {a : Int} (h : 0 ≤ a ∧ a < 256) : s64 a = true := by unfold s64; exact ya2 (by lia)
theorem pJ {a : Int} (h : 0 ≤ a ∧ a < 256) : Builtin.bitOr 0 (a * 2 ^ 0) = a := by
 rw [B4 (by exact yb0 _) (by simp) h.1]; simp
theorem vZ {a b c e : Int} (ha : 0 ≤ a ∧ a < 256) (hb : 0 ≤ b ∧ b < 256) (hc : 0 ≤ c ∧ c < 256) (he : 0 ≤ e ∧ e < 256) : or4 a b c e = a + b * 256 + c * 65536 + e * 16777216 := by
 unfold or4
 rw [pJ ha,B4 ha.1 (by lia) hb.1,B4 (by lia) (by lia) hc.1,B4 (by lia) (by lia) he.1]
 exact rfl
theorem kM {w m : Int} {v : Int} (h0 : 0 ≤ w) (hm : w < 2 * m) (hp : 0 < m) (e : cond (decide (2 * m ≤ 2 * w)) (w - 2 * m) w = v) (h : k (.int v) []) : cond (w % (2 * m) / m == 1) (k (.int (w % (2 * m) - 1 * (2 * m))) []) (k (.int (w % (2 * m))) []) := by
 rw [Int.emod_eq_of_lt h0 hm]
 by_cases q : m ≤ w
 ·have q1 : w / m = 1 := by
   have h1 := Int.emod_nonneg w (show m ≠ 0 by exact Int.ne_of_gt (by assumption))
   have h2 := Int.emod_lt_of_pos w hp
   have h3 : (w - m) / m = 0 := Int.ediv_eq_zero_of_lt (by exact Int.sub_nonneg_of_le (by assumption)) (by lia)
   have h4 : w = (w - m) + m * 1 := by lia
   rw [h4,Int.add_mul_ediv_left _ _ (by exact Int.ne_of_gt (by assumption)),h3]; rfl
  rw [q1,show ((1 : Int) == 1) = true from rfl]
  rw [ya2 (by lia)] at e
  dsimp only [cond] at e ⊢
  rw [Int.one_mul,e]; exact h
 ·have q1 : w / m = 0 := Int.ediv_eq_zero_of_lt h0 (by exact Int.not_le.mp (by assumption))
  rw [q1,show ((0 : Int) == 1) = false from rfl]
  rw [decide_eq_false (by lia)] at e
  dsimp only [cond] at e ⊢
  rw [e]; exact h
section
variable {α : Type _} {a b c d : α} {l : List α}
theorem m0 : a ∈ a :: l := List.mem_cons_self
theorem m1 : b ∈ a :: b :: l := mM _ m0
theorem m2 : c ∈ a :: b :: c :: l := mM _ m1
theorem m3 : d ∈ a :: b :: c :: d :: l := mM _ m2
end
theorem wa {α : Type} {xs : List α} (h : xs.length = n + 1) : ∃ a l,xs = a :: l ∧ l.length = n := by
 induction xs using List.casesOn with
 | nil => cases h
 | cons a l => exact ⟨a,l,rfl,Nat.succ.inj h⟩
theorem Bx {α : Type} {xs : List α} (h : xs.length = 2) : ∃ a b,xs = [a,b] := by
 obtain ⟨a,l,e,h1⟩ := wa h
 obtain ⟨b,l2,e2,h2⟩ := wa h1
 exact ⟨a,b,e.trans (congrArg _ (e2.trans (congrArg _ (List.length_eq_zero_iff.mp h2))))⟩
theorem By {α : Type} {xs : List α} (h : xs.length = 3) : ∃ a b c,xs = [a,b,c] := by
 obtain ⟨a,l,e,h1⟩ := wa h
 obtain ⟨b,c,e2⟩ := Bx h1
 exact ⟨a,b,c,e.trans (congrArg _ e2)⟩
theorem zl {a : Int} (ha : 0 ≤ a ∧ a < 256) (h : k (.int (leS [a])) []) : (g8 tb1 40).call f9 [.byt [a]] [] k := by
 rw [zj]
 refine c8 (I8 ha) ?_
 refine (pJ ha).symm ▸ ?_
 refine kM (m := 128) ha.1 (by lia) (by exact yb0 _) ?_ h
 unfold leS leU; simp [leU]
theorem zm {a b c e : Int} (ha : 0 ≤ a ∧ a < 256) (hb : 0 ≤ b ∧ b < 256) (hc : 0 ≤ c ∧ c < 256) (he : 0 ≤ e ∧ e < 256) (h : k (.int (leS [a,b,c,e])) []) : (g8 tb1 40).call f9 [.byt [a,b,c,e]] [] k := by
 rw [zk]
 refine c8 (I8 ha) (c8 (I8 hb) (c8 (I8 hc) (c8 (I8 he) ?_)))
 refine (vZ ha hb hc he).symm ▸ ?_
 refine kM (m := 2147483648) (by lia) (by lia) (by exact yb0 _) ?_ h
 unfold leS
 have e1 : leU [a,b,c,e] = a + b * 256 + c * 65536 + e * 16777216 := by simp only [leU]; lia
 have e2 : (256 : Int) ^ ([a,b,c,e] : KM).length = 2 * 2147483648 := by show (256 : Int) ^ 4 = _; decide
 exact e1.symm ▸ e2.symm ▸ rfl
theorem CL (h : Bw args O k) : (g8 tb1 40).call f9 args O k := by
 refine vV h λ xs Z h1 => k7 h1 λ h2 => k7 h2 λ h3 => i5 (E3 h3) λ c h4 => i5 (Bool.and_eq_true_iff.mp c) λ ho c => ?_
 replace ho := eg ho
 clear h h1 h2 h3
 rcases Bool.or_eq_true_iff.mp c with q | q
 ·refine U5 (wa (Nat.eq_of_beq_eq_true q)) λ a l e h1 => ?_
  cases e.trans (congrArg _ (List.length_eq_zero_iff.mp h1))
  exact zl (ho _ m0) h4
 ·refine U5 (wa (Nat.eq_of_beq_eq_true q)) λ a l e h1 => Ay (By h1) λ b y d e2 => ?_
  cases e.trans (congrArg _ e2)
  exact zm (ho _ m0) (ho _ m1) (ho _ m2) (ho _ m3) h4
noncomputable def tb2 : Tab := tb1.upd f9 40 Bw
theorem wb (h : TabOK X tb1) : TabOK X tb2 := h.updI (by kernel_rfl) λ Z Z Z => CL
noncomputable def S0 : Str := Str.ofString "name"
noncomputable def z8 : Str := Str.ofString "gpr"
noncomputable def z5 : Str := Str.ofString "high"
noncomputable def tL : Str := Str.ofString "rip"
noncomputable def l9 (kd : Str) (n s : Int) : V := .obj 574 [(S0,.junk),("kind", .str kd),("number", .int n),("size", .int s)]
noncomputable def j6 (s : Int) : Bool := decide (s = 8) || decide (s = 16) || decide (s = 32) || decide (s = 64)
noncomputable def Bz : Spec := λ args O k => tkI args λ n args => tkI args λ s args => tkE args (tkE O (cond (decide (0 ≤ n) && decide (n ≤ 15) && j6 s) (k (l9 z8 n s) []) False))
theorem f7 {s : Int} (h : j6 s = true) : s = 8 ∨ s = 16 ∨ s = 32 ∨ s = 64 := by
 unfold j6 at h
 simp only [Bool.or_eq_true,ya5] at h
 lia
theorem n5 {α β : Type _} {l : List α} {f g : α → β} (h : l.map f = l.map g) {x : α} (hx : x ∈ l) : f x = g x := List.map_inj_left.mp h x hx
noncomputable def eQ : List Int := [0,1,2,3,4,5,6,7,8,9,10,11,12,13,14,15]
theorem kN : eQ = (List.range 16).map λ (i : Nat) => (i : Int) := rfl
theorem zn {n : Int} (h0 : 0 ≤ n) (h : n ≤ 15) : n ∈ eQ := by
 rw [kN]
 exact List.mem_map.mpr ⟨n.toNat,List.mem_range.mpr (by lia),Int.toNat_of_nonneg h0⟩
theorem kP {s : Int} (h : j6 s = true) : s ∈ ([8,16,32,64] : KM) := by
 unfold j6 at h
 simpa [or_assoc] using h
theorem CM {n s : Int} (h0 : 0 ≤ n) (h : n ≤ 15) (hs : j6 s = true) : k (l9 z8 n s) [] = (g8 tb2 40).call nQ [.int n,.int s] [] (λ v σ' => k (F2 574 S0 v) σ') := by
 have e : (([8,16,32,64] : KM).map λ s => eQ.map λ n => k (l9 z8 n s) []) = ([8,16,32,64] : KM).map λ s => eQ.map λ n => (g8 tb2 40).call nQ [.int n,.int s] [] (λ v σ' => k (F2 574 S0 v) σ') := by kernel_rfl
 exact n5 (n5 e (kP hs)) (zn h0 h)
theorem CN (h : Bz args O k) : (g8 tb2 40).call nQ args O (λ v σ' => k (F2 574 S0 v) σ') := by
 refine i4 h λ n Z h => ?_
 refine i4 h λ s Z h => ?_
 refine k7 h λ h => ?_
 refine k7 h λ h => ?_
 refine i5 (E3 h) λ c h => ?_
 simp only [ya4,ya5] at c
 exact Eq.mp (CM c.1.1 c.1.2 c.2) h
noncomputable def tb3 : Tab := tb2.upd nQ 40 Bz
theorem wc (h : TabOK X tb2) : TabOK X tb3 := h.updW (F2 574 S0) B3 (by kernel_rfl) λ Z Z Z => CN
noncomputable def we : Spec := λ args O k => tkI args λ n args => tkE args (tkE O (cond (decide (4 ≤ n) && decide (n ≤ 7)) (k (l9 z5 n 8) []) False))
theorem zo (h : we args O k) : (g8 tb3 40).call pD args O (λ v σ' => k (F2 574 S0 v) σ') := by
 refine i4 h λ n Z h => ?_
 refine k7 h λ h => ?_
 refine k7 h λ h => ?_
 refine i5 (E3 h) λ c h => ?_
 simp only [ya4,ya5] at c
 rcases (by lia : n = 4 ∨ n = 5 ∨ n = 6 ∨ n = 7) with rfl | rfl | rfl | rfl <;> exact Eq.mp (by kernel_rfl) h
noncomputable def tb4 : Tab := tb3.upd pD 40 we
theorem wf (h : TabOK X tb3) : TabOK X tb4 := h.updW (F2 574 S0) B3 (by kernel_rfl) λ Z Z Z => zo
noncomputable def gH (n s : Int) (hr : Bool) : Bool := s == 8 && !hr && decide (4 ≤ n) && decide (n ≤ 7)
noncomputable def kQ : Spec := λ args O k => tkI args λ n args => tkI args λ s args => tkB args λ hr args => tkE args (tkE O (cond (decide (0 ≤ n) && decide (n ≤ 15) && j6 s) (k (l9 (cond (gH n s hr) z5 z8) n s) []) False))
theorem wg {n s : Int} {hr : Bool} : (g8 tb4 60).call m8 [.int n,.int s,.bool hr] [] k =
  cond (s == 8) (cond (!hr) (cond (decide (4 ≤ n)) (cond (decide (n ≤ 7)) (cond (decide (4 ≤ n) && decide (n ≤ 7)) (k (l9 z5 n 8) []) False)
   (cond (decide (0 ≤ n) && decide (n ≤ 15) && j6 s) (k (l9 z8 n s) []) False)) (cond (decide (0 ≤ n) && decide (n ≤ 15) && j6 s) (k (l9 z8 n s) []) False))
   (cond (decide (0 ≤ n) && decide (n ≤ 15) && j6 s) (k (l9 z8 n s) []) False)) (cond (decide (0 ≤ n) && decide (n ≤ 15) && j6 s) (k (l9 z8 n s) []) False) := by kernel_rfl
theorem wi (h : kQ args O k) : (g8 tb4 60).call m8 args O k := by
 refine i4 h λ n Z h => ?_
 refine i4 h λ s Z h => ?_
 refine kL h λ hr Z h => ?_
 refine k7 h λ h => ?_
 refine k7 h λ h => ?_
 refine i5 (E3 h) λ c h => ?_
 rw [wg]
 unfold gH at h
 refine c.symm ▸ ?_
 cases c1 : (s == 8) with
 | false => rw [c1] at h; exact h
 | true =>
  have e1 : s = 8 := by simpa using c1
  subst e1
  induction hr using Bool.casesOn with
  | true => exact h
  | false =>
   cases c3 : decide (4 ≤ n) with
   | false => rw [c3] at h; exact h
   | true =>
    rw [c3] at h
    cases c4 : decide (n ≤ 7) with
    | false => rw [c4] at h; exact h
    | true => rw [c4] at h; exact h
noncomputable def tb5 : Tab := tb4.upd m8 60 kQ
theorem wj (h : TabOK X tb4) : TabOK X tb5 := h.updI (by kernel_rfl) λ Z Z Z => wi
noncomputable def BA : Spec := λ args O k => tkE args (tkE O (k (l9 tL 0 64) []))
theorem CO (h : BA args O k) : (g8 tb5 40).call vP args O (λ v σ' => k (F2 574 S0 v) σ') := by
 refine k7 h λ h => ?_
 refine k7 h λ h => ?_
 exact Eq.mp (by kernel_rfl) h
noncomputable def tb6 : Tab := tb5.upd vP 40 BA
theorem wk (h : TabOK X tb5) : TabOK X tb6 := h.updW (F2 574 S0) B3 (by kernel_rfl) λ Z Z Z => CO
end
end
section
open PySem.Spec
section
noncomputable def F5 (cells : KM) (spot rest : Int) : MO := .lst [.nums cells,.int spot,.int rest]
noncomputable def tkP (l : KG) (f : List Int → Int → Int → Prop) : Prop := match l with
 | [.lst ws] => (match ws with
  | .nums cells :: r => tkI r λ spot r => tkI r λ rest r => tkE r (f cells spot rest)
  | _ => False)
 | _ => False
@[elab_as_elim] theorem kR {l : KG} {f : List Int → Int → Int → Prop} {C : List MO → Prop} (h : tkP l f) (k : ∀ cells spot rest,f cells spot rest → C [.lst [.nums cells,.int spot,.int rest]]) : C l := by
 induction l using List.casesOn with
 | nil => exact False.elim h
 | cons v r =>
  induction v using MO.casesOn with
  | lst ws =>
   induction r using List.casesOn with
   | cons _ _ => exact False.elim h
   | nil =>
    induction ws using List.casesOn with
    | nil => exact False.elim h
    | cons w ws =>
     induction w using V.casesOn with
     | nums cells =>
      exact i4 h λ spot ws h => i4 h λ rest ws h => k7 h λ h => k _ _ _ h
     | _ => exact False.elim h
  | _ => cases r <;> exact False.elim h
noncomputable def wl : Spec := λ args O k => tkH args λ args => tkI args λ many args => tkE args (tkP O λ cells spot rest => (cond (decide (1 ≤ many) && decide (many < 2 ^ 60) && (decide (0 ≤ spot) && decide (spot < 2 ^ 20)) && decide (0 ≤ rest) && decide (cells.length ≤ 40))
   (∀ d spot' rest' : Int,0 ≤ d → d < many → spot ≤ spot' → spot' ≤ spot + 1 → 0 ≤ rest' → k (.int d) [F5 cells spot' rest']) False))
noncomputable def m1D (cell spot : Int) : Int := cell % 2147483587 + 30469 * spot + 6133
noncomputable def m2D (cell spot : Int) : Int := m1D cell spot ^ 5 % 2147483629
noncomputable def m3D (cell spot : Int) : Int := m2D cell spot * (2 * spot + 7243) + 30469 * spot * spot + 67
noncomputable def kS (cells : KM) (cell spot rest many : Int) (k : KC) : Prop :=
 cond (s64 (m1D cell spot)) (cond (s64 (m2D cell spot) || s64 (2 * spot + 7243)) (cond (s64 (30469 * spot) || s64 spot) (cond (s64 (m3D cell spot)) (cond (decide (0 < many)) (k (.int (m3D cell spot ^ 3 % 2147483579 / 32 % many)) [F5 cells (spot + 1) rest]) False) False) False) False) False
noncomputable def grD (cell : Int) : Int := 2 * (uD cell - 1000000000000000000) + b2i (decide (cell < 0))
noncomputable def nT (cells : KM) (cell spot rest many : Int) (k : KC) : Prop :=
 cond (decide (spot < (cells.length : Int))) (cond (decide (uD cell ≥ 1000000000000000000)) (cond (decide (0 < many) && s64 many) (cond (decide (0 < many)) (k (.int (grD cell % many)) [F5 cells (spot + 1) (grD cell / many)]) False) False) (kS cells cell spot rest many k)) (kS cells cell spot rest many k)
theorem zp {cells : KM} {spot rest many : Int} : (g8 tb6 40).call I7 [.h 0,.int many] [F5 cells spot rest] k =
  cond (decide (rest > 0)) (cond (decide (0 < many)) (cond (decide (0 < many) && s64 many) (k (.int (rest % many)) [F5 cells spot (rest / many)]) False) False)
   (cond (bk [F5 cells (spot + 1) rest] (.nums cells)) (cond (!decide (cells = [])) (cond (decide (cells.length < 1000000)) (cond (decide (0 < (cells.length : Int))) (cond (inB (spot % cells.length) cells.length) (cond (decide (cells.length < 1000000))
     (nT cells (cells.getD (spot % cells.length).toNat 0) spot rest many k) False) False) False) False)
    (cond (decide (cells.length < 1000000)) (nT cells (30469 * spot + 6133 + (cells.take 1).sum % 1000003) spot rest many k) False)) False) := by kernel_rfl
theorem nU {c : Int} (h : uD c ≥ 1000000000000000000) : 0 ≤ grD c := by
 unfold grD b2i
 cases decide (c < 0) <;> dsimp only [cond] <;> lia
theorem W6 {a : Int} (h0 : 0 ≤ a) (h : a < 18446744073709551616) : s64 a = true := by unfold s64; exact ya2 (by lia)
section
variable {cells : KM} {cell spot rest many : Int}
theorem nV (hm : 1 ≤ many) (hs : 0 ≤ spot) (hs2 : spot < 1048576) (hr : 0 ≤ rest) (h : ∀ d spot' rest' : Int,0 ≤ d → d < many → spot ≤ spot' → spot' ≤ spot + 1 → 0 ≤ rest' → k (.int d) [F5 cells spot' rest']) : kS cells cell spot rest many k := by
 have a1 := Int.emod_nonneg cell (show (2147483587 : Int) ≠ 0 by decide)
 have a2 := Int.emod_lt_of_pos cell (show (0 : Int) < 2147483587 by decide)
 have b1 : 0 ≤ m2D cell spot := Int.emod_nonneg _ (by decide)
 have b2 : m2D cell spot < 2147483629 := Int.emod_lt_of_pos _ (by decide)
 have c1 : 0 ≤ m2D cell spot * (2 * spot + 7243) := Int.mul_nonneg b1 (by lia)
 have c2 : m2D cell spot * (2 * spot + 7243) ≤ 2147483629 * (2 * spot + 7243) := Int.mul_le_mul_of_nonneg_right (by exact Int.le_of_lt (by assumption)) (by lia)
 have d1 : 0 ≤ 30469 * spot * spot := Int.mul_nonneg (by lia) hs
 have d2 : 30469 * spot * spot ≤ 30469 * spot * 1048576 := Int.mul_le_mul_of_nonneg_left (by exact Int.le_of_lt (by assumption)) (by lia)
 unfold kS
 refine c8 (W6 (by unfold m1D; lia) (by unfold m1D; lia)) (c8 ?_ (c8 ?_ (c8 (W6 (by unfold m3D; lia) (by unfold m3D; lia)) (c8 (ya2 (by assumption)) ?_))))
 ·rw [W6 (a := 2 * spot + 7243) (by lia) (by lia),Bool.or_true]
 ·rw [W6 (a := spot) (by assumption) (by exact Int.lt_of_lt_of_le (by assumption) (by decide)),Bool.or_true]
 ·exact h _ _ _ (Int.emod_nonneg _ (by exact Int.ne_of_gt (by assumption))) (Int.emod_lt_of_pos _ (by assumption)) (by lia) (by exact Int.le_refl _) hr
theorem eS (hm : 1 ≤ many) (hm2 : many < 1152921504606846976) (hs : 0 ≤ spot) (hs2 : spot < 1048576) (hr : 0 ≤ rest) (h : ∀ d spot' rest' : Int,0 ≤ d → d < many → spot ≤ spot' → spot' ≤ spot + 1 → 0 ≤ rest' → k (.int d) [F5 cells spot' rest']) : nT cells cell spot rest many k := by
 have t : kS cells cell spot rest many k := nV hm hs hs2 hr h
 unfold nT
 cases decide (spot < (cells.length : Int)) with
 | false => exact t
 | true =>
  cases q : decide (uD cell ≥ 1000000000000000000) with
  | false => exact t
  | true =>
   have g := nU (ya3 q)
   refine c8 ?_ (c8 (ya2 (by assumption)) ?_)
   ·rw [W6 (by exact Int.le_of_lt (by assumption)) (by exact Int.lt_of_lt_of_le (by assumption) (by decide)),ya2 (by assumption)]; rfl
   ·exact h _ _ _ (Int.emod_nonneg _ (by exact Int.ne_of_gt (by assumption))) (Int.emod_lt_of_pos _ (by assumption)) (by lia) (by exact Int.le_refl _) (Int.ediv_nonneg g (by exact Int.le_of_lt (by assumption)))
end
theorem zq (h : wl args O k) : (g8 tb6 40).call I7 args O k := by
 refine bB h λ Z h => ?_
 refine i4 h λ many Z h => ?_
 refine k7 h λ h => ?_
 refine kR h λ cells spot rest h => ?_
 obtain ⟨c,h⟩ := E3 h
 simp only [ya4,ya5] at c
 refine z9 λ G kG => ?_
 obtain ⟨⟨⟨⟨c1,c2⟩,c3,c4⟩,c5⟩,c6⟩ := c
 refine kG ?_
 rw [show [MO.lst [V.nums cells,.int spot,.int rest]] = [F5 cells spot rest] from rfl,zp]
 cases q : decide (rest > 0) with
 | true =>
  have q := ya3 q
  refine c8 (ya2 (by assumption)) (c8 ?_ ?_)
  ·rw [W6 (by exact Int.le_of_lt (by assumption)) (by exact Int.lt_of_lt_of_le (by assumption) (by decide)),ya2 (by assumption)]; rfl
  ·exact h _ _ _ (Int.emod_nonneg _ (by exact Int.ne_of_gt (by assumption))) (Int.emod_lt_of_pos _ (by assumption)) (by exact Int.le_refl _) (by lia) (Int.ediv_nonneg c5 (by exact Int.le_of_lt (by assumption)))
 | false =>
  refine c8 ?_ ?_
  ·skip
   exact Nat.ble_eq_true_of_le (by exact ya6 (by assumption) (Nat.le_add_left _ _))
  ·cases q2 : (!decide (cells = [])) with
   | true =>
    have q2 : cells ≠ [] := by simpa using q2
    have hl : 0 < cells.length := List.length_pos_iff.mpr q2
    have e1 := Int.emod_nonneg spot (show (cells.length : Int) ≠ 0 by lia)
    have e2 := Int.emod_lt_of_pos spot (show (0 : Int) < cells.length by exact Int.ofNat_lt.mpr (by assumption))
    refine c8 (ya2 (by exact Nat.lt_of_le_of_lt (by assumption) (by decide))) (c8 (ya2 (by exact Int.lt_of_le_of_lt (by assumption) (by assumption))) (c8 ?_ (c8 (ya2 (by exact Nat.lt_of_le_of_lt (by assumption) (by decide))) (eS c1 c2 c3 c4 c5 h))))
    unfold inB
    simp only [ya4,ya5]
    lia
   | false => exact c8 (ya2 (by exact Nat.lt_of_le_of_lt (by assumption) (by decide))) (eS c1 c2 c3 c4 c5 h)
noncomputable def tb7 : Tab := tb6.upd I7 40 wl
theorem wm (h : TabOK X tb6) : TabOK X tb7 := h.updI (by kernel_rfl) λ Z Z Z => zq
noncomputable def drw (cells : KM) (spot rest many : Int) (K : Int → Int → Int → Prop) : Prop :=
 cond (decide (1 ≤ many) && decide (many < 2 ^ 60) && (decide (0 ≤ spot) && decide (spot < 2 ^ 20)) && decide (0 ≤ rest) && decide (cells.length ≤ 40))
  (∀ d spot' rest' : Int,0 ≤ d → d < many → spot ≤ spot' → spot' ≤ spot + 1 → 0 ≤ rest' → K d spot' rest') False
section
variable {cells : KM} {spot rest many : Int} {K : Int → Int → Int → Prop}
theorem B8 (hl : cells.length ≤ 40) (hr : 0 ≤ rest) (hm : 1 ≤ many) (hm2 : many < 1152921504606846976) (hs : 0 ≤ spot) (hs2 : spot < 1048576) (h : ∀ d spot' rest' : Int,0 ≤ d → d < many → spot ≤ spot' → spot' ≤ spot + 1 → 0 ≤ rest' → K d spot' rest') : drw cells spot rest many K := by
 refine c8 ?_ h
 simp only [ya4,ya5]
 exact ⟨⟨⟨⟨hm,hm2⟩,hs,hs2⟩,hr⟩,hl⟩
end
noncomputable def gI (cells : KM) (spot rest : Int) : Bool := decide (cells.length ≤ 40) && decide (0 ≤ rest) && decide (0 ≤ spot) && decide (spot < 2 ^ 19)
noncomputable def pK : Spec := λ args O k => tkH args λ args => tkE args (tkP O λ cells spot rest => (cond (gI cells spot rest) (∀ w spot' rest' : Int,0 ≤ w → w < 2 ^ 64 → spot ≤ spot' → spot' ≤ spot + 5 → 0 ≤ rest' → k (.int w) [F5 cells spot' rest']) False))
theorem wn {cells : KM} {spot rest : Int} : (g8 tb7 60).call F1 [.h 0] [F5 cells spot rest] k =
  drw cells spot rest 3 λ d s r => cond (d == 0) (drw cells s r 64 λ d s r => k (.int (4096 + d)) [F5 cells s r]) (cond (d == 1) (drw cells s r 64 λ d s r => k (.int (18446744073709551615 - d)) [F5 cells s r])
   (drw cells s r 65536 λ a s r => cond (s64 (0 + a) || true) (drw cells s r 65536 λ b s r => cond (s64 ((0 + a) * 65536 + b) || true) (drw cells s r 65536 λ c s r => cond (s64 (((0 + a) * 65536 + b) * 65536 + c) || true)
    (drw cells s r 65536 λ e s r => k (.int ((((0 + a) * 65536 + b) * 65536 + c) * 65536 + e)) [F5 cells s r]) False) False) False)) := by kernel_rfl
theorem kU {cells : KM} {spot rest : Int} (h : gI cells spot rest = true) : cells.length ≤ 40 ∧ 0 ≤ rest ∧ 0 ≤ spot ∧ spot < 524288 := by
 unfold gI at h
 simp only [ya4,ya5] at h
 exact ⟨h.1.1.1,h.1.1.2,h.1.2,h.2⟩
theorem wq (h : pK args O k) : (g8 tb7 60).call F1 args O k := by
 refine bB h λ Z h => ?_
 refine k7 h λ h => ?_
 refine kR h λ cells spot rest h => ?_
 refine z9 λ G kG => ?_
 refine i5 (E3 h) λ c h => ?_
 refine L7 (kU c) λ hl hr hs hs2 => ?_
 refine kG ?_
 rw [show [MO.lst [V.nums cells,.int spot,.int rest]] = [F5 cells spot rest] from rfl,wn]
 refine B8 hl hr (by exact yb0 _) (by exact yb0 _) hs (by exact Int.lt_of_lt_of_le (by assumption) (by decide)) λ d s r h1 h2 h3 h4 h5 => ?_
 cases d == 0 with
 | true => exact B8 hl h5 (by exact yb0 _) (by exact yb0 _) (by lia) (by lia) λ d s r g1 g2 g3 g4 g5 => h _ _ _ (by lia) (by lia) (by exact Int.le_trans (by assumption) (by assumption)) (by lia) g5
 | false =>
  cases d == 1 with
  | true => exact B8 hl h5 (by exact yb0 _) (by exact yb0 _) (by lia) (by lia) λ d s r g1 g2 g3 g4 g5 => h _ _ _ (by lia) (by lia) (by exact Int.le_trans (by assumption) (by assumption)) (by lia) g5
  | false =>
   refine B8 hl h5 (by exact yb0 _) (by exact yb0 _) (by lia) (by lia) λ a s r a1 a2 a3 a4 a5 => c8 (Bool.or_true _) ?_
   refine B8 hl a5 (by exact yb0 _) (by exact yb0 _) (by lia) (by lia) λ b s r b1 b2 b3 b4 b5 => c8 (Bool.or_true _) ?_
   refine B8 hl b5 (by lia) (by lia) (by lia) (by lia) λ c s r c1 c2 c3 c4 c5 => c8 (Bool.or_true _) ?_
   exact B8 hl c5 (by lia) (by lia) (by lia) (by lia) λ e s r e1 e2 e3 e4 e5 => h _ _ _ (by lia) (by lia) (by lia) (by lia) e5
noncomputable def tb8 : Tab := tb7.upd F1 60 pK
theorem wt (h : TabOK X tb7) : TabOK X tb8 := h.updI (by kernel_rfl) λ Z Z Z => wq
noncomputable def kW (w f : Int) : Prop := (w = 0 → f = 0) ∧ (w = 1 → -128 ≤ f ∧ f < 128) ∧ -2147483648 ≤ f ∧ f < 2147483648
noncomputable def BB : Spec := λ args O k => tkH args λ args => tkI args λ w args => tkE args (tkP O λ cells spot rest => (cond (gI cells spot rest) (∀ f spot' rest' : Int,kW w f → spot ≤ spot' → spot' ≤ spot + 2 → 0 ≤ rest' → k (.int f) [F5 cells spot' rest']) False))
theorem CQ {cells : KM} {spot rest w : Int} : (g8 tb8 60).call R4 [.h 0,.int w] [F5 cells spot rest] k =
  cond (w == 0) (k (.int 0) [F5 cells spot rest]) (cond (w == 1) (drw cells spot rest 256 λ d s r => k (.int (d - 128)) [F5 cells s r])
   (drw cells spot rest 3 λ d s r => cond (d == 0) (drw cells s r 200 λ d s r => k (.int (d - 100)) [F5 cells s r])
    (cond (d == 1) (drw cells s r 4 λ d s r => cond (inB d 4) (k (.int ([2147483647,-2147483648,-1,128].getD d.toNat 0)) [F5 cells s r]) False)
     (drw cells s r (2 ^ 32) λ d s r => k (.int (d - 2147483648)) [F5 cells s r])))) := by kernel_rfl
theorem CR (h : BB args O k) : (g8 tb8 60).call R4 args O k := by
 refine bB h λ Z h => ?_
 refine i4 h λ w Z h => ?_
 refine k7 h λ h => ?_
 refine kR h λ cells spot rest h => ?_
 obtain ⟨c,h⟩ := E3 h
 refine L7 (kU c) λ hl hr hs hs2 => ?_
 rw [show [MO.lst [V.nums cells,.int spot,.int rest]] = [F5 cells spot rest] from rfl,CQ]
 cases q0 : (w == 0) with
 | true =>
  have e0 : w = 0 := by simpa using q0
  exact h _ _ _ ⟨λ Z => rfl,λ e => by decide,by exact yb0 _,by exact yb0 _⟩ (by exact Int.le_refl _) (by lia) hr
 | false =>
  have e0 : w ≠ 0 := by simpa using q0
  cases q1 : (w == 1) with
  | true => exact B8 hl hr (by exact yb0 _) (by exact yb0 _) hs (by exact Int.lt_of_lt_of_le (by assumption) (by decide)) λ d s r g1 g2 g3 g4 g5 => h _ _ _ ⟨λ e => absurd e e0,λ Z => by lia,by lia,by lia⟩ (by assumption) (by lia) g5
  | false =>
   have e1 : w ≠ 1 := by simpa using q1
   refine B8 hl hr (by exact yb0 _) (by exact yb0 _) hs (by exact Int.lt_of_lt_of_le (by assumption) (by decide)) λ d s r h1 h2 h3 h4 h5 => ?_
   cases d == 0 with
   | true => exact B8 hl h5 (by exact yb0 _) (by exact yb0 _) (by lia) (by lia) λ d s r g1 g2 g3 g4 g5 => h _ _ _ ⟨λ e => absurd e e0,λ e => absurd e e1,by lia,by lia⟩ (by exact Int.le_trans (by assumption) (by assumption)) (by lia) g5
   | false =>
    cases d == 1 with
    | true =>
     refine B8 hl h5 (by exact yb0 _) (by exact yb0 _) (by lia) (by lia) λ d s r g1 g2 g3 g4 g5 => c8 ?_ ?_
     ·unfold inB; simp only [ya4,ya5]; lia
     ·rcases (by lia : d = 0 ∨ d = 1 ∨ d = 2 ∨ d = 3) with rfl | rfl | rfl | rfl <;> exact h _ _ _ ⟨λ e => absurd e e0,λ e => absurd e e1,by decide,by decide⟩ (by lia) (by lia) g5
    | false => exact B8 hl h5 (by lia) (by lia) (by lia) (by lia) λ d s r g1 g2 g3 g4 g5 => h _ _ _ ⟨λ e => absurd e e0,λ e => absurd e e1,by lia,by lia⟩ (by lia) (by lia) g5
noncomputable def tb9 : Tab := tb8.upd R4 60 BB
theorem wu (h : TabOK X tb8) : TabOK X tb9 := h.updI (by kernel_rfl) λ Z Z Z => CR
end
end
section
open PySem.Spec
noncomputable def fzF (C : Addr) (x : Str) : V → V
 | .obj Gr fs => .obj Gr (cond (Nat.beq Gr C) (fs.map λ p => (p.1,cond (p.1 == x) (bW p.2) p.2)) fs)
 | v => v
theorem pL (v : V) : LeV v (fzF C x v) := by
 induction v using V.casesOn with
 | obj Gr fs =>
  refine .obj ?_
  cases Nat.beq Gr C with
  | true => exact hZ.mapJ (f := λ y v => cond (y == x) (bW v) v) (λ y v => by
    cases y == x with
    | true => exact λ Z Z Z Z h => aC h
    | false => exact .refl _) fs
  | false => exact λ Z Z Z Z h => h
 | _ => exact .refl _
section
noncomputable def wv : Str := Str.ofString "base"
noncomputable def pM : Str := Str.ofString "index"
noncomputable def r5 (B I : V) (sc wo sz : Int) (sg : Str) : V := .obj 465 [("kind", .str (Str.ofString "mem")),(wv,B),(pM,I),("scale", .int sc),("worth", .int wo),("size", .int sz),("segment", .str sg),(S0,.str (Str.ofString ""))]
inductive RegS where
 | no
 | rip
 | gpr (n : Int)
noncomputable def RegS.V : RegS → V
 | .no => .none
 | .rip => l9 tL 0 64
 | .gpr n => l9 z8 n 64
noncomputable def C1 (mod rm sib b : Int) : RegS := cond (!(rm == 4)) (cond (mod == 0 && rm == 5) .rip (.gpr (rm + 8 * b))) (cond (mod == 0 && sib % 8 == 5) .no (.gpr (sib % 8 + 8 * b)))
noncomputable def pN (rm sib x : Int) : Bool := !(rm == 4) || (sib / 8 % 8 == 4 && x == 0)
noncomputable def o9 (rm sib x : Int) : RegS := cond (pN rm sib x) .no (.gpr (sib / 8 % 8 + 8 * x))
noncomputable def s5 (rm sib x : Int) : Int := cond (pN rm sib x) 1 (2 ^ (sib / 64).toNat)
noncomputable def pO : Spec := λ args O k => tkI args λ mod args => tkI args λ rm args => tkI args λ sib args => tkI args λ disp args => tkI args λ x args => tkI args λ b args => tkI args λ size args => tkS args λ seg args => tkE args (tkE O (cond (decide (0 ≤ rm) && decide (rm ≤ 7) && (decide (0 ≤ b) && decide (b ≤ 1)) && (decide (0 ≤ x) && decide (x ≤ 1)) && (!(rm == 4) || (decide (0 ≤ sib) && decide (sib < 256))))
   (k (r5 (.fz (C1 mod rm sib b).V) (.fz (o9 rm sib x).V) (s5 rm sib x) disp size seg) []) False))
noncomputable def zr (v : V) : V := fzF 465 pM (fzF 465 wv v)
noncomputable def g15 (n : Int) (P : Prop) : Prop := cond (decide (0 ≤ n) && decide (n ≤ 15) && true) P False
noncomputable def ww (sib x disp size : Int) (seg : Str) (k : KC) (B : V) : Prop := cond (sib / 8 % 8 == 4) (cond (x == 0) (k (r5 (.fz B) (.fz .none) 1 disp size seg) []) (g15 (sib / 8 % 8 + 8 * x) (cond (decide (0 ≤ sib / 64) && decide (sib / 64 ≤ 1000000) && s64 1) (k (r5 (.fz B) (.fz (l9 z8 (sib / 8 % 8 + 8 * x) 64)) (1 * 2 ^ (sib / 64).toNat) disp size seg) []) False)))
     (g15 (sib / 8 % 8 + 8 * x) (cond (decide (0 ≤ sib / 64) && decide (sib / 64 ≤ 1000000) && s64 1) (k (r5 (.fz B) (.fz (l9 z8 (sib / 8 % 8 + 8 * x) 64)) (1 * 2 ^ (sib / 64).toNat) disp size seg) []) False))
theorem wx {mod rm sib disp x b size : Int} {seg : Str} : (g8 tb9 80).call q8 [.int mod,.int rm,.int sib,.int disp,.int x,.int b,.int size,.str seg] [] (λ v σ' => k (zr v) σ') =
  cond (!(rm == 4)) (cond (mod == 0) (cond (rm == 5) (k (r5 (.fz (l9 tL 0 64)) (.fz .none) 1 disp size seg) []) (g15 (rm + 8 * b) (k (r5 (.fz (l9 z8 (rm + 8 * b) 64)) (.fz .none) 1 disp size seg) [])))
    (g15 (rm + 8 * b) (k (r5 (.fz (l9 z8 (rm + 8 * b) 64)) (.fz .none) 1 disp size seg) [])))
   (cond (mod == 0) (cond (sib % 8 == 5) (ww sib x disp size seg k .none) (g15 (sib % 8 + 8 * b) (ww sib x disp size seg k (l9 z8 (sib % 8 + 8 * b) 64)))) (g15 (sib % 8 + 8 * b) (ww sib x disp size seg k (l9 z8 (sib % 8 + 8 * b) 64)))) := by kernel_rfl
theorem W7 {n : Int} {P : Prop} (h0 : 0 ≤ n) (h : n ≤ 15) (p : P) : g15 n P := by
 refine c8 ?_ p
 rw [ya2 h0,ya2 h]; rfl
theorem wy (h : pO args O k) : (g8 tb9 80).call q8 args O (λ v σ' => k (zr v) σ') := by
 refine i4 h λ mod Z h => ?_
 refine i4 h λ rm Z h => ?_
 refine i4 h λ sib Z h => ?_
 refine i4 h λ disp Z h => ?_
 refine i4 h λ x Z h => ?_
 refine i4 h λ b Z h => ?_
 refine i4 h λ size Z h => ?_
 refine vU h λ seg Z h => ?_
 refine k7 h λ h => ?_
 refine k7 h λ h => ?_
 refine i5 (E3 h) λ c h => ?_
 simp only [ya4,Bool.or_eq_true,ya5] at c
 refine z9 λ G kG => ?_
 obtain ⟨⟨⟨⟨c1,c2⟩,c3,c4⟩,c5,c6⟩,c7⟩ := c
 refine kG ?_
 rw [wx]
 unfold C1 o9 s5 pN at h
 cases q : (rm == 4) with
 | false =>
  replace h := q ▸ h
  cases q1 : (mod == 0) with
  | false => rw [q1] at h; exact W7 (by lia) (by lia) h
  | true =>
   replace h := q1 ▸ h
   cases q2 : (rm == 5) with
   | false => rw [q2] at h; exact W7 (by lia) (by lia) h
   | true => rw [q2] at h; exact h
 | true =>
  rw [q] at h c7
  have c7 : 0 ≤ sib ∧ sib < 256 := by simpa using c7
  have e1 := Int.emod_nonneg sib (show (8 : Int) ≠ 0 by decide)
  have e2 := Int.emod_lt_of_pos sib (show (0 : Int) < 8 by decide)
  have S : ∀ (B : V),k (r5 (.fz B) (.fz (RegS.V (cond (sib / 8 % 8 == 4 && x == 0) .no (.gpr (sib / 8 % 8 + 8 * x))))) (cond (sib / 8 % 8 == 4 && x == 0) 1 (2 ^ (sib / 64).toNat)) disp size seg) [] →
    ww sib x disp size seg k B := by
   intro B h
   unfold ww
   have t : (decide (0 ≤ sib / 64) && decide (sib / 64 ≤ 1000000) && s64 1) = true := by
    rw [ya2 (by omega),ya2 (by omega)]; decide
   rw [Int.one_mul]
   cases p1 : (sib / 8 % 8 == 4) with
   | false => rw [p1] at h; exact W7 (by lia) (by lia) (c8 t h)
   | true =>
    rw [p1] at h
    cases p2 : (x == 0) with
    | false => rw [p2] at h; exact W7 (by lia) (by lia) (c8 t h)
    | true => rw [p2] at h; exact h
  cases q1 : (mod == 0) with
  | false => rw [q1] at h; exact W7 (by lia) (by lia) (S _ h)
  | true =>
   rw [q1] at h
   cases q2 : (sib % 8 == 5) with
   | false => rw [q2] at h; exact W7 (by lia) (by lia) (S _ h)
   | true => rw [q2] at h; exact S _ h
noncomputable def e7 : Tab := tb9.upd q8 80 pO
theorem sy (h : TabOK X tb9) : TabOK X e7 := h.updW zr (λ v => λ Z Z Z Z q => pL _ _ _ _ _ (pL _ _ _ _ _ q)) (by kernel_rfl) λ Z Z Z => wy
noncomputable def rmT (mo sib disp w e : Int) : V := .tup [.int (mo / 64),.int (mo / 8 % 8),.int (mo % 8),.int sib,.int disp,.int w,.int e]
noncomputable def rmD (xs : KM) (mo sib : Int) (a w : Nat) (k : KC) : Prop := cond (i9 ((xs.drop a).take w) && true) (k (rmT mo sib (leS ((xs.drop a).take w)) w ((a + w : Nat) : Int)) []) False
noncomputable def bC (xs : KM) (mo sib : Int) (a : Nat) (k : KC) : Prop :=
 cond (mo / 64 == 3) (k (rmT mo sib 0 0 a) []) (cond (mo / 64 == 1) (rmD xs mo sib a 1 k) (cond (mo / 64 == 2) (rmD xs mo sib a 4 k) (cond (mo % 8 == 5) (rmD xs mo sib a 4 k)
  (cond (mo % 8 == 4) (cond (sib % 8 == 5) (rmD xs mo sib a 4 k) (k (rmT mo sib 0 0 a) [])) (k (rmT mo sib 0 0 a) [])))))
noncomputable def rmF (xs : KM) (a : Nat) (k : KC) : Prop :=
 cond (!(xs.getD a 0 / 64 == 3)) (cond (xs.getD a 0 % 8 == 4) (bC xs (xs.getD a 0) (xs.getD (a + 1) 0) (a + 2) k) (bC xs (xs.getD a 0) (-1) (a + 1) k)) (bC xs (xs.getD a 0) (-1) (a + 1) k)
section
variable {x0 x1 x2 x3 x4 x5 x6 x7 x8 x9 x10 x11 x12 x13 x14 : Int}
theorem sB : (g8 e7 60).call k8 [.byt [x0,x1,x2,x3,x4,x5,x6,x7,x8,x9,x10,x11,x12,x13,x14],.int 1] [] k = rmF [x0,x1,x2,x3,x4,x5,x6,x7,x8,x9,x10,x11,x12,x13,x14] 1 k := by kernel_rfl
theorem sC : (g8 e7 60).call k8 [.byt [x0,x1,x2,x3,x4,x5,x6,x7,x8,x9,x10,x11,x12,x13,x14],.int 2] [] k = rmF [x0,x1,x2,x3,x4,x5,x6,x7,x8,x9,x10,x11,x12,x13,x14] 2 k := by kernel_rfl
theorem sD : (g8 e7 60).call k8 [.byt [x0,x1,x2,x3,x4,x5,x6,x7,x8,x9,x10,x11,x12,x13,x14],.int 3] [] k = rmF [x0,x1,x2,x3,x4,x5,x6,x7,x8,x9,x10,x11,x12,x13,x14] 3 k := by kernel_rfl
theorem sE : (g8 e7 60).call k8 [.byt [x0,x1,x2,x3,x4,x5,x6,x7,x8,x9,x10,x11,x12,x13,x14],.int 4] [] k = rmF [x0,x1,x2,x3,x4,x5,x6,x7,x8,x9,x10,x11,x12,x13,x14] 4 k := by kernel_rfl
end
theorem kX (h : xs.length = n) : (List.range n).map (λ i => xs.getD i 0) = xs := by
 refine List.ext_getElem (by simp [h]) λ i h1 h2 => ?_
 simp [yb1 h2]
@[elab_as_elim] theorem pP {xs : KM} {C : List Int → Prop} (h : xs.length = 11) (k : ∀ x0 x1 x2 x3 x4 x5 x6 x7 x8 x9 x10,C [x0,x1,x2,x3,x4,x5,x6,x7,x8,x9,x10]) : C xs := Eq.mp (congrArg C (kX h)) (k (xs.getD 0 0) (xs.getD 1 0) (xs.getD 2 0) (xs.getD 3 0) (xs.getD 4 0) (xs.getD 5 0) (xs.getD 6 0) (xs.getD 7 0) (xs.getD 8 0) (xs.getD 9 0) (xs.getD 10 0))
@[elab_as_elim] theorem bD {xs : KM} {C : List Int → Prop} (h : xs.length = 12) (k : ∀ x0 x1 x2 x3 x4 x5 x6 x7 x8 x9 x10 x11,C [x0,x1,x2,x3,x4,x5,x6,x7,x8,x9,x10,x11]) : C xs := Eq.mp (congrArg C (kX h)) (k (xs.getD 0 0) (xs.getD 1 0) (xs.getD 2 0) (xs.getD 3 0) (xs.getD 4 0) (xs.getD 5 0) (xs.getD 6 0) (xs.getD 7 0) (xs.getD 8 0) (xs.getD 9 0) (xs.getD 10 0) (xs.getD 11 0))
@[elab_as_elim] theorem bE {xs : KM} {C : List Int → Prop} (h : xs.length = 13) (k : ∀ x0 x1 x2 x3 x4 x5 x6 x7 x8 x9 x10 x11 x12,C [x0,x1,x2,x3,x4,x5,x6,x7,x8,x9,x10,x11,x12]) : C xs := Eq.mp (congrArg C (kX h)) (k (xs.getD 0 0) (xs.getD 1 0) (xs.getD 2 0) (xs.getD 3 0) (xs.getD 4 0) (xs.getD 5 0) (xs.getD 6 0) (xs.getD 7 0) (xs.getD 8 0) (xs.getD 9 0) (xs.getD 10 0) (xs.getD 11 0) (xs.getD 12 0))
@[elab_as_elim] theorem pQ {xs : KM} {C : List Int → Prop} (h : xs.length = 14) (k : ∀ x0 x1 x2 x3 x4 x5 x6 x7 x8 x9 x10 x11 x12 x13,C [x0,x1,x2,x3,x4,x5,x6,x7,x8,x9,x10,x11,x12,x13]) : C xs := Eq.mp (congrArg C (kX h)) (k (xs.getD 0 0) (xs.getD 1 0) (xs.getD 2 0) (xs.getD 3 0) (xs.getD 4 0) (xs.getD 5 0) (xs.getD 6 0) (xs.getD 7 0) (xs.getD 8 0) (xs.getD 9 0) (xs.getD 10 0) (xs.getD 11 0) (xs.getD 12 0) (xs.getD 13 0))
@[elab_as_elim] theorem wz {xs : KM} {C : List Int → Prop} (h : xs.length = 15) (k : ∀ x0 x1 x2 x3 x4 x5 x6 x7 x8 x9 x10 x11 x12 x13 x14,C [x0,x1,x2,x3,x4,x5,x6,x7,x8,x9,x10,x11,x12,x13,x14]) : C xs := Eq.mp (congrArg C (kX h)) (k (xs.getD 0 0) (xs.getD 1 0) (xs.getD 2 0) (xs.getD 3 0) (xs.getD 4 0) (xs.getD 5 0) (xs.getD 6 0) (xs.getD 7 0) (xs.getD 8 0) (xs.getD 9 0) (xs.getD 10 0) (xs.getD 11 0) (xs.getD 12 0) (xs.getD 13 0) (xs.getD 14 0))
theorem wA (h : xs.length = 15) {a : Nat} (h1 : 1 ≤ a) (h4 : a ≤ 4) : (g8 e7 60).call k8 [.byt xs,.int (a : Int)] [] k = rmF xs a k := by
 refine wz h λ x0 x1 x2 x3 x4 x5 x6 x7 x8 x9 x10 x11 x12 x13 x14 => ?_
 rcases (by lia : a = 1 ∨ a = 2 ∨ a = 3 ∨ a = 4) with rfl | rfl | rfl | rfl
 ·exact sB
 ·exact sC
 ·exact sD
 ·exact sE
noncomputable def dW (mo sib : Int) : Nat := cond (mo / 64 == 1) 1 (cond (mo / 64 == 2) 4 (cond (mo % 8 == 5) 4 (cond (mo % 8 == 4 && sib % 8 == 5) 4 0)))
theorem gJ {a w : Nat} (h : i9 xs = true) : i9 ((xs.drop a).take w) = true :=
 List.all_eq_true.mpr λ x hx => List.all_eq_true.mp h x (List.mem_of_mem_drop (List.mem_of_mem_take hx))
theorem bF {mo sib : Int} {a : Nat} (ho : i9 xs = true) (h3 : (mo / 64 == 3) = false) (h4 : (mo % 8 == 4) = true ∨ sib % 8 ≠ 5)
  (h : k (rmT mo sib (leS ((xs.drop a).take (dW mo sib))) (dW mo sib : Nat) ((a + dW mo sib : Nat) : Int)) []) : bC xs mo sib a k := by
 have Gr : ∀ w,dW mo sib = w → rmD xs mo sib a w k := λ w e => c8 (by rw [gJ ho]; rfl) (by subst e; exact h)
 have D0 : dW mo sib = 0 → k (rmT mo sib 0 0 a) [] := λ e => by rw [e] at h; exact h
 unfold bC
 refine h3.symm ▸ ?_
 have E : dW mo sib = cond (mo / 64 == 1) 1 (cond (mo / 64 == 2) 4 (cond (mo % 8 == 5) 4 (cond (mo % 8 == 4 && sib % 8 == 5) 4 0))) := rfl
 cases q1 : (mo / 64 == 1) with
 | true => rw [q1] at E; exact Gr 1 E
 | false =>
  cases q2 : (mo / 64 == 2) with
  | true => rw [q1,q2] at E; exact Gr 4 E
  | false =>
   cases q3 : (mo % 8 == 5) with
   | true => rw [q1,q2,q3] at E; exact Gr 4 E
   | false =>
    cases q4 : (mo % 8 == 4) with
    | true =>
     cases q5 : (sib % 8 == 5) with
     | true => rw [q1,q2,q3,q4,q5] at E; exact Gr 4 E
     | false => rw [q1,q2,q3,q4,q5] at E; exact D0 E
    | false => rw [q1,q2,q3,q4] at E; exact D0 E
noncomputable def i3 (xs : KM) (a : Nat) : Int := cond (xs.getD a 0 % 8 == 4) (xs.getD (a + 1) 0) (-1)
noncomputable def S7 (xs : KM) (a : Nat) : Nat := cond (xs.getD a 0 % 8 == 4) (a + 2) (a + 1)
theorem nW (hl : xs.length = 15) {a : Nat} (h1 : 1 ≤ a) (ha : a ≤ 4) (ho : i9 xs = true) (h3 : xs.getD a 0 / 64 ≠ 3)
  (h : k (rmT (xs.getD a 0) (i3 xs a) (leS ((xs.drop (S7 xs a)).take (dW (xs.getD a 0) (i3 xs a)))) (dW (xs.getD a 0) (i3 xs a) : Nat) ((S7 xs a + dW (xs.getD a 0) (i3 xs a) : Nat) : Int)) []) :
  (g8 e7 60).call k8 [.byt xs,.int (a : Int)] [] k := by
 rw [wA hl h1 ha]
 unfold rmF
 have e3 : (xs.getD a 0 / 64 == 3) = false := by simpa using h3
 refine e3.symm ▸ ?_
 unfold i3 S7 at h
 cases q : (xs.getD a 0 % 8 == 4) with
 | true => rw [q] at h; exact bF ho e3 (.inl q) h
 | false => rw [q] at h; exact bF ho e3 (.inr (by decide)) h
end
end
section
open PySem.Spec
noncomputable def H0 (wh : Int) : Str := cond (wh == 0) (Str.ofString "") (cond (wh == 1) (Str.ofString "fs") (Str.ofString "gs"))
noncomputable def G5 (wh : Int) (dat : Bool) (rx : Int) : List Int := (cond (wh == 0) [] [99 + wh]) ++ ((cond dat [102] []) ++ cond (decide (rx < 0)) [] [rx])
noncomputable def zs (wh : Int) (dat : Bool) (rx : Int) : V := .obj 750 [("segment", .str (H0 wh)),("is_data", .bool dat),("repeat", .int 0),("is_lock", .bool false),("rex", .int rx)]
section
noncomputable def dz (c : Int) : Prop := c = 136 ∨ c = 137 ∨ c = 138 ∨ c = 139 ∨ c = 141
noncomputable def gK (c : Int) : Prop := c = 64 ∨ c = 65 ∨ c = 66 ∨ c = 67 ∨ c = 68 ∨ c = 69 ∨ c = 70 ∨ c = 71
noncomputable def gL (c : Int) : Prop := c = 72 ∨ c = 73 ∨ c = 74 ∨ c = 75 ∨ c = 76 ∨ c = 77 ∨ c = 78 ∨ c = 79
noncomputable def U2 (c : Int) : Prop := c = 137 ∨ c = 139 ∨ c = 141
noncomputable def B9 (c : Int) : Prop := c = 0 ∨ c = 1 ∨ c = 2
theorem ag {c : Int} (h : dz c) : c ∈ ([136,137,138,139,141] : KM) := by unfold dz at h; simpa using h
theorem I9 {c : Int} (h : U2 c) : c ∈ ([137,139,141] : KM) := by unfold U2 at h; simpa using h
theorem bG {c : Int} (h : gK c) : c ∈ ([64,65,66,67,68,69,70,71] : KM) := by unfold gK at h; simpa using h
theorem kY {c : Int} (h : gL c) : c ∈ ([72,73,74,75,76,77,78,79] : KM) := by unfold gL at h; simpa using h
theorem bH {c : Int} (h : c = 1 ∨ c = 2) : c ∈ ([1,2] : KM) := by simpa using h
noncomputable def gM (wh : Int) (dat : Bool) (rx opc : Int) (t : KM) (k : KC) : Prop := (g8 e7 80).call v4 [.byt (G5 wh dat rx ++ opc :: t),.int 0] [] k
noncomputable def gN (wh : Int) (dat : Bool) (rx : Int) (k : KC) : Prop := k (.tup [zs wh dat rx,.int ((G5 wh dat rx).length : Int)]) []
noncomputable def kZ (wh : Int) (dat : Bool) (rx opc : Int) (t : KM) (k : KC) : Prop := gM wh dat rx opc t k = gN wh dat rx k
variable {t : KM}
theorem CS {opc : Int} (ht : t.length = 14) (ho : dz opc) : kZ 0 false (-1) opc t k := by
 refine pQ ht λ x0 x1 x2 x3 x4 x5 x6 x7 x8 x9 x10 x11 x12 x13 => ?_
 have h : (([136,137,138,139,141] : KM).map λ opc => gM 0 false (-1) opc [x0,x1,x2,x3,x4,x5,x6,x7,x8,x9,x10,x11,x12,x13] k) = ([136,137,138,139,141] : KM).map λ opc => gN 0 false (-1) k := by kernel_rfl
 exact (n5 h (ag ho))
theorem zt {wh : Int} {opc : Int} (ht : t.length = 13) (hw : wh = 1 ∨ wh = 2) (ho : dz opc) : kZ wh false (-1) opc t k := by
 refine bE ht λ x0 x1 x2 x3 x4 x5 x6 x7 x8 x9 x10 x11 x12 => ?_
 have h : (([1,2] : KM).map λ wh => ([136,137,138,139,141] : KM).map λ opc => gM wh false (-1) opc [x0,x1,x2,x3,x4,x5,x6,x7,x8,x9,x10,x11,x12] k) = ([1,2] : KM).map λ wh => ([136,137,138,139,141] : KM).map λ opc => gN wh false (-1) k := by kernel_rfl
 exact (n5 (n5 h (bH hw)) (ag ho))
theorem zu {opc : Int} (ht : t.length = 13) (ho : U2 opc) : kZ 0 true (-1) opc t k := by
 refine bE ht λ x0 x1 x2 x3 x4 x5 x6 x7 x8 x9 x10 x11 x12 => ?_
 have h : (([137,139,141] : KM).map λ opc => gM 0 true (-1) opc [x0,x1,x2,x3,x4,x5,x6,x7,x8,x9,x10,x11,x12] k) = ([137,139,141] : KM).map λ opc => gN 0 true (-1) k := by kernel_rfl
 exact (n5 h (I9 ho))
theorem wB {wh : Int} {opc : Int} (ht : t.length = 12) (hw : wh = 1 ∨ wh = 2) (ho : U2 opc) : kZ wh true (-1) opc t k := by
 refine bD ht λ x0 x1 x2 x3 x4 x5 x6 x7 x8 x9 x10 x11 => ?_
 have h : (([1,2] : KM).map λ wh => ([137,139,141] : KM).map λ opc => gM wh true (-1) opc [x0,x1,x2,x3,x4,x5,x6,x7,x8,x9,x10,x11] k) = ([1,2] : KM).map λ wh => ([137,139,141] : KM).map λ opc => gN wh true (-1) k := by kernel_rfl
 exact (n5 (n5 h (bH hw)) (I9 ho))
theorem zv {rx : Int} {opc : Int} (ht : t.length = 13) (hr : gK rx) (ho : dz opc) : kZ 0 false rx opc t k := by
 refine bE ht λ x0 x1 x2 x3 x4 x5 x6 x7 x8 x9 x10 x11 x12 => ?_
 have h : (([64,65,66,67,68,69,70,71] : KM).map λ rx => ([136,137,138,139,141] : KM).map λ opc => gM 0 false rx opc [x0,x1,x2,x3,x4,x5,x6,x7,x8,x9,x10,x11,x12] k) = ([64,65,66,67,68,69,70,71] : KM).map λ rx => ([136,137,138,139,141] : KM).map λ opc => gN 0 false rx k := by kernel_rfl
 exact (n5 (n5 h (bG hr)) (ag ho))
theorem zw {rx : Int} {opc : Int} (ht : t.length = 13) (hr : gL rx) (ho : U2 opc) : kZ 0 false rx opc t k := by
 refine bE ht λ x0 x1 x2 x3 x4 x5 x6 x7 x8 x9 x10 x11 x12 => ?_
 have h : (([72,73,74,75,76,77,78,79] : KM).map λ rx => ([137,139,141] : KM).map λ opc => gM 0 false rx opc [x0,x1,x2,x3,x4,x5,x6,x7,x8,x9,x10,x11,x12] k) = ([72,73,74,75,76,77,78,79] : KM).map λ rx => ([137,139,141] : KM).map λ opc => gN 0 false rx k := by kernel_rfl
 exact (n5 (n5 h (kY hr)) (I9 ho))
theorem zx {wh : Int} {rx : Int} {opc : Int} (ht : t.length = 12) (hw : wh = 1 ∨ wh = 2) (hr : gK rx) (ho : dz opc) : kZ wh false rx opc t k := by
 refine bD ht λ x0 x1 x2 x3 x4 x5 x6 x7 x8 x9 x10 x11 => ?_
 have h : (([1,2] : KM).map λ wh => ([64,65,66,67,68,69,70,71] : KM).map λ rx => ([136,137,138,139,141] : KM).map λ opc => gM wh false rx opc [x0,x1,x2,x3,x4,x5,x6,x7,x8,x9,x10,x11] k) = ([1,2] : KM).map λ wh => ([64,65,66,67,68,69,70,71] : KM).map λ rx => ([136,137,138,139,141] : KM).map λ opc => gN wh false rx k := by kernel_rfl
 exact (n5 (n5 (n5 h (bH hw)) (bG hr)) (ag ho))
theorem zy {wh : Int} {rx : Int} {opc : Int} (ht : t.length = 12) (hw : wh = 1 ∨ wh = 2) (hr : gL rx) (ho : U2 opc) : kZ wh false rx opc t k := by
 refine bD ht λ x0 x1 x2 x3 x4 x5 x6 x7 x8 x9 x10 x11 => ?_
 have h : (([1,2] : KM).map λ wh => ([72,73,74,75,76,77,78,79] : KM).map λ rx => ([137,139,141] : KM).map λ opc => gM wh false rx opc [x0,x1,x2,x3,x4,x5,x6,x7,x8,x9,x10,x11] k) = ([1,2] : KM).map λ wh => ([72,73,74,75,76,77,78,79] : KM).map λ rx => ([137,139,141] : KM).map λ opc => gN wh false rx k := by kernel_rfl
 exact (n5 (n5 (n5 h (bH hw)) (kY hr)) (I9 ho))
theorem zA {rx : Int} {opc : Int} (ht : t.length = 12) (hr : gK rx) (ho : U2 opc) : kZ 0 true rx opc t k := by
 refine bD ht λ x0 x1 x2 x3 x4 x5 x6 x7 x8 x9 x10 x11 => ?_
 have h : (([64,65,66,67,68,69,70,71] : KM).map λ rx => ([137,139,141] : KM).map λ opc => gM 0 true rx opc [x0,x1,x2,x3,x4,x5,x6,x7,x8,x9,x10,x11] k) = ([64,65,66,67,68,69,70,71] : KM).map λ rx => ([137,139,141] : KM).map λ opc => gN 0 true rx k := by kernel_rfl
 exact (n5 (n5 h (bG hr)) (I9 ho))
theorem CT {wh : Int} {rx : Int} {opc : Int} (ht : t.length = 11) (hw : wh = 1 ∨ wh = 2) (hr : gK rx) (ho : U2 opc) : kZ wh true rx opc t k := by
 refine pP ht λ x0 x1 x2 x3 x4 x5 x6 x7 x8 x9 x10 => ?_
 have h : (([1,2] : KM).map λ wh => ([64,65,66,67,68,69,70,71] : KM).map λ rx => ([137,139,141] : KM).map λ opc => gM wh true rx opc [x0,x1,x2,x3,x4,x5,x6,x7,x8,x9,x10] k) = ([1,2] : KM).map λ wh => ([64,65,66,67,68,69,70,71] : KM).map λ rx => ([137,139,141] : KM).map λ opc => gN wh true rx k := by kernel_rfl
 exact (n5 (n5 (n5 h (bH hw)) (bG hr)) (I9 ho))
end
end
section
open PySem.Spec
structure LE where
 a : Addr
 A : List V
 S : List MO
 Y : V
 S' : List MO
noncomputable def LE.spec (e : LE) : Spec := λ args O k => args = e.A ∧ O = e.S ∧ k e.Y e.S'
noncomputable def LE.pure (a : Addr) (A : KN) (Y : V) : LE := ⟨a,A,[],Y,[]⟩
noncomputable def tbL (T : Tab) (n : Nat) (P : List LE) : Tab := P.foldr (λ p T => T.upd p.a n p.spec) T
noncomputable def LE.Ok (X : Wd) (n : Nat) (e : LE) : Prop := ∀ k : V → List MO → Prop,k e.Y e.S' → OpC X n e.S e.A (.ref e.a) k
theorem gO {T : Tab} {a b : Addr} {n : Nat} {S : Spec} (h : (T.cal.lookup a).isSome = true) : ((T.upd b n S).cal.lookup a).isSome = true := by
 unfold Tab.upd
 rw [yc6]
 split
 ·rfl
 ·exact h
theorem gP {T : Tab} {a : Addr} {n : Nat} (h : (T.cal.lookup a).isSome = true) : ∀ (P : List LE),((tbL T n P).cal.lookup a).isSome = true := by
 intro P
 induction P with
 | nil =>
  exact h
 | cons Z P ih =>
  exact gO (ih)
theorem TabOK.updS {T : Tab} (hT : TabOK X T) {a : Addr} {n : Nat} {S : Spec} (ha : (T.cal.lookup a).isSome = true) (h : ∀ args O k,S args O k → OpC X n O args (.ref a) k) : TabOK X (T.upd a n S) := by
 cases e : T.cal.lookup a with
 | none => rw [e] at ha; cases ha
 | some c => exact hT.upd e h
theorem TabOK.tbL {X : Wd} {T : Tab} {n : Nat} (hT : TabOK X T) : ∀ {P : List LE},(P.all λ p => (T.cal.lookup p.a).isSome) = true → (∀ p ∈ P,p.Ok X n) → TabOK X (tbL T n P) := by
 intro P
 induction P with
 | nil =>
  intro Z Z
  exact hT
 | cons p P ih =>
  intro h q
  rw [List.all_cons,ya4] at h
  refine TabOK.updS (ih h.2 λ p hp => q p (mM _ hp)) (gP h.1 P) ?_
  rintro args O k ⟨rfl,rfl,z⟩
  exact q p List.mem_cons_self k z
theorem LE.of {T : Tab} {n m : Nat} {e : LE} (hT : TabOK X T) (hm : m ≤ n) (W : V → V) (hW : ∀ v,LeV v (W v)) (h : ∀ k : V → List MO → Prop,k e.Y e.S' → (g8 T m).call e.a e.A e.S (λ v σ' => k (W v) σ')) : e.Ok X n := λ k z =>
 M3 (vX W hW ((u9 hT m).call _ _ _ _ (h k z))) hm
theorem LE.of0 {T : Tab} {n m : Nat} {e : LE} (hT : TabOK X T) (hm : m ≤ n) (h : ∀ k : V → List MO → Prop,k e.Y e.S' → (g8 T m).call e.a e.A e.S k) : e.Ok X n := λ k z =>
 M3 ((u9 hT m).call _ _ _ _ (h k z)) hm
noncomputable def S3 (nm : String) (k1 k2 : String) (opc sz no : Int) (p1 p2 : String) : V := .obj 246 [("name", .str (Str.ofString nm)),("kinds", .tup [.str (Str.ofString k1),.str (Str.ofString k2)]),("opcode", .int opc),("escape", .int 0),("digit", .int (-1)),("size", .int sz),("must", .int 0),("is_wide", .bool false),("number", .int no),("places", .tup [.str (Str.ofString p1),.str (Str.ofString p2)])]
noncomputable def byC : List (List Int × V) := [
 ([0,0,136],.fz (.lst [S3 "mov" "rm8" "r8" 136 8 0 "rm" "reg"])),
 ([0,0,137],.fz (.lst [S3 "mov" "rm16" "r16" 137 16 1 "rm" "reg", S3 "mov" "rm32" "r32" 137 32 2 "rm" "reg", S3 "mov" "rm64" "r64" 137 64 3 "rm" "reg"])),
 ([0,0,138],.fz (.lst [S3 "mov" "r8" "rm8" 138 8 4 "reg" "rm"])),
 ([0,0,139],.fz (.lst [S3 "mov" "r16" "rm16" 139 16 5 "reg" "rm", S3 "mov" "r32" "rm32" 139 32 6 "reg" "rm", S3 "mov" "r64" "rm64" 139 64 7 "reg" "rm"]))] ++
 (([176,177,178,179,180,181,182,183,184,185,186,187,188,189,190,191] : KM).map λ n => ([0,0,n],V.junk)) ++ [([0,0,198],.junk),([0,0,199],.junk),
 ([0,0,141],.fz (.lst [S3 "lea" "r16" "m" 141 16 16 "reg" "rm", S3 "lea" "r32" "m" 141 32 17 "reg" "rm", S3 "lea" "r64" "m" 141 64 18 "reg" "rm"]))]
noncomputable def sF : V := .obj 1365 [("forms", .junk),("by_name", .junk),("by_code", .h 0)]
noncomputable def aq (R : V) : V := .obj 337 [("kind", .str (Str.ofString "reg")),("register", R)]
noncomputable def nmO (opc : Int) : Str := cond (opc == 141) (Str.ofString "lea") (Str.ofString "mov")
noncomputable def ic (opc : Int) (R M : V) : V := .obj 518 [(S0,.str (nmO opc)),("operands", .tup (cond (decide (opc < 138)) [M,aq R] [aq R,M])),("prefix", .str (Str.ofString ""))]
noncomputable def wC (I : V) (e : Int) : V := .obj 799 [("instruction", I),("length", .int e),("form", .junk),("prefixes", .junk)]
noncomputable def BC (v : V) : V := F2 799 (Str.ofString "form") (F2 799 (Str.ofString "prefixes") v)
noncomputable def eT (opc : Int) (dat : Bool) (w sz : Int) : Prop := (opc,dat,w,sz) ∈ ([(136,false,0,8),(138,false,0,8),(137,true,0,16),(139,true,0,16),(141,true,0,16),(137,false,0,32),(139,false,0,32),(141,false,0,32),(137,false,1,64),(139,false,1,64),(141,false,1,64)] : List (Int × Bool × Int × Int))
noncomputable def BD (opc : Int) (dat : Bool) (w sz : Int) : Prop := (opc,dat,w,sz) ∈ ([(137,true,0,16),(139,true,0,16),(141,true,0,16)] : List (Int × Bool × Int × Int))
noncomputable def BE (opc : Int) (dat : Bool) (w sz : Int) : Prop := (opc,dat,w,sz) ∈ ([(136,false,0,8),(138,false,0,8),(137,false,0,32),(139,false,0,32),(141,false,0,32)] : List (Int × Bool × Int × Int))
section
noncomputable def M6 (opc sz : Int) : Int := cond (opc == 141) 0 sz
noncomputable def wD (sg : Str) (dat : Bool) (rx : Int) : V := .obj 750 [("segment", .str sg),("is_data", .bool dat),("repeat", .int 0),("is_lock", .bool false),("rex", .int rx)]
noncomputable def yf (xs : KM) (np : Int) (sg : Str) (dat : Bool) (rx w r x b mod reg rm sib disp wd e sz msz : Int) (R M : V) : List LE :=
 [.pure v4 [.byt xs,.int 0] (.tup [wD sg dat rx,.int np]),.pure I6 [.int rx] (.tup [.int w,.int r,.int x,.int b]),
  .pure k8 [.byt xs,.int (np + 1)] (.tup [.int mod,.int reg,.int rm,.int sib,.int disp,.int wd,.int e]),
  .pure m8 [.int (reg + 8 * r),.int sz,.bool (decide (rx ≥ 0))] R,.pure q8 [.int mod,.int rm,.int sib,.int disp,.int x,.int b,.int msz,.str sg] M]
noncomputable def eqC : List (List V) → Prop → Prop
 | [],P => P
 | A :: r,P => A = A ∧ ([] : KG) = [] ∧ eqC r P
theorem wE {P : Prop} {l : List (List V)} (p : P) : eqC l P := by
 induction l with
 | nil => exact p
 | cons a l ih => exact ⟨rfl,rfl,ih⟩
noncomputable def BF (l : List LE) (opc e : Int) (sg : Str) (R M : V) (k : KC) : Prop :=
 eqC (cond (decide (opc < 138)) (match l with | [a,b,c,d,m] => [a.A,b.A,c.A,m.A,d.A] | _ => []) (l.map λ p => p.A))
  (cond (decide (e - 0 > 15)) False (cond (!(sg == Str.ofString "")) (k (wC (ic opc R M) (e - 0)) [.ftm byC]) (k (wC (ic opc R M) (e - 0)) [.ftm byC])))
section
variable {rx r x b reg rm sib disp wd e n sz' sc : Int} {sg : Str} {kn : Str} {B I : V}
noncomputable def gQ (xs : KM) (np : Int) (sg : Str) (dat : Bool) (rx w r x b mod reg rm sib disp wd e sz opc : Int) (R M : V) (k : KC) : Prop :=
 (g8 (tbL e7 100 (yf xs np sg dat rx w r x b mod reg rm sib disp wd e sz (M6 opc sz) R M)) 120).call ae [sF,.byt xs] [.ftm byC] (λ v σ' => k (BC v) σ')
noncomputable def gT (xs : KM) (np : Int) (sg : Str) (dat : Bool) (rx w r x b mod reg rm sib disp wd e sz opc : Int) (R M : V) (k : KC) : Prop :=
  BF (yf xs np sg dat rx w r x b mod reg rm sib disp wd e sz (M6 opc sz) R M) opc e sg R M k
noncomputable def sG (xs : KM) (np : Int) (sg : Str) (dat : Bool) (rx w r x b mod reg rm sib disp wd e sz opc : Int) (R M : V) (k : KC) : Prop :=
 gQ xs np sg dat rx w r x b mod reg rm sib disp wd e sz opc R M k = gT xs np sg dat rx w r x b mod reg rm sib disp wd e sz opc R M k
theorem eU {c : Int} (h : B9 c) : c ∈ ([0,1,2] : KM) := by unfold B9 at h; simpa using h
variable {t : KM}
theorem CU {y0 y1 y2 : Int} {opc w sz mod : Int} {dat : Bool} (ht : t.length = 11) (ho : BD opc dat w sz) (hm : B9 mod) : sG (y0 :: y1 :: y2 :: opc :: t) 3 sg dat rx w r x b mod reg rm sib disp wd e sz opc (l9 kn n sz') (r5 (.fz B) (.fz I) sc disp (M6 opc sz) sg) k := by
 refine pP ht λ x0 x1 x2 x3 x4 x5 x6 x7 x8 x9 x10 => ?_
 have h : (([(137,true,0,16),(139,true,0,16),(141,true,0,16)] : List (Int × Bool × Int × Int)).map λ q => ([0,1,2] : KM).map λ mod => gQ [y0,y1,y2,q.1,x0,x1,x2,x3,x4,x5,x6,x7,x8,x9,x10] 3 sg q.2.1 rx q.2.2.1 r x b mod reg rm sib disp wd e q.2.2.2 q.1 (l9 kn n sz') (r5 (.fz B) (.fz I) sc disp (M6 q.1 q.2.2.2) sg) k) = ([(137,true,0,16),(139,true,0,16),(141,true,0,16)] : List (Int × Bool × Int × Int)).map λ q => ([0,1,2] : KM).map λ mod => gT [y0,y1,y2,q.1,x0,x1,x2,x3,x4,x5,x6,x7,x8,x9,x10] 3 sg q.2.1 rx q.2.2.1 r x b mod reg rm sib disp wd e q.2.2.2 q.1 (l9 kn n sz') (r5 (.fz B) (.fz I) sc disp (M6 q.1 q.2.2.2) sg) k := by kernel_rfl
 exact n5 (n5 h ho) (eU hm)
theorem CV {y0 y1 : Int} {opc w sz mod : Int} {dat : Bool} (ht : t.length = 12) (ho : eT opc dat w sz) (hm : B9 mod) : sG (y0 :: y1 :: opc :: t) 2 sg dat rx w r x b mod reg rm sib disp wd e sz opc (l9 kn n sz') (r5 (.fz B) (.fz I) sc disp (M6 opc sz) sg) k := by
 refine bD ht λ x0 x1 x2 x3 x4 x5 x6 x7 x8 x9 x10 x11 => ?_
 have h : (([(136,false,0,8),(138,false,0,8),(137,true,0,16),(139,true,0,16),(141,true,0,16),(137,false,0,32),(139,false,0,32),(141,false,0,32),(137,false,1,64),(139,false,1,64),(141,false,1,64)] : List (Int × Bool × Int × Int)).map λ q => ([0,1,2] : KM).map λ mod => gQ [y0,y1,q.1,x0,x1,x2,x3,x4,x5,x6,x7,x8,x9,x10,x11] 2 sg q.2.1 rx q.2.2.1 r x b mod reg rm sib disp wd e q.2.2.2 q.1 (l9 kn n sz') (r5 (.fz B) (.fz I) sc disp (M6 q.1 q.2.2.2) sg) k) = ([(136,false,0,8),(138,false,0,8),(137,true,0,16),(139,true,0,16),(141,true,0,16),(137,false,0,32),(139,false,0,32),(141,false,0,32),(137,false,1,64),(139,false,1,64),(141,false,1,64)] : List (Int × Bool × Int × Int)).map λ q => ([0,1,2] : KM).map λ mod => gT [y0,y1,q.1,x0,x1,x2,x3,x4,x5,x6,x7,x8,x9,x10,x11] 2 sg q.2.1 rx q.2.2.1 r x b mod reg rm sib disp wd e q.2.2.2 q.1 (l9 kn n sz') (r5 (.fz B) (.fz I) sc disp (M6 q.1 q.2.2.2) sg) k := by kernel_rfl
 exact n5 (n5 h ho) (eU hm)
theorem CW {y0 : Int} {opc w sz mod : Int} {dat : Bool} (ht : t.length = 13) (ho : eT opc dat w sz) (hm : B9 mod) : sG (y0 :: opc :: t) 1 sg dat rx w r x b mod reg rm sib disp wd e sz opc (l9 kn n sz') (r5 (.fz B) (.fz I) sc disp (M6 opc sz) sg) k := by
 refine bE ht λ x0 x1 x2 x3 x4 x5 x6 x7 x8 x9 x10 x11 x12 => ?_
 have h : (([(136,false,0,8),(138,false,0,8),(137,true,0,16),(139,true,0,16),(141,true,0,16),(137,false,0,32),(139,false,0,32),(141,false,0,32),(137,false,1,64),(139,false,1,64),(141,false,1,64)] : List (Int × Bool × Int × Int)).map λ q => ([0,1,2] : KM).map λ mod => gQ [y0,q.1,x0,x1,x2,x3,x4,x5,x6,x7,x8,x9,x10,x11,x12] 1 sg q.2.1 rx q.2.2.1 r x b mod reg rm sib disp wd e q.2.2.2 q.1 (l9 kn n sz') (r5 (.fz B) (.fz I) sc disp (M6 q.1 q.2.2.2) sg) k) = ([(136,false,0,8),(138,false,0,8),(137,true,0,16),(139,true,0,16),(141,true,0,16),(137,false,0,32),(139,false,0,32),(141,false,0,32),(137,false,1,64),(139,false,1,64),(141,false,1,64)] : List (Int × Bool × Int × Int)).map λ q => ([0,1,2] : KM).map λ mod => gT [y0,q.1,x0,x1,x2,x3,x4,x5,x6,x7,x8,x9,x10,x11,x12] 1 sg q.2.1 rx q.2.2.1 r x b mod reg rm sib disp wd e q.2.2.2 q.1 (l9 kn n sz') (r5 (.fz B) (.fz I) sc disp (M6 q.1 q.2.2.2) sg) k := by kernel_rfl
 exact n5 (n5 h ho) (eU hm)
theorem CX {opc w sz mod : Int} {dat : Bool} (ht : t.length = 14) (ho : BE opc dat w sz) (hm : B9 mod) : sG (opc :: t) 0 sg dat rx w r x b mod reg rm sib disp wd e sz opc (l9 kn n sz') (r5 (.fz B) (.fz I) sc disp (M6 opc sz) sg) k := by
 refine pQ ht λ x0 x1 x2 x3 x4 x5 x6 x7 x8 x9 x10 x11 x12 x13 => ?_
 have h : (([(136,false,0,8),(138,false,0,8),(137,false,0,32),(139,false,0,32),(141,false,0,32)] : List (Int × Bool × Int × Int)).map λ q => ([0,1,2] : KM).map λ mod => gQ [q.1,x0,x1,x2,x3,x4,x5,x6,x7,x8,x9,x10,x11,x12,x13] 0 sg q.2.1 rx q.2.2.1 r x b mod reg rm sib disp wd e q.2.2.2 q.1 (l9 kn n sz') (r5 (.fz B) (.fz I) sc disp (M6 q.1 q.2.2.2) sg) k) = ([(136,false,0,8),(138,false,0,8),(137,false,0,32),(139,false,0,32),(141,false,0,32)] : List (Int × Bool × Int × Int)).map λ q => ([0,1,2] : KM).map λ mod => gT [q.1,x0,x1,x2,x3,x4,x5,x6,x7,x8,x9,x10,x11,x12,x13] 0 sg q.2.1 rx q.2.2.1 r x b mod reg rm sib disp wd e q.2.2.2 q.1 (l9 kn n sz') (r5 (.fz B) (.fz I) sc disp (M6 q.1 q.2.2.2) sg) k := by kernel_rfl
 exact n5 (n5 h ho) (eU hm)
end
end
end
section
open PySem.Spec
noncomputable def rxW (rx : Int) : Int := cond (decide (rx < 0)) 0 (rx / 8 % 2)
noncomputable def rxR (rx : Int) : Int := cond (decide (rx < 0)) 0 (rx / 4 % 2)
noncomputable def rxX (rx : Int) : Int := cond (decide (rx < 0)) 0 (rx / 2 % 2)
noncomputable def rxB (rx : Int) : Int := cond (decide (rx < 0)) 0 (rx % 2)
section
theorem nX {o : Int} : (g8 e7 80).call I6 [.int o] [] k = cond (decide (o < 0)) (k (.tup [.int 0,.int 0,.int 0,.int 0]) []) (k (.tup [.int (o / 8 % 2),.int (o / 4 % 2),.int (o / 2 % 2),.int (o % 2)]) []) := by kernel_rfl
theorem wF {n s : Int} {hr : Bool} : (g8 e7 80).call m8 [.int n,.int s,.bool hr] [] k = kQ [.int n,.int s,.bool hr] [] k := by kernel_rfl
theorem wG {mod rm sib disp x b size : Int} {seg : Str} : (g8 e7 100).call q8 [.int mod,.int rm,.int sib,.int disp,.int x,.int b,.int size,.str seg] [] k = cond (decide (0 ≤ rm) && decide (rm ≤ 7) && (decide (0 ≤ b) && decide (b ≤ 1)) && (decide (0 ≤ x) && decide (x ≤ 1)) && (!(rm == 4) || (decide (0 ≤ sib) && decide (sib < 256))))
   (k (r5 (.fz (C1 mod rm sib b).V) (.fz (o9 rm sib x).V) (s5 rm sib x) disp size seg) []) False := by kernel_rfl
noncomputable def BG (mo sib disp rx sz : Int) (sg : Str) : V := r5 (.fz (C1 (mo / 64) (mo % 8) sib (rxB rx)).V) (.fz (o9 (mo % 8) sib (rxX rx)).V) (s5 (mo % 8) sib (rxX rx)) disp sz sg
noncomputable def BH (mo rx sz : Int) : V := l9 (cond (gH (mo / 8 % 8 + 8 * rxR rx) sz (decide (rx ≥ 0))) z5 z8) (mo / 8 % 8 + 8 * rxR rx) sz
noncomputable def yg (xs : KM) (np : Nat) (opc rx sz : Int) (sg : Str) : LE :=
 let mo := xs.getD (np + 1) 0
 let sib := i3 xs (np + 1)
 ⟨ae,[sF,.byt xs],[.ftm byC],wC (ic opc (BH mo rx sz) (BG mo sib (leS ((xs.drop (S7 xs (np + 1))).take (dW mo sib))) rx (M6 opc sz) sg)) ((S7 xs (np + 1) + dW mo sib : Nat) : Int),[.ftm byC]⟩
theorem sH {mo : Int} (h0 : 0 ≤ mo) (h : mo < 192) : B9 (mo / 64) := by unfold B9; lia
theorem la {opc : Int} {dat : Bool} {w sz : Int} (h : eT opc dat w sz) : j6 sz = true := (by decide +kernel : ∀ q ∈ ([(136,false,0,8),(138,false,0,8),(137,true,0,16),(139,true,0,16),(141,true,0,16),(137,false,0,32),(139,false,0,32),(141,false,0,32),(137,false,1,64),(139,false,1,64),(141,false,1,64)] : List (Int × Bool × Int × Int)),j6 q.2.2.2 = true) (opc,dat,w,sz) h
theorem G6 (h : i9 xs = true) (n : Nat) : 0 ≤ xs.getD n 0 ∧ xs.getD n 0 < 256 := by
 rw [yc9]
 cases e : xs[n]? with
 | none => exact ⟨by decide,by decide⟩
 | some v =>
  have := List.all_eq_true.mp h v (yc7 e)
  simpa using this
theorem BI (rx : Int) : (0 ≤ rxB rx ∧ rxB rx ≤ 1) ∧ (0 ≤ rxX rx ∧ rxX rx ≤ 1) ∧ (0 ≤ rxR rx ∧ rxR rx ≤ 1) := by
 unfold rxB rxX rxR
 cases decide (rx < 0)
 ·simp only [cond_false]; lia
 ·simp only [cond_true]; (decide)
theorem CY (hT : TabOK X e7) {np : Nat} {opc rx sz : Int} {sg : Str} {dat : Bool} (hl : xs.length = 15) (ho : i9 xs = true) (hn : np ≤ 3) (hop : eT opc dat (rxW rx) sz) (hm : xs.getD (np + 1) 0 < 192)
  (he : S7 xs (np + 1) + dW (xs.getD (np + 1) 0) (i3 xs (np + 1)) ≤ 15)
  (hpre : ∀ k : V → List MO → Prop,k (.tup [wD sg dat rx,.int np]) [] → (g8 e7 80).call v4 [.byt xs,.int 0] [] k)
  (hdec : ∀ (k : KC) (r x b mod reg rm sib disp wd e n sz' sc : Int) (kn : Str) (B I : V),B9 mod → sG xs np sg dat rx (rxW rx) r x b mod reg rm sib disp wd e sz opc (l9 kn n sz') (r5 (.fz B) (.fz I) sc disp (M6 opc sz) sg) k) :
  (yg xs np opc rx sz sg).Ok X 120 := by
 have hmo := G6 ho (np + 1)
 have hs : i3 xs (np + 1) = -1 ∨ (xs.getD (np + 1) 0 % 8 = 4 ∧ 0 ≤ i3 xs (np + 1) ∧ i3 xs (np + 1) < 256) ∧ True := by
  unfold i3
  cases q : (xs.getD (np + 1) 0 % 8 == 4) with
  | true => exact .inr ⟨⟨by simpa using q,G6 ho _⟩,trivial⟩
  | false => exact .inl rfl
 have hs4 : xs.getD (np + 1) 0 % 8 = 4 → 0 ≤ i3 xs (np + 1) ∧ i3 xs (np + 1) < 256 := λ q => by
  unfold i3
  rw [beq_iff_eq.mpr q]
  exact G6 ho _
 have key := λ k => hdec k (rxR rx) (rxX rx) (rxB rx) (xs.getD (np + 1) 0 / 64) (xs.getD (np + 1) 0 / 8 % 8) (xs.getD (np + 1) 0 % 8) (i3 xs (np + 1))
  (leS ((xs.drop (S7 xs (np + 1))).take (dW (xs.getD (np + 1) 0) (i3 xs (np + 1))))) (dW (xs.getD (np + 1) 0) (i3 xs (np + 1)) : Nat) ((S7 xs (np + 1) + dW (xs.getD (np + 1) 0) (i3 xs (np + 1)) : Nat) : Int)
  (xs.getD (np + 1) 0 / 8 % 8 + 8 * rxR rx) sz (s5 (xs.getD (np + 1) 0 % 8) (i3 xs (np + 1)) (rxX rx))
  (cond (gH (xs.getD (np + 1) 0 / 8 % 8 + 8 * rxR rx) sz (decide (rx ≥ 0))) z5 z8)
  (C1 (xs.getD (np + 1) 0 / 64) (xs.getD (np + 1) 0 % 8) (i3 xs (np + 1)) (rxB rx)).V (o9 (xs.getD (np + 1) 0 % 8) (i3 xs (np + 1)) (rxX rx)).V (sH hmo.1 hm)
 unfold yg
 dsimp only
 unfold BH BG
 have hb := BI rx
 refine LE.of (m := 120) (TabOK.tbL hT (n := 100) (P := yf xs np sg dat rx (rxW rx) (rxR rx) (rxX rx) (rxB rx) (xs.getD (np + 1) 0 / 64) (xs.getD (np + 1) 0 / 8 % 8) (xs.getD (np + 1) 0 % 8) (i3 xs (np + 1)) (leS ((xs.drop (S7 xs (np + 1))).take (dW (xs.getD (np + 1) 0) (i3 xs (np + 1))))) (dW (xs.getD (np + 1) 0) (i3 xs (np + 1)) : Nat) ((S7 xs (np + 1) + dW (xs.getD (np + 1) 0) (i3 xs (np + 1)) : Nat) : Int) sz (M6 opc sz) (l9 (cond (gH (xs.getD (np + 1) 0 / 8 % 8 + 8 * rxR rx) sz (decide (rx ≥ 0))) z5 z8) (xs.getD (np + 1) 0 / 8 % 8 + 8 * rxR rx) sz) (r5 (.fz (C1 (xs.getD (np + 1) 0 / 64) (xs.getD (np + 1) 0 % 8) (i3 xs (np + 1)) (rxB rx)).V) (.fz (o9 (xs.getD (np + 1) 0 % 8) (i3 xs (np + 1)) (rxX rx)).V) (s5 (xs.getD (np + 1) 0 % 8) (i3 xs (np + 1)) (rxX rx)) (leS ((xs.drop (S7 xs (np + 1))).take (dW (xs.getD (np + 1) 0) (i3 xs (np + 1))))) (M6 opc sz) sg)) ?_ ?_) (ya7 _) BC (λ v => λ Z Z Z Z q => B3 _ _ _ _ _ (B3 _ _ _ _ _ q)) (λ k z => ?_)
 ·kernel_rfl
 ·unfold yf
  intro p hp
  rcases List.mem_cons.mp hp with rfl | hp
  ·exact LE.of0 (m := 80) hT (by decide) λ k z => hpre k z
  rcases List.mem_cons.mp hp with rfl | hp
  ·refine LE.of0 (m := 80) hT (by decide) λ k z => ?_
   refine (?_ : (g8 e7 80).call I6 [.int rx] [] k)
   rw [nX]
   have z : k (.tup [.int (rxW rx),.int (rxR rx),.int (rxX rx),.int (rxB rx)]) [] := z
   unfold rxW rxR rxX rxB at z
   cases q : decide (rx < 0) with
   | true => rw [q] at z; exact z
   | false => rw [q] at z; exact z
  rcases List.mem_cons.mp hp with rfl | hp
  ·refine LE.of0 (m := 60) hT (by decide) λ k z => ?_
   refine (?_ : (g8 e7 60).call k8 [.byt xs,.int ((np : Int) + 1)] [] k)
   rw [show ((np : Int) + 1) = ((np + 1 : Nat) : Int) from rfl]
   exact nW hl (by exact Nat.le_add_left _ _) (by exact Nat.succ_le_succ (by assumption)) ho (by lia) z
  rcases List.mem_cons.mp hp with rfl | hp
  ·refine LE.of0 (m := 80) hT (by decide) λ k z => ?_
   refine (?_ : (g8 e7 80).call m8 [.int _,.int _,.bool _] [] k)
   rw [wF]
   refine c8 ?_ z
   rw [la hop,ya2 (by lia),ya2 (by lia)]; rfl
  rcases List.mem_cons.mp hp with rfl | hp
  ·refine LE.of0 (m := 100) hT (by decide) λ k z => ?_
   refine (?_ : (g8 e7 100).call q8 [.int _,.int _,.int _,.int _,.int _,.int _,.int _,.str _] [] k)
   rw [wG]
   refine c8 ?_ z
   rw [ya2 (by lia),ya2 (by lia),ya2 (by lia),ya2 (by lia),ya2 (by lia),ya2 (by lia)]
   cases q : (xs.getD (np + 1) 0 % 8 == 4) with
   | false => rfl
   | true =>
    have := hs4 (beq_iff_eq.mp q)
    rw [ya2 this.1,ya2 this.2]; rfl
  ·cases hp
 ·skip
  have key := key k
  unfold sG gQ at key
  rw [key]
  unfold gT BF
  refine wE ?_
  have : decide (((S7 xs (np + 1) + dW (xs.getD (np + 1) 0) (i3 xs (np + 1)) : Nat) : Int) - 0 > 15) = false := decide_eq_false (by lia)
  refine this.symm ▸ ?_
  rw [Int.sub_zero]
  cases (!(sg == Str.ofString "")) <;> exact z
theorem J0 {opc : Int} {dat : Bool} {w sz : Int} (h : eT opc dat w sz) : dz opc ∧ (dat = true → U2 opc ∧ w = 0 ∧ BD opc dat w sz) ∧ (w = 1 → dat = false ∧ U2 opc) ∧ (dat = false → w = 0 → BE opc dat w sz) ∧ (w = 0 ∨ w = 1) := by
 have k1 : ∀ q ∈ ([(136,false,0,8),(138,false,0,8),(137,true,0,16),(139,true,0,16),(141,true,0,16),(137,false,0,32),(139,false,0,32),(141,false,0,32),(137,false,1,64),(139,false,1,64),(141,false,1,64)] : List (Int × Bool × Int × Int)),(q.1 = 136 ∨ q.1 = 137 ∨ q.1 = 138 ∨ q.1 = 139 ∨ q.1 = 141) := by decide +kernel
 have k2 : ∀ q ∈ ([(136,false,0,8),(138,false,0,8),(137,true,0,16),(139,true,0,16),(141,true,0,16),(137,false,0,32),(139,false,0,32),(141,false,0,32),(137,false,1,64),(139,false,1,64),(141,false,1,64)] : List (Int × Bool × Int × Int)),q.2.1 = true → (q.1 = 137 ∨ q.1 = 139 ∨ q.1 = 141) ∧ q.2.2.1 = 0 := by decide +kernel
 have k3 : ∀ q ∈ ([(136,false,0,8),(138,false,0,8),(137,true,0,16),(139,true,0,16),(141,true,0,16),(137,false,0,32),(139,false,0,32),(141,false,0,32),(137,false,1,64),(139,false,1,64),(141,false,1,64)] : List (Int × Bool × Int × Int)),q.2.1 = true → q ∈ ([(137,true,0,16),(139,true,0,16),(141,true,0,16)] : List (Int × Bool × Int × Int)) := by decide +kernel
 have k4 : ∀ q ∈ ([(136,false,0,8),(138,false,0,8),(137,true,0,16),(139,true,0,16),(141,true,0,16),(137,false,0,32),(139,false,0,32),(141,false,0,32),(137,false,1,64),(139,false,1,64),(141,false,1,64)] : List (Int × Bool × Int × Int)),q.2.2.1 = 1 → q.2.1 = false ∧ (q.1 = 137 ∨ q.1 = 139 ∨ q.1 = 141) := by decide +kernel
 have k5 : ∀ q ∈ ([(136,false,0,8),(138,false,0,8),(137,true,0,16),(139,true,0,16),(141,true,0,16),(137,false,0,32),(139,false,0,32),(141,false,0,32),(137,false,1,64),(139,false,1,64),(141,false,1,64)] : List (Int × Bool × Int × Int)),q.2.1 = false → q.2.2.1 = 0 → q ∈ ([(136,false,0,8),(138,false,0,8),(137,false,0,32),(139,false,0,32),(141,false,0,32)] : List (Int × Bool × Int × Int)) := by decide +kernel
 have k6 : ∀ q ∈ ([(136,false,0,8),(138,false,0,8),(137,true,0,16),(139,true,0,16),(141,true,0,16),(137,false,0,32),(139,false,0,32),(141,false,0,32),(137,false,1,64),(139,false,1,64),(141,false,1,64)] : List (Int × Bool × Int × Int)),q.2.2.1 = 0 ∨ q.2.2.1 = 1 := by decide +kernel
 exact ⟨k1 _ h,λ e => ⟨(k2 _ h e).1,(k2 _ h e).2,k3 _ h e⟩,k4 _ h,k5 _ h,k6 _ h⟩
theorem nY {rx : Int} (h : gL rx) : rxW rx = 1 := by
 unfold gL at h
 rcases h with rfl | rfl | rfl | rfl | rfl | rfl | rfl | rfl <;> decide
theorem dA {rx : Int} (h : gK rx ∨ gL rx) : decide (rx < 0) = false := by
 rcases h with h | h
 ·exact (by decide +kernel : ∀ c ∈ ([64,65,66,67,68,69,70,71] : KM),decide (c < 0) = false) rx (bG h)
 ·exact (by decide +kernel : ∀ c ∈ ([72,73,74,75,76,77,78,79] : KM),decide (c < 0) = false) rx (kY h)
theorem wH {wh rx opc sz : Int} {dat : Bool} {t : KM} (hwh : B9 wh) (hrx : rx = -1 ∨ gK rx ∨ gL rx) (hop : eT opc dat (rxW rx) sz) (lt : t.length + (G5 wh dat rx).length = 14) : kZ wh dat rx opc t k := by
 have hc := J0 hop
 unfold G5 at lt
 rcases hwh with rfl | hwh
 ·induction dat using Bool.casesOn with
  | false =>
   rcases hrx with rfl | hr | hr
   ·exact CS (by simpa using lt) hc.1
   ·rw [dA (.inl hr)] at lt; exact zv (by simpa using lt) hr hc.1
   ·rw [dA (.inr hr)] at lt; exact zw (by simpa using lt) hr (hc.2.2.1 (nY hr)).2
  | true =>
   rcases hrx with rfl | hr | hr
   ·exact zu (by simpa using lt) (hc.2.1 rfl).1
   ·rw [dA (.inl hr)] at lt; exact zA (by simpa using lt) hr (hc.2.1 rfl).1
   ·exact absurd (nY hr) (by rw [(hc.2.1 rfl).2.1]; decide)
 ·have e0 : (wh == 0) = false := by rcases hwh with rfl | rfl <;> rfl
  rw [e0] at lt
  induction dat using Bool.casesOn with
  | false =>
   rcases hrx with rfl | hr | hr
   ·exact zt (by simpa using lt) hwh hc.1
   ·rw [dA (.inl hr)] at lt; exact zx (by simpa using lt) hwh hr hc.1
   ·rw [dA (.inr hr)] at lt; exact zy (by simpa using lt) hwh hr (hc.2.2.1 (nY hr)).2
  | true =>
   rcases hrx with rfl | hr | hr
   ·exact wB (by simpa using lt) hwh (hc.2.1 rfl).1
   ·rw [dA (.inl hr)] at lt; exact CT (by simpa using lt) hwh hr (hc.2.1 rfl).1
   ·exact absurd (nY hr) (by rw [(hc.2.1 rfl).2.1]; decide)
theorem sI {wh rx opc sz r x b mod reg rm sib disp wd e n sz' sc : Int} {sg kn : Str} {B I : V} {dat : Bool} {np : Nat} {t : KM} {k : KC} (hwh : B9 wh) (hrx : rx = -1 ∨ gK rx ∨ gL rx) (hop : eT opc dat (rxW rx) sz) (hn : np = (G5 wh dat rx).length) (lt : t.length + np = 14) (hmod : B9 mod) :
  sG (G5 wh dat rx ++ opc :: t) np sg dat rx (rxW rx) r x b mod reg rm sib disp wd e sz opc (l9 kn n sz') (r5 (.fz B) (.fz I) sc disp (M6 opc sz) sg) k := by
 have hc := J0 hop
 have hcase : (np = 0 ∧ rx = -1 ∧ dat = false) ∨ np = 1 ∨ np = 2 ∨ (np = 3 ∧ dat = true) := by
  rw [hn]; unfold G5
  rcases hrx with rfl | hr
  ·cases (wh == 0) <;> cases dat <;> simp
  ·refine (dA hr).symm ▸ ?_
   cases (wh == 0) <;> cases dat <;> simp
 generalize G5 wh dat rx = p at hn ⊢
 clear hrx hwh
 rcases hcase with ⟨rfl,rfl,rfl⟩ | rfl | rfl | ⟨rfl,rfl⟩
 ·refine (List.length_eq_zero_iff.mp hn.symm).symm ▸ ?_
  exact CX (by assumption) (hc.2.2.2.1 rfl rfl) hmod
 ·obtain ⟨p,rfl⟩ := List.length_eq_one_iff.mp hn.symm
  exact CW (by lia) hop hmod
 ·refine L8 (Bx hn.symm) λ p q eR2 => ?_
  subst eR2
  exact CV (by lia) hop hmod
 ·refine Ay (By hn.symm) λ p q s eR3 => ?_
  subst eR3
  exact CU (by lia) (hc.2.1 rfl).2.2 hmod
theorem wI (hT : TabOK X e7) {wh rx opc sz : Int} {dat : Bool} {np : Nat} {xs t : KM} (hwh : B9 wh) (hrx : rx = -1 ∨ gK rx ∨ gL rx) (hop : eT opc dat (rxW rx) sz) (hx : xs = G5 wh dat rx ++ opc :: t) (hn : np = (G5 wh dat rx).length)
  (hl : xs.length = 15) (ho : i9 xs = true) (hm : xs.getD (np + 1) 0 < 192) (he : S7 xs (np + 1) + dW (xs.getD (np + 1) 0) (i3 xs (np + 1)) ≤ 15) : (yg xs np opc rx sz (H0 wh)).Ok X 120 := by
 have hc := J0 hop
 have hw : rxW rx = 0 ∨ rxW rx = 1 := hc.2.2.2.2
 have lt : t.length + np = 14 := by rw [hx,yb3,yb2,← hn] at hl; lia
 have hpl : np ≤ 3 := by
  rw [hn]; unfold G5
  cases (wh == 0) <;> cases dat <;> cases decide (rx < 0) <;> simp
 refine CY hT hl ho hpl hop hm he (λ k z => ?_) (λ k r x b mod reg rm sib disp wd e n sz' sc kn B I hmod => ?_)
 ·have goal : gM wh dat rx opc t k = gN wh dat rx k := wH (t := t) hwh hrx hop (hn ▸ lt)
  unfold gM gN at goal
  refine hx.symm ▸ goal.symm ▸ hn ▸ ?_
  exact z
 ·refine hx.symm ▸ ?_
  exact sI hwh hrx hop hn lt hmod
end
end
section
open PySem.Spec
noncomputable def flV : V := .obj 1039 [("cf", .int 0),("pf", .int 0),("af", .int 0),("zf", .int 0),("sf", .int 0),("of", .int 0),("df", .int 0)]
noncomputable def z16 : List Int := [0,0,0,0,0,0,0,0,0,0,0,0,0,0,0,0]
structure Mach where
 es : List (Int × Int)
 R : List Int
 rip : Int
 beg : Int
 b1 : Int
 b2 : Int
noncomputable def g7 (s : Mach) : List MO := [.flds [("iset", .obj 1365 [("forms", .junk),("by_name", .junk),("by_code", .h 1)]),("regs", .h 2),("xmm", .h 3),("flags", flV),("memory", .io 1133 4),(tL,.int s.rip),("begin", .int s.beg),("segments", .h 6),("is_halted", .bool false)],
 .ftm byC,.nums s.R,.nums z16,.flds [("held", .h 5)],.imap s.es,.smap [("fs", .int s.b1),("gs", .int s.b2)]]
noncomputable def dB (es : KF) : List MO := [.flds [("held", .h 1)],.imap es]
noncomputable def T64 : Int := 18446744073709551616
noncomputable def okE (es : KF) : Prop := ∀ p ∈ es,0 ≤ p.2 ∧ p.2 < 256
noncomputable def atM (es : KF) (p : Int) : Int := (s6 es p).getD 0
noncomputable def z6 (es : KF) (p : Int) : Nat → Nat → List Int
 | _,0 => []
 | i,n + 1 => atM es ((p + (i : Int)) % T64) :: z6 es p (i + 1) n
noncomputable def v8 (es : KF) (p : Int) : List Int → Nat → List (Int × Int)
 | [],_ => es
 | a :: xs,i => v8 (Y3 es ((p + (i : Int)) % T64) a) p xs (i + 1)
noncomputable def J1 (es : KF) (p : Int) : List Int → Nat → (List (Int × Int) → Prop) → Prop
 | [],_,K => K es
 | a :: xs,i,K => cond (decide (es.length ≤ 1000000)) (J1 (Y3 es ((p + (i : Int)) % T64) a) p xs (i + 1) K) False
noncomputable def rdG (es : KF) (p : Int) : Nat → Nat → Int → (Int → Prop) → Prop
 | _,0,acc,K => K acc
 | i,n + 1,acc,K => cond (true && s64 (atM es ((p + (i : Int)) % T64))) (rdG es p (i + 1) n (acc + atM es ((p + (i : Int)) % T64) * 256 ^ i) K) False
section
variable {p : Int}
theorem CZ : (g8 e7 100).call v5 [.io 1133 0,.int p,.int 15] (dB es) k = cond (i9 (z6 es p 0 15) && true) (k (.byt (z6 es p 0 15)) (dB es)) False := by kernel_rfl
theorem Da {sz : Int} (h : j6 sz = true) : (g8 e7 100).call B2 [.io 1133 0,.int p,.int (sz / 8)] (dB es) k = rdG es p 0 (sz / 8).toNat 0 (λ v => k (.int v) (dB es)) := by
 rcases f7 h with rfl | rfl | rfl | rfl <;> kernel_rfl
noncomputable def wrL (w : Int) : Nat → Nat → List Int
 | _,0 => []
 | i,n + 1 => Builtin.bitAnd (w / 256 ^ i) 255 :: wrL w (i + 1) n
theorem Db {sz w : Int} (h : j6 sz = true) : (g8 e7 100).call y6 [.io 1133 0,.int p,.int (sz / 8),.int w] (dB es) k = J1 es p (wrL w 0 (sz / 8).toNat) 0 (λ es' => k .none (dB es')) := by
 rcases f7 h with rfl | rfl | rfl | rfl <;> kernel_rfl
end
theorem v6 {x y b : Int} : s6 ((x,y) :: es) b = if x = b then some y else s6 es b := by
 unfold s6
 rw [List.find?_cons]
 by_cases q : x = b
 ·simp [q]
 ·simp [q]
theorem ai {a v b : Int} : ∀ {es : KF},s6 (es.map (λ e => if e.1 = a then (e.1,v) else e)) b = if a = b then (if es.any (λ e => decide (e.1 = a)) then some v else none) else s6 es b
 | [] => by simp [s6]
 | (x,y) :: es => by
  rw [yc8,List.any_cons,v6]
  by_cases q : x = a
  ·subst q
   rw [if_pos rfl,v6,ai]
   by_cases q2 : x = b
   ·simp [q2]
   ·rw [if_neg q2,if_neg q2,if_neg q2,if_neg q2]
  ·rw [if_neg q,v6,ai]
   by_cases q2 : a = b
   ·subst q2; rw [if_neg q,if_pos rfl,if_pos rfl,decide_eq_false q,Bool.false_or]
   ·simp only [if_neg q2]
theorem oa {a v b : Int} : ∀ {es : KF},s6 (es ++ [(a,v)]) b = (s6 es b).or (if a = b then some v else none) := by
 intro es
 induction es with
 | nil =>
  rw [List.nil_append,v6]; simp [s6]
 | cons hd es ih =>
  obtain ⟨x,y⟩ := hd
  rw [List.cons_append,v6,v6,ih]
  split <;> simp
theorem bI {a : Int} : ∀ {es : KF},es.any (λ e => decide (e.1 = a)) = false → s6 es a = none := by
 intro es
 induction es with
 | nil =>
  intro Z
  exact rfl
 | cons hd es ih =>
  obtain ⟨x,y⟩ := hd
  intro h
  rw [List.any_cons,Bool.or_eq_false_iff] at h
  rw [v6,if_neg (of_decide_eq_false h.1),ih h.2]
theorem aj {a v b : Int} : s6 (Y3 es a v) b = if a = b then some v else s6 es b := by
 unfold Y3
 split
 ·rename_i h
  rw [ai,h]; simp
 ·rename_i h
  rw [oa]
  by_cases q : a = b
  ·subst q; rw [bI (Bool.eq_false_iff.mpr h)]; simp
  ·simp [q]
theorem sJ {a v : Int} (h : okE es) (hv : 0 ≤ v ∧ v < 256) : okE (Y3 es a v) := by
 intro p hp
 unfold Y3 at hp
 split at hp
 ·refine a9 (List.mem_map.mp hp) λ e he eR2 => ?_
  subst eR2
  split
  ·exact hv
  ·exact h e he
 ·rcases List.mem_append.mp hp with hp | hp
  ·exact h p hp
  ·rw [List.mem_singleton] at hp; subst hp; exact hv
theorem dC {a v : Int} : (Y3 es a v).length ≤ es.length + 1 := by
 unfold Y3
 split
 ·rw [yb4]; (exact Nat.le_succ _)
 ·rw [yb3]; exact ya7 _
theorem lb {a v : Int} (h : s6 es a = some v) : (a,v) ∈ es := by
 unfold s6 at h
 refine a9 (map_some h) λ e he eR2 => ?_
 subst eR2
 have h1 := List.find?_some he
 have h2 := List.mem_of_find?_eq_some he
 refine (ya3 h1) ▸ ?_
 exact h2
theorem lc (h : okE es) (p : Int) : 0 ≤ atM es p ∧ atM es p < 256 := by
 unfold atM
 cases q : s6 es p with
 | none => exact ⟨by decide,by decide⟩
 | some v => exact h _ (lb q)
theorem ak {p : Int} : ∀ {n i : Nat},(z6 es p i n).length = n := by
 intro n
 induction n with
 | zero =>
  intro Z
  exact rfl
 | succ n ih =>
  intro i
  unfold z6; rw [yb2,ih]
theorem M7 {p : Int} (h : okE es) : ∀ {n i : Nat},i9 (z6 es p i n) = true := by
 intro n
 induction n with
 | zero =>
  intro Z
  exact rfl
 | succ n ih =>
  intro i
  unfold z6 i9
  rw [List.all_cons]
  have := lc h ((p + (i : Int)) % T64)
  have r : (z6 es p (i + 1) n).all _ = true := ih
  rw [r]
  simp only [Bool.and_true,ya4,ya5]
  exact this
theorem dD {p : Int} {K : List (Int × Int) → Prop} : ∀ {xs : KM} {es : KF} {i : Nat},es.length + xs.length ≤ 1000000 → K (v8 es p xs i) → J1 es p xs i K := by
 intro xs
 induction xs with
 | nil =>
  intro Z Z Z h
  exact h
 | cons a xs ih =>
  intro es i hl h
  rw [yb2] at hl
  refine c8 (ya2 (by exact ya6 (yb7 _ _) (by assumption))) (ih (ya6 (yc2 dC _) (by lia)) h)
theorem dE {p : Int} : ∀ {xs : KM} {es : KF} {i : Nat},(v8 es p xs i).length ≤ es.length + xs.length := by
 intro xs
 induction xs with
 | nil =>
  intro Z Z
  exact ya7 _
 | cons a xs ih =>
  intro es i
  unfold v8
  rw [yb2]
  exact ya6 ih (ya6 (yc2 dC _) (by lia))
theorem eV {p : Int} : ∀ {xs : KM} {es : KF} {i : Nat},okE es → i9 xs = true → okE (v8 es p xs i) := by
 intro xs
 induction xs with
 | nil =>
  intro Z Z h Z
  exact h
 | cons a xs ih =>
  intro es i h ho
  unfold i9 at ho
  rw [List.all_cons,ya4] at ho
  unfold v8
  refine ih (sJ h ?_) ho.2
  simpa using ho.1
theorem wJ {p : Int} (h : okE es) {K : Int → Prop} : ∀ {n i : Nat} {acc : Int},K (acc + 256 ^ i * leU (z6 es p i n)) → rdG es p i n acc K := by
 intro n
 induction n with
 | zero =>
  intro i acc z
  unfold z6 leU at z; rw [Int.mul_zero,Int.add_zero] at z; exact z
 | succ n ih =>
  intro i acc z
  have := lc h ((p + (i : Int)) % T64)
  refine c8 ?_ (ih ?_)
  ·rw [I8 this]; rfl
  ·unfold z6 leU at z
   rw [Int.mul_add,← Int.mul_assoc,← Int.add_assoc] at z
   rw [Int.pow_succ,Int.mul_comm (atM _ _)]
   exact z
noncomputable def liO (w : Int) : Nat → Nat → List Int
 | _,0 => []
 | i,n + 1 => w / 256 ^ i % 256 :: liO w (i + 1) n
theorem wK {w : Int} : ∀ {n i : Nat},wrL w i n = liO w i n := by
 intro n
 induction n with
 | zero =>
  intro Z
  exact rfl
 | succ n ih =>
  intro i
  unfold wrL liO
  refine ih ▸ ?_
  have := R9 (w / 256 ^ i) 8
  rw [show ((2 : Int) ^ 8 - 1) = 255 from rfl,show ((2 : Int) ^ 8) = 256 from rfl] at this
  exact this ▸ rfl
theorem r6 {w : Int} : ∀ {n i : Nat},(liO w i n).length = n := by
 intro n
 induction n with
 | zero =>
  intro Z
  exact rfl
 | succ n ih =>
  intro i
  unfold liO; rw [yb2,ih]
theorem S4 {w : Int} : ∀ {n i : Nat},i9 (liO w i n) = true := by
 intro n
 induction n with
 | zero =>
  intro Z
  exact rfl
 | succ n ih =>
  intro i
  unfold liO i9
  refine List.all_cons.symm ▸ ?_
  have r : (liO w (i + 1) n).all _ = true := ih
  refine r.symm ▸ ?_
  have h1 := Int.emod_nonneg (w / 256 ^ i) (show (256 : Int) ≠ 0 by decide)
  have h2 := Int.emod_lt_of_pos (w / 256 ^ i) (show (0 : Int) < 256 by decide)
  simp only [Bool.and_true,ya4,ya5]
  exact ⟨h1,h2⟩
end
section
open PySem.Spec
noncomputable def Mach.rv (s : Mach) : RegS → Int
 | .no => 0
 | .rip => s.rip
 | .gpr n => s.R.getD n.toNat 0 % T64
noncomputable def RegS.ok : RegS → Prop
 | .gpr n => 0 ≤ n ∧ n ≤ 15
 | _ => True
noncomputable def Mach.ok (s : Mach) : Prop := s.R.length = 16 ∧ okE s.es ∧ s.es.length ≤ 900000
noncomputable def RegS.isRip : RegS → Bool
 | .rip => true
 | _ => false
noncomputable def lP (s : Mach) (B I : RegS) (sc wo : Int) : Int := (wo + s.rv B + s.rv I * sc) % T64
noncomputable def wL (s : Mach) (B I : RegS) (sc wo sz : Int) (sg : Str) : LE := ⟨y7,[.io 1250 0,r5 (.fz B.V) (.fz I.V) sc wo sz sg],g7 s,.int (lP s B I sc wo),g7 s⟩
noncomputable def zB (s : Mach) (wh : Int) : Int := cond (wh == 0) 0 (cond (wh == 1) s.b1 s.b2)
noncomputable def W8 (s : Mach) (B I : RegS) (sc wo wh : Int) : Int := (lP s B I sc wo + zB s wh) % T64
noncomputable def tM (s : Mach) (B I : RegS) (sc wo sz wh : Int) : LE := ⟨u6,[.io 1250 0,r5 (.fz B.V) (.fz I.V) sc wo sz (H0 wh)],g7 s,.int (W8 s B I sc wo wh),g7 s⟩
section
variable {s : Mach} {n i sc wo sz : Int} {sg : Str}
theorem p7 {R : KM} (h : R.length = 16) {n : Int} (h0 : 0 ≤ n) (h1 : n ≤ 15) : inB n R.length = true := by
 unfold inB
 rw [h,ya2 h0,ya2 (by lia),ya2 (by lia)]; rfl
noncomputable def S5 (s : Mach) (B I : V) (sc wo sz : Int) (sg : Str) (k : KC) : Prop := (g8 e7 100).call y7 [.io 1250 0,r5 (.fz B) (.fz I) sc wo sz sg] (g7 s) k
noncomputable def gR (s : Mach) (n : Int) : Int := s.R.getD n.toNat 0 % T64
theorem wM : S5 s .none .none sc wo sz sg k = k (.int (wo % T64)) (g7 s) := by unfold S5; kernel_rfl
theorem wN : S5 s (l9 tL 0 64) .none sc wo sz sg k = k (.int ((wo + s.rip) % T64)) (g7 s) := by unfold S5; kernel_rfl
theorem wO : S5 s (l9 z8 n 64) .none sc wo sz sg k = cond (inB n s.R.length) (k (.int ((wo + gR s n) % T64)) (g7 s)) False := by unfold S5; kernel_rfl
theorem wP : S5 s .none (l9 z8 i 64) sc wo sz sg k = cond (inB i s.R.length) (cond (s64 (gR s i) || s64 sc) (k (.int ((wo + gR s i * sc) % T64)) (g7 s)) False) False := by unfold S5; kernel_rfl
theorem wQ : S5 s (l9 z8 n 64) (l9 z8 i 64) sc wo sz sg k = cond (inB n s.R.length) (cond (inB i s.R.length) (cond (s64 (gR s i) || s64 sc) (k (.int ((wo + gR s n + gR s i * sc) % T64)) (g7 s)) False) False) False := by unfold S5; kernel_rfl
theorem wR (hT : TabOK X e7) (hs : s.ok) {B I : RegS} (hB : B.ok) (hI : I.ok) (hr : I.isRip = false) (hx : B.isRip = true → I = .no) (hsc : s64 sc = true) : (wL s B I sc wo sz sg).Ok X 100 := by
 refine LE.of0 (m := 100) hT (ya7 _) λ k z => ?_
 refine (?_ : S5 s B.V I.V sc wo sz sg k)
 have z : k (.int ((wo + s.rv B + s.rv I * sc) % T64)) (g7 s) := z
 have hc : (s64 (s.rv I) || s64 sc) = true := by rw [hsc]; simp
 cases B with
 | no =>
  cases I with
  | no =>
   refine (?_ : S5 s .none .none sc wo sz sg k)
   rw [wM]
   have e : wo + s.rv .no + s.rv .no * sc = wo := by show wo + 0 + 0 * sc = wo; lia
   rw [e] at z; exact z
  | rip => cases hr
  | gpr i =>
   refine (?_ : S5 s .none (l9 z8 i 64) sc wo sz sg k)
   rw [wP]
   have e : wo + s.rv .no = wo := by show wo + 0 = wo; lia
   rw [e] at z
   exact c8 (p7 hs.1 hI.1 hI.2) (c8 hc z)
 | rip =>
  cases hx rfl
  refine (?_ : S5 s (l9 tL 0 64) .none sc wo sz sg k)
  rw [wN]
  have e : wo + s.rv .rip + s.rv .no * sc = wo + s.rip := by show wo + s.rip + 0 * sc = wo + s.rip; lia
  rw [e] at z; exact z
 | gpr n =>
  cases I with
  | no =>
   refine (?_ : S5 s (l9 z8 n 64) .none sc wo sz sg k)
   rw [wO]
   have e : wo + s.rv (.gpr n) + s.rv .no * sc = wo + gR s n := by show wo + gR s n + 0 * sc = wo + gR s n; lia
   rw [e] at z
   exact c8 (p7 hs.1 hB.1 hB.2) z
  | rip => cases hr
  | gpr i =>
   refine (?_ : S5 s (l9 z8 n 64) (l9 z8 i 64) sc wo sz sg k)
   rw [wQ]
   exact c8 (p7 hs.1 hB.1 hB.2) (c8 (p7 hs.1 hI.1 hI.2) (c8 hc z))
noncomputable def leC : List LE → Prop → Prop
 | [],P => P
 | e :: r,P => e.A = e.A ∧ e.S = e.S ∧ leC r P
theorem K4 {P : Prop} {l : List LE} (p : P) : leC l P := by
 induction l with
 | nil => exact p
 | cons a l ih => exact ⟨rfl,rfl,ih⟩
noncomputable def tN (s : Mach) (B I : V) (sc wo sz : Int) (sg : Str) (o : Int) : LE := ⟨y7,[.io 1250 0,r5 (.fz B) (.fz I) sc wo sz sg],g7 s,.int o,g7 s⟩
theorem Dc {wh o : Int} {B I : V} (hw : B9 wh) : (g8 (tbL e7 100 [tN s B I sc wo sz (H0 wh) o]) 120).call u6 [.io 1250 0,r5 (.fz B) (.fz I) sc wo sz (H0 wh)] (g7 s) k = leC [tN s B I sc wo sz (H0 wh) o] (k (.int ((o + zB s wh) % T64)) (g7 s)) := by
 rcases hw with rfl | rfl | rfl <;> kernel_rfl
theorem wS (hT : TabOK X e7) {B I : RegS} {wh : Int} (hw : B9 wh) (ho : (wL s B I sc wo sz (H0 wh)).Ok X 100) : (tM s B I sc wo sz wh).Ok X 120 := by
 refine LE.of0 (m := 120) (TabOK.tbL hT (n := 100) (P := [wL s B I sc wo sz (H0 wh)]) ?_ ?_) (ya7 _) λ k z => ?_
 ·kernel_rfl
 ·intro p hp
  rw [List.mem_singleton] at hp
  subst hp; exact ho
 ·refine (?_ : (g8 (tbL e7 100 [tN s B.V I.V sc wo sz (H0 wh) (lP s B I sc wo)]) 120).call u6 [.io 1250 0,r5 (.fz B.V) (.fz I.V) sc wo sz (H0 wh)] (g7 s) k)
  rw [Dc hw]
  exact K4 z
end
end
section
open PySem.Spec
noncomputable def hiV (hi : Bool) (n sz : Int) : V := l9 (cond hi z5 z8) n sz
noncomputable def rdR (R : KM) (hi : Bool) (n sz : Int) : Int := cond hi (R.getD (n - 4).toNat 0 / 256 % 256) (R.getD n.toNat 0 % 2 ^ sz.toNat)
noncomputable def bK (R : KM) (hi : Bool) (n sz w : Int) : List Int :=
 cond hi (R.set (n - 4).toNat (R.getD (n - 4).toNat 0 + (w % 256 - R.getD (n - 4).toNat 0 / 256 % 256) * 256))
  (cond (decide (32 ≤ sz)) (R.set n.toNat (w % 2 ^ sz.toNat)) (R.set n.toNat (R.getD n.toNat 0 - R.getD n.toNat 0 % 2 ^ sz.toNat + w % 2 ^ sz.toNat)))
noncomputable def lQ (hi : Bool) (n sz : Int) : Prop := j6 sz = true ∧ 0 ≤ n ∧ n ≤ 15 ∧ (hi = true → sz = 8 ∧ 4 ≤ n ∧ n ≤ 7)
noncomputable def Mach.setR (s : Mach) (R : KM) : Mach := ⟨s.es,R,s.rip,s.beg,s.b1,s.b2⟩
noncomputable def Mach.setE (s : Mach) (es : KF) : Mach := ⟨es,s.R,s.rip,s.beg,s.b1,s.b2⟩
noncomputable def BJ (s : Mach) (hi : Bool) (n sz : Int) : LE := ⟨j4,[.io 1250 0,aq (hiV hi n sz),.int sz],g7 s,.int (rdR s.R hi n sz),g7 s⟩
noncomputable def BK (s : Mach) (B I : RegS) (sc wo wh sz : Int) : LE := ⟨j4,[.io 1250 0,r5 (.fz B.V) (.fz I.V) sc wo sz (H0 wh),.int sz],g7 s,.int (leU (z6 s.es (W8 s B I sc wo wh) 0 (sz / 8).toNat)),g7 s⟩
noncomputable def BL (s : Mach) (hi : Bool) (n sz w : Int) : LE := ⟨i7,[.io 1250 0,aq (hiV hi n sz),.int sz,.int w],g7 s,.none,g7 (s.setR (bK s.R hi n sz w))⟩
noncomputable def BM (s : Mach) (B I : RegS) (sc wo wh sz w : Int) : LE := ⟨i7,[.io 1250 0,r5 (.fz B.V) (.fz I.V) sc wo sz (H0 wh),.int sz,.int w],g7 s,.none,g7 (s.setE (v8 s.es (W8 s B I sc wo wh) (liO w 0 (sz / 8).toNat) 0))⟩
noncomputable def wT (s : Mach) (hi : Bool) (n sz w : Int) : LE := ⟨q9,[.io 1250 0,hiV hi n sz,.int w],g7 s,.none,g7 (s.setR (bK s.R hi n sz w))⟩
section
variable {s : Mach} {n i sc wo sz w : Int} {sg : Str} {hi : Bool}
noncomputable def g4 (s : Mach) (n : Int) : Int := s.R.getD (n - 4).toNat 0
noncomputable def g0 (s : Mach) (n : Int) : Int := s.R.getD n.toNat 0
noncomputable def cR (s : Mach) (n : Int) (P : Prop) : Prop := cond (inB n s.R.length) P False
theorem Dd : (g8 e7 100).call j4 [.io 1250 0,aq (l9 z5 n 8),.int 8] (g7 s) k = cR s (n - 4) (k (.int (g4 s n / 256 % 256 % 256)) (g7 s)) := by kernel_rfl
theorem De (h : j6 sz = true) : (g8 e7 100).call j4 [.io 1250 0,aq (l9 z8 n sz),.int sz] (g7 s) k = cR s n (k (.int (g0 s n % 2 ^ sz.toNat % 2 ^ sz.toNat)) (g7 s)) := by
 rcases f7 h with rfl | rfl | rfl | rfl <;> kernel_rfl
theorem zC : (g8 e7 100).call q9 [.io 1250 0,l9 z5 n 8,.int w] (g7 s) k = cR s (n - 4) (cond (true && s64 (w % 256 - g4 s n / 256 % 256)) (cR s (n - 4) (k .none (g7 (s.setR (bK s.R true n 8 w))))) False) := by kernel_rfl
theorem zD (h : j6 sz = true) : (g8 e7 100).call q9 [.io 1250 0,l9 z8 n sz,.int w] (g7 s) k = cR s n (cR s n (k .none (g7 (s.setR (bK s.R false n sz w))))) := by
 rcases f7 h with rfl | rfl | rfl | rfl <;> kernel_rfl
theorem Df : (g8 e7 100).call i7 [.io 1250 0,aq (l9 z5 n 8),.int 8,.int w] (g7 s) k = cR s (n - 4) (cond (true && s64 (w % 256 - g4 s n / 256 % 256)) (cR s (n - 4) (k .none (g7 (s.setR (bK s.R true n 8 w))))) False) := by kernel_rfl
theorem Dg (h : j6 sz = true) : (g8 e7 100).call i7 [.io 1250 0,aq (l9 z8 n sz),.int sz,.int w] (g7 s) k = cR s n (cR s n (k .none (g7 (s.setR (bK s.R false n sz w))))) := by
 rcases f7 h with rfl | rfl | rfl | rfl <;> kernel_rfl
theorem U3 {P : Prop} (hs : s.ok) (h0 : 0 ≤ n) (h1 : n ≤ 15) (p : P) : cR s n P := c8 (p7 hs.1 h0 h1) p
theorem pR {a b : Int} : (true && s64 (a % 256 - b / 256 % 256)) = true := by
 unfold s64
 rw [Bool.true_and]
 exact ya2 (by lia)
theorem wU (hT : TabOK X e7) (hs : s.ok) (hh : lQ hi n sz) : (BJ s hi n sz).Ok X 100 := by
 refine LE.of0 (m := 100) hT (ya7 _) λ k z => ?_
 refine L7 (hh) λ h1 h2 h3 h4 => ?_
 induction hi using Bool.casesOn with
 | true =>
  refine C2 (h4 rfl) λ eR0 h5 h6 => ?_
  subst eR0
  refine (?_ : (g8 e7 100).call j4 [.io 1250 0,aq (l9 z5 n 8),.int 8] (g7 s) k)
  rw [Dd]
  refine U3 hs (by lia) (by lia) ?_
  rw [Int.emod_emod_of_dvd _ (Int.dvd_refl _)]
  exact z
 | false =>
  refine (?_ : (g8 e7 100).call j4 [.io 1250 0,aq (l9 z8 n sz),.int sz] (g7 s) k)
  rw [De h1]
  refine U3 hs (by omega) (by omega) ?_
  rw [Int.emod_emod_of_dvd _ (Int.dvd_refl _)]
  exact z
theorem wV (hT : TabOK X e7) (hs : s.ok) (hh : lQ hi n sz) : (wT s hi n sz w).Ok X 100 := by
 refine LE.of0 (m := 100) hT (ya7 _) λ k z => ?_
 refine L7 (hh) λ h1 h2 h3 h4 => ?_
 induction hi using Bool.casesOn with
 | true =>
  refine C2 (h4 rfl) λ eR0 h5 h6 => ?_
  subst eR0
  refine (?_ : (g8 e7 100).call q9 [.io 1250 0,l9 z5 n 8,.int w] (g7 s) k)
  rw [zC]
  exact U3 hs (by lia) (by lia) (c8 pR (U3 hs (by lia) (by lia) z))
 | false =>
  refine (?_ : (g8 e7 100).call q9 [.io 1250 0,l9 z8 n sz,.int w] (g7 s) k)
  rw [zD h1]
  exact U3 hs (by omega) (by omega) (U3 hs (by omega) (by omega) z)
theorem wW (hT : TabOK X e7) (hs : s.ok) (hh : lQ hi n sz) : (BL s hi n sz w).Ok X 100 := by
 refine LE.of0 (m := 100) hT (ya7 _) λ k z => ?_
 refine L7 (hh) λ h1 h2 h3 h4 => ?_
 induction hi using Bool.casesOn with
 | true =>
  refine C2 (h4 rfl) λ eR0 h5 h6 => ?_
  subst eR0
  refine (?_ : (g8 e7 100).call i7 [.io 1250 0,aq (l9 z5 n 8),.int 8,.int w] (g7 s) k)
  rw [Df]
  exact U3 hs (by lia) (by lia) (c8 pR (U3 hs (by lia) (by lia) z))
 | false =>
  refine (?_ : (g8 e7 100).call i7 [.io 1250 0,aq (l9 z8 n sz),.int sz,.int w] (g7 s) k)
  rw [Dg h1]
  exact U3 hs (by omega) (by omega) (U3 hs (by omega) (by omega) z)
noncomputable def tO (s : Mach) (B I : V) (sc wo sz p : Int) (sg : Str) : LE := ⟨u6,[.io 1250 0,r5 (.fz B) (.fz I) sc wo sz sg],g7 s,.int p,g7 s⟩
noncomputable def wX (es : KF) (p sz : Int) : LE := ⟨B2,[.io 1133 0,.int p,.int (sz / 8)],dB es,.int (leU (z6 es p 0 (sz / 8).toNat)),dB es⟩
noncomputable def wY (es : KF) (p sz w : Int) : LE := ⟨y6,[.io 1133 0,.int p,.int (sz / 8),.int w],dB es,.none,dB (v8 es p (liO w 0 (sz / 8).toNat) 0)⟩
theorem wZ (hT : TabOK X e7) {p : Int} (he : okE es) (h : j6 sz = true) : (wX es p sz).Ok X 100 := by
 refine LE.of0 (m := 100) hT (ya7 _) λ k z => ?_
 refine (?_ : (g8 e7 100).call B2 [.io 1133 0,.int p,.int (sz / 8)] (dB es) k)
 rw [Da h]
 refine wJ he ?_
 rw [Int.pow_zero,Int.one_mul,Int.zero_add]
 exact z
theorem xa (hT : TabOK X e7) {p : Int} (he : es.length ≤ 900000) (h : j6 sz = true) : (wY es p sz w).Ok X 100 := by
 refine LE.of0 (m := 100) hT (ya7 _) λ k z => ?_
 refine (?_ : (g8 e7 100).call y6 [.io 1133 0,.int p,.int (sz / 8),.int w] (dB es) k)
 rw [Db h,wK]
 refine dD ?_ z
 refine r6.symm ▸ ?_
 rcases f7 h with rfl | rfl | rfl | rfl
 ·exact ya6 (yc2 he 1) (by decide)
 ·exact ya6 (yc2 he 2) (by decide)
 ·exact ya6 (yc2 he 4) (by decide)
 ·exact ya6 (yc2 he 8) (by decide)
theorem Dh {p : Int} {B I : V} (h : j6 sz = true) : (g8 (tbL e7 120 [tO s B I sc wo sz p sg,wX s.es p sz]) 140).call j4 [.io 1250 0,r5 (.fz B) (.fz I) sc wo sz sg,.int sz] (g7 s) k =
  leC [tO s B I sc wo sz p sg,wX s.es p sz] (k (.int (leU (z6 s.es p 0 (sz / 8).toNat))) (g7 s)) := by
 rcases f7 h with rfl | rfl | rfl | rfl <;> kernel_rfl
theorem Di {p : Int} {B I : V} (h : j6 sz = true) : (g8 (tbL e7 120 [tO s B I sc wo sz p sg,wY s.es p sz w]) 140).call i7 [.io 1250 0,r5 (.fz B) (.fz I) sc wo sz sg,.int sz,.int w] (g7 s) k =
  leC [tO s B I sc wo sz p sg,wY s.es p sz w] (k .none (g7 (s.setE (v8 s.es p (liO w 0 (sz / 8).toNat) 0)))) := by
 rcases f7 h with rfl | rfl | rfl | rfl <;> kernel_rfl
theorem LE.mono {e : LE} {a b : Nat} (h : e.Ok X a) (hab : a ≤ b) : e.Ok X b := λ k z => M3 (h k z) hab
theorem xb (hT : TabOK X e7) (hs : s.ok) {B I : RegS} {wh : Int} (h : j6 sz = true) (hp : (tM s B I sc wo sz wh).Ok X 120) : (BK s B I sc wo wh sz).Ok X 140 := by
 refine LE.of0 (m := 140) (TabOK.tbL hT (n := 120) (P := [tM s B I sc wo sz wh,wX s.es (W8 s B I sc wo wh) sz]) ?_ ?_) (ya7 _) λ k z => ?_
 ·kernel_rfl
 ·intro p q
  rcases List.mem_cons.mp q with rfl | q
  ·exact hp
  ·rw [List.mem_singleton] at q
   subst q
   exact LE.mono (wZ hT hs.2.1 h) (by decide)
 ·refine (?_ : (g8 (tbL e7 120 [tO s B.V I.V sc wo sz (W8 s B I sc wo wh) (H0 wh),wX s.es (W8 s B I sc wo wh) sz]) 140).call j4 [.io 1250 0,r5 (.fz B.V) (.fz I.V) sc wo sz (H0 wh),.int sz] (g7 s) k)
  rw [Dh h]
  exact K4 z
theorem xc (hT : TabOK X e7) (hs : s.ok) {B I : RegS} {wh : Int} (h : j6 sz = true) (hp : (tM s B I sc wo sz wh).Ok X 120) : (BM s B I sc wo wh sz w).Ok X 140 := by
 refine LE.of0 (m := 140) (TabOK.tbL hT (n := 120) (P := [tM s B I sc wo sz wh,wY s.es (W8 s B I sc wo wh) sz w]) ?_ ?_) (ya7 _) λ k z => ?_
 ·kernel_rfl
 ·intro p q
  rcases List.mem_cons.mp q with rfl | q
  ·exact hp
  ·rw [List.mem_singleton] at q
   subst q
   exact LE.mono (xa hT hs.2.2 h) (by decide)
 ·refine (?_ : (g8 (tbL e7 120 [tO s B.V I.V sc wo sz (W8 s B I sc wo wh) (H0 wh),wY s.es (W8 s B I sc wo wh) sz w]) 140).call i7 [.io 1250 0,r5 (.fz B.V) (.fz I.V) sc wo sz (H0 wh),.int sz,.int w] (g7 s) k)
  rw [Di h]
  exact K4 z
end
end
section
open PySem.Spec
section
variable {s s' : Mach} {n i sc wo sz w : Int} {sg kn : Str} {hi : Bool} {B I : V} {b : Bool}
noncomputable def zE (s : Mach) (R : V) (w : Int) (s' : Mach) : LE := ⟨q9,[.io 1250 0,R,.int w],g7 s,.none,g7 s'⟩
noncomputable def rdX (s : Mach) (Gp : V) (sz w : Int) : LE := ⟨j4,[.io 1250 0,Gp,.int sz],g7 s,.int w,g7 s⟩
noncomputable def wrX (s : Mach) (Gp : V) (sz w : Int) (s' : Mach) : LE := ⟨i7,[.io 1250 0,Gp,.int sz,.int w],g7 s,.none,g7 s'⟩
theorem Dj : (g8 (tbL e7 140 [tN s B I sc wo 0 sg w,zE s (l9 kn n sz) w s']) 160).call l7 [.io 1250 0,ic 141 (l9 kn n sz) (r5 (.fz B) (.fz I) sc wo 0 sg)] (g7 s) k =
  leC [tN s B I sc wo 0 sg w,zE s (l9 kn n sz) w s'] (k (.bool true) (g7 s')) := by kernel_rfl
noncomputable def lf (opc : Int) : Prop := opc = 138 ∨ opc = 139
noncomputable def dF (opc : Int) : Prop := opc = 136 ∨ opc = 137
theorem vLd {opc : Int} (ho : lf opc) (h : j6 sz = true) : (g8 (tbL e7 140 [rdX s (r5 (.fz B) (.fz I) sc wo sz sg) sz w,wrX s (aq (l9 kn n sz)) sz w s']) 160).call l7 [.io 1250 0,ic opc (l9 kn n sz) (r5 (.fz B) (.fz I) sc wo sz sg)] (g7 s) k =
  leC [rdX s (r5 (.fz B) (.fz I) sc wo sz sg) sz w,wrX s (aq (l9 kn n sz)) sz w s'] (k (.bool true) (g7 s')) := by
 rcases ho with rfl | rfl <;> rcases f7 h with rfl | rfl | rfl | rfl <;> kernel_rfl
theorem vSt {opc : Int} (ho : dF opc) (h : j6 sz = true) : (g8 (tbL e7 140 [rdX s (aq (l9 kn n sz)) sz w,wrX s (r5 (.fz B) (.fz I) sc wo sz sg) sz w s']) 160).call l7 [.io 1250 0,ic opc (l9 kn n sz) (r5 (.fz B) (.fz I) sc wo sz sg)] (g7 s) k =
  leC [rdX s (aq (l9 kn n sz)) sz w,wrX s (r5 (.fz B) (.fz I) sc wo sz sg) sz w s'] (k (.bool true) (g7 s')) := by
 rcases ho with rfl | rfl <;> rcases f7 h with rfl | rfl | rfl | rfl <;> kernel_rfl
noncomputable def zF (s : Mach) (xs : KM) : LE := ⟨v5,[.io 1133 0,.int s.rip,.int 15],dB s.es,.byt xs,dB s.es⟩
noncomputable def Dk (xs : KM) (I : V) (e : Int) : LE := ⟨ae,[sF,.byt xs],[.ftm byC],wC I e,[.ftm byC]⟩
noncomputable def Mach.next (s : Mach) (e : Int) : Mach := ⟨s.es,s.R,(s.rip + e) % T64,s.rip,s.b1,s.b2⟩
noncomputable def mvE (s : Mach) (opc : Int) (R M : V) (s' : Mach) : LE := ⟨l7,[.io 1250 0,ic opc R M],g7 s,.bool true,g7 s'⟩
noncomputable def xd (opc : Int) : Prop := dF opc ∨ lf opc ∨ opc = 141
noncomputable def xe (s : Mach) (opc : Int) (xs : KM) (R M : V) (e : Int) (s' : Mach) : List LE := [zF s xs,Dk xs (ic opc R M) e,mvE (s.next e) opc R M s']
theorem zG {opc e ms : Int} (ho : xd opc) : (g8 (tbL e7 200 (xe s opc xs (l9 kn n sz) (r5 (.fz B) (.fz I) sc wo ms sg) e s')) 220).call bw [.io 1250 0,.lst [.val (.ref l7)]] (g7 s) k =
  leC (xe s opc xs (l9 kn n sz) (r5 (.fz B) (.fz I) sc wo ms sg) e s') (k (wC (ic opc (l9 kn n sz) (r5 (.fz B) (.fz I) sc wo ms sg)) e) (g7 s')) := by
 rcases ho with (rfl | rfl) | (rfl | rfl) | rfl <;> kernel_rfl
end
end
section
open PySem.Spec
noncomputable def mvZ (s : Mach) (opc : Int) (hi : Bool) (n sz : Int) (B I : RegS) (sc wo wh : Int) : Mach :=
 cond (opc == 141) (s.setR (bK s.R hi n sz (lP s B I sc wo)))
  (cond (decide (opc < 138)) (s.setE (v8 s.es (W8 s B I sc wo wh) (liO (rdR s.R hi n sz) 0 (sz / 8).toNat) 0))
   (s.setR (bK s.R hi n sz (leU (z6 s.es (W8 s B I sc wo wh) 0 (sz / 8).toNat)))))
section
variable {s : Mach} {n sc wo sz : Int} {hi : Bool}
theorem lg {opc : Int} {dat : Bool} {w sz : Int} (h : eT opc dat w sz) : dF opc ∨ lf opc ∨ (opc = 141 ∧ sz ≠ 8) := by
 have k : ∀ q ∈ ([(136,false,0,8),(138,false,0,8),(137,true,0,16),(139,true,0,16),(141,true,0,16),(137,false,0,32),(139,false,0,32),(141,false,0,32),(137,false,1,64),(139,false,1,64),(141,false,1,64)] : List (Int × Bool × Int × Int)),(q.1 = 136 ∨ q.1 = 137) ∨ (q.1 = 138 ∨ q.1 = 139) ∨ (q.1 = 141 ∧ q.2.2.2 ≠ 8) := by decide
 exact k _ h
theorem lh {n : Nat} {a b : LE} (ha : a.Ok X n) (hb : b.Ok X n) : ∀ p ∈ [a,b],p.Ok X n := by
 intro p q
 rcases List.mem_cons.mp q with rfl | q
 ·exact ha
 ·rw [List.mem_singleton] at q
  subst q; exact hb
theorem sK (hT : TabOK X e7) (hs : s.ok) {opc w wh : Int} {dat : Bool} {B I : RegS} (hop : eT opc dat w sz) (hh : lQ hi n sz) (hw : B9 wh) (hB : B.ok) (hI : I.ok) (hr : I.isRip = false) (hx : B.isRip = true → I = .no) (hsc : s64 sc = true) :
  (mvE s opc (hiV hi n sz) (r5 (.fz B.V) (.fz I.V) sc wo (M6 opc sz) (H0 wh)) (mvZ s opc hi n sz B I sc wo wh)).Ok X 160 := by
 have off : ∀ sz,(wL s B I sc wo sz (H0 wh)).Ok X 100 := λ Z => wR hT hs hB hI hr hx hsc
 have plc : ∀ sz,(tM s B I sc wo sz wh).Ok X 120 := λ sz => wS hT hw (off sz)
 rcases lg hop with ho | ho | ⟨rfl,h8⟩
 ·have e1 : M6 opc sz = sz := by rcases ho with rfl | rfl <;> rfl
  have e2 : mvZ s opc hi n sz B I sc wo wh = s.setE (v8 s.es (W8 s B I sc wo wh) (liO (rdR s.R hi n sz) 0 (sz / 8).toNat) 0) := by rcases ho with rfl | rfl <;> rfl
  refine e1.symm ▸ e2.symm ▸ ?_
  refine LE.of0 (m := 160) (TabOK.tbL hT (n := 140) (P := [BJ s hi n sz,BM s B I sc wo wh sz (rdR s.R hi n sz)]) (by kernel_rfl) (lh (LE.mono (wU hT hs hh) (by decide)) (xc hT hs hh.1 (plc sz)))) (ya7 _) λ k z => ?_
  refine (?_ : (g8 (tbL e7 140 [rdX s (aq (l9 (cond hi z5 z8) n sz)) sz (rdR s.R hi n sz),wrX s (r5 (.fz B.V) (.fz I.V) sc wo sz (H0 wh)) sz (rdR s.R hi n sz) (s.setE (v8 s.es (W8 s B I sc wo wh) (liO (rdR s.R hi n sz) 0 (sz / 8).toNat) 0))]) 160).call l7 [.io 1250 0,ic opc (l9 (cond hi z5 z8) n sz) (r5 (.fz B.V) (.fz I.V) sc wo sz (H0 wh))] (g7 s) k)
  rw [vSt ho hh.1]
  exact K4 z
 ·have e1 : M6 opc sz = sz := by rcases ho with rfl | rfl <;> rfl
  have e2 : mvZ s opc hi n sz B I sc wo wh = s.setR (bK s.R hi n sz (leU (z6 s.es (W8 s B I sc wo wh) 0 (sz / 8).toNat))) := by rcases ho with rfl | rfl <;> rfl
  refine e1.symm ▸ e2.symm ▸ ?_
  refine LE.of0 (m := 160) (TabOK.tbL hT (n := 140) (P := [BK s B I sc wo wh sz,BL s hi n sz (leU (z6 s.es (W8 s B I sc wo wh) 0 (sz / 8).toNat))]) (by kernel_rfl) (lh (xb hT hs hh.1 (plc sz)) (LE.mono (wW hT hs hh) (by decide)))) (ya7 _) λ k z => ?_
  refine (?_ : (g8 (tbL e7 140 [rdX s (r5 (.fz B.V) (.fz I.V) sc wo sz (H0 wh)) sz (leU (z6 s.es (W8 s B I sc wo wh) 0 (sz / 8).toNat)),wrX s (aq (l9 (cond hi z5 z8) n sz)) sz (leU (z6 s.es (W8 s B I sc wo wh) 0 (sz / 8).toNat)) (s.setR (bK s.R hi n sz (leU (z6 s.es (W8 s B I sc wo wh) 0 (sz / 8).toNat))))]) 160).call l7 [.io 1250 0,ic opc (l9 (cond hi z5 z8) n sz) (r5 (.fz B.V) (.fz I.V) sc wo sz (H0 wh))] (g7 s) k)
  rw [vLd ho hh.1]
  exact K4 z
 ·refine LE.of0 (m := 160) (TabOK.tbL hT (n := 140) (P := [wL s B I sc wo 0 (H0 wh),wT s hi n sz (lP s B I sc wo)]) (by kernel_rfl) (lh (LE.mono (off 0) (by decide)) (LE.mono (wV hT hs hh) (by decide)))) (ya7 _) λ k z => ?_
  refine (?_ : (g8 (tbL e7 140 [tN s B.V I.V sc wo 0 (H0 wh) (lP s B I sc wo),zE s (l9 (cond hi z5 z8) n sz) (lP s B I sc wo) (s.setR (bK s.R hi n sz (lP s B I sc wo)))]) 160).call l7 [.io 1250 0,ic 141 (l9 (cond hi z5 z8) n sz) (r5 (.fz B.V) (.fz I.V) sc wo 0 (H0 wh))] (g7 s) k)
  rw [Dj]
  exact K4 z
theorem xf (hT : TabOK X e7) (hs : s.ok) : (zF s (z6 s.es s.rip 0 15)).Ok X 100 := by
 refine LE.of0 (m := 100) hT (ya7 _) λ k z => ?_
 refine (?_ : (g8 e7 100).call v5 [.io 1133 0,.int s.rip,.int 15] (dB s.es) k)
 rw [CZ]
 refine c8 ?_ z
 rw [M7 hs.2.1]; rfl
noncomputable def BN (e : Int) : V := .obj 799 [("instruction", .junk),("length", .int e),("form", .junk),("prefixes", .junk)]
noncomputable def yh (s : Mach) (e : Int) (s' : Mach) : LE := ⟨bw,[.io 1250 0,.lst [.val (.ref l7)]],g7 s,BN e,g7 s'⟩
theorem ob {opc : Int} {dat : Bool} {w sz : Int} (h : eT opc dat w sz) : xd opc := by
 rcases lg h with h | h | h
 ·exact .inl h
 ·exact .inr (.inl h)
 ·exact .inr (.inr h.1)
noncomputable def lR (xs : KM) (np : Nat) : Nat := S7 xs (np + 1) + dW (xs.getD (np + 1) 0) (i3 xs (np + 1))
noncomputable def yi (s : Mach) (xs : KM) (np : Nat) (opc rx sz wh : Int) : Mach :=
 let mo := xs.getD (np + 1) 0
 let sib := i3 xs (np + 1)
 mvZ (s.next (lR xs np : Int)) opc (gH (mo / 8 % 8 + 8 * rxR rx) sz (decide (rx ≥ 0))) (mo / 8 % 8 + 8 * rxR rx) sz (C1 (mo / 64) (mo % 8) sib (rxB rx)) (o9 (mo % 8) sib (rxX rx)) (s5 (mo % 8) sib (rxX rx)) (leS ((xs.drop (S7 xs (np + 1))).take (dW mo sib))) wh
theorem oc {mod rm sib b : Int} (h0 : 0 ≤ rm) (h1 : rm ≤ 7) (hb : 0 ≤ b ∧ b ≤ 1) : (C1 mod rm sib b).ok := by
 unfold C1
 cases (!(rm == 4)) with
 | true => cases (mod == 0 && rm == 5) <;> first | trivial | (show 0 ≤ rm + 8 * b ∧ rm + 8 * b ≤ 15; lia)
 | false => cases (mod == 0 && sib % 8 == 5) <;> first | trivial | (show 0 ≤ sib % 8 + 8 * b ∧ sib % 8 + 8 * b ≤ 15; lia)
theorem li {rm sib x : Int} (hb : 0 ≤ x ∧ x ≤ 1) : (o9 rm sib x).ok ∧ (o9 rm sib x).isRip = false := by
 unfold o9
 cases pN rm sib x with
 | true => exact ⟨trivial,rfl⟩
 | false => exact ⟨by show 0 ≤ sib / 8 % 8 + 8 * x ∧ sib / 8 % 8 + 8 * x ≤ 15; lia,rfl⟩
theorem od {mod rm sib b x : Int} (h : (C1 mod rm sib b).isRip = true) : o9 rm sib x = .no := by
 unfold C1 at h
 unfold o9 pN
 cases q : (!(rm == 4)) with
 | true => rfl
 | false =>
  replace h := q ▸ h
  cases q2 : (mod == 0 && sib % 8 == 5) <;> rw [q2] at h <;> cases h
theorem og {rm sib x : Int} (h0 : 0 ≤ sib ∧ sib < 256 ∨ (rm == 4) = false) : s64 (s5 rm sib x) = true := by
 unfold s5
 cases q : pN rm sib x with
 | true => show s64 1 = true; decide
 | false =>
  have : (rm == 4) = true := by
   unfold pN at q
   rw [Bool.or_eq_false_iff] at q
   simpa using q.1
  have h0 : 0 ≤ sib ∧ sib < 256 := h0.resolve_right (by rw [this]; decide)
  have h : sib / 64 = 0 ∨ sib / 64 = 1 ∨ sib / 64 = 2 ∨ sib / 64 = 3 := by lia
  refine (?_ : s64 (2 ^ (sib / 64).toNat) = true)
  rcases h with e | e | e | e <;> rw [e] <;> decide
theorem sL (hT : TabOK X e7) (hs : s.ok) {wh rx opc sz : Int} {dat : Bool} {np : Nat} {xs t : KM} (hxs : z6 s.es s.rip 0 15 = xs) (hwh : B9 wh) (hrx : rx = -1 ∨ gK rx ∨ gL rx) (hop : eT opc dat (rxW rx) sz) (hx : xs = G5 wh dat rx ++ opc :: t) (hn : np = (G5 wh dat rx).length)
  (hm : xs.getD (np + 1) 0 < 192) (he : lR xs np ≤ 15) : (yh s (lR xs np : Int) (yi s xs np opc rx sz wh)).Ok X 220 := by
 have hl : xs.length = 15 := by rw [← hxs]; exact ak
 have ho : i9 xs = true := by rw [← hxs]; exact M7 hs.2.1
 have hd := wI hT hwh hrx hop hx hn hl ho hm he
 have hmo := G6 ho (np + 1)
 have hb := BI rx
 have hh : lQ (gH (xs.getD (np + 1) 0 / 8 % 8 + 8 * rxR rx) sz (decide (rx ≥ 0))) (xs.getD (np + 1) 0 / 8 % 8 + 8 * rxR rx) sz := by
  refine ⟨la hop,by lia,by lia,λ q => ?_⟩
  unfold gH at q
  simp only [ya4,ya5,beq_iff_eq] at q
  exact ⟨q.1.1.1,q.1.2,q.2⟩
 have hs1 : (s.next (lR xs np : Int)).ok := hs
 have hI := li (rm := xs.getD (np + 1) 0 % 8) (sib := i3 xs (np + 1)) hb.2.1
 have hsc : s64 (s5 (xs.getD (np + 1) 0 % 8) (i3 xs (np + 1)) (rxX rx)) = true := by
  refine og ?_
  unfold i3
  cases q : (xs.getD (np + 1) 0 % 8 == 4) with
  | true => exact .inl (G6 ho _)
  | false => exact .inr rfl
 have hm := sK (n := xs.getD (np + 1) 0 / 8 % 8 + 8 * rxR rx) (wo := leS ((xs.drop (S7 xs (np + 1))).take (dW (xs.getD (np + 1) 0) (i3 xs (np + 1))))) hT hs1 hop hh hwh (oc (mod := xs.getD (np + 1) 0 / 64) (rm := xs.getD (np + 1) 0 % 8) (sib := i3 xs (np + 1)) (by lia) (by lia) hb.1) hI.1 hI.2 od hsc
 refine LE.of (m := 220) (TabOK.tbL hT (n := 200) (P := [zF s xs,yg xs np opc rx sz (H0 wh),mvE (s.next (lR xs np : Int)) opc (hiV (gH (xs.getD (np + 1) 0 / 8 % 8 + 8 * rxR rx) sz (decide (rx ≥ 0))) (xs.getD (np + 1) 0 / 8 % 8 + 8 * rxR rx) sz)
   (r5 (.fz (C1 (xs.getD (np + 1) 0 / 64) (xs.getD (np + 1) 0 % 8) (i3 xs (np + 1)) (rxB rx)).V) (.fz (o9 (xs.getD (np + 1) 0 % 8) (i3 xs (np + 1)) (rxX rx)).V) (s5 (xs.getD (np + 1) 0 % 8) (i3 xs (np + 1)) (rxX rx)) (leS ((xs.drop (S7 xs (np + 1))).take (dW (xs.getD (np + 1) 0) (i3 xs (np + 1))))) (M6 opc sz) (H0 wh)) (yi s xs np opc rx sz wh)]) (by kernel_rfl) ?_) (ya7 _) (F2 799 (Str.ofString "instruction")) B3 (λ k z => ?_)
 ·intro p q
  rcases List.mem_cons.mp q with rfl | q
  ·rw [← hxs]; exact LE.mono (xf hT hs) (by decide)
  rcases List.mem_cons.mp q with rfl | q
  ·exact LE.mono hd (by decide)
  rw [List.mem_singleton] at q
  subst q
  exact LE.mono hm (by decide)
 ·have := zG (k := λ v σ' => k (F2 799 (Str.ofString "instruction") v) σ') (s := s) (s' := yi s xs np opc rx sz wh) (n := xs.getD (np + 1) 0 / 8 % 8 + 8 * rxR rx) (sc := s5 (xs.getD (np + 1) 0 % 8) (i3 xs (np + 1)) (rxX rx))
   (wo := leS ((xs.drop (S7 xs (np + 1))).take (dW (xs.getD (np + 1) 0) (i3 xs (np + 1))))) (sz := sz) (sg := H0 wh) (kn := cond (gH (xs.getD (np + 1) 0 / 8 % 8 + 8 * rxR rx) sz (decide (rx ≥ 0))) z5 z8)
   (B := (C1 (xs.getD (np + 1) 0 / 64) (xs.getD (np + 1) 0 % 8) (i3 xs (np + 1)) (rxB rx)).V) (I := (o9 (xs.getD (np + 1) 0 % 8) (i3 xs (np + 1)) (rxX rx)).V) (ms := M6 opc sz) (e := (lR xs np : Int)) (xs := xs) (ob hop)
  refine Eq.mpr this ?_
  exact K4 z
end
end
section
open PySem.Spec
noncomputable def wdL (mod rm sib : Int) : Int := cond (mod == 0) (cond (rm == 5) 4 (cond (rm == 4) (cond (sib % 8 == 5) 4 0) 0)) (cond (mod == 1) 1 4)
noncomputable def baL (mod rm sib b : Int) : Int := cond (!(rm == 4)) (cond (mod == 0) (cond (rm == 5) 16 (rm + 8 * b)) (rm + 8 * b)) (cond (mod == 0) (cond (sib % 8 == 5) (-1) (sib % 8 + 8 * b)) (sib % 8 + 8 * b))
noncomputable def ixL (rm sib x : Int) : Int := cond (!(rm == 4)) (-1) (cond (sib / 8 % 8 + 8 * x == 4) (-1) (sib / 8 % 8 + 8 * x))
noncomputable def scL (rm sib : Int) : Int := cond (!(rm == 4)) 1 (2 ^ (sib / 64).toNat)
noncomputable def pS : Spec := λ args O k => tkI args λ mod args => tkI args λ rm args => tkI args λ sib args => tkE args (tkE O (k (.int (wdL mod rm sib)) []))
noncomputable def pT : Spec := λ args O k => tkI args λ mod args => tkI args λ rm args => tkI args λ sib args => tkI args λ x args => tkI args λ b args => tkE args (tkE O (cond (decide (0 ≤ sib) && decide (sib < 256)) (k (.tup [.int (baL mod rm sib b),.int (ixL rm sib x),.int (scL rm sib)]) []) False))
noncomputable def lj : Spec := λ args O k => tkI args λ w args => tkI args λ n args => tkE args (tkE O (cond (n == 0 || n == 1 || n == 2 || n == 4 || n == 8) (k (.nums (liO w 0 n.toNat)) []) False))
noncomputable def hiB (hi : Bool) (n sz : Int) : Bool := j6 sz && decide (0 ≤ n) && decide (n ≤ 15) && (!hi || (sz == 8 && decide (4 ≤ n) && decide (n ≤ 7)))
noncomputable def lwR (R : KM) (hi : Bool) (n sz w : Int) : List Int := cond hi (R.set (n - 4).toNat (R.getD (n - 4).toNat 0 / 65536 * 65536 + w * 256 + R.getD (n - 4).toNat 0 % 256))
 (cond (decide (32 ≤ sz)) (R.set n.toNat w) (R.set n.toNat (R.getD n.toNat 0 / 2 ^ sz.toNat * 2 ^ sz.toNat + w)))
noncomputable def xg : Spec := λ args O k => tkH args λ args => tkI args λ n args => tkI args λ sz args => tkB args λ hi args => tkE args (tkN O λ R => (cond (hiB hi n sz && decide (R.length = 16)) (k (.int (rdR R hi n sz)) [.nums R]) False))
noncomputable def xh : Spec := λ args O k => tkH args λ args => tkI args λ n args => tkI args λ sz args => tkB args λ hi args => tkI args λ w args => tkE args (tkN O λ R => (cond (hiB hi n sz && decide (R.length = 16)) (k .none [.nums (lwR R hi n sz w)]) False))
theorem pU {hi : Bool} {n sz : Int} (h : hiB hi n sz = true) : lQ hi n sz := by
 unfold hiB at h
 simp only [ya4,Bool.or_eq_true,ya5,beq_iff_eq,Bool.not_eq_true'] at h
 refine ⟨h.1.1.1,h.1.1.2,h.1.2,λ q => ?_⟩
 rcases h.2 with e | e
 ·rw [e] at q; cases q
 ·exact ⟨e.1.1,e.1.2,e.2⟩
section
theorem xi (h : pS args O k) : (g8 e7 100).call R5 args O k := by
 refine i4 h λ mod Z h => ?_
 refine i4 h λ rm Z h => ?_
 refine i4 h λ sib Z h => ?_
 refine k7 h λ h => ?_
 refine k7 h λ h => ?_
 refine Eq.mpr (show _ = cond (mod == 0) (cond (rm == 5) (k (.int 4) []) (cond (rm == 4) (cond (sib % 8 == 5) (k (.int 4) []) (k (.int 0) [])) (k (.int 0) []))) (cond (mod == 1) (k (.int 1) []) (k (.int 4) [])) by kernel_rfl) ?_
 unfold wdL at h
 generalize (mod == 0) = q1 at h ⊢
 generalize (rm == 5) = q2 at h ⊢
 generalize (rm == 4) = q3 at h ⊢
 generalize (sib % 8 == 5) = q4 at h ⊢
 generalize (mod == 1) = q5 at h ⊢
 revert h
 cases q1 <;> first | (cases q5 <;> exact id) | (cases q2 <;> first | exact id | (cases q3 <;> first | exact id | (cases q4 <;> exact id)))
noncomputable def tc1 : Tab := e7.upd R5 100 pS
theorem xj (h : TabOK X e7) : TabOK X tc1 := h.updI (by kernel_rfl) λ Z Z Z => xi
noncomputable def ptS (ba sib x : Int) (k : KC) : Prop :=
 cond (sib / 8 % 8 + 8 * x == 4) (cond (decide (0 ≤ sib / 64) && decide (sib / 64 ≤ 1000000) && true) (k (.tup [.int ba,.int (-1),.int (2 ^ (sib / 64).toNat)]) []) False)
  (cond (decide (0 ≤ sib / 64) && decide (sib / 64 ≤ 1000000) && true) (k (.tup [.int ba,.int (sib / 8 % 8 + 8 * x),.int (2 ^ (sib / 64).toNat)]) []) False)
theorem xk (h : pT args O k) : (g8 tc1 100).call R6 args O k := by
 refine i4 h λ mod Z h => ?_
 refine i4 h λ rm Z h => ?_
 refine i4 h λ sib Z h => ?_
 refine i4 h λ x Z h => ?_
 refine i4 h λ b Z h => ?_
 refine k7 h λ h => ?_
 refine k7 h λ h => ?_
 refine i5 (E3 h) λ c h => ?_
 simp only [ya4,ya5] at c
 refine Eq.mpr (show _ = cond (!(rm == 4)) (cond (mod == 0) (cond (rm == 5) (k (.tup [.int 16,.int (-1),.int 1]) []) (k (.tup [.int (rm + 8 * b),.int (-1),.int 1]) [])) (k (.tup [.int (rm + 8 * b),.int (-1),.int 1]) []))
  (cond (mod == 0) (cond (sib % 8 == 5) (ptS (-1) sib x k) (ptS (sib % 8 + 8 * b) sib x k)) (ptS (sib % 8 + 8 * b) sib x k)) by kernel_rfl) ?_
 have g : (decide (0 ≤ sib / 64) && decide (sib / 64 ≤ 1000000) && true) = true := by rw [ya2 (by lia),ya2 (by lia)]; rfl
 unfold baL ixL scL at h
 unfold ptS
 refine g.symm ▸ ?_
 generalize (mod == 0) = q1 at h ⊢
 generalize (rm == 5) = q2 at h ⊢
 generalize (rm == 4) = q3 at h ⊢
 generalize (sib % 8 == 5) = q4 at h ⊢
 generalize (sib / 8 % 8 + 8 * x == 4) = q5 at h ⊢
 revert h
 cases q3 <;> cases q1 <;> first | (cases q2 <;> first | exact id | (cases q4 <;> cases q5 <;> exact id)) | (cases q4 <;> cases q5 <;> exact id)
noncomputable def tc2 : Tab := tc1.upd R6 100 pT
theorem xl (h : TabOK X tc1) : TabOK X tc2 := h.updI (by kernel_rfl) λ Z Z Z => xk
theorem sM (h : lj args O k) : (g8 tc2 100).call K3 args O k := by
 refine i4 h λ w Z h => ?_
 refine i4 h λ n Z h => ?_
 refine k7 h λ h => ?_
 refine k7 h λ h => ?_
 refine i5 (E3 h) λ c h => ?_
 simp only [Bool.or_eq_true,beq_iff_eq] at c
 rcases c with (((rfl | rfl) | rfl) | rfl) | rfl
 ·exact Eq.mp (by kernel_rfl) h
 ·exact Eq.mp (by kernel_rfl) h
 ·exact Eq.mp (by kernel_rfl) h
 ·exact Eq.mp (by kernel_rfl) h
 ·exact Eq.mp (by kernel_rfl) h
noncomputable def tc3 : Tab := tc2.upd K3 100 lj
theorem xm (h : TabOK X tc2) : TabOK X tc3 := h.updI (by kernel_rfl) λ Z Z Z => sM
theorem zH (h : xg args O k) : (g8 tc3 100).call W5 args O k := by
 refine bB h λ Z h => ?_
 refine i4 h λ n Z h => ?_
 refine i4 h λ sz Z h => ?_
 refine kL h λ hi Z h => ?_
 refine k7 h λ h => ?_
 refine pI h λ R h => ?_
 refine i5 (E3 h) λ c h => ?_
 rw [ya4,ya5] at c
 refine L7 (pU c.1) λ h1 h2 h3 h4 => ?_
 induction hi using Bool.casesOn with
 | true =>
  refine C2 (h4 rfl) λ eR0 h5 h6 => ?_
  subst eR0
  refine Eq.mpr (show _ = cond (inB (n - 4) R.length) (k (.int (R.getD (n - 4).toNat 0 / 256 % 256)) [.nums R]) False by kernel_rfl) ?_
  exact c8 (p7 c.2 (by exact Int.sub_nonneg_of_le (by assumption)) (by lia)) h
 | false =>
  rcases f7 h1 with rfl | rfl | rfl | rfl
  ·refine Eq.mpr (show _ = cond (inB n R.length) (k (.int (rdR R false n 8)) [.nums R]) False by kernel_rfl) ?_
   exact c8 (p7 c.2 (by assumption) (by assumption)) h
  ·refine Eq.mpr (show _ = cond (inB n R.length) (k (.int (rdR R false n 16)) [.nums R]) False by kernel_rfl) ?_
   exact c8 (p7 c.2 (by assumption) (by assumption)) h
  ·refine Eq.mpr (show _ = cond (inB n R.length) (k (.int (rdR R false n 32)) [.nums R]) False by kernel_rfl) ?_
   exact c8 (p7 c.2 (by assumption) (by assumption)) h
  ·refine Eq.mpr (show _ = cond (inB n R.length) (k (.int (rdR R false n 64)) [.nums R]) False by kernel_rfl) ?_
   exact c8 (p7 c.2 (by assumption) (by assumption)) h
noncomputable def tc4 : Tab := tc3.upd W5 100 xg
theorem xn (h : TabOK X tc3) : TabOK X tc4 := h.updI (by kernel_rfl) λ Z Z Z => zH
theorem zI (h : xh args O k) : (g8 tc4 100).call R7 args O k := by
 refine bB h λ Z h => ?_
 refine i4 h λ n Z h => ?_
 refine i4 h λ sz Z h => ?_
 refine kL h λ hi Z h => ?_
 refine i4 h λ w Z h => ?_
 refine k7 h λ h => ?_
 refine pI h λ R h => ?_
 obtain ⟨c,h⟩ := E3 h
 rw [ya4,ya5] at c
 refine L7 (pU c.1) λ h1 h2 h3 h4 => ?_
 have t1 : ∀ b : Bool,(b || true) = true := by decide
 induction hi using Bool.casesOn with
 | true =>
  refine C2 (h4 rfl) λ eR0 h5 h6 => ?_
  subst eR0
  have i := p7 c.2 (n := n - 4) (by exact Int.sub_nonneg_of_le (by assumption)) (by lia)
  refine Eq.mpr (show _ = cond (inB (n - 4) R.length) (cond (s64 (R.getD (n - 4).toNat 0 / 65536) || true) (cond (s64 w || true) (cond (inB (n - 4) R.length) (k .none [.nums (lwR R true n 8 w)]) False) False) False) False by kernel_rfl) ?_
  exact c8 i (c8 (t1 _) (c8 (t1 _) (c8 i h)))
 | false =>
  have i := p7 c.2 (n := n) (by assumption) (by assumption)
  rcases f7 h1 with rfl | rfl | rfl | rfl
  ·refine Eq.mpr (show _ = cond (inB n R.length) (cond (s64 (R.getD n.toNat 0 / 256) || true) (cond (inB n R.length) (k .none [.nums (lwR R false n 8 w)]) False) False) False by kernel_rfl) ?_
   exact c8 i (c8 (t1 _) (c8 i h))
  ·refine Eq.mpr (show _ = cond (inB n R.length) (cond (s64 (R.getD n.toNat 0 / 65536) || true) (cond (inB n R.length) (k .none [.nums (lwR R false n 16 w)]) False) False) False by kernel_rfl) ?_
   exact c8 i (c8 (t1 _) (c8 i h))
  ·refine Eq.mpr (show _ = cond (inB n R.length) (cond (inB n R.length) (k .none [.nums (lwR R false n 32 w)]) False) False by kernel_rfl) ?_
   exact c8 i (c8 i h)
  ·refine Eq.mpr (show _ = cond (inB n R.length) (cond (inB n R.length) (k .none [.nums (lwR R false n 64 w)]) False) False by kernel_rfl) ?_
   exact c8 i (c8 i h)
noncomputable def tc5 : Tab := tc4.upd R7 100 xh
theorem xo (h : TabOK X tc4) : TabOK X tc5 := h.updI (by kernel_rfl) λ Z Z Z => zI
theorem xq (h : TabOK X e7) : TabOK X tc5 := xo (xn (xm (xl (xj h))))
end
noncomputable def tP (s : Mach) (n w : Int) : Mach := s.setR (bK s.R false n 64 w)
noncomputable def setE (s : Mach) (R : KM) (n w : Int) : LE := ⟨G4,[.io 1250 0,.h 7,.int n,.int w],g7 s ++ [.nums R],.none,g7 (tP s n w) ++ [.nums (R.set n.toNat w)]⟩
noncomputable def Dl (s : Mach) (H : KF) (p : Int) (xs : KM) : LE := ⟨j0,[.io 1250 0,.h 7,.int p,.nums xs],g7 s ++ [.imap H],.none,g7 (s.setE (v8 s.es p xs 0)) ++ [.imap (v8 H p xs 0)]⟩
section
variable {s : Mach} {R : KM} {H : KF} {n w p : Int}
theorem Dm : (g8 e7 140).call G4 [.io 1250 0,.h 7,.int n,.int w] (g7 s ++ [.nums R]) k =
  cond (inB n R.length) (cond (decide (0 ≤ n) && decide (n ≤ 15) && true) (cond (inB n s.R.length) (cond (inB n s.R.length) (k .none (g7 (tP s n w) ++ [.nums (R.set n.toNat w)])) False) False) False) False := by kernel_rfl
theorem xr (hT : TabOK X e7) (hs : s.ok) (hR : R.length = 16) (h0 : 0 ≤ n) (h1 : n ≤ 15) : (setE s R n w).Ok X 140 := by
 refine LE.of0 (m := 140) hT (ya7 _) λ k z => ?_
 refine (?_ : (g8 e7 140).call G4 [.io 1250 0,.h 7,.int n,.int w] (g7 s ++ [.nums R]) k)
 rw [Dm]
 refine c8 (p7 hR h0 h1) (c8 ?_ (c8 (p7 hs.1 h0 h1) (c8 (p7 hs.1 h0 h1) z)))
 rw [ya2 h0,ya2 h1]; rfl
theorem zJ  : (g8 e7 140).call j0 [.io 1250 0,.h 7,.int p,.nums []] (g7 s ++ [.imap H]) k = cond (i9 [] && true) (J1 s.es p [] 0 (λ es' => J1 H p [] 0 (λ H' => k .none (g7 (s.setE es') ++ [.imap H'])))) False := by kernel_rfl
theorem zK {x0 : Int} : (g8 e7 140).call j0 [.io 1250 0,.h 7,.int p,.nums [x0]] (g7 s ++ [.imap H]) k = cond (i9 [x0] && true) (J1 s.es p [x0] 0 (λ es' => J1 H p [x0] 0 (λ H' => k .none (g7 (s.setE es') ++ [.imap H'])))) False := by kernel_rfl
theorem zL {x0 x1 : Int} : (g8 e7 140).call j0 [.io 1250 0,.h 7,.int p,.nums [x0,x1]] (g7 s ++ [.imap H]) k = cond (i9 [x0,x1] && true) (J1 s.es p [x0,x1] 0 (λ es' => J1 H p [x0,x1] 0 (λ H' => k .none (g7 (s.setE es') ++ [.imap H'])))) False := by kernel_rfl
theorem zM {x0 x1 x2 : Int} : (g8 e7 140).call j0 [.io 1250 0,.h 7,.int p,.nums [x0,x1,x2]] (g7 s ++ [.imap H]) k = cond (i9 [x0,x1,x2] && true) (J1 s.es p [x0,x1,x2] 0 (λ es' => J1 H p [x0,x1,x2] 0 (λ H' => k .none (g7 (s.setE es') ++ [.imap H'])))) False := by kernel_rfl
theorem zN {x0 x1 x2 x3 : Int} : (g8 e7 140).call j0 [.io 1250 0,.h 7,.int p,.nums [x0,x1,x2,x3]] (g7 s ++ [.imap H]) k = cond (i9 [x0,x1,x2,x3] && true) (J1 s.es p [x0,x1,x2,x3] 0 (λ es' => J1 H p [x0,x1,x2,x3] 0 (λ H' => k .none (g7 (s.setE es') ++ [.imap H'])))) False := by kernel_rfl
theorem zO {x0 x1 x2 x3 x4 : Int} : (g8 e7 140).call j0 [.io 1250 0,.h 7,.int p,.nums [x0,x1,x2,x3,x4]] (g7 s ++ [.imap H]) k = cond (i9 [x0,x1,x2,x3,x4] && true) (J1 s.es p [x0,x1,x2,x3,x4] 0 (λ es' => J1 H p [x0,x1,x2,x3,x4] 0 (λ H' => k .none (g7 (s.setE es') ++ [.imap H'])))) False := by kernel_rfl
theorem zP {x0 x1 x2 x3 x4 x5 : Int} : (g8 e7 140).call j0 [.io 1250 0,.h 7,.int p,.nums [x0,x1,x2,x3,x4,x5]] (g7 s ++ [.imap H]) k = cond (i9 [x0,x1,x2,x3,x4,x5] && true) (J1 s.es p [x0,x1,x2,x3,x4,x5] 0 (λ es' => J1 H p [x0,x1,x2,x3,x4,x5] 0 (λ H' => k .none (g7 (s.setE es') ++ [.imap H'])))) False := by kernel_rfl
theorem zQ {x0 x1 x2 x3 x4 x5 x6 : Int} : (g8 e7 140).call j0 [.io 1250 0,.h 7,.int p,.nums [x0,x1,x2,x3,x4,x5,x6]] (g7 s ++ [.imap H]) k = cond (i9 [x0,x1,x2,x3,x4,x5,x6] && true) (J1 s.es p [x0,x1,x2,x3,x4,x5,x6] 0 (λ es' => J1 H p [x0,x1,x2,x3,x4,x5,x6] 0 (λ H' => k .none (g7 (s.setE es') ++ [.imap H'])))) False := by kernel_rfl
theorem zR {x0 x1 x2 x3 x4 x5 x6 x7 : Int} : (g8 e7 140).call j0 [.io 1250 0,.h 7,.int p,.nums [x0,x1,x2,x3,x4,x5,x6,x7]] (g7 s ++ [.imap H]) k = cond (i9 [x0,x1,x2,x3,x4,x5,x6,x7] && true) (J1 s.es p [x0,x1,x2,x3,x4,x5,x6,x7] 0 (λ es' => J1 H p [x0,x1,x2,x3,x4,x5,x6,x7] 0 (λ H' => k .none (g7 (s.setE es') ++ [.imap H'])))) False := by kernel_rfl
theorem zS {x0 x1 x2 x3 x4 x5 x6 x7 x8 : Int} : (g8 e7 140).call j0 [.io 1250 0,.h 7,.int p,.nums [x0,x1,x2,x3,x4,x5,x6,x7,x8]] (g7 s ++ [.imap H]) k = cond (i9 [x0,x1,x2,x3,x4,x5,x6,x7,x8] && true) (J1 s.es p [x0,x1,x2,x3,x4,x5,x6,x7,x8] 0 (λ es' => J1 H p [x0,x1,x2,x3,x4,x5,x6,x7,x8] 0 (λ H' => k .none (g7 (s.setE es') ++ [.imap H'])))) False := by kernel_rfl
theorem xu {x0 x1 x2 x3 x4 x5 x6 x7 x8 x9 : Int} : (g8 e7 140).call j0 [.io 1250 0,.h 7,.int p,.nums [x0,x1,x2,x3,x4,x5,x6,x7,x8,x9]] (g7 s ++ [.imap H]) k = cond (i9 [x0,x1,x2,x3,x4,x5,x6,x7,x8,x9] && true) (J1 s.es p [x0,x1,x2,x3,x4,x5,x6,x7,x8,x9] 0 (λ es' => J1 H p [x0,x1,x2,x3,x4,x5,x6,x7,x8,x9] 0 (λ H' => k .none (g7 (s.setE es') ++ [.imap H'])))) False := by kernel_rfl
theorem Dn (h : xs.length ≤ 10) : (g8 e7 140).call j0 [.io 1250 0,.h 7,.int p,.nums xs] (g7 s ++ [.imap H]) k = cond (i9 xs && true) (J1 s.es p xs 0 (λ es' => J1 H p xs 0 (λ H' => k .none (g7 (s.setE es') ++ [.imap H'])))) False := match xs,h with
 | [],_ => zJ
 | [x0],_ => zK
 | [x0,x1],_ => zL
 | [x0,x1,x2],_ => zM
 | [x0,x1,x2,x3],_ => zN
 | [x0,x1,x2,x3,x4],_ => zO
 | [x0,x1,x2,x3,x4,x5],_ => zP
 | [x0,x1,x2,x3,x4,x5,x6],_ => zQ
 | [x0,x1,x2,x3,x4,x5,x6,x7],_ => zR
 | [x0,x1,x2,x3,x4,x5,x6,x7,x8],_ => zS
 | [x0,x1,x2,x3,x4,x5,x6,x7,x8,x9],_ => xu
 | x0 :: x1 :: x2 :: x3 :: x4 :: x5 :: x6 :: x7 :: x8 :: x9 :: x10 :: r,h => absurd h (by simp only [yb2]; lia)
theorem sN (hT : TabOK X e7) (h1 : s.es.length ≤ 900000) (h2 : H.length ≤ 900000) (ho : i9 xs = true) (hl : xs.length ≤ 10) : (Dl s H p xs).Ok X 140 := by
 refine LE.of0 (m := 140) hT (ya7 _) λ k z => ?_
 refine (?_ : (g8 e7 140).call j0 [.io 1250 0,.h 7,.int p,.nums xs] (g7 s ++ [.imap H]) k)
 rw [Dn hl]
 exact c8 (ho.symm ▸ rfl) (dD (by lia) (dD (by lia) z))
end
end
section
open PySem.Spec
noncomputable def shM (n : Nat) (m : MO) : MO := mapM (λ m => some (m + n)) 30 m
structure TS where
 cells : List Int
 spot : Int
 rest : Int
 s : Mach
 R : List Int
 H : List (Int × Int)
 b1 : Int
 b2 : Int
noncomputable def TS.pen (t : TS) (spot rest : Int) : TS := ⟨t.cells,spot,rest,t.s,t.R,t.H,t.b1,t.b2⟩
noncomputable def TS.st (t : TS) : List MO := F5 t.cells t.spot t.rest :: ((g7 t.s).map (shM 1) ++ [.nums t.R,.imap t.H,.lst [.int 0,.int t.b1,.int t.b2]])
noncomputable def j1 : FnE := fnE true (gD du 143)
noncomputable def tuB (i : Nat) : Stmt := gD j1.body i
noncomputable def lk (s : Stmt) : Nat := if c : s.ctorIdx = 5 then Stmt.Assign.elim (motive_2 := λ Z => Nat) s c λ Z Z p => p.line else 0
noncomputable def Tab.chill (T : Tab) (l : List Nat) : Tab := { T with cold := l ++ T.cold }
theorem TabOK.chill {X : Wd} {T : Tab} {l : List Nat} (h : TabOK X T) : TabOK X (T.chill l) := ⟨h.glob,h.blt,h.cal,h.attrs,h.meths,h.clm,h.sys⟩
noncomputable def td : Tab := tc5.chill [lk (tuB 6),lk (tuB 9),lk (tuB 16)]
noncomputable def zz (s : String) (v : V) : Str × V := (Str.ofString s,v)
noncomputable def zi (s : String) (i : Int) : Str × V := (Str.ofString s,.int i)
noncomputable def G0 (here : Int) : List (Str × V) := [zz "pen" (.h 0),zz "state" (.io 1250 1),zz "regs" (.h 8),zi "here" here]
noncomputable def C0 : List (Str × V) := [zz "held" (.h 9),zz "bottoms" (.h 10)]
noncomputable def tkA (l : KN) (f : V → List V → Prop) : Prop := match l with
 | a :: r => f a r
 | [] => False
noncomputable def tkL (l : KN) (f : List Int → List V → Prop) : Prop := match l with
 | .nums a :: r => f a r
 | _ => False
theorem eW {l : KN} {f : V → List V → Prop} (h : tkA l f) : ∃ a r,f a r := by
 induction l using List.casesOn with
 | nil => exact False.elim h
 | cons a r => exact ⟨a,r,h⟩
theorem ll {l : KN} {f : Int → List V → Prop} (h : tkI l f) : ∃ a r,f a r := i4 (C := λ Z => _) h λ i r h => ⟨i,r,h⟩
theorem pV {α : Type} {l : List α} {P : Prop} (h : tkE l P) : P := k7 (C := λ Z => _) h id
theorem xw {l : KN} {f : List Int → List V → Prop} (h : tkL l f) : ∃ a r,f a r := by
 induction l using List.casesOn with
 | nil => exact False.elim h
 | cons v r => cases v <;> first | exact ⟨_,_,h⟩ | exact False.elim h
noncomputable def zT (s : Mach) (R : KM) : Spec := λ args O k => tkA args λ Z r => tkA r λ Z r => tkI r λ n r => tkI r λ w r => tkE r (args = [.io 1250 0,.h 7,.int n,.int w] ∧ O = g7 s ++ [.nums R] ∧ cond (decide (0 ≤ n) && decide (n ≤ 15)) (k .none (g7 (tP s n w) ++ [.nums (R.set n.toNat w)])) False)
noncomputable def zU (s : Mach) (H : KF) : Spec := λ args O k => tkA args λ Z r => tkA r λ Z r => tkI r λ p r => tkL r λ xs r => tkE r (args = [.io 1250 0,.h 7,.int p,.nums xs] ∧ O = g7 s ++ [.imap H] ∧ cond (i9 xs && decide (xs.length ≤ 10)) (k .none (g7 (s.setE (v8 s.es p xs 0)) ++ [.imap (v8 H p xs 0)])) False)
noncomputable def tdS (s : Mach) (R : KM) : Tab := td.upd G4 140 (zT s R)
noncomputable def tdL (s : Mach) (H : KF) : Tab := td.upd j0 140 (zU s H)
theorem s7 (h : TabOK X e7) : TabOK X td := TabOK.chill (xq h)
theorem pW (h : TabOK X e7) {s : Mach} {R : KM} (hs : s.ok) (hR : R.length = 16) : TabOK X (tdS s R) := by
 refine TabOK.updS (s7 h) (by kernel_rfl) ?_
 intro args O k z
 refine z9 λ G kG => ?_
 refine L8 (eW z) λ Z Z z => ?_
 refine L8 (eW z) λ Z Z z => ?_
 refine L8 (ll z) λ n Z z => ?_
 refine L8 (ll z) λ w Z z => ?_
 refine C2 (pV z) λ e1 e2 z => ?_
 refine kG ?_
 refine e1.symm ▸ e2.symm ▸ ?_
 refine i5 (E3 z) λ c z => ?_
 rw [ya4,ya5,ya5] at c
 exact xr h hs hR c.1 c.2 k z
theorem pX (h : TabOK X e7) {s : Mach} {H : KF} (h1 : s.es.length ≤ 900000) (h2 : H.length ≤ 900000) : TabOK X (tdL s H) := by
 refine TabOK.updS (s7 h) (by kernel_rfl) ?_
 intro args O k z
 refine z9 λ G kG => ?_
 refine L8 (eW z) λ Z Z z => ?_
 refine L8 (eW z) λ Z Z z => ?_
 refine L8 (ll z) λ p Z z => ?_
 refine L8 (xw z) λ xs Z z => ?_
 refine C2 (pV z) λ e1 e2 z => ?_
 refine kG ?_
 refine e1.symm ▸ e2.symm ▸ ?_
 refine i5 (E3 z) λ c z => ?_
 rw [ya4,ya5] at c
 exact sN h h1 h2 c.1 c.2 k z
end
section
open PySem.Spec
structure TV where
 ds : Str
 sz : Int
 here : Int
 mod : Int
 rm : Int
 sib : Int
 far : Int
 reg : Int
 rxb : Int
 which : Int
 rexed : Bool
noncomputable def L6 : Str := Str.ofString "lea"
noncomputable def z7 : Str := Str.ofString "load"
noncomputable def n7 : Str := Str.ofString "store"
noncomputable def pY (d : Str) : Prop := d = L6 ∨ d = z7 ∨ d = n7
noncomputable def La (v : TV) : List (Str × V) := zi "size" v.sz :: zz "deed" (.str v.ds) :: G0 v.here
noncomputable def Lb (v : TV) : List (Str × V) := zi "mod" v.mod :: zi "rm" v.rm :: zi "sib" v.sib :: La v
noncomputable def Lc (v : TV) : List (Str × V) := zi "far" v.far :: Lb v
noncomputable def Ld (v : TV) : List (Str × V) := zi "rxb" v.rxb :: zi "reg" v.reg :: Lc v
noncomputable def Le (v : TV) : List (Str × V) := zz "rexed" (.bool v.rexed) :: Ld v
noncomputable def Lr (v : TV) (r : V) : List (Str × V) := zz "row" r :: Le v
noncomputable def Cw (v : TV) : List (Str × V) := zi "which" v.which :: C0
structure TB extends TV where
 row : List Int
 ba : Int
 ix : Int
 sc : Int
 be : Int
 goal : Int
noncomputable def Lp (v : TB) : List (Str × V) := zi "scale" v.sc :: zi "index" v.ix :: zi "base" v.ba :: Lr v.toTV (.nums v.row)
noncomputable def Lh (v : TB) : List (Str × V) := zi "behind" v.be :: Lp v
noncomputable def Cg (v : TB) : List (Str × V) := zi "goal" v.goal :: Cw v.toTV
noncomputable def dw (t : TS) (many : Int) (K : Int → TS → Prop) : Prop := cond (true && (decide (0 ≤ t.spot) && decide (t.spot < 1048576)) && decide (0 ≤ t.rest) && decide (t.cells.length ≤ 40))
 (∀ d spot' rest' : Int,0 ≤ d → d < many → t.spot ≤ spot' → spot' ≤ t.spot + 1 → 0 ≤ rest' → K d (t.pen spot' rest')) False
noncomputable def tu (T : Tab) (i : Nat) (L C : KD) (O : KG) (k : KS) : Prop := stS T (g8 T 240) j1.scope (tuB i) ⟨L,C⟩ O k
noncomputable def sO (a b : KM) (P : Prop) : Prop := cond (decide (a.length + b.length ≤ 100000)) P False
noncomputable def ie (ds : Str) (big : Bool) : Int := cond (ds == L6) 141 (cond (ds == z7) (cond big 139 138) (cond big 137 136))
noncomputable def smD : MO := .smap [(L6,.int 141),(z7,.int 138),(n7,.int 136)]
section
variable {k : KS} {t : TS} {v : TV} {row : KM}
theorem st0 {here : Int} : tu td 0 (G0 here) C0 t.st k = dw t 3 λ d t1 => cond (inB d 3) (dw t1 4 λ d1 t2 => cond (inB d1 4)
  (k .next ⟨zz "deed" (.str ([L6,z7,n7].getD d.toNat ⟨#[]⟩)) :: zi "size" ([64,32,16,8].getD d1.toNat 0) :: G0 here,C0⟩ t2.st) False) False := by unfold tu; kernel_rfl
theorem st1 (h : pY v.ds) : tu td 1 (zz "deed" (.str v.ds) :: zi "size" v.sz :: G0 v.here) C0 t.st k = cond (v.ds == L6) (cond (v.sz == 8) (k .next ⟨La { v with sz := 64 },C0⟩ t.st) (k .next ⟨La v,C0⟩ t.st)) (k .next ⟨La v,C0⟩ t.st) := by
 obtain ⟨ds,sz,here,mod,rm,sib,far,reg,rxb,which,rexed⟩ := v
 rcases h with h | h | h <;> dsimp only at h <;> subst h <;> unfold tu <;> kernel_rfl
theorem st2 : tu td 2 (La v) C0 t.st k = dw t 3 λ a t1 => dw t1 8 λ b t2 => dw t2 256 λ c t3 => k .next ⟨Lb { v with mod := a,rm := b,sib := c },C0⟩ t3.st := by unfold tu; kernel_rfl
theorem st3 : tu td 3 (Lb v) C0 t.st k = cond (gI t.cells t.spot t.rest) (∀ f spot' rest' : Int,kW (wdL v.mod v.rm v.sib) f → t.spot ≤ spot' → spot' ≤ t.spot + 2 → 0 ≤ rest' → k .next ⟨Lc { v with far := f },C0⟩ (t.pen spot' rest').st) False := by unfold tu; kernel_rfl
theorem st4 : tu td 4 (Lc v) C0 t.st k = dw t 8 λ a t1 => dw t1 8 λ b t2 => dw t2 3 λ c t3 => k .next ⟨Ld { v with reg := a,rxb := b,which := c },Cw { v with which := c }⟩ t3.st := by unfold tu; kernel_rfl
theorem st5 : tu td 5 (Ld v) (Cw v) t.st k = cond (v.sz == 64) (k .next ⟨Le { v with rexed := true },Cw v⟩ t.st) (cond (decide (v.rxb > 0)) (k .next ⟨Le { v with rexed := true },Cw v⟩ t.st)
  (dw t 2 λ d t1 => k .next ⟨Le { v with rexed := d == 0 },Cw v⟩ t1.st)) := by unfold tu; kernel_rfl
theorem st6 : tu td 6 (Le v) (Cw v) t.st k = cond (decide (v.which < 1000000)) (cond (v.which == 0) (cond (v.sz == 16) (k .next ⟨Lr v (.nums [102]),Cw v⟩ t.st) (k .next ⟨Lr v (.nums []),Cw v⟩ t.st))
  (cond (v.which == 1) (cond (v.sz == 16) (k .next ⟨Lr v (.nums [100,102]),Cw v⟩ t.st) (k .next ⟨Lr v (.nums [100]),Cw v⟩ t.st))
  (cond (v.which == 2) (cond (v.sz == 16) (k .next ⟨Lr v (.nums [101,102]),Cw v⟩ t.st) (k .next ⟨Lr v (.nums [101]),Cw v⟩ t.st)) False))) False := by unfold tu; kernel_rfl
theorem st7 : tu td 7 (Lr v (.nums row)) (Cw v) t.st k = cond v.rexed (sO row [64 + 8 * b2i (v.sz == 64) + v.rxb] (k .next ⟨Lr v (.h 11),Cw v⟩ (t.st ++ [.nums (row ++ [64 + 8 * b2i (v.sz == 64) + v.rxb])])))
  (sO row [] (k .next ⟨Lr v (.h 11),Cw v⟩ (t.st ++ [.nums (row ++ [])]))) := by unfold tu; kernel_rfl
theorem st8 (h : pY v.ds) : tu td 8 (Lr v (.h 11)) (Cw v) (t.st ++ [.nums row]) k = cond (decide (v.sz > 8)) (cond (decide (row.length ≤ 100000)) (k .next ⟨Lr v (.h 11),Cw v⟩ (t.st ++ [.nums (row ++ [ie v.ds true]),smD])) False)
  (cond (decide (row.length ≤ 100000)) (k .next ⟨Lr v (.h 11),Cw v⟩ (t.st ++ [.nums (row ++ [ie v.ds false]),smD])) False) := by
 obtain ⟨ds,sz,here,mod,rm,sib,far,reg,rxb,which,rexed⟩ := v
 rcases h with h | h | h <;> dsimp only at h <;> subst h <;> unfold tu <;> kernel_rfl
noncomputable def wdC (v : TV) (row : KM) (K : List Int → Prop) : Prop := cond (wdL v.mod v.rm v.sib == 0 || wdL v.mod v.rm v.sib == 1 || wdL v.mod v.rm v.sib == 2 || wdL v.mod v.rm v.sib == 4 || wdL v.mod v.rm v.sib == 8)
 (sO row (liO v.far 0 (wdL v.mod v.rm v.sib).toNat) (K (row ++ liO v.far 0 (wdL v.mod v.rm v.sib).toNat))) False
theorem st9 : tu td 9 (Lr v (.h 11)) (Cw v) (t.st ++ [.nums row,smD]) k = sO row [64 * v.mod + 8 * v.reg + v.rm] (cond (v.rm == 4)
  (sO (row ++ [64 * v.mod + 8 * v.reg + v.rm]) [v.sib] (wdC v (row ++ [64 * v.mod + 8 * v.reg + v.rm] ++ [v.sib]) λ r => k .next ⟨Lr v (.nums r),Cw v⟩ (t.st ++ [.nums row,smD])))
  (sO (row ++ [64 * v.mod + 8 * v.reg + v.rm]) [] (wdC v (row ++ [64 * v.mod + 8 * v.reg + v.rm] ++ []) λ r => k .next ⟨Lr v (.nums r),Cw v⟩ (t.st ++ [.nums row,smD])))) := by unfold tu; kernel_rfl
end
section
variable {k : KS} {t : TS} {v : TB} {g1 g2 : MO}
theorem Do : tu td 10 (Lr v.toTV (.nums v.row)) (Cw v.toTV) (t.st ++ [g1,g2]) k = cond (decide (0 ≤ v.sib) && decide (v.sib < 256)) (k .next ⟨Lp { v with ba := baL v.mod v.rm v.sib (v.rxb % 2),ix := ixL v.rm v.sib (v.rxb / 2 % 2),sc := scL v.rm v.sib },Cw v.toTV⟩ (t.st ++ [g1,g2])) False := by unfold tu; kernel_rfl
theorem Dp : tu td 11 (Lp v) (Cw v.toTV) (t.st ++ [g1,g2]) k = cond (decide (v.row.length < 1000000)) (k .next ⟨Lh { v with be := (v.here + v.row.length) % T64 },Cg { v with goal := v.far }⟩ (t.st ++ [g1,g2])) False := by unfold tu; kernel_rfl
noncomputable def TS.put (t : TS) (spot' rest' n w : Int) : TS := ⟨t.cells,spot',rest',tP t.s n w,t.R.set n.toNat w,t.H,t.b1,t.b2⟩
noncomputable def zV (t : TS) (n : Int) (K : TS → Prop) : Prop := cond (gI t.cells t.spot t.rest) (∀ w spot' rest' : Int,0 ≤ w → w < 2 ^ 64 → t.spot ≤ spot' → spot' ≤ t.spot + 5 → 0 ≤ rest' →
 ([.io 1250 0,.h 7,.int n,.int w] : KN) = [.io 1250 0,.h 7,.int n,.int w] ∧ g7 t.s ++ [.nums t.R] = g7 t.s ++ [.nums t.R] ∧ cond (decide (0 ≤ n) && decide (n ≤ 15)) (K (t.put spot' rest' n w)) False) False
theorem Dq : tu (tdS t.s t.R) 12 (Lh v) (Cg v) (t.st ++ [g1,g2]) k = cond (decide (0 ≤ v.ba)) (cond (decide (v.ba < 16)) (zV t v.ba λ t1 => k .next ⟨Lh v,Cg v⟩ (t1.st ++ [g1,g2])) (k .next ⟨Lh v,Cg v⟩ (t.st ++ [g1,g2]))) (k .next ⟨Lh v,Cg v⟩ (t.st ++ [g1,g2])) := by unfold tu; kernel_rfl
theorem Dr : tu (tdS t.s t.R) 13 (Lh v) (Cg v) (t.st ++ [g1,g2]) k = cond (decide (v.ix ≥ 0)) (cond (!(v.ix == v.ba)) (zV t v.ix λ t1 => k .next ⟨Lh v,Cg v⟩ (t1.st ++ [g1,g2])) (k .next ⟨Lh v,Cg v⟩ (t.st ++ [g1,g2]))) (k .next ⟨Lh v,Cg v⟩ (t.st ++ [g1,g2])) := by unfold tu; kernel_rfl
theorem Ds : tu td 14 (Lh v) (Cg v) (t.st ++ [g1,g2]) k = cond (decide (v.ba ≥ 0)) (cond (v.ba == 16) (k .next ⟨Lh v,Cg { v with goal := v.goal + v.be }⟩ (t.st ++ [g1,g2])) (cond (inB v.ba t.R.length) (k .next ⟨Lh v,Cg { v with goal := v.goal + t.R.getD v.ba.toNat 0 }⟩ (t.st ++ [g1,g2])) False)) (k .next ⟨Lh v,Cg v⟩ (t.st ++ [g1,g2])) := by unfold tu; kernel_rfl
theorem Dt : tu td 15 (Lh v) (Cg v) (t.st ++ [g1,g2]) k = cond (decide (v.ix ≥ 0)) (cond (inB v.ix t.R.length) (cond (s64 (t.R.getD v.ix.toNat 0) || s64 v.sc) (k .next ⟨Lh v,Cg { v with goal := v.goal + t.R.getD v.ix.toNat 0 * v.sc }⟩ (t.st ++ [g1,g2])) False) False) (k .next ⟨Lh v,Cg v⟩ (t.st ++ [g1,g2])) := by unfold tu; kernel_rfl
end
end
section
open PySem.Spec
noncomputable def spL (g : Int) : List Int := [(g + 0) % T64,(g + 1) % T64,(g + 2) % T64,(g + 3) % T64,(g + 4) % T64,(g + 5) % T64,(g + 6) % T64,(g + 7) % T64]
noncomputable def Cs (v : TB) : List (Str × V) := [zi "goal" v.goal,zi "which" v.which,zz "bottoms" (.h 10),zz "held" (.h 9)]
noncomputable def Ct (v : TB) : List (Str × V) := [zz "held" (.h 9),zi "goal" v.goal,zi "which" v.which,zz "bottoms" (.h 10)]
noncomputable def bwZ (t : TS) (wh : Int) : Int := cond (wh == 0) 0 (cond (wh == 1) t.b1 t.b2)
structure TC extends TB where
 sp : List Int
 no : Int
 hi : Bool
 due : Int
noncomputable def Ls (v : TC) : List (Str × V) := zz "spots" (.nums v.sp) :: Lh v.toTB
noncomputable def Ln (v : TC) : List (Str × V) := zi "number" v.no :: zz "is_high" (.bool v.hi) :: Ls v
noncomputable def Lu (v : TC) : List (Str × V) := zi "due" v.due :: Ln v
section
variable {k : KS} {t : TS} {v : TC} {g1 g2 : MO}
theorem Du (h : B9 v.which) : tu td 16 (Lh v.toTB) (Cg v.toTB) (t.st ++ [g1,g2]) k = k .next ⟨Ls { v with sp := spL (v.goal + bwZ t v.which) },Cs v.toTB⟩ (t.st ++ [g1,g2]) := by
 obtain ⟨⟨⟨ds,sz,here,mod,rm,sib,far,reg,rxb,which,rexed⟩,row,ba,ix,sc,be,goal⟩,sp,no,hi,due⟩ := v
 dsimp only at h
 rcases h with rfl | rfl | rfl <;> unfold tu <;> kernel_rfl
noncomputable def TS.lay (t : TS) (p : Int) (xs : KM) : TS := ⟨t.cells,t.spot,t.rest,t.s.setE (v8 t.s.es p xs 0),t.R,v8 t.H p xs 0,t.b1,t.b2⟩
noncomputable def zW (t : TS) (p : Int) (xs : KM) (K : TS → Prop) : Prop := ([.io 1250 0,.h 7,.int p,.nums xs] : KN) = [.io 1250 0,.h 7,.int p,.nums xs] ∧ g7 t.s ++ [.imap t.H] = g7 t.s ++ [.imap t.H] ∧ cond (i9 xs && decide (xs.length ≤ 10)) (K (t.lay p xs)) False
theorem Dv : tu (tdL t.s t.H) 17 (Ls v) (Cs v.toTB) (t.st ++ [g1,g2]) k = cond (inB 0 v.sp.length) (cond (gI t.cells t.spot t.rest) (∀ w spot' rest' : Int,0 ≤ w → w < 2 ^ 64 → t.spot ≤ spot' → spot' ≤ t.spot + 5 → 0 ≤ rest' →
  zW (t.pen spot' rest') (v.sp.getD 0 0) (liO w 0 8) λ t1 => k .next ⟨Ls v,Cs v.toTB⟩ (t1.st ++ [g1,g2])) False) False := by unfold tu; kernel_rfl
theorem Dw : tu (tdL t.s t.H) 18 (Ls v) (Cs v.toTB) (t.st ++ [g1,g2]) k = zW t v.here v.row λ t1 => k .next ⟨Ls v,Cs v.toTB⟩ (t1.st ++ [g1,g2]) := by unfold tu; kernel_rfl
theorem Dx : tu td 19 (Ls v) (Cs v.toTB) (t.st ++ [g1,g2]) k = cond (v.sz == 8) (cond (decide (v.reg > 3)) (k .next ⟨Ln { v with no := v.reg + 8 * (v.rxb / 4),hi := !v.rexed },Cs v.toTB⟩ (t.st ++ [g1,g2])) (k .next ⟨Ln { v with no := v.reg + 8 * (v.rxb / 4),hi := false },Cs v.toTB⟩ (t.st ++ [g1,g2])))
  (k .next ⟨Ln { v with no := v.reg + 8 * (v.rxb / 4),hi := false },Cs v.toTB⟩ (t.st ++ [g1,g2])) := by unfold tu; kernel_rfl
noncomputable def rdH (H : KF) : List Int → Nat → List Int → (List Int → Prop) → Prop
 | [],_,acc,K => K acc
 | s :: r,i,acc,K => match s6 H s with
  | some w => cond (s64 w || true) (rdH H r (i + 1) (acc ++ [w * 256 ^ i]) K) False
  | none => False
theorem zX (h1 : v.ds = L6) (h2 : j6 v.sz = true) : tu td 20 (Ln v) (Cs v.toTB) (t.st ++ [g1,g2]) k = k .next ⟨Lu { v with due := v.goal % 2 ^ v.sz.toNat },Cs v.toTB⟩ (t.st ++ [g1,g2]) := by
 obtain ⟨⟨⟨ds,sz,here,mod,rm,sib,far,reg,rxb,which,rexed⟩,row,ba,ix,sc,be,goal⟩,sp,no,hi,due⟩ := v
 dsimp only at h1 h2
 subst h1
 rcases f7 h2 with rfl | rfl | rfl | rfl <;> unfold tu <;> kernel_rfl
theorem zY (h1 : v.ds = z7 ∨ v.ds = n7) (h2 : j6 v.sz = true) {g : Int} (h3 : v.sp = spL g) : tu td 20 (Ln v) (Cs v.toTB) (t.st ++ [g1,g2]) k = rdH t.H (v.sp.take (v.sz / 8).toNat) 0 [] (λ xs => k .next ⟨Lu { v with due := xs.sum },Ct v.toTB⟩ (t.st ++ [g1,g2])) := by
 obtain ⟨⟨⟨ds,sz,here,mod,rm,sib,far,reg,rxb,which,rexed⟩,row,ba,ix,sc,be,goal⟩,sp,no,hi,due⟩ := v
 dsimp only at h1 h2 h3
 subst h3
 rcases h1 with rfl | rfl <;> rcases f7 h2 with rfl | rfl | rfl | rfl <;> unfold tu <;> kernel_rfl
noncomputable def TS.setR (t : TS) (R : KM) : TS := ⟨t.cells,t.spot,t.rest,t.s,R,t.H,t.b1,t.b2⟩
noncomputable def TS.setH (t : TS) (H : KF) : TS := ⟨t.cells,t.spot,t.rest,t.s,t.R,H,t.b1,t.b2⟩
noncomputable def TS.setM (t : TS) (s : Mach) : TS := ⟨t.cells,t.spot,t.rest,s,t.R,t.H,t.b1,t.b2⟩
theorem zZ {C : KD} (h1 : v.ds = L6 ∨ v.ds = z7) : tu td 21 (Lu v) C (t.st ++ [g1,g2]) k = cond (hiB v.hi v.no v.sz && decide (t.R.length = 16)) (k .next ⟨Lu v,C⟩ ((t.setR (lwR t.R v.hi v.no v.sz v.due)).st ++ [g1,g2])) False := by
 obtain ⟨⟨⟨ds,sz,here,mod,rm,sib,far,reg,rxb,which,rexed⟩,row,ba,ix,sc,be,goal⟩,sp,no,hi,due⟩ := v
 dsimp only at h1
 rcases h1 with rfl | rfl <;> unfold tu <;> kernel_rfl
noncomputable def yj (sp : KM) : List Int → List (Int × Int) → Nat → List (Int × Int)
 | [],H,_ => H
 | x :: xs,H,i => yj sp xs (Y3 H (sp.getD i 0) x) (i + 1)
noncomputable def Aa (sp : KM) : List Int → List (Int × Int) → Nat → (List (Int × Int) → Prop) → Prop
 | [],H,_,K => K H
 | x :: xs,H,i,K => cond (decide (H.length ≤ 1000000)) (Aa sp xs (Y3 H (sp.getD i 0) x) (i + 1) K) False
noncomputable def Lx (v : TC) (a b : Int) : List (Str × V) := zi "octet" a :: zi "at" b :: Lu v
theorem Ab (h1 : v.ds = n7) (h2 : j6 v.sz = true) {g : Int} (h3 : v.sp = spL g) : tu td 21 (Lu v) (Ct v.toTB) (t.st ++ [g1,g2]) k = cond (hiB v.hi v.no v.sz && decide (t.R.length = 16))
  (Aa v.sp (liO (rdR t.R v.hi v.no v.sz) 0 (v.sz / 8).toNat) t.H 0 λ H' => k .next ⟨Lx v (rdR t.R v.hi v.no v.sz / 256 ^ ((v.sz / 8).toNat - 1) % 256) (((v.sz / 8).toNat - 1 : Nat) : Int),Ct v.toTB⟩ ((t.setH H').st ++ [g1,g2])) False := by
 obtain ⟨⟨⟨ds,sz,here,mod,rm,sib,far,reg,rxb,which,rexed⟩,row,ba,ix,sc,be,goal⟩,sp,no,hi,due⟩ := v
 dsimp only at h1 h2 h3
 subst h3 h1
 rcases f7 h2 with rfl | rfl | rfl | rfl <;> unfold tu <;> kernel_rfl
noncomputable def tdP (s s' : Mach) (e : Int) : Tab := tbL td 230 [yh s e s']
noncomputable def Lz (v : TC) : Option (Int × Int) → List (Str × V)
 | none => Lu v
 | some (a,b) => Lx v a b
noncomputable def Lt (v : TC) (e : Int) (o : Option (Int × Int)) : List (Str × V) := zz "told" (BN e) :: Lz v o
theorem Dy {o : Option (Int × Int)} {C : KD} {s' : Mach} {e : Int} : tu (tdP t.s s' e) 22 (Lz v o) C (t.st ++ [g1,g2]) k = leC [yh t.s e s'] (k .next ⟨Lt v e o,C⟩ ((t.setM s').st ++ [g1,g2])) := by
 induction o using Option.casesOn with
 | none => unfold tu; kernel_rfl
 | some p => obtain ⟨a,b⟩ := p; unfold tu; kernel_rfl
theorem Dz {o : Option (Int × Int)} {C : KD} {e : Int} : tu td 23 (Lt v e o) C (t.st ++ [g1,g2]) k = cond (decide (v.row.length < 1000000)) (cond (!(e == (v.row.length : Int))) (k (.ret (.int (-1))) ⟨Lt v e o,C⟩ (t.st ++ [g1,g2])) (cond (!(t.s.rip == v.be)) (k (.ret (.int (-1))) ⟨Lt v e o,C⟩ (t.st ++ [g1,g2]))
  (k .next ⟨Lt v e o,C⟩ (t.st ++ [g1,g2])))) False := by
 induction o using Option.casesOn with
 | none => unfold tu; kernel_rfl
 | some p => obtain ⟨a,b⟩ := p; unfold tu; kernel_rfl
theorem DA {o : Option (Int × Int)} {C : KD} {e : Int} : tu td 24 (Lt v e o) C (t.st ++ [g1,g2]) k = k (.ret (.int v.be)) ⟨Lt v e o,C⟩ (t.st ++ [g1,g2]) := by
 induction o using Option.casesOn with
 | none => unfold tu; kernel_rfl
 | some p => obtain ⟨a,b⟩ := p; unfold tu; kernel_rfl
theorem lm : j1.body = [tuB 0,tuB 1,tuB 2,tuB 3,tuB 4,tuB 5,tuB 6,tuB 7,tuB 8,tuB 9,tuB 10,tuB 11,tuB 12,tuB 13,tuB 14,tuB 15,tuB 16,tuB 17,tuB 18,tuB 19,tuB 20,tuB 21,tuB 22,tuB 23,tuB 24] := by kernel_rfl
end
end
section
open PySem.Spec
theorem eY {p : Int} {i n : Nat} : z6 es p i (n + 1) = atM es ((p + (i : Int)) % T64) :: z6 es p (i + 1) n := rfl
theorem xx {x : Int} {r : KM} : leU (x :: r) = x + 256 * leU r := rfl
theorem oh {p q : Int} : ∀ {xs : KM} {es : KF} {i : Nat},(∀ j : Nat,j < xs.length → (p + ((i + j : Nat) : Int)) % T64 ≠ q) → s6 (v8 es p xs i) q = s6 es q := by
 intro xs
 induction xs with
 | nil =>
  intro Z Z Z
  exact rfl
 | cons a xs ih =>
  intro es i h
  unfold v8
  rw [ih (λ j hj => by have := h (j + 1) (by rw [yb2]; lia); rw [show i + (j + 1) = i + 1 + j by lia] at this; exact this),aj,if_neg]
  exact h 0 (by rw [yb2]; lia)
theorem F3 {p : Int} : ∀ {xs : KM} {es : KF} {i j : Nat},j < xs.length → xs.length ≤ 1000 → s6 (v8 es p xs i) ((p + ((i + j : Nat) : Int)) % T64) = some (xs.getD j 0)
 | [],_,_,_,h,_ => by cases h
 | a :: xs,es,i,0,_,hl => by
  replace hl := yb2 ▸ hl
  unfold v8
  rw [oh,aj,if_pos (by rw [Nat.add_zero])]
  ·rfl
  ·intro j hj
   unfold T64
   lia
 | a :: xs,es,i,j + 1,h,hl => by
  rw [yb2] at hl h
  unfold v8
  rw [show i + (j + 1) = i + 1 + j by lia,F3 (by lia) (by lia)]
  rfl
theorem oi {p : Int} (hl : xs.length ≤ 1000) : ∀ {n i : Nat},i + n = xs.length → z6 (v8 es p xs 0) p i n = xs.drop i := by
 intro n
 induction n with
 | zero =>
  intro i h
  rw [List.drop_of_length_le (by lia)]; rfl
 | succ n ih =>
  intro i h
  rw [eY,ih (by lia)]
  have e := F3 (p := p) (es := es) (i := 0) (j := i) (xs := xs) (by lia) hl
  rw [yc0] at e
  unfold atM
  rw [e,List.drop_eq_getElem_cons (show i < xs.length by lia)]
  simp [yc9,yb1 (show i < xs.length by lia)]
theorem oj {p : Int} {m : Nat} : ∀ {n i : Nat},z6 es p i (n + m) = z6 es p i n ++ z6 es p (i + n) m := by
 intro n
 induction n with
 | zero =>
  intro i
  rw [yc0,Nat.add_zero]; rfl
 | succ n ih =>
  intro i
  rw [Nat.add_right_comm,eY,eY,ih,show i + 1 + n = i + (n + 1) by lia]
  rfl
theorem Ac {p : Int} (hl : xs.length ≤ 15) : ∃ r,z6 (v8 es p xs 0) p 0 15 = xs ++ r := by
 refine ⟨z6 (v8 es p xs 0) p (0 + xs.length) (15 - xs.length),?_⟩
 conv => lhs; rw [show 15 = xs.length + (15 - xs.length) by omega]
 rw [oj,oi (by lia) (by lia),List.drop_zero]
theorem W9 {a v q : Int} (h : (s6 es q).isSome = true) : (s6 (Y3 es a v) q).isSome = true := by
 rw [aj]
 split
 ·rfl
 ·exact h
theorem gU {p q : Int} : ∀ {xs : KM} {es : KF} {i : Nat},(s6 es q).isSome = true → (s6 (v8 es p xs i) q).isSome = true := by
 intro xs
 induction xs with
 | nil =>
  intro Z Z h
  exact h
 | cons a xs ih =>
  intro es i h
  refine (?_ : (s6 (v8 (Y3 es _ a) p xs (i + 1)) q).isSome = true)
  exact ih (W9 h)
theorem xy {K : List Int → Prop} : ∀ {sp : KM} {i : Nat} {acc : KM},(∀ s ∈ sp,(s6 es s).isSome = true) → (∀ ws : List Int,ws = (sp.mapIdx λ j s => atM es s * 256 ^ (i + j)) → K (acc ++ ws)) → rdH es sp i acc K := by
 intro sp
 induction sp with
 | nil =>
  intro i acc Z h
  have := h [] rfl; rw [List.append_nil] at this; exact this
 | cons s sp ih =>
  intro i acc hs h
  unfold rdH
  refine i6 (Option.isSome_iff_exists.mp (hs s List.mem_cons_self)) λ w hw => ?_
  refine hw.symm ▸ ?_
  refine c8 (by simp) (ih (λ s' hs' => hs s' (mM _ hs')) λ ws e => ?_)
  rw [List.append_assoc]
  refine h _ ?_
  refine List.mapIdx_cons.symm ▸ e.symm ▸ List.singleton_append.symm ▸ ?_
  have : atM es s = w := by unfold atM; rw [hw]; rfl
  rw [this]
  simp only [Nat.add_zero]
  congr 1
  congr 1
  funext j s'
  rw [show i + 1 + j = i + (j + 1) by lia]
theorem sP {p : Int} : ∀ {n i m : Nat} {sp : KM},sp = (List.range n).map (λ j => (p + ((i + j : Nat) : Int)) % T64) → (sp.mapIdx λ j s => atM es s * 256 ^ (m + j)).sum = 256 ^ m * leU (z6 es p i n) := by
 intro n
 induction n with
 | zero =>
  intro i m sp h
  subst h; simp [z6,leU]
 | succ n ih =>
  intro i m sp h
  rw [List.range_succ_eq_map,yc8,List.map_map] at h
  subst h
  rw [List.mapIdx_cons,List.sum_cons]
  have := ih (i := i + 1) (m := m + 1) (sp := (List.range n).map (λ j => (p + ((i + 1 + j : Nat) : Int)) % T64)) rfl
  have e : (List.map ((λ j => (p + ((i + j : Nat) : Int)) % T64) ∘ Nat.succ) (List.range n)) = (List.range n).map (λ j => (p + ((i + 1 + j : Nat) : Int)) % T64) := by
   refine List.map_congr_left λ j Z => ?_
   refine (?_ : (p + ((i + (j + 1) : Nat) : Int)) % T64 = _)
   rw [show i + (j + 1) = i + 1 + j by lia]
  refine e.symm ▸ ?_
  have e2 : (λ (j : Nat) (s : Int) => atM es s * 256 ^ (m + (j + 1))) = λ j s => atM es s * 256 ^ (m + 1 + j) := by
   funext j s
   rw [show m + (j + 1) = m + 1 + j by lia]
  rw [e2,this]
  rw [eY,xx]
  simp only [Nat.add_zero]
  rw [Int.pow_succ,Int.mul_add,Int.mul_comm (atM _ _),Int.mul_assoc]
theorem sQ {sp : KM} {p : Int} : ∀ {xs : KM} {H : KF} {i : Nat},(∀ j,j < i + xs.length → sp.getD j 0 = (p + (j : Int)) % T64) → yj sp xs H i = v8 H p xs i := by
 intro xs
 induction xs with
 | nil =>
  intro Z Z Z
  exact rfl
 | cons x xs ih =>
  intro H i h
  unfold yj v8
  refine (h i (by rw [yb2]; lia)) ▸ ?_
  exact ih λ j hj => h j (by rw [yb2]; lia)
theorem sR {sp : KM} {K : List (Int × Int) → Prop} : ∀ {xs : KM} {H : KF} {i : Nat},H.length + xs.length ≤ 1000000 → K (yj sp xs H i) → Aa sp xs H i K := by
 intro xs
 induction xs with
 | nil =>
  intro Z Z Z h
  exact h
 | cons x xs ih =>
  intro H i hl h
  rw [yb2] at hl
  exact c8 (ya2 (by lia)) (ih (ya6 (yc2 dC _) (by lia)) h)
end
section
open PySem.Spec
noncomputable def dG (rm sib : Int) : Int := cond (rm == 4) sib (-1)
noncomputable def moZ (mod reg rm : Int) : Int := 64 * mod + 8 * reg + rm
noncomputable def X0 (wh : Int) (dat : Bool) (rx opc mod reg rm sib far : Int) : List Int := G5 wh dat rx ++ opc :: moZ mod reg rm :: (cond (rm == 4) [sib] [] ++ liO far 0 (wdL mod rm sib).toNat)
section
variable {mod reg rm sib far : Int}
theorem pZ (h2 : 0 ≤ reg ∧ reg < 8) (h3 : 0 ≤ rm ∧ rm < 8) : moZ mod reg rm / 64 = mod := by unfold moZ; lia
theorem xz (h2 : 0 ≤ reg ∧ reg < 8) (h3 : 0 ≤ rm ∧ rm < 8) : moZ mod reg rm / 8 % 8 = reg := by unfold moZ; lia
theorem om (h3 : 0 ≤ rm ∧ rm < 8) : moZ mod reg rm % 8 = rm := by unfold moZ; lia
theorem M8 (hm : B9 mod) : wdL mod rm sib = 0 ∨ wdL mod rm sib = 1 ∨ wdL mod rm sib = 4 := by
 unfold wdL
 generalize (mod == 0) = a
 generalize (rm == 5) = b
 generalize (rm == 4) = c
 generalize (sib % 8 == 5) = d
 generalize (mod == 1) = e
 revert a b c d e
 decide
theorem xA (hm : B9 mod) (h2 : 0 ≤ reg ∧ reg < 8) (h3 : 0 ≤ rm ∧ rm < 8) : dW (moZ mod reg rm) (dG rm sib) = (wdL mod rm sib).toNat := by
 unfold dW
 refine (pZ h2 h3).symm ▸ (om h3).symm ▸ ?_
 unfold wdL dG
 rcases hm with rfl | rfl | rfl
 ·cases q5 : (rm == 5) with
  | true => rfl
  | false =>
   cases q4 : (rm == 4) with
   | true =>
    dsimp only [cond_true,Bool.true_and]
    cases (sib % 8 == 5) <;> rfl
   | false => rfl
 ·rfl
 ·rfl
theorem sS (h : kW (wdL mod rm sib) far) (hm : B9 mod) : leS (liO far 0 (wdL mod rm sib).toNat) = far := by
 refine C2 (h) λ h0 h1 h4 => ?_
 rcases M8 (rm := rm) (sib := sib) hm with e | e | e
 ·rw [e,h0 e]; rfl
 ·rw [e]
  have h := h1 e
  have e2 : liO far 0 ((1 : Int).toNat) = [far / 1 % 256] := rfl
  rw [e2]
  unfold leS leU leU
  simp only [yb2,List.length_nil]
  cases q : decide ((256 : Int) ^ (0 + 1) ≤ 2 * (far / 1 % 256 + 256 * 0)) with
  | true => have := ya3 q; simp only [cond_true]; lia
  | false => have := of_decide_eq_false q; simp only [cond_false]; lia
 ·rw [e]
  have e2 : liO far 0 ((4 : Int).toNat) = [far / 1 % 256,far / 256 % 256,far / 65536 % 256,far / 16777216 % 256] := rfl
  rw [e2]
  unfold leS leU leU leU leU leU
  simp only [yb2,List.length_nil]
  cases q : decide ((256 : Int) ^ (0 + 1 + 1 + 1 + 1) ≤ 2 * (far / 1 % 256 + 256 * (far / 256 % 256 + 256 * (far / 65536 % 256 + 256 * (far / 16777216 % 256 + 256 * 0))))) with
  | true => have := ya3 q; simp only [cond_true]; lia
  | false => have := of_decide_eq_false q; simp only [cond_false]; lia
end
theorem eZ {l r : KM} {n j : Nat} (h : n = l.length) : (l ++ r).getD (n + j) 0 = r.getD j 0 := by
 subst h
 rw [yc9,yc9,List.getElem?_append_right (by lia)]
 congr 2
 lia
section
variable {wh rx opc mod reg rm sib far : Int} {dat : Bool} {r xs : KM} {np : Nat}
theorem X2 (hx : xs = X0 wh dat rx opc mod reg rm sib far ++ r) (hn : np = (G5 wh dat rx).length) : xs.getD (np + 1) 0 = moZ mod reg rm := by
 rw [hx]; unfold X0
 rw [List.append_assoc,eZ hn]; rfl
theorem dH (hx : xs = X0 wh dat rx opc mod reg rm sib far ++ r) (hn : np = (G5 wh dat rx).length) (h3 : 0 ≤ rm ∧ rm < 8) : i3 xs (np + 1) = dG rm sib := by
 unfold i3 dG
 refine (X2 hx hn).symm ▸ (om h3).symm ▸ ?_
 cases q : (rm == 4) with
 | false => rfl
 | true =>
  refine (?_ : xs.getD (np + 1 + 1) 0 = sib)
  rw [hx]; unfold X0
  rw [List.append_assoc,show np + 1 + 1 = np + 2 by lia,eZ hn,q]; rfl
theorem qa (hx : xs = X0 wh dat rx opc mod reg rm sib far ++ r) (hn : np = (G5 wh dat rx).length) (h3 : 0 ≤ rm ∧ rm < 8) : S7 xs (np + 1) = np + 2 + (cond (rm == 4) [sib] []).length := by
 unfold S7
 refine (X2 hx hn).symm ▸ (om h3).symm ▸ ?_
 cases q : (rm == 4) <;> rfl
theorem on (hx : xs = X0 wh dat rx opc mod reg rm sib far ++ r) (hn : np = (G5 wh dat rx).length) (hm : B9 mod) (h2 : 0 ≤ reg ∧ reg < 8) (h3 : 0 ≤ rm ∧ rm < 8) : (xs.drop (S7 xs (np + 1))).take (dW (xs.getD (np + 1) 0) (i3 xs (np + 1))) = liO far 0 (wdL mod rm sib).toNat := by
 rw [qa hx hn h3,X2 hx hn,dH hx hn h3,xA hm h2 h3,hx,hn]
 unfold X0
 have e : G5 wh dat rx ++ opc :: moZ mod reg rm :: (cond (rm == 4) [sib] [] ++ liO far 0 (wdL mod rm sib).toNat) ++ r = (G5 wh dat rx ++ ([opc,moZ mod reg rm] ++ cond (rm == 4) [sib] [])) ++ (liO far 0 (wdL mod rm sib).toNat ++ r) := by simp
 rw [e,List.drop_left' (by simp; lia),List.take_left' r6]
theorem ln (hx : xs = X0 wh dat rx opc mod reg rm sib far ++ r) (hn : np = (G5 wh dat rx).length) (hm : B9 mod) (h2 : 0 ≤ reg ∧ reg < 8) (h3 : 0 ≤ rm ∧ rm < 8) : lR xs np = (X0 wh dat rx opc mod reg rm sib far).length := by
 unfold lR
 rw [qa hx hn h3,X2 hx hn,dH hx hn h3,xA hm h2 h3]
 unfold X0
 rw [yb3,yb2,yb2,yb3,r6,← hn]
 lia
theorem xB (hm : B9 mod) : (X0 wh dat rx opc mod reg rm sib far).length ≤ 10 := by
 unfold X0
 rw [yb3,yb2,yb2,yb3,r6]
 have h1 : (G5 wh dat rx).length ≤ 3 := by
  unfold G5
  cases (wh == 0) <;> cases dat <;> cases decide (rx < 0) <;> simp
 have h2 : (wdL mod rm sib).toNat ≤ 4 := by rcases M8 (rm := rm) (sib := sib) hm with e | e | e <;> rw [e] <;> decide
 have h3 : (cond (rm == 4) [sib] []).length ≤ 1 := by cases (rm == 4) <;> simp
 lia
end
noncomputable def okR (R : KM) : Prop := R.length = 16 ∧ ∀ x ∈ R,0 ≤ x ∧ x < T64
theorem am {R : KM} (h : okR R) (n : Nat) : 0 ≤ R.getD n 0 ∧ R.getD n 0 < T64 := by
 rw [yc9]
 cases e : R[n]? with
 | none => exact ⟨by decide,by decide⟩
 | some v => exact h.2 v (yc7 e)
noncomputable def bvL (R : KM) (be ba : Int) : Int := cond (decide (ba ≥ 0)) (cond (ba == 16) be (R.getD ba.toNat 0)) 0
noncomputable def ivL (R : KM) (ix sc : Int) : Int := cond (decide (ix ≥ 0)) (R.getD ix.toNat 0 * sc) 0
section
variable {s : Mach} {mod rm sib b x : Int}
theorem bJ (h : okR s.R) (n : Int) : s.rv (.gpr n) = s.R.getD n.toNat 0 := by
 have := am h n.toNat
 show s.R.getD n.toNat 0 % T64 = _
 exact Int.emod_eq_of_lt this.1 this.2
theorem ao {R : KM} {be n : Int} (h0 : 0 ≤ n) (h1 : n ≤ 15) : bvL R be n = R.getD n.toNat 0 := by
 unfold bvL
 rw [ya2 (by lia : n ≥ 0),show (n == 16) = false from by simp; lia]; rfl
theorem sT (h : okR s.R) (h3 : 0 ≤ rm ∧ rm < 8) (hb : 0 ≤ b ∧ b ≤ 1) : s.rv (C1 mod rm (dG rm sib) b) = bvL s.R s.rip (baL mod rm sib b) := by
 unfold C1 baL dG
 cases q : (rm == 4) with
 | false =>
  simp only [Bool.not_false,cond_true]
  cases q1 : (mod == 0) with
  | true =>
   cases q2 : (rm == 5) with
   | true => rfl
   | false =>
    simp only [Bool.true_and,cond_true,cond_false]
    rw [bJ h,ao (by lia) (by lia)]
  | false =>
   simp only [Bool.false_and,cond_false]
   rw [bJ h,ao (by lia) (by lia)]
 | true =>
  simp only [Bool.not_true,cond_false,cond_true]
  cases q1 : (mod == 0) with
  | true =>
   cases q2 : (sib % 8 == 5) with
   | true => rfl
   | false =>
    simp only [Bool.true_and,cond_true,cond_false]
    rw [bJ h,ao (by lia) (by lia)]
  | false =>
   simp only [Bool.false_and,cond_false]
   rw [bJ h,ao (by lia) (by lia)]
theorem oo (h : okR s.R) (hx : 0 ≤ x ∧ x ≤ 1) : s.rv (o9 rm (dG rm sib) x) * s5 rm (dG rm sib) x = ivL s.R (ixL rm sib x) (scL rm sib) := by
 unfold o9 s5 pN ixL scL dG
 cases q : (rm == 4) with
 | false =>
  rfl
 | true =>
  simp only [Bool.not_true,Bool.false_or,cond_true,cond_false]
  cases q1 : (sib / 8 % 8 + 8 * x == 4) with
  | true =>
   have q1 := beq_iff_eq.mp q1
   have e1 : (sib / 8 % 8 == 4) = true := by simp; lia
   have e2 : (x == 0) = true := by simp; lia
   refine e1.symm ▸ e2.symm ▸ ?_
   rfl
  | false =>
   have e : (sib / 8 % 8 == 4 && x == 0) = false := by
    have q1 : ¬ (sib / 8 % 8 + 8 * x = 4) := by simpa using q1
    cases e1 : (sib / 8 % 8 == 4) with
    | false => rfl
    | true =>
     cases e2 : (x == 0) with
     | false => rfl
     | true => have := beq_iff_eq.mp e1; have := beq_iff_eq.mp e2; lia
   refine e.symm ▸ ?_
   simp only [cond_false]
   rw [bJ h]
   unfold ivL
   rw [ya2 (by lia)]; rfl
end
end
section
open PySem.Spec
noncomputable def tuF : Nat → Nat → List Stmt
 | _,0 => []
 | i,n + 1 => tuB i :: tuF (i + 1) n
theorem sU : tuF 0 25 = j1.body := lm.symm
structure Tn (X : Wd) (env : Env) (kT : KS) (i m : Nat) (L C : KD) (O : KG) : Prop where
 ev : Ev X (RFl X) 300 env ⟨L,C⟩ O [] (λ Z => execs (tuF i m) env) kT
noncomputable def nx (X : Wd) (env : Env) (kT : KS) (i m : Nat) : KS := λ fl D O => match fl with
 | .next => Tn X env kT i m D.loc D.cel O
 | .brk => kT .brk D O
 | .cont => kT .cont D O
 | .ret v => kT (.ret v) D O
section
variable {kT : KS} {t : TS} {N : Int}
theorem go {T : Tab} (hT : TabOK X T) (henv : env.scope = j1.scope) {i m : Nat} {L C : KD} (h : tu T i L C O (nx X env kT (i + 1) m)) : Tn X env kT i (m + 1) L C O := by
 refine ⟨?_⟩
 refine bL ((Q9 hT ((u9 hT 240).mono (show 240 ≤ 300 by decide)) h henv).imp λ fl D σ' z => ?_)
 induction fl using Fl.casesOn with
 | next => exact z.ev
 | brk => exact z
 | cont => exact z
 | ret v => exact z
noncomputable def E0 (t : TS) (N : Int) : Prop := t.cells.length ≤ 40 ∧ 0 ≤ t.rest ∧ 0 ≤ t.spot ∧ t.spot ≤ N
theorem M9 {s r M : Int} (h : E0 t N) (h1 : t.spot ≤ s) (h2 : s ≤ t.spot + M) (h3 : 0 ≤ r) : E0 (t.pen s r) (N + M) := by
 refine L7 (h) λ a b c d => ?_
 refine ⟨a,h3,?_,?_⟩
 ·show 0 ≤ s; lia
 ·show s ≤ N + M; lia
theorem U4 {many : Int} {K : Int → TS → Prop} (hp : E0 t N) (hN : N < 500000) (h : ∀ d s r : Int,0 ≤ d → d < many → E0 (t.pen s r) (N + 1) → K d (t.pen s r)) : dw t many K := by
 refine L7 (hp) λ a b c d => ?_
 refine c8 ?_ λ d' s r h1 h2 h3 h4 h5 => h d' s r h1 h2 (M9 ⟨a,b,c,d⟩ h3 h4 h5)
 rw [ya2 c,ya2 (by lia : t.spot < 1048576),ya2 b,ya2 a]; rfl
theorem lp (hp : E0 t N) (hN : N < 500000) : gI t.cells t.spot t.rest = true := by
 refine L7 (hp) λ a b c d => ?_
 unfold gI
 rw [ya2 a,ya2 b,ya2 c,ya2 (by lia)]; rfl
noncomputable def BO (v : TV) : Prop := pY v.ds ∧ j6 v.sz = true ∧ (v.ds = L6 → v.sz ≠ 8)
structure OkV (v : TV) : Prop where
 sz : BO v
 mod : B9 v.mod
 rm : 0 ≤ v.rm ∧ v.rm < 8
 sib : 0 ≤ v.sib ∧ v.sib < 256
 far : kW (wdL v.mod v.rm v.sib) v.far
 reg : 0 ≤ v.reg ∧ v.reg < 8
 rxb : 0 ≤ v.rxb ∧ v.rxb < 8
 which : B9 v.which
 rexed : v.rexed = false → v.sz ≠ 64 ∧ v.rxb = 0
theorem xC {a : Int} (h0 : 0 ≤ a) (h : a < 3) : B9 a := by unfold B9; lia
theorem dI (h0 : 0 ≤ i) (h1 : i < n) (h2 : n ≤ 1000) : inB i n = true := by
 unfold inB
 rw [ya2 h0,ya2 h1,ya2 (by lia)]; rfl
theorem d9 {i m : Nat} {L C : KD} : nx X env kT i m .next ⟨L,C⟩ O = Tn X env kT i m L C O := rfl
theorem pen_pen {a b c d : Int} : (t.pen a b).pen c d = t.pen c d := rfl
theorem fb : t.pen t.spot t.rest = t := rfl
noncomputable def v0 (ds : Str) (sz here : Int) : TV := ⟨ds,sz,here,0,0,0,0,0,0,0,false⟩
theorem do0 (hT : TabOK X e7) (henv : env.scope = j1.scope) (hp : E0 t N) (hN : N < 450000) {here : Int}
  (h : ∀ (ds : Str) (sz s r : Int),pY ds → j6 sz = true → E0 (t.pen s r) (N + 2) → Tn X env kT 1 24 (zz "deed" (.str ds) :: zi "size" sz :: G0 here) C0 (t.pen s r).st) : Tn X env kT 0 25 (G0 here) C0 t.st := by
 refine go (s7 hT) henv ?_
 rw [st0]
 refine U4 hp (by lia) λ d s r h0 h1 hp => c8 (dI h0 h1 (by decide)) (U4 hp (by lia) λ d1 s r k0 k1 hp => c8 (dI k0 k1 (by decide)) ?_)
 have hds : pY ([L6,z7,n7].getD d.toNat ⟨#[]⟩) := by
  rcases (show d = 0 ∨ d = 1 ∨ d = 2 by lia) with rfl | rfl | rfl
  ·exact .inl rfl
  ·exact .inr (.inl rfl)
  ·exact .inr (.inr rfl)
 have hsz : j6 ([64,32,16,8].getD d1.toNat 0) = true := by
  rcases (show d1 = 0 ∨ d1 = 1 ∨ d1 = 2 ∨ d1 = 3 by lia) with rfl | rfl | rfl | rfl <;> rfl
 have := h _ _ s r hds hsz (by rw [show N + 2 = N + 1 + 1 by lia]; exact hp)
 exact this
theorem DB {ds : Str} {sz here : Int} {k : KS} (h : pY ds) : tu td 1 (zz "deed" (.str ds) :: zi "size" sz :: G0 here) C0 t.st k = cond (ds == L6) (cond (sz == 8) (k .next ⟨La (v0 ds 64 here),C0⟩ t.st) (k .next ⟨La (v0 ds sz here),C0⟩ t.st)) (k .next ⟨La (v0 ds sz here),C0⟩ t.st) := st1 (v := v0 ds sz here) h
theorem do1 (hT : TabOK X e7) (henv : env.scope = j1.scope) {ds : Str} {sz here : Int} (hd : pY ds) (hs : j6 sz = true)
  (h : ∀ sz',BO (v0 ds sz' here) → Tn X env kT 2 23 (La (v0 ds sz' here)) C0 t.st) : Tn X env kT 1 24 (zz "deed" (.str ds) :: zi "size" sz :: G0 here) C0 t.st := by
 refine go (s7 hT) henv ?_
 rw [DB hd]
 cases q1 : (ds == L6) with
 | true =>
  cases q2 : (sz == 8) with
  | true => have := h 64 ⟨hd,(by decide : j6 64 = true),λ Z => (by decide : (64 : Int) ≠ 8)⟩; exact this
  | false => have := h sz ⟨hd,hs,λ Z => (by simpa using q2 : sz ≠ 8)⟩; exact this
 | false => have := h sz ⟨hd,hs,λ e => by rw [show ds = L6 from e] at q1; exact absurd q1 (by decide)⟩; exact this
theorem do2 (hT : TabOK X e7) (henv : env.scope = j1.scope) (hp : E0 t N) (hN : N < 450000) {v : TV}
  (h : ∀ (a b c s r : Int),B9 a → 0 ≤ b ∧ b < 8 → 0 ≤ c ∧ c < 256 → E0 (t.pen s r) (N + 3) → Tn X env kT 3 22 (Lb { v with mod := a,rm := b,sib := c }) C0 (t.pen s r).st) : Tn X env kT 2 23 (La v) C0 t.st := by
 refine go (s7 hT) henv ?_
 rw [st2]
 refine U4 hp (by lia) λ a s r a0 a1 hp => U4 hp (by lia) λ b s r b0 b1 hp => U4 hp (by lia) λ c s r c0 c1 hp => ?_
 have := h a b c s r (xC a0 a1) ⟨b0,b1⟩ ⟨c0,c1⟩ (by rw [show N + 3 = N + 1 + 1 + 1 by lia]; exact hp)
 exact this
theorem do3 (hT : TabOK X e7) (henv : env.scope = j1.scope) (hp : E0 t N) (hN : N < 450000) {v : TV}
  (h : ∀ (f s r : Int),kW (wdL v.mod v.rm v.sib) f → E0 (t.pen s r) (N + 2) → Tn X env kT 4 21 (Lc { v with far := f }) C0 (t.pen s r).st) : Tn X env kT 3 22 (Lb v) C0 t.st := by
 refine go (s7 hT) henv ?_
 rw [st3]
 refine c8 (lp hp (by lia)) λ f s r hf h1 h2 h3 => ?_
 have := h f s r hf (M9 hp h1 h2 h3)
 exact this
theorem do4 (hT : TabOK X e7) (henv : env.scope = j1.scope) (hp : E0 t N) (hN : N < 450000) {v : TV}
  (h : ∀ (a b c s r : Int),0 ≤ a ∧ a < 8 → 0 ≤ b ∧ b < 8 → B9 c → E0 (t.pen s r) (N + 3) → Tn X env kT 5 20 (Ld { v with reg := a,rxb := b,which := c }) (Cw { v with which := c }) (t.pen s r).st) : Tn X env kT 4 21 (Lc v) C0 t.st := by
 refine go (s7 hT) henv ?_
 rw [st4]
 refine U4 hp (by lia) λ a s r a0 a1 hp => U4 hp (by lia) λ b s r b0 b1 hp => U4 hp (by lia) λ c s r c0 c1 hp => ?_
 have := h a b c s r ⟨a0,a1⟩ ⟨b0,b1⟩ (xC c0 c1) (by rw [show N + 3 = N + 1 + 1 + 1 by lia]; exact hp)
 exact this
theorem do5 (hT : TabOK X e7) (henv : env.scope = j1.scope) (hp : E0 t N) (hN : N < 450000) {v : TV} (hx : 0 ≤ v.rxb)
  (h : ∀ (b : Bool) (s r : Int),(b = false → v.sz ≠ 64 ∧ v.rxb = 0) → E0 (t.pen s r) (N + 1) → Tn X env kT 6 19 (Le { v with rexed := b }) (Cw v) (t.pen s r).st) : Tn X env kT 5 20 (Ld v) (Cw v) t.st := by
 refine go (s7 hT) henv ?_
 rw [st5]
 have h0 := h true t.spot t.rest
 have hp1 : E0 (t.pen t.spot t.rest) (N + 1) := by
  refine L7 (hp) λ a b c d => ?_
  exact ⟨a,b,c,show t.spot ≤ N + 1 by lia⟩
 cases q1 : (v.sz == 64) with
 | true =>
  replace h0 := fb ▸ h0
  rw [cond_true,d9]
  exact h0 (λ e => by cases e) hp1
 | false =>
  rw [cond_false]
  cases q2 : decide (v.rxb > 0) with
  | true =>
   rw [fb] at h0
   rw [cond_true,d9]
   exact h0 (λ e => by cases e) hp1
  | false =>
   rw [cond_false]
   refine U4 hp (by lia) λ d s r d0 d1 hp => ?_
   rw [d9]
   exact h (d == 0) s r (λ Z => ⟨by simpa using q1,by have := of_decide_eq_false q2; lia⟩) hp
theorem DC (hT : TabOK X e7) (henv : env.scope = j1.scope) {here : Int} (hp : E0 t N) (hN : N < 400000)
  (h : ∀ (v : TV) (s r : Int),OkV v → v.here = here → E0 (t.pen s r) (N + 11) → Tn X env kT 6 19 (Le v) (Cw v) (t.pen s r).st) : Tn X env kT 0 25 (G0 here) C0 t.st := by
 refine do0 hT henv hp (by lia) λ ds sz s r hds hsz hp => ?_
 refine do1 hT henv hds hsz λ sz hv => ?_
 refine do2 hT henv hp (by lia) λ a b c s r ha hb hc hp => ?_
 refine do3 hT henv hp (by lia) λ f s r hf hp => ?_
 refine do4 hT henv hp (by lia) λ g i j s r hg hi hj hp => ?_
 refine do5 hT henv hp (by lia) hi.1 λ x s r hx hp => ?_
 simp only [pen_pen] at hp ⊢
 have := h ⟨ds,sz,here,a,b,c,f,g,i,j,x⟩ s r ⟨hv,ha,hb,hc,hf,hg,hi,hj,hx⟩ rfl (by rw [show N + 11 = N + 2 + 3 + 2 + 3 + 1 by lia]; exact hp)
 exact this
end
end
section
open PySem.Spec
noncomputable def p0 (v : TV) : List Int := cond (v.which == 0) [] [99 + v.which] ++ cond (v.sz == 16) [102] []
noncomputable def qb (v : TV) : List Int := cond v.rexed [64 + 8 * b2i (v.sz == 64) + v.rxb] []
noncomputable def rxV (v : TV) : Int := cond v.rexed (64 + 8 * b2i (v.sz == 64) + v.rxb) (-1)
noncomputable def K5 (v : TV) : Int := ie v.ds (decide (v.sz > 8))
noncomputable def X3 (v : TV) : List Int := X0 v.which (v.sz == 16) (rxV v) (K5 v) v.mod v.reg v.rm v.sib v.far
section
variable {kT : KS} {t : TS} {v : TV} {row : KM}
theorem do6 (hT : TabOK X e7) (henv : env.scope = j1.scope) (hw : B9 v.which) (h : Tn X env kT 7 18 (Lr v (.nums (p0 v))) (Cw v) t.st) : Tn X env kT 6 19 (Le v) (Cw v) t.st := by
 refine go (s7 hT) henv ?_
 rw [st6]
 have hd : decide (v.which < 1000000) = true := ya2 (by unfold B9 at hw; lia)
 rw [hd,cond_true]
 unfold p0 at h
 rcases hw with e | e | e
 ·rw [e,show ((0 : Int) == 0) = true from rfl,cond_true] at h ⊢
  cases q : (v.sz == 16) with
  | true => rw [q] at h; rw [cond_true,d9]; exact h
  | false => rw [q] at h; rw [cond_false,d9]; exact h
 ·rw [e,show ((1 : Int) == 0) = false from rfl,cond_false] at h ⊢
  rw [show ((1 : Int) == 1) = true from rfl,cond_true]
  cases q : (v.sz == 16) with
  | true => rw [q] at h; rw [cond_true,d9]; exact h
  | false => rw [q] at h; rw [cond_false,d9]; exact h
 ·rw [e,show ((2 : Int) == 0) = false from rfl,cond_false] at h ⊢
  rw [show ((2 : Int) == 1) = false from rfl,cond_false,show ((2 : Int) == 2) = true from rfl,cond_true]
  cases q : (v.sz == 16) with
  | true => rw [q] at h; rw [cond_true,d9]; exact h
  | false => rw [q] at h; rw [cond_false,d9]; exact h
theorem J3 {a b : KM} {P : Prop} (h : a.length + b.length ≤ 100000) (p : P) : sO a b P := c8 (ya2 h) p
theorem do7 (hT : TabOK X e7) (henv : env.scope = j1.scope) (hl : row.length ≤ 9000) (h : Tn X env kT 8 17 (Lr v (.h 11)) (Cw v) (t.st ++ [.nums (row ++ qb v)])) : Tn X env kT 7 18 (Lr v (.nums row)) (Cw v) t.st := by
 refine go (s7 hT) henv ?_
 rw [st7]
 unfold qb at h
 cases q : v.rexed with
 | true =>
  rw [q,cond_true] at h
  rw [cond_true]
  refine J3 (by rw [List.length_singleton]; lia) ?_
  rw [d9]; exact h
 | false =>
  rw [q,cond_false] at h
  rw [cond_false]
  refine J3 (by rw [List.length_nil]; lia) ?_
  rw [d9]; exact h
theorem do8 (hT : TabOK X e7) (henv : env.scope = j1.scope) (hd : pY v.ds) (hl : row.length ≤ 9000) (h : Tn X env kT 9 16 (Lr v (.h 11)) (Cw v) (t.st ++ [.nums (row ++ [K5 v]),smD])) : Tn X env kT 8 17 (Lr v (.h 11)) (Cw v) (t.st ++ [.nums row]) := by
 refine go (s7 hT) henv ?_
 rw [st8 hd]
 have hd : decide (row.length ≤ 100000) = true := ya2 (by lia)
 rw [hd,cond_true,cond_true]
 unfold K5 at h
 cases q : decide (v.sz > 8) with
 | true => rw [q] at h; rw [cond_true,d9]; exact h
 | false => rw [q] at h; rw [cond_false,d9]; exact h
theorem qc {K : List Int → Prop} (hm : B9 v.mod) (hl : row.length ≤ 9000) (h : K (row ++ liO v.far 0 (wdL v.mod v.rm v.sib).toNat)) : wdC v row K := by
 have hn : (wdL v.mod v.rm v.sib).toNat ≤ 4 := by rcases M8 (rm := v.rm) (sib := v.sib) hm with e | e | e <;> rw [e] <;> decide
 refine c8 ?_ (J3 (by rw [r6]; lia) h)
 rcases M8 (rm := v.rm) (sib := v.sib) hm with e | e | e <;> rw [e] <;> decide
theorem do9 (hT : TabOK X e7) (henv : env.scope = j1.scope) (hm : B9 v.mod) (hl : row.length ≤ 5000) (h : Tn X env kT 10 15 (Lr v (.nums (row ++ [moZ v.mod v.reg v.rm] ++ cond (v.rm == 4) [v.sib] [] ++ liO v.far 0 (wdL v.mod v.rm v.sib).toNat))) (Cw v) (t.st ++ [.nums row,smD])) :
  Tn X env kT 9 16 (Lr v (.h 11)) (Cw v) (t.st ++ [.nums row,smD]) := by
 refine go (s7 hT) henv ?_
 rw [st9]
 have hl1 : (row ++ [moZ v.mod v.reg v.rm]).length ≤ 5001 := by rw [yb3,List.length_singleton]; lia
 refine J3 (by rw [List.length_singleton]; lia) ?_
 have hl1 : (row ++ [64 * v.mod + 8 * v.reg + v.rm]).length ≤ 5001 := hl1
 cases q : (v.rm == 4) with
 | true =>
  rw [q,cond_true] at h
  rw [cond_true]
  refine J3 (by rw [List.length_singleton]; lia) (qc hm (by rw [yb3,List.length_singleton]; lia) ?_)
  rw [d9]; exact h
 | false =>
  rw [q,cond_false] at h
  rw [cond_false]
  refine J3 (by rw [List.length_nil]; lia) (qc hm (by rw [yb3,List.length_nil]; lia) ?_)
  rw [d9]; exact h
theorem lq {v : TV} (hx : 0 ≤ v.rxb) : decide (64 + 8 * b2i (v.sz == 64) + v.rxb < 0) = false := decide_eq_false (by cases (v.sz == 64) <;> simp only [b2i] <;> first | lia | (simp; lia))
theorem sV (hx : 0 ≤ v.rxb) : qb v = cond (decide (rxV v < 0)) [] [rxV v] := by
 unfold qb rxV
 cases v.rexed with
 | true => rw [cond_true,cond_true,lq hx]; rfl
 | false => rfl
theorem lr (hx : 0 ≤ v.rxb) : p0 v ++ qb v ++ [K5 v] ++ [moZ v.mod v.reg v.rm] ++ cond (v.rm == 4) [v.sib] [] ++ liO v.far 0 (wdL v.mod v.rm v.sib).toNat = X3 v := by
 unfold X3 X0 G5 p0
 refine (sV hx) ▸ ?_
 simp only [List.append_assoc,List.cons_append,List.nil_append]
theorem xD : (p0 v).length ≤ 2 := by
 unfold p0
 cases (v.which == 0) <;> cases (v.sz == 16) <;> simp
theorem DD (hT : TabOK X e7) (henv : env.scope = j1.scope) (ov : OkV v) (h : ∀ r : List Int,Tn X env kT 10 15 (Lr v (.nums (X3 v))) (Cw v) (t.st ++ [.nums r,smD])) : Tn X env kT 6 19 (Le v) (Cw v) t.st := by
 have l0 := xD (v := v)
 have l1 : (qb v).length ≤ 1 := by unfold qb; cases v.rexed <;> simp
 refine do6 hT henv ov.which (do7 hT henv (by lia) (do8 hT henv ov.sz.1 (by rw [yb3]; lia) (do9 hT henv ov.mod (by rw [yb3,yb3,List.length_singleton]; lia) ?_)))
 refine (lr ov.rxb.1).symm ▸ ?_
 exact h _
end
end
section
open PySem.Spec
structure SY where
 c : List Int
 sp : Int
 rs : Int
 R : List Int
 H : List (Int × Int)
 rip : Int
 beg : Int
 b1 : Int
 b2 : Int
noncomputable def SY.m (y : SY) : Mach := ⟨y.H,y.R,y.rip,y.beg,y.b1,y.b2⟩
noncomputable def SY.t (y : SY) : TS := ⟨y.c,y.sp,y.rs,y.m,y.R,y.H,y.b1,y.b2⟩
noncomputable def SY.up (y : SY) (s r : Int) (R : KM) : SY := ⟨y.c,s,r,R,y.H,y.rip,y.beg,y.b1,y.b2⟩
noncomputable def SY.mem (y : SY) (H : KF) : SY := ⟨y.c,y.sp,y.rs,y.R,H,y.rip,y.beg,y.b1,y.b2⟩
section
variable {kT : KS} {y : SY} {v : TB} {g1 g2 : MO} {N : Int}
theorem sW {R : KM} {w x : Int} (h : x ∈ R.set n w) : x ∈ R ∨ x = w := by
 rcases List.mem_or_eq_of_mem_set h with h | h
 ·exact .inl h
 ·exact .inr h
theorem J4 {R : KM} {w : Int} (h : okR R) (h0 : 0 ≤ w) (h1 : w < T64) : okR (R.set n w) := by
 refine ⟨by rw [List.length_set]; exact h.1,λ x hx => ?_⟩
 rcases sW hx with hx | rfl
 ·exact h.2 x hx
 ·exact ⟨h0,h1⟩
theorem xE {s r n w : Int} (h0 : 0 ≤ w) (h1 : w < 2 ^ 64) : y.t.put s r n w = (y.up s r (y.R.set n.toNat w)).t := by
 have e : bK y.R false n 64 w = y.R.set n.toNat w := by
  refine (?_ : y.R.set n.toNat (w % 2 ^ 64) = _)
  exact (Int.emod_eq_of_lt h0 h1).symm ▸ rfl
 refine (?_ : (⟨y.c,s,r,tP y.m n w,y.R.set n.toNat w,y.H,y.b1,y.b2⟩ : TS) = _)
 have e2 : tP y.m n w = y.m.setR (bK y.R false n 64 w) := rfl
 rw [e2,e]; rfl
theorem ls {s r : Int} : y.t.pen s r = (y.up s r y.R).t := rfl
theorem lu : y.up y.sp y.rs y.R = y := rfl
noncomputable def okH (H : KF) : Prop := okE H ∧ H.length ≤ 9000
theorem xF (hR : okR y.R) (hH : okH y.H) : y.t.s.ok := ⟨hR.1,hH.1,by have := hH.2; show y.H.length ≤ 900000; lia⟩
theorem DE (hT : TabOK X e7) (henv : env.scope = j1.scope) {t : TS} (hs : 0 ≤ v.sib ∧ v.sib < 256) (h : Tn X env kT 11 14 (Lp { v with ba := baL v.mod v.rm v.sib (v.rxb % 2),ix := ixL v.rm v.sib (v.rxb / 2 % 2),sc := scL v.rm v.sib }) (Cw v.toTV) (t.st ++ [g1,g2])) :
  Tn X env kT 10 15 (Lr v.toTV (.nums v.row)) (Cw v.toTV) (t.st ++ [g1,g2]) := by
 refine go (s7 hT) henv ?_
 rw [Do]
 refine c8 ((ya2 hs.1).symm ▸ (ya2 hs.2).symm ▸ rfl) ?_
 rw [d9]; exact h
theorem DG (hT : TabOK X e7) (henv : env.scope = j1.scope) {t : TS} (hl : v.row.length ≤ 9000) (h : Tn X env kT 12 13 (Lh { v with be := (v.here + v.row.length) % T64 }) (Cg { v with goal := v.far }) (t.st ++ [g1,g2])) :
  Tn X env kT 11 14 (Lp v) (Cw v.toTV) (t.st ++ [g1,g2]) := by
 refine go (s7 hT) henv ?_
 rw [Dp]
 refine c8 (ya2 (by lia)) ?_
 rw [d9]; exact h
theorem lw {K : TS → Prop} {n : Int} (hp : E0 y.t N) (hN : N < 450000) (hR : okR y.R) (h0 : 0 ≤ n) (h1 : n ≤ 15) (h : ∀ (s r : Int) (R : KM),okR R → E0 (y.up s r R).t (N + 5) → K (y.up s r R).t) : zV y.t n K := by
 refine c8 (lp hp (by lia)) λ w s r w0 w1 s0 s1 r0 => ⟨rfl,rfl,c8 ((ya2 h0).symm ▸ (ya2 h1).symm ▸ rfl) ?_⟩
 rw [xE w0 w1]
 exact h s r _ (J4 hR w0 w1) (M9 hp s0 s1 r0)
theorem up5 (hp : E0 y.t N) : E0 (y.up y.sp y.rs y.R).t (N + 5) := by
 refine L7 (hp) λ a b c d => ?_
 exact ⟨a,b,c,show y.sp ≤ N + 5 by have : y.sp ≤ N := d; lia⟩
theorem DH (hT : TabOK X e7) (henv : env.scope = j1.scope) (hp : E0 y.t N) (hN : N < 450000) (hR : okR y.R) (hH : okH y.H)
  (h : ∀ (s r : Int) (R : KM),okR R → E0 (y.up s r R).t (N + 5) → Tn X env kT 13 12 (Lh v) (Cg v) ((y.up s r R).t.st ++ [g1,g2])) : Tn X env kT 12 13 (Lh v) (Cg v) (y.t.st ++ [g1,g2]) := by
 refine go (pW hT (s := y.t.s) (R := y.t.R) (xF hR hH) hR.1) henv ?_
 rw [Dq]
 have h0 := h y.sp y.rs y.R hR (up5 hp)
 replace h0 := lu ▸ h0
 cases q : decide (0 ≤ v.ba) with
 | true =>
  rw [cond_true]
  cases q2 : decide (v.ba < 16) with
  | true =>
   rw [cond_true]
   refine lw hp hN hR (ya3 q) (by have := ya3 q2; lia) λ s r R hR hp => ?_
   rw [d9]
   exact h s r R hR hp
  | false => rw [cond_false,d9]; exact h0
 | false => rw [cond_false,d9]; exact h0
theorem DI (hT : TabOK X e7) (henv : env.scope = j1.scope) (hp : E0 y.t N) (hN : N < 450000) (hR : okR y.R) (hH : okH y.H) (hi : v.ix ≤ 15)
  (h : ∀ (s r : Int) (R : KM),okR R → E0 (y.up s r R).t (N + 5) → Tn X env kT 14 11 (Lh v) (Cg v) ((y.up s r R).t.st ++ [g1,g2])) : Tn X env kT 13 12 (Lh v) (Cg v) (y.t.st ++ [g1,g2]) := by
 refine go (pW hT (s := y.t.s) (R := y.t.R) (xF hR hH) hR.1) henv ?_
 rw [Dr]
 have h0 := h y.sp y.rs y.R hR (up5 hp)
 replace h0 := lu ▸ h0
 cases q : decide (v.ix ≥ 0) with
 | true =>
  rw [cond_true]
  cases q2 : (!(v.ix == v.ba)) with
  | true =>
   rw [cond_true]
   refine lw hp hN hR (ya3 q) hi λ s r R hR hp => ?_
   rw [d9]
   exact h s r R hR hp
  | false => rw [cond_false,d9]; exact h0
 | false => rw [cond_false,d9]; exact h0
theorem DJ (hT : TabOK X e7) (henv : env.scope = j1.scope) (hR : okR y.R) (hi : v.ba ≤ 16)
  (h : Tn X env kT 15 10 (Lh v) (Cg { v with goal := v.goal + bvL y.R v.be v.ba }) (y.t.st ++ [g1,g2])) : Tn X env kT 14 11 (Lh v) (Cg v) (y.t.st ++ [g1,g2]) := by
 refine go (s7 hT) henv ?_
 rw [Ds]
 unfold bvL at h
 cases q : decide (v.ba ≥ 0) with
 | true =>
  rw [q,cond_true] at h
  rw [cond_true]
  cases q2 : (v.ba == 16) with
  | true =>
   rw [q2,cond_true] at h
   rw [cond_true,d9]; exact h
  | false =>
   rw [q2,cond_false] at h
   rw [cond_false]
   have q2 : v.ba ≠ 16 := by simpa using q2
   refine c8 (p7 hR.1 (ya3 q) (by lia)) ?_
   rw [d9]; exact h
 | false =>
  rw [q,cond_false,Int.add_zero] at h
  rw [cond_false,d9]; exact h
theorem DK (hT : TabOK X e7) (henv : env.scope = j1.scope) (hR : okR y.R) (hi : v.ix ≤ 15) (hs : s64 v.sc = true)
  (h : Tn X env kT 16 9 (Lh v) (Cg { v with goal := v.goal + ivL y.R v.ix v.sc }) (y.t.st ++ [g1,g2])) : Tn X env kT 15 10 (Lh v) (Cg v) (y.t.st ++ [g1,g2]) := by
 refine go (s7 hT) henv ?_
 rw [Dt]
 unfold ivL at h
 cases q : decide (v.ix ≥ 0) with
 | true =>
  rw [q,cond_true] at h
  rw [cond_true]
  refine c8 (p7 hR.1 (ya3 q) hi) (c8 (by rw [hs]; simp) ?_)
  rw [d9]; exact h
 | false =>
  rw [q,cond_false,Int.add_zero] at h
  rw [cond_false,d9]; exact h
theorem Ad {mod rm sib b : Int} (h : 0 ≤ rm ∧ rm < 8) (hb : 0 ≤ b ∧ b ≤ 1) : baL mod rm sib b ≤ 16 := by
 unfold baL
 cases (!(rm == 4)) <;> cases (mod == 0) <;> cases (rm == 5) <;> cases (sib % 8 == 5) <;> simp only [cond_true,cond_false] <;> lia
theorem Ae {rm sib x : Int} (hb : 0 ≤ x ∧ x ≤ 1) : ixL rm sib x ≤ 15 := by
 unfold ixL
 cases (!(rm == 4)) <;> cases (sib / 8 % 8 + 8 * x == 4) <;> simp only [cond_true,cond_false] <;> lia
theorem sX {rm sib : Int} (h0 : 0 ≤ sib ∧ sib < 256) : s64 (scL rm sib) = true := by
 unfold scL
 cases (!(rm == 4)) with
 | true => show s64 1 = true; decide
 | false =>
  have h : sib / 64 = 0 ∨ sib / 64 = 1 ∨ sib / 64 = 2 ∨ sib / 64 = 3 := by lia
  refine (?_ : s64 (2 ^ (sib / 64).toNat) = true)
  rcases h with e | e | e | e <;> rw [e] <;> decide
noncomputable def gZ (v : TV) (R : KM) (be : Int) : Int := v.far + bvL R be (baL v.mod v.rm v.sib (v.rxb % 2)) + ivL R (ixL v.rm v.sib (v.rxb / 2 % 2)) (scL v.rm v.sib)
noncomputable def beZ (v : TV) : Int := (v.here + (X3 v).length) % T64
noncomputable def vC (v : TV) (R : KM) : TB := ⟨v,X3 v,baL v.mod v.rm v.sib (v.rxb % 2),ixL v.rm v.sib (v.rxb / 2 % 2),scL v.rm v.sib,beZ v,gZ v R (beZ v)⟩
theorem J5 {v : TV} (ov : OkV v) : (X3 v).length ≤ 10 := xB ov.mod
theorem DL (hT : TabOK X e7) (henv : env.scope = j1.scope) {v : TV} (ov : OkV v) (hp : E0 y.t N) (hN : N < 400000) (hR : okR y.R) (hH : okH y.H)
  (h : ∀ (s r : Int) (R : KM),okR R → E0 (y.up s r R).t (N + 10) → Tn X env kT 16 9 (Lh (vC v R)) (Cg (vC v R)) ((y.up s r R).t.st ++ [g1,g2])) : Tn X env kT 10 15 (Lr v (.nums (X3 v))) (Cw v) (y.t.st ++ [g1,g2]) := by
 have hb := Ad (mod := v.mod) (sib := v.sib) ov.rm (b := v.rxb % 2) (by lia)
 have hi := Ae (rm := v.rm) (sib := v.sib) (x := v.rxb / 2 % 2) (by lia)
 refine DE (v := ⟨v,X3 v,0,0,0,0,0⟩) hT henv ov.sib ?_
 refine DG (v := ⟨v,X3 v,baL v.mod v.rm v.sib (v.rxb % 2),ixL v.rm v.sib (v.rxb / 2 % 2),scL v.rm v.sib,0,0⟩) hT henv (ya6 (J5 ov) (by decide)) ?_
 refine DH (v := ⟨v,X3 v,baL v.mod v.rm v.sib (v.rxb % 2),ixL v.rm v.sib (v.rxb / 2 % 2),scL v.rm v.sib,beZ v,v.far⟩) hT henv hp (by lia) hR hH λ s r R hR hp => ?_
 refine DI hT henv hp (by lia) hR hH hi λ s r R hR hp => ?_
 refine DJ hT henv hR hb ?_
 refine DK (v := ⟨v,X3 v,baL v.mod v.rm v.sib (v.rxb % 2),ixL v.rm v.sib (v.rxb / 2 % 2),scL v.rm v.sib,beZ v,v.far + bvL R (beZ v) (baL v.mod v.rm v.sib (v.rxb % 2))⟩) hT henv hR hi (sX ov.sib) ?_
 exact h s r R hR (by rw [show N + 10 = N + 5 + 5 by lia]; exact hp)
end
end
section
open PySem.Spec
noncomputable def nZ (v : TV) : Int := v.reg + 8 * (v.rxb / 4)
noncomputable def hiZ (v : TV) : Bool := cond (v.sz == 8) (cond (decide (v.reg > 3)) (!v.rexed) false) false
noncomputable def gB (v : TV) (y : SY) : Int := gZ v y.R (beZ v) + cond (v.which == 0) 0 (cond (v.which == 1) y.b1 y.b2)
noncomputable def vD (v : TV) (y : SY) (n : Int) (hi : Bool) (due : Int) : TC := ⟨vC v y.R,spL (gB v y),n,hi,due⟩
section
variable {kT : KS} {y : SY} {v : TV} {g1 g2 : MO} {N : Int}
theorem DM (hT : TabOK X e7) (henv : env.scope = j1.scope) (hw : B9 v.which) (h : Tn X env kT 17 8 (Ls (vD v y 0 false 0)) (Cs (vC v y.R)) (y.t.st ++ [g1,g2])) : Tn X env kT 16 9 (Lh (vC v y.R)) (Cg (vC v y.R)) (y.t.st ++ [g1,g2]) := by
 refine go (s7 hT) henv ?_
 have e := Du (k := nx X env kT 17 8) (t := y.t) (v := vD v y 0 false 0) (g1 := g1) (g2 := g2) hw
 rw [d9] at e
 exact Eq.mpr e h
theorem sY {a b : KF} : (y.mem a).mem b = y.mem b := rfl
theorem lx {K : TS → Prop} {p q : Int} (e : q = p) (ho : i9 xs = true) (hl : xs.length ≤ 10) (h : K (y.mem (v8 y.H p xs 0)).t) : zW y.t q xs K := by
 subst e
 exact ⟨rfl,rfl,c8 (ho.symm ▸ (ya2 hl).symm ▸ rfl) h⟩
theorem DN (hT : TabOK X e7) (henv : env.scope = j1.scope) (hp : E0 y.t N) (hN : N < 450000) (hH : okH y.H) {u : TC} {g : Int} (hu : u.sp = spL g)
  (h : ∀ (s r w : Int),E0 (y.up s r y.R).t (N + 5) → Tn X env kT 18 7 (Ls u) (Cs u.toTB) (((y.up s r y.R).mem (v8 y.H ((g + 0) % T64) (liO w 0 8) 0)).t.st ++ [g1,g2])) :
  Tn X env kT 17 8 (Ls u) (Cs u.toTB) (y.t.st ++ [g1,g2]) := by
 have hl : y.H.length ≤ 900000 := by have := hH.2; lia
 refine go (pX hT (s := y.t.s) (H := y.t.H) hl hl) henv ?_
 rw [Dv,hu]
 refine c8 (show inB 0 (spL g).length = true by have e : (spL g).length = 8 := rfl; rw [e]; decide) (c8 (lp hp (by lia)) λ w s r w0 w1 s0 s1 r0 => ?_)
 rw [ls]
 refine lx (p := (g + 0) % T64) rfl S4 (by rw [r6]; decide) ?_
 rw [d9]
 exact h s r w (M9 hp s0 s1 r0)
theorem DO (hT : TabOK X e7) (henv : env.scope = j1.scope) (hH : okH y.H) {u : TC} (ho : i9 u.row = true) (hl : u.row.length ≤ 10)
  (h : Tn X env kT 19 6 (Ls u) (Cs u.toTB) ((y.mem (v8 y.H u.here u.row 0)).t.st ++ [g1,g2])) :
  Tn X env kT 18 7 (Ls u) (Cs u.toTB) (y.t.st ++ [g1,g2]) := by
 have hb : y.H.length ≤ 900000 := by have := hH.2; lia
 refine go (pX hT (s := y.t.s) (H := y.t.H) hb hb) henv ?_
 rw [Dw]
 refine lx rfl ho hl ?_
 rw [d9]
 exact h
theorem DP (hT : TabOK X e7) (henv : env.scope = j1.scope) {t : TS} (h : Tn X env kT 20 5 (Ln (vD v y (nZ v) (hiZ v) 0)) (Cs (vC v y.R)) (t.st ++ [g1,g2])) : Tn X env kT 19 6 (Ls (vD v y 0 false 0)) (Cs (vC v y.R)) (t.st ++ [g1,g2]) := by
 refine go (s7 hT) henv ?_
 have e := Dx (k := nx X env kT 20 5) (t := t) (v := vD v y 0 false 0) (g1 := g1) (g2 := g2)
 simp only [d9] at e
 refine Eq.mpr e ?_
 unfold hiZ at h
 have e1 : (vD v y 0 false 0).sz = v.sz := rfl
 have e2 : (vD v y 0 false 0).reg = v.reg := rfl
 refine e1.symm ▸ e2.symm ▸ ?_
 cases q : (v.sz == 8) with
 | true =>
  rw [q,cond_true] at h
  rw [cond_true]
  cases q2 : decide (v.reg > 3) with
  | true => rw [q2,cond_true] at h; rw [cond_true]; exact h
  | false => rw [q2,cond_false] at h; rw [cond_false]; exact h
 | false => rw [q,cond_false] at h; rw [cond_false]; exact h
theorem xG (hw : B9 v.which) : i9 (p0 v) = true := by
 unfold p0
 rcases hw with e | e | e <;> rw [e] <;> cases (v.sz == 16) <;> decide
theorem D6 {a b : KM} (ha : i9 a = true) (hb : i9 b = true) : i9 (a ++ b) = true := by
 unfold i9 at *
 rw [List.all_append,ha,hb]; rfl
theorem G7 {a : Int} (h0 : 0 ≤ a) (h1 : a < 256) : i9 [a] = true := by
 unfold i9
 simp only [List.all_cons,List.all_nil,Bool.and_true,ya4,ya5]
 exact ⟨h0,h1⟩
theorem gV {ds : Str} {b : Bool} : ie ds b = 141 ∨ ie ds b = 139 ∨ ie ds b = 138 ∨ ie ds b = 137 ∨ ie ds b = 136 := by
 unfold ie
 cases (ds == L6) <;> cases (ds == z7) <;> cases b <;> simp
theorem fc (ov : OkV v) : i9 (X3 v) = true := by
 rw [← lr ov.rxb.1]
 have h1 := ov.rm; have h2 := ov.reg; have h3 := ov.sib; have h4 := ov.rxb
 refine D6 (D6 (D6 (D6 (D6 (xG ov.which) ?_) ?_) ?_) ?_) S4
 ·unfold qb
  cases v.rexed with
  | true =>
   refine G7 ?_ ?_ <;> cases (v.sz == 64) <;> simp only [b2i,cond_true,cond_false] <;> first | lia | (simp; lia)
  | false => rfl
 ·have := gV (ds := v.ds) (b := decide (v.sz > 8))
  unfold K5
  exact G7 (by lia) (by lia)
 ·have hm := ov.mod
  unfold B9 at hm
  exact G7 (by unfold moZ; lia) (by unfold moZ; lia)
 ·cases (v.rm == 4) with
  | true => exact G7 h3.1 h3.2
  | false => rfl
noncomputable def h2Z (v : TV) (y : SY) (w : Int) : List (Int × Int) := v8 (v8 y.H ((gB v y + 0) % T64) (liO w 0 8) 0) v.here (X3 v) 0
theorem xH (ov : OkV v) {w : Int} : (h2Z v y w).length ≤ y.H.length + 18 := by
 unfold h2Z
 have h1 := dE (p := v.here) (xs := X3 v) (es := v8 y.H ((gB v y + 0) % T64) (liO w 0 8) 0) (i := 0)
 have h2 := dE (p := (gB v y + 0) % T64) (xs := liO w 0 8) (es := y.H) (i := 0)
 have h3 := J5 ov
 rw [r6] at h2
 lia
theorem Af (ov : OkV v) (hH : okE y.H) {w : Int} : okE (h2Z v y w) := eV (eV hH S4) (fc ov)
theorem sZ {w : Int} {j : Nat} (hj : j < 8) : (s6 (h2Z v y w) ((gB v y + (j : Int)) % T64)).isSome = true := by
 unfold h2Z
 refine gU ?_
 have := F3 (p := (gB v y + 0) % T64) (xs := liO w 0 8) (es := y.H) (i := 0) (j := j) (by rw [r6]; exact hj) (by rw [r6]; decide)
 have e : ((gB v y + 0) % T64 + ((0 + j : Nat) : Int)) % T64 = (gB v y + (j : Int)) % T64 := by
  rw [yc0,Int.add_zero,Int.emod_add_emod]
 rw [e] at this
 rw [this]; rfl
theorem DQ (hT : TabOK X e7) (henv : env.scope = j1.scope) (ov : OkV v) (hp : E0 y.t N) (hN : N < 450000) (hH : okE y.H) (hl : y.H.length ≤ 8000)
  (h : ∀ (s r w : Int),E0 (y.up s r y.R).t (N + 5) → Tn X env kT 20 5 (Ln (vD v y (nZ v) (hiZ v) 0)) (Cs (vC v y.R)) (((y.up s r y.R).mem (h2Z v y w)).t.st ++ [g1,g2])) :
  Tn X env kT 16 9 (Lh (vC v y.R)) (Cg (vC v y.R)) (y.t.st ++ [g1,g2]) := by
 refine DM hT henv ov.which ?_
 refine DN hT henv hp hN ⟨hH,by lia⟩ (u := vD v y 0 false 0) (g := gB v y) rfl λ s r w hp => ?_
 have h2 := dE (p := (gB v y + 0) % T64) (xs := liO w 0 8) (es := y.H) (i := 0)
 rw [r6] at h2
 have h3 : okH (v8 y.H ((gB v y + 0) % T64) (liO w 0 8) 0) := ⟨eV hH S4,by lia⟩
 have h4 := h s r w hp
 unfold h2Z at h4
 generalize v8 y.H ((gB v y + 0) % T64) (liO w 0 8) 0 = H1 at *
 refine DO (u := vD v y 0 false 0) (y := (y.up s r y.R).mem H1) hT henv h3 (fc ov) (J5 ov) ?_
 rw [sY]
 exact DP hT henv h4
end
end
section
open PySem.Spec
theorem ly {g : Int} : spL g = (List.range 8).map λ j => (g % T64 + ((0 + j : Nat) : Int)) % T64 := by
 simp only [Int.emod_add_emod]
 rfl
theorem fe {g : Int} (hn : n ≤ 8) : (spL g).take n = (List.range n).map λ j => (g % T64 + ((0 + j : Nat) : Int)) % T64 := by
 exact ly.symm ▸ List.map_take ▸ List.take_range.symm ▸ (Nat.min_eq_left hn).symm ▸ rfl
theorem oq {g : Int} {j : Nat} (hj : j < 8) : (spL g).getD j 0 = (g % T64 + (j : Int)) % T64 := by
 rw [ly,yc9,List.getElem?_map,List.getElem?_range hj]
 refine (?_ : (g % T64 + ((0 + j : Nat) : Int)) % T64 = _)
 rw [yc0]
theorem qd : ∀ {xs : KM},i9 xs = true → 0 ≤ leU xs ∧ leU xs < 256 ^ xs.length := by
 intro xs
 induction xs with
 | nil =>
  intro Z
  exact ⟨by decide,by decide⟩
 | cons x r ih =>
  intro h
  unfold i9 at h
  rw [List.all_cons,ya4] at h
  have h1 : 0 ≤ x ∧ x < 256 := by simpa using h.1
  have h2 := ih h.2
  rw [xx,yb2,Int.pow_succ]
  omega
theorem qe {sz : Int} (h : j6 sz = true) : (256 : Int) ^ (sz / 8).toNat = 2 ^ sz.toNat := by
 rcases f7 h with rfl | rfl | rfl | rfl <;> decide
theorem qf {R : KM} {hi : Bool} {n sz w : Int} (h : j6 sz = true) (hh : hi = true → sz = 8) : bK R hi n sz w = lwR R hi n sz (w % 2 ^ sz.toNat) := by
 unfold bK lwR
 induction hi using Bool.casesOn with
 | true =>
  rw [hh rfl,cond_true,cond_true]
  congr 1
  refine (?_ : _ = R.getD (n - 4).toNat 0 / 65536 * 65536 + w % 256 * 256 + R.getD (n - 4).toNat 0 % 256)
  lia
 | false =>
  rw [cond_false,cond_false]
  rcases f7 h with rfl | rfl | rfl | rfl
  ·refine (?_ : R.set n.toNat (R.getD n.toNat 0 - R.getD n.toNat 0 % 256 + w % 256) = R.set n.toNat (R.getD n.toNat 0 / 256 * 256 + w % 256))
   congr 1; lia
  ·refine (?_ : R.set n.toNat (R.getD n.toNat 0 - R.getD n.toNat 0 % 65536 + w % 65536) = R.set n.toNat (R.getD n.toNat 0 / 65536 * 65536 + w % 65536))
   congr 1; lia
  ·rfl
  ·rfl
theorem xI {R : KM} {hi : Bool} {n sz w : Int} (hR : okR R) (h : j6 sz = true) (hh : hi = true → sz = 8) (h0 : 0 ≤ w) (h1 : w < 2 ^ sz.toNat) : okR (lwR R hi n sz w) := by
 unfold lwR
 induction hi using Bool.casesOn with
 | true =>
  have e := hh rfl
  subst e
  have h1 : w < 256 := h1
  have := am hR (n - 4).toNat
  rw [cond_true]
  unfold T64 at this
  exact J4 hR (by omega) (by unfold T64; omega)
 | false =>
  have := am hR n.toNat
  unfold T64 at this
  rw [cond_false]
  rcases f7 h with rfl | rfl | rfl | rfl
  ·have h1 : w < 256 := h1
   refine (?_ : okR (R.set n.toNat (R.getD n.toNat 0 / 256 * 256 + w)))
   exact J4 hR (by lia) (by unfold T64; lia)
  ·have h1 : w < 65536 := h1
   exact J4 hR (by lia) (by unfold T64; lia)
  ·have h1 : w < 4294967296 := h1
   exact J4 hR h0 (by unfold T64; lia)
  ·exact J4 hR h0 h1
noncomputable def plZ (v : TV) (y : SY) : Int := gB v y % T64
noncomputable def lS (v : TV) (y : SY) : List Int := cond (v.ds == L6) (lwR y.R (hiZ v) (nZ v) v.sz (gZ v y.R (beZ v) % 2 ^ v.sz.toNat)) (cond (v.ds == z7) (lwR y.R (hiZ v) (nZ v) v.sz (leU (z6 y.H (plZ v y) 0 (v.sz / 8).toNat))) y.R)
noncomputable def gW (v : TV) (y : SY) : List (Int × Int) := cond (v.ds == n7) (v8 y.H (plZ v y) (liO (rdR y.R (hiZ v) (nZ v) v.sz) 0 (v.sz / 8).toNat) 0) y.H
noncomputable def eff (v : TV) (y : SY) : TS := ⟨y.c,y.sp,y.rs,y.m,lS v y,gW v y,y.b1,y.b2⟩
section
variable {kT : KS} {y : SY} {v : TV} {g1 g2 : MO} {N : Int}
theorem lz (ov : OkV v) : lQ (hiZ v) (nZ v) v.sz := by
 have h1 := ov.reg; have h2 := ov.rxb
 refine ⟨ov.sz.2.1,by unfold nZ; lia,by unfold nZ; lia,λ q => ?_⟩
 unfold hiZ at q
 cases q1 : (v.sz == 8) with
 | false => rw [q1] at q; cases q
 | true =>
  rw [q1,cond_true] at q
  cases q2 : decide (v.reg > 3) with
  | false => rw [q2] at q; cases q
  | true =>
   rw [q2,cond_true] at q
   have q3 : v.rexed = false := by cases e : v.rexed with
    | true => rw [e] at q; cases q
    | false => rfl
   have q4 := (ov.rexed q3).2
   have q5 := ya3 q2
   exact ⟨beq_iff_eq.mp q1,by unfold nZ; lia,by unfold nZ; lia⟩
theorem ff {hi : Bool} {n sz : Int} (h : lQ hi n sz) : hiB hi n sz = true := by
 refine L7 (h) λ h1 h2 h3 h4 => ?_
 unfold hiB
 refine h1.symm ▸ (ya2 h2).symm ▸ (ya2 h3).symm ▸ ?_
 induction hi using Bool.casesOn with
 | false => rfl
 | true =>
  refine C2 (h4 rfl) λ eR0 h5 h6 => ?_
  subst eR0
  rw [ya2 h5,ya2 h6]; rfl
noncomputable def lA (v : TV) (y : SY) : Prop := ∀ j : Nat,j < 8 → (s6 y.H ((gB v y + (j : Int)) % T64)).isSome = true
theorem n8 {sz : Int} (h : j6 sz = true) : (sz / 8).toNat ≤ 8 := by
 rcases f7 h with rfl | rfl | rfl | rfl <;> decide
theorem lB (hs : lA v y) (hn : n ≤ 8) : ∀ s ∈ (spL (gB v y)).take n,(s6 y.H s).isSome = true := by
 intro s h
 rw [fe hn] at h
 refine a9 (List.mem_map.mp h) λ j hj eR2 => ?_
 subst eR2
 rw [List.mem_range] at hj
 have := hs j (by lia)
 rw [yc0,Int.emod_add_emod]
 exact this
theorem K6 : (L6 == n7) = false := by decide
theorem F4 : (z7 == L6) = false := by decide
theorem G8 : (z7 == n7) = false := by decide
theorem D7 : (n7 == L6) = false := by decide
theorem B5 : (n7 == z7) = false := by decide
theorem Ag (hT : TabOK X e7) (henv : env.scope = j1.scope) {u : TC} (h1 : u.ds = L6) (h2 : j6 u.sz = true) {t : TS} (h : Tn X env kT 21 4 (Lu { u with due := u.goal % 2 ^ u.sz.toNat }) (Cs u.toTB) (t.st ++ [g1,g2])) : Tn X env kT 20 5 (Ln u) (Cs u.toTB) (t.st ++ [g1,g2]) := by
 refine go (s7 hT) henv ?_
 rw [zX h1 h2,d9]
 exact h
theorem xJ (hT : TabOK X e7) (henv : env.scope = j1.scope) {u : TC} (h1 : u.ds = z7 ∨ u.ds = n7) (h2 : j6 u.sz = true) {g : Int} (h3 : u.sp = spL g) {t : TS} (hs : ∀ s ∈ (spL g).take (u.sz / 8).toNat,(s6 t.H s).isSome = true)
  (h : Tn X env kT 21 4 (Lu { u with due := leU (z6 t.H (g % T64) 0 (u.sz / 8).toNat) }) (Ct u.toTB) (t.st ++ [g1,g2])) : Tn X env kT 20 5 (Ln u) (Cs u.toTB) (t.st ++ [g1,g2]) := by
 refine go (s7 hT) henv ?_
 rw [zY h1 h2 h3,h3]
 refine xy hs λ ws e => ?_
 rw [d9,List.nil_append]
 have e2 := sP (es := t.H) (p := g % T64) (n := (u.sz / 8).toNat) (i := 0) (m := 0) (sp := (spL g).take (u.sz / 8).toNat) (fe (n8 h2))
 rw [← e,Int.pow_zero,Int.one_mul] at e2
 rw [e2]
 rw [← h3]
 exact h
theorem xK (hT : TabOK X e7) (henv : env.scope = j1.scope) {u : TC} (h1 : u.ds = L6 ∨ u.ds = z7) (h2 : lQ u.hi u.no u.sz) {t : TS} (hR : t.R.length = 16) {C : KD}
  (h : Tn X env kT 22 3 (Lu u) C ((t.setR (lwR t.R u.hi u.no u.sz u.due)).st ++ [g1,g2])) : Tn X env kT 21 4 (Lu u) C (t.st ++ [g1,g2]) := by
 refine go (s7 hT) henv ?_
 rw [zZ h1]
 refine c8 ((ff h2).symm ▸ (ya2 hR).symm ▸ rfl) ?_
 rw [d9]
 exact h
theorem Ah (hT : TabOK X e7) (henv : env.scope = j1.scope) {u : TC} (h1 : u.ds = n7) (h2 : lQ u.hi u.no u.sz) {g : Int} (h3 : u.sp = spL g) {t : TS} (hR : t.R.length = 16) (hH : t.H.length ≤ 9000)
  (h : ∀ o,Tn X env kT 22 3 (Lz u o) (Ct u.toTB) ((t.setH (v8 t.H (g % T64) (liO (rdR t.R u.hi u.no u.sz) 0 (u.sz / 8).toNat) 0)).st ++ [g1,g2])) : Tn X env kT 21 4 (Lu u) (Ct u.toTB) (t.st ++ [g1,g2]) := by
 refine go (s7 hT) henv ?_
 rw [Ab h1 h2.1 h3]
 have hn := n8 h2.1
 refine c8 ((ff h2).symm ▸ (ya2 hR).symm ▸ rfl) (sR (by rw [r6]; lia) ?_)
 rw [h3,sQ (p := g % T64) (λ j hj => oq (by rw [r6] at hj; lia)),d9]
 exact h (some (_,_))
end
end
section
open PySem.Spec
section
variable {kT : KS} {y : SY} {v : TV} {g1 g2 : MO} {N : Int}
theorem DR (hT : TabOK X e7) (henv : env.scope = j1.scope) (ov : OkV v) (hR : okR y.R) (hl : y.H.length ≤ 9000) (hs : lA v y)
  (h : ∀ (due : Int) (o : Option (Int × Int)) (C : KD),Tn X env kT 22 3 (Lz (vD v y (nZ v) (hiZ v) due) o) C ((eff v y).st ++ [g1,g2])) :
  Tn X env kT 20 5 (Ln (vD v y (nZ v) (hiZ v) 0)) (Cs (vC v y.R)) (y.t.st ++ [g1,g2]) := by
 have hh := lz ov
 have hsz := ov.sz.2.1
 rcases ov.sz.1 with e | e | e
 ·have ee : eff v y = y.t.setR (lwR y.R (hiZ v) (nZ v) v.sz (gZ v y.R (beZ v) % 2 ^ v.sz.toNat)) := by
   unfold eff lS gW
   rw [e,K6,cond_false,show (L6 == L6) = true from by decide,cond_true]; rfl
  replace h := ee ▸ h
  exact Ag (u := vD v y (nZ v) (hiZ v) 0) hT henv e hsz (xK (u := vD v y (nZ v) (hiZ v) (gZ v y.R (beZ v) % 2 ^ v.sz.toNat)) hT henv (.inl e) hh hR.1 (h _ none _))
 ·have ee : eff v y = y.t.setR (lwR y.R (hiZ v) (nZ v) v.sz (leU (z6 y.H (plZ v y) 0 (v.sz / 8).toNat))) := by
   unfold eff lS gW
   rw [e,G8,cond_false,F4,cond_false,show (z7 == z7) = true from by decide,cond_true]; rfl
  rw [ee] at h
  exact xJ (u := vD v y (nZ v) (hiZ v) 0) hT henv (.inl e) hsz (g := gB v y) rfl (lB hs (n8 hsz)) (xK (u := vD v y (nZ v) (hiZ v) (leU (z6 y.H (plZ v y) 0 (v.sz / 8).toNat))) hT henv (.inr e) hh hR.1 (h _ none _))
 ·have ee : eff v y = y.t.setH (v8 y.H (plZ v y) (liO (rdR y.R (hiZ v) (nZ v) v.sz) 0 (v.sz / 8).toNat) 0) := by
   unfold eff lS gW
   rw [e,D7,cond_false,B5,cond_false,show (n7 == n7) = true from by decide,cond_true]; rfl
  rw [ee] at h
  exact xJ (u := vD v y (nZ v) (hiZ v) 0) hT henv (.inr e) hsz (g := gB v y) rfl (lB hs (n8 hsz)) (Ah (u := vD v y (nZ v) (hiZ v) (leU (z6 y.H (plZ v y) 0 (v.sz / 8).toNat))) hT henv e hh (g := gB v y) rfl hR.1 hl (λ o => h _ o _))
theorem DS (hT : TabOK X e7) (henv : env.scope = j1.scope) {t : TS} {s' : Mach} {e : Int} (ok : (yh t.s e s').Ok X 220) {u : TC} {o : Option (Int × Int)} {C : KD}
  (h : Tn X env kT 23 2 (Lt u e o) C ((t.setM s').st ++ [g1,g2])) : Tn X env kT 22 3 (Lz u o) C (t.st ++ [g1,g2]) := by
 have hP : TabOK X (tdP t.s s' e) := by
  refine TabOK.tbL (s7 hT) (by kernel_rfl) λ p hp => ?_
  rw [List.mem_singleton] at hp
  subst hp
  exact LE.mono ok (by decide)
 refine go hP henv ?_
 rw [Dy]
 refine K4 ?_
 rw [d9]
 exact h
theorem DT (hT : TabOK X e7) (henv : env.scope = j1.scope) {t : TS} {e : Int} {u : TC} {o : Option (Int × Int)} {C : KD} (hl : u.row.length ≤ 9000) (he : e = (u.row.length : Int)) (hr : t.s.rip = u.be)
  (h : Tn X env kT 24 1 (Lt u e o) C (t.st ++ [g1,g2])) : Tn X env kT 23 2 (Lt u e o) C (t.st ++ [g1,g2]) := by
 refine go (s7 hT) henv ?_
 rw [Dz]
 refine c8 (ya2 (by lia)) ?_
 have e1 : (!(e == (u.row.length : Int))) = false := by rw [he]; simp
 have e2 : (!(t.s.rip == u.be)) = false := by rw [hr]; simp
 rw [e1,e2,cond_false,cond_false,d9]
 exact h
theorem DU (hT : TabOK X e7) (henv : env.scope = j1.scope) {t : TS} {e : Int} {u : TC} {o : Option (Int × Int)} {C : KD}
  (h : kT (.ret (.int u.be)) ⟨Lt u e o,C⟩ (t.st ++ [g1,g2])) : Tn X env kT 24 1 (Lt u e o) C (t.st ++ [g1,g2]) := by
 refine go (s7 hT) henv ?_
 rw [DA]
 exact h
theorem ap (ov : OkV v) : rxR (rxV v) = v.rxb / 4 ∧ rxX (rxV v) = v.rxb / 2 % 2 ∧ rxB (rxV v) = v.rxb % 2 ∧ rxW (rxV v) = cond (v.sz == 64) 1 0 ∧ decide (rxV v ≥ 0) = v.rexed ∧ (rxV v = -1 ∨ gK (rxV v) ∨ gL (rxV v)) := by
 have h2 := ov.rxb
 unfold rxR rxX rxB rxW
 have hp := lq (v := v) h2.1
 unfold rxV
 cases q : v.rexed with
 | true =>
  rw [cond_true,hp,cond_false,cond_false,cond_false,cond_false]
  cases q2 : (v.sz == 64) with
  | true =>
   rw [show b2i true = 1 from rfl,cond_true]
   refine ⟨by lia,by lia,by lia,by lia,ya2 (by lia),.inr (.inr ?_)⟩
   unfold gL; lia
  | false =>
   rw [show b2i false = 0 from rfl,cond_false]
   refine ⟨by lia,by lia,by lia,by lia,ya2 (by lia),.inr (.inl ?_)⟩
   unfold gK; lia
 | false =>
  refine i5 (ov.rexed q) λ h64 h0 => ?_
  rw [h0,cond_false]
  have e : (v.sz == 64) = false := by simpa using h64
  refine e.symm ▸ ?_
  exact ⟨rfl,rfl,rfl,rfl,rfl,.inl rfl⟩
theorem Ai (ov : OkV v) : eT (K5 v) (v.sz == 16) (rxW (rxV v)) v.sz := by
 rw [(ap ov).2.2.2.1]
 unfold eT K5
 refine C2 (ov.sz) λ hd hs hl => ?_
 rcases hd with e | e | e
 ·have h8 := hl e
  rcases f7 hs with s | s | s | s
  ·exact absurd s h8
  ·rw [e,s]; decide
  ·rw [e,s]; decide
  ·rw [e,s]; decide
 ·rcases f7 hs with s | s | s | s <;> rw [e,s] <;> decide
 ·rcases f7 hs with s | s | s | s <;> rw [e,s] <;> decide
theorem tc (ov : OkV v) : gH (v.reg + 8 * (v.rxb / 4)) v.sz v.rexed = hiZ v := by
 have h1 := ov.reg; have h2 := ov.rxb
 unfold gH hiZ
 cases q1 : (v.sz == 8) with
 | false => rfl
 | true =>
  rw [cond_true]
  cases q : v.rexed with
  | true => cases decide (v.reg > 3) <;> rfl
  | false =>
   have h0 := (ov.rexed q).2
   refine h0.symm ▸ ?_
   cases q2 : decide (v.reg > 3) with
   | true =>
    have q2 := ya3 q2
    rw [ya2 (by lia),ya2 (by lia)]; rfl
   | false =>
    have q2 := of_decide_eq_false q2
    rw [decide_eq_false (by lia : ¬ 4 ≤ v.reg + 8 * (0 / 4))]; rfl
theorem xL (ov : OkV v) (hR : okR y.R) {s1 : Mach} (hs : s1.R = y.R) (hr : s1.rip = beZ v) : lP s1 (C1 v.mod v.rm (dG v.rm v.sib) (v.rxb % 2)) (o9 v.rm (dG v.rm v.sib) (v.rxb / 2 % 2)) (s5 v.rm (dG v.rm v.sib) (v.rxb / 2 % 2)) v.far = gZ v y.R (beZ v) % T64 := by
 unfold lP gZ
 rw [sT (by rw [hs]; exact hR) ov.rm (by lia),oo (by rw [hs]; exact hR) (by lia),hs,hr]
theorem ot (e : v.ds = L6) : K5 v = 141 := by unfold K5 ie; rw [e]; rfl
theorem lC (e : v.ds = z7) : K5 v = 138 ∨ K5 v = 139 := by
 unfold K5 ie; rw [e,F4]
 cases decide (v.sz > 8)
 ·exact .inl rfl
 ·exact .inr rfl
theorem gX (e : v.ds = n7) : K5 v = 136 ∨ K5 v = 137 := by
 unfold K5 ie; rw [e,D7,B5]
 cases decide (v.sz > 8)
 ·exact .inl rfl
 ·exact .inr rfl
theorem te {sz : Int} (h : j6 sz = true) : (2 : Int) ^ sz.toNat ∣ T64 := by
 rcases f7 h with rfl | rfl | rfl | rfl
 ·exact ⟨72057594037927936,by decide⟩
 ·exact ⟨281474976710656,by decide⟩
 ·exact ⟨4294967296,by decide⟩
 ·exact ⟨1,by decide⟩
theorem gY (ov : OkV v) (hR : okR y.R) (hH : okE y.H) (hr : y.rip = v.here) {xs r : KM} {np : Nat} (hx : xs = X3 v ++ r) (hn : np = (G5 v.which (v.sz == 16) (rxV v)).length) :
  yi y.m xs np (K5 v) (rxV v) v.sz v.which = ⟨gW v y,lS v y,beZ v,v.here,y.b1,y.b2⟩ := by
 refine yk (ap ov) λ x1 x2 x3 x4 x5 x6 => ?_
 have hx' : xs = X0 v.which (v.sz == 16) (rxV v) (K5 v) v.mod v.reg v.rm v.sib v.far ++ r := hx
 show mvZ (y.m.next (lR xs np : Int)) (K5 v) (gH (xs.getD (np + 1) 0 / 8 % 8 + 8 * rxR (rxV v)) v.sz (decide (rxV v ≥ 0))) (xs.getD (np + 1) 0 / 8 % 8 + 8 * rxR (rxV v)) v.sz (C1 (xs.getD (np + 1) 0 / 64) (xs.getD (np + 1) 0 % 8) (i3 xs (np + 1)) (rxB (rxV v)))
  (o9 (xs.getD (np + 1) 0 % 8) (i3 xs (np + 1)) (rxX (rxV v))) (s5 (xs.getD (np + 1) 0 % 8) (i3 xs (np + 1)) (rxX (rxV v))) (leS ((xs.drop (S7 xs (np + 1))).take (dW (xs.getD (np + 1) 0) (i3 xs (np + 1))))) v.which = _
 refine (on hx' hn ov.mod ov.reg ov.rm).symm ▸ (sS ov.far ov.mod).symm ▸ (ln hx' hn ov.mod ov.reg ov.rm).symm ▸ (X2 hx' hn).symm ▸ (dH hx' hn ov.rm).symm ▸ (xz ov.reg ov.rm).symm ▸ (pZ ov.reg ov.rm).symm ▸ (om ov.rm).symm ▸ x1.symm ▸ x2.symm ▸ x3.symm ▸ x5.symm ▸ (tc ov).symm ▸ ?_
 have hbe : (y.m.next ((X0 v.which (v.sz == 16) (rxV v) (K5 v) v.mod v.reg v.rm v.sib v.far).length : Int)).rip = beZ v := by
  refine (?_ : (y.rip + _) % T64 = _)
  rw [hr]; rfl
 have hoff := xL (s1 := y.m.next ((X0 v.which (v.sz == 16) (rxV v) (K5 v) v.mod v.reg v.rm v.sib v.far).length : Int)) ov hR rfl hbe
 generalize hs1 : y.m.next ((X0 v.which (v.sz == 16) (rxV v) (K5 v) v.mod v.reg v.rm v.sib v.far).length : Int) = s1 at *
 have f1 : s1.R = y.R := by rw [← hs1]; rfl
 have f2 : s1.es = y.H := by rw [← hs1]; rfl
 have f3 : s1.beg = v.here := by rw [← hs1]; exact hr
 have f4 : s1.b1 = y.b1 := by rw [← hs1]; rfl
 have f5 : s1.b2 = y.b2 := by rw [← hs1]; rfl
 have hpl : W8 s1 (C1 v.mod v.rm (dG v.rm v.sib) (v.rxb % 2)) (o9 v.rm (dG v.rm v.sib) (v.rxb / 2 % 2)) (s5 v.rm (dG v.rm v.sib) (v.rxb / 2 % 2)) v.far v.which = plZ v y := by
  unfold W8 plZ gB zB
  rw [hoff,Int.emod_add_emod,f4,f5]
 have hh := lz ov
 have hh8 : hiZ v = true → v.sz = 8 := λ q => (hh.2.2.2 q).1
 have hsz := ov.sz.2.1
 unfold mvZ
 refine hoff.symm ▸ hpl.symm ▸ f1.symm ▸ f2.symm ▸ ?_
 unfold lS gW
 have fin : ∀ (E : KF) (R : KM),(⟨E,R,s1.rip,s1.beg,s1.b1,s1.b2⟩ : Mach) = ⟨E,R,beZ v,v.here,y.b1,y.b2⟩ := λ E R => by rw [hbe,f3,f4,f5]
 rcases ov.sz.1 with e | e | e
 ·rw [ot e,show ((141 : Int) == 141) = true from rfl,cond_true,e,K6,cond_false,show (L6 == L6) = true from by decide,cond_true]
  rw [qf hsz hh8,Int.emod_emod_of_dvd _ (te hsz)]
  refine (?_ : (⟨s1.es,_,s1.rip,s1.beg,s1.b1,s1.b2⟩ : Mach) = _)
  rw [f2,fin]; rfl
 ·have o1 : (K5 v == 141) = false ∧ decide (K5 v < 138) = false := by rcases lC e with o | o <;> rw [o] <;> exact ⟨rfl,rfl⟩
  rw [o1.1,o1.2,cond_false,cond_false,e,G8,cond_false,F4,cond_false,show (z7 == z7) = true from by decide,cond_true]
  have hb := qd (M7 hH (p := plZ v y) (n := (v.sz / 8).toNat) (i := 0))
  rw [ak,qe hsz] at hb
  rw [qf hsz hh8,Int.emod_eq_of_lt hb.1 hb.2]
  refine (?_ : (⟨s1.es,_,s1.rip,s1.beg,s1.b1,s1.b2⟩ : Mach) = _)
  rw [f2,fin]; rfl
 ·have o1 : (K5 v == 141) = false ∧ decide (K5 v < 138) = true := by rcases gX e with o | o <;> rw [o] <;> exact ⟨rfl,rfl⟩
  rw [o1.1,o1.2,cond_false,cond_true,e,D7,cond_false,B5,cond_false,show (n7 == n7) = true from by decide,cond_true]
  refine (?_ : (⟨_,s1.R,s1.rip,s1.beg,s1.b1,s1.b2⟩ : Mach) = _)
  rw [f1,fin]; rfl
end
end
section
open PySem.Spec
structure Inv (y : SY) (N : Int) (L : Nat) : Prop where
 pen : E0 y.t N
 R : okR y.R
 H : okE y.H
 len : y.H.length ≤ L
theorem tf {v : TV} {y : SY} (ov : OkV v) (hR : okR y.R) (hH : okE y.H) : okR (lS v y) := by
 have hsz := ov.sz.2.1
 have hh8 : hiZ v = true → v.sz = 8 := λ q => ((lz ov).2.2.2 q).1
 unfold lS
 have hp : (0 : Int) < 2 ^ v.sz.toNat := two_pow_pos _
 cases (v.ds == L6) with
 | true => exact xI hR hsz hh8 (Int.emod_nonneg _ (by lia)) (Int.emod_lt_of_pos _ hp)
 | false =>
  cases (v.ds == z7) with
  | true =>
   have hb := qd (M7 hH (p := plZ v y) (n := (v.sz / 8).toNat) (i := 0))
   rw [ak,qe hsz] at hb
   exact xI hR hsz hh8 hb.1 hb.2
  | false => exact hR
theorem tg {v : TV} {y : SY} (hH : okE y.H) : okE (gW v y) := by
 unfold gW
 cases (v.ds == n7) with
 | true => exact eV hH S4
 | false => exact hH
theorem ow {a v : Int} (h : (s6 es a).isSome = true) : (Y3 es a v).length = es.length := by
 unfold Y3
 split
 ·rw [yb4]
 ·rename_i q
  replace h := (bI (Bool.eq_false_iff.mpr q)) ▸ h
  cases h
theorem ox {p : Int} : ∀ {xs : KM} {es : KF} {i : Nat},(∀ j : Nat,j < xs.length → (s6 es ((p + ((i + j : Nat) : Int)) % T64)).isSome = true) → (v8 es p xs i).length = es.length := by
 intro xs
 induction xs with
 | nil =>
  intro Z Z Z
  exact rfl
 | cons a xs ih =>
  intro es i h
  refine (?_ : (v8 (Y3 es ((p + (i : Int)) % T64) a) p xs (i + 1)).length = _)
  rw [ih λ j hj => ?_]
  ·exact ow (h 0 (by rw [yb2]; lia))
  ·refine W9 ?_
   have := h (j + 1) (by rw [yb2]; lia)
   rw [show i + (j + 1) = i + 1 + j by lia] at this
   exact this
theorem oy {v : TV} {y : SY} (ov : OkV v) (hs : lA v y) : (gW v y).length = y.H.length := by
 unfold gW
 cases (v.ds == n7) with
 | true =>
  refine ox λ j hj => ?_
  rw [r6] at hj
  have hn := n8 ov.sz.2.1
  have := hs j (by lia)
  rw [yc0]
  unfold plZ
  rw [Int.emod_add_emod]
  exact this
 | false => rfl
section
variable {kT : KS} {N : Int} {L : Nat}
noncomputable def dJ (v : TV) (y : SY) : SY := ⟨y.c,y.sp,y.rs,lS v y,gW v y,beZ v,v.here,y.b1,y.b2⟩
theorem oz {v : TV} {y : SY} : (eff v y).setM ⟨gW v y,lS v y,beZ v,v.here,y.b1,y.b2⟩ = (dJ v y).t := rfl
theorem DV (hT : TabOK X e7) (henv : env.scope = j1.scope) {y : SY} {v : TV} {g1 g2 : MO} (ov : OkV v) (hR : okR y.R) (hH : okE y.H) (hl : y.H.length ≤ 9000) (hr : y.rip = v.here) (hs : lA v y) {H1 : KF} (h1 : y.H = v8 H1 v.here (X3 v) 0)
  (h : ∀ D,kT (.ret (.int (beZ v))) D ((dJ v y).t.st ++ [g1,g2])) : Tn X env kT 20 5 (Ln (vD v y (nZ v) (hiZ v) 0)) (Cs (vC v y.R)) (y.t.st ++ [g1,g2]) := by
 refine DR hT henv ov hR hl hs λ due o C => ?_
 refine i6 (Ac (p := v.here) (xs := X3 v) (es := H1) (ya6 (J5 ov) (by decide))) λ r hx => ?_
 replace hx := hr.symm ▸ h1.symm ▸ hx
 have hn : (G5 v.which (v.sz == 16) (rxV v)).length = (G5 v.which (v.sz == 16) (rxV v)).length := rfl
 have hx' : z6 y.m.es y.m.rip 0 15 = X0 v.which (v.sz == 16) (rxV v) (K5 v) v.mod v.reg v.rm v.sib v.far ++ r := hx
 have hmo : (z6 y.m.es y.m.rip 0 15).getD ((G5 v.which (v.sz == 16) (rxV v)).length + 1) 0 < 192 := by
  refine (X2 hx' hn).symm ▸ ?_
  have := ov.mod; have := ov.reg; have := ov.rm
  unfold B9 at *
  unfold moZ; lia
 have hel : lR (z6 y.m.es y.m.rip 0 15) (G5 v.which (v.sz == 16) (rxV v)).length = (X3 v).length := ln hx' hn ov.mod ov.reg ov.rm
 have hok : y.m.ok := ⟨hR.1,hH,ya6 hl (by decide)⟩
 have st := sL (t := moZ v.mod v.reg v.rm :: (cond (v.rm == 4) [v.sib] [] ++ liO v.far 0 (wdL v.mod v.rm v.sib).toNat) ++ r) hT hok rfl ov.which (ap ov).2.2.2.2.2 (Ai ov) (by rw [hx']; unfold X0; simp only [List.append_assoc,List.cons_append]) hn hmo (by rw [hel]; exact ya6 (J5 ov) (by decide))
 have hx2 : z6 y.m.es y.m.rip 0 15 = X3 v ++ r := hx
 rw [hel,gY ov hR hH hr hx2 hn] at st
 refine DS hT henv (t := eff v y) st ?_
 refine oz.symm ▸ ?_
 refine DT hT henv (u := vD v y (nZ v) (hiZ v) due) (ya6 (J5 ov) (by decide)) rfl rfl ?_
 exact DU hT henv (h _)
theorem th (hT : TabOK X e7) (henv : env.scope = j1.scope) {y : SY} (hI : Inv y N L) (hN : N < 300000) (hL : L ≤ 7000)
  (h : ∀ (y' : SY) (r : KM) D,Inv y' (N + 26) (L + 18) → y'.c = y.c → y'.b1 = y.b1 → y'.b2 = y.b2 → 0 ≤ y'.rip → kT (.ret (.int y'.rip)) D (y'.t.st ++ [.nums r,smD])) : Tn X env kT 0 25 (G0 y.rip) C0 y.t.st := by
 refine DC hT henv hI.pen (by lia) λ v s r ov hh hp => ?_
 rw [ls] at hp ⊢
 refine DD hT henv ov λ g => ?_
 refine DL hT henv ov hp (by lia) hI.R ⟨hI.H,ya6 hI.len (by lia)⟩ λ s r R hR hp => ?_
 have hl : y.H.length ≤ 8000 := ya6 hI.len (by lia)
 refine DQ (y := y.up s r R) hT henv ov hp (by lia) hI.H hl λ s' r' w hp => ?_
 have h2l := xH (y := y.up s r R) ov (w := w)
 have h2o := Af (y := y.up s r R) ov hI.H (w := w)
 have h2s : ∀ j : Nat,j < 8 → (s6 (h2Z v (y.up s r R) w) ((gB v (y.up s r R) + (j : Int)) % T64)).isSome = true := λ j hj => sZ hj
 have h2e : ∃ H1,h2Z v (y.up s r R) w = v8 H1 v.here (X3 v) 0 := ⟨_,rfl⟩
 generalize h2Z v (y.up s r R) w = H2 at *
 refine i6 (h2e) λ H1 h2e => ?_
 have h2l : H2.length ≤ L + 18 := ya6 h2l (yc2 hI.len 18)
 have hsm : lA v ((y.up s' r' R).mem H2) := h2s
 refine DV (y := (y.up s' r' R).mem H2) hT henv ov hR h2o (ya6 h2l (by lia)) hh.symm hsm h2e λ D => ?_
 refine h (dJ v ((y.up s' r' R).mem H2)) g D ⟨?_,tf ov hR h2o,tg h2o,?_⟩ rfl rfl rfl ?_
 ·have : E0 (y.up s' r' R).t (N + 26) := by rw [show N + 26 = N + 11 + 10 + 5 by lia]; exact hp
  exact this
 ·refine (?_ : (gW v ((y.up s' r' R).mem H2)).length ≤ L + 18)
  rw [oy ov hsm]; exact h2l
 ·skip
  exact Int.emod_nonneg _ (by decide)
end
end
section
open PySem.Spec
noncomputable def lD (here : Int) : List V := [.h 0,.io 1250 1,.h 8,.h 9,.h 10,.int here]
noncomputable def tl (here : Int) : List (Str × V) := [zz "pen" (.h 0),zz "state" (.io 1250 1),zz "regs" (.h 8),zz "held" (.h 9),zz "bottoms" (.h 10),zi "here" here]
theorem lE {here : Int} : jL j1.pars j1.dfl (lD here) = some (tl here) := by kernel_rfl
theorem oA {here : Int} : (tl here).filter (λ p => mC j1.scope p.1) = G0 here := by kernel_rfl
theorem oB {here : Int} : (tl here).filter (λ p => mD j1.scope p.1) = C0 := by kernel_rfl
theorem oC : e7.cal.lookup n3 = some (.fn j1) := by kernel_rfl
theorem oD {y' : SY} {r : KM} : fin true 11 (.int i) (y'.t.st ++ [.nums r,smD]) k = k (.int i) y'.t.st := by kernel_rfl
theorem oE {N : Int} {L : Nat} (hT : TabOK X e7) {y : SY} (hI : Inv y N L) (hN : N < 300000) (hL : L ≤ 7000) {k : KC}
  (h : ∀ y' : SY,Inv y' (N + 26) (L + 18) → y'.c = y.c → y'.b1 = y.b1 → y'.b2 = y.b2 → 0 ≤ y'.rip → k (.int y'.rip) y'.t.st) : OpC X 301 y.t.st (lD y.rip) (.ref n3) k := by
 obtain ⟨⟨ok⟩,nd⟩ := (hT.cal _ _ oC : FnFact X n3 j1)
 refine cS (fz := true) (A7 ok lE nd λ env henv => ?_)
 refine oA.symm ▸ oB.symm ▸ ?_
 have e : j1.body = tuF 0 25 := sU.symm
 rw [e]
 refine (th hT henv hI hN hL λ y' r D hI' h1 h2 h3 h4 => ?_).ev
 refine (?_ : fin true 11 (.int y'.rip) (y'.t.st ++ [.nums r,smD]) k)
 rw [oD]
 exact h y' hI' h1 h2 h3 h4
end
section
open PySem.Spec
noncomputable def BP : FnE := fnE false (gD du 131)
noncomputable def tQ : Expr × Expr × Scope := (.Constant .none 0 ⟨0,0,0,0⟩,.Constant .none 0 ⟨0,0,0,0⟩,⟨.module,[],false,false,[]⟩)
noncomputable def DW (e : Expr) : Expr × Expr × Scope := if c : e.ctorIdx = 8 then Expr.ListComp.elim (motive_1 := λ Z => Expr × Expr × Scope) e c λ elt gs sc Z => (((gs.head?).map λ g => g.target).getD tQ.1,elt,sc) else tQ
noncomputable def DX (e : Expr) : Expr × Expr × Scope := if c : e.ctorIdx = 24 then Expr.List.elim (motive_1 := λ Z => Expr × Expr × Scope) e c λ xs Z => ((xs.head?).map DW).getD tQ else tQ
noncomputable def Aj (s : Stmt) : Expr × Expr × Scope := if c : s.ctorIdx = 3 then Stmt.Return.elim (motive_2 := λ Z => Expr × Expr × Scope) s c λ v Z => (v.map DX).getD tQ else tQ
noncomputable def Ak : Expr × Expr × Scope := Aj (gD BP.body 0)
noncomputable def tR (K : KC) (vals acc : KN) (D : Gam) : Prop := jY (g8 e7 96) (w6 BP.scope Ak.2.2) Ak.1 [] Ak.2.1 (λ acc Z σ' => K (w3 acc) σ') vals acc D []
noncomputable def tm : Gam := ⟨[],[]⟩
noncomputable def DY (k : KC) (v : V) (O : KG) : Prop := yL true [v,.int 0,.int 0] O k
noncomputable def oF (x : Int) : Gam := ⟨[zi "cell" x],[]⟩
section
theorem hG : ∀ {xs : KM},s8 (xs.map V.int) = some xs := by
 intro xs
 induction xs with
 | nil =>
  exact rfl
 | cons x xs ih =>
  rw [yc8]
  refine (?_ : (s8 (xs.map V.int)).map (x :: ·) = _)
  rw [ih]; rfl
theorem DZ : (g8 e7 100).call R3 [.nums xs] [] k = cond (bk [] (.nums xs)) (cond (decide (((xs.take 40).map V.int).length ≤ 100000)) (tR (DY k) ((xs.take 40).map V.int) [] tm) False) False := by kernel_rfl
theorem xM {K : KC} {x : Int} {r acc : KN} : tR K (.int x :: r) acc tm = tR K r (acc ++ [.int x]) (oF x) := by kernel_rfl
theorem xN {K : KC} {x y : Int} {r acc : KN} : tR K (.int y :: r) acc (oF x) = tR K r (acc ++ [.int y]) (oF y) := by kernel_rfl
theorem Al {K : KC} : ∀ {r acc : KM} {D : Gam},(D = tm ∨ ∃ x,D = oF x) → K (.nums (acc ++ r)) [] → tR K (r.map V.int) (acc.map V.int) D := by
 intro r
 induction r with
 | nil =>
  intro acc D Z h
  refine (?_ : K (w3 (acc.map V.int)) [])
  rw [List.append_nil] at h
  unfold w3
  rw [hG]; exact h
 | cons y r ih =>
  intro acc D hg h
  refine List.map_cons.symm ▸ ?_
  have e : (acc.map V.int) ++ [V.int y] = (acc ++ [y]).map V.int := by rw [List.map_append]; rfl
  rcases hg with rfl | ⟨x,rfl⟩
  ·rw [xM,e]; exact ih (.inr ⟨y,rfl⟩) (by rw [List.append_assoc]; exact h)
  ·rw [xN,e]; exact ih (.inr ⟨y,rfl⟩) (by rw [List.append_assoc]; exact h)
theorem xO (hl : xs.length ≤ 63) (h : k (.h 0) [F5 (xs.take 40) 0 0]) : (g8 e7 100).call R3 [.nums xs] [] k := by
 rw [DZ]
 have e : bk [] (.nums xs) = true := by
  exact Nat.ble_eq_true_of_le (by lia)
 refine c8 e (c8 (ya2 ?_) (Al (acc := []) (.inl rfl) ?_))
 ·rw [yb4,List.length_take]; lia
 ·exact h
end
end
section
open PySem.Spec
noncomputable def G9 : FnE := fnE true (gD du 144)
noncomputable def laB (i : Nat) : Stmt := gD G9.body i
noncomputable def Am : Spec := λ args O k => ∃ (y : SY) (N : Int) (L : Nat),args = lD y.rip ∧ O = y.t.st ∧ Inv y N L ∧ N < 300000 ∧ L ≤ 7000 ∧
 ∀ y' : SY,Inv y' (N + 26) (L + 18) → y'.c = y.c → y'.b1 = y.b1 → y'.b2 = y.b2 → 0 ≤ y'.rip → k (.int y'.rip) y'.t.st
noncomputable def tbT : Tab := e7.upd n3 301 Am
theorem xP (h : TabOK X e7) : TabOK X tbT := by
 refine TabOK.updS h (by kernel_rfl) ?_
 rintro args O k ⟨y,N,L,rfl,rfl,hI,hN,hL,z⟩
 exact oE h hI hN hL z
noncomputable def An (xs : KM) : LE := ⟨R3,[.nums xs],[],.h 0,[F5 (xs.take 40) 0 0]⟩
noncomputable def tbQ (xs : KM) : Tab := tbL e7 100 [An xs]
theorem xQ (h : TabOK X e7) (hl : xs.length ≤ 63) : TabOK X (tbQ xs) := by
 refine TabOK.tbL h (by kernel_rfl) λ p hp => ?_
 rw [List.mem_singleton] at hp
 subst hp
 exact LE.of0 (m := 100) h (ya7 _) λ k z => xO hl z
end
section
open PySem.Spec
noncomputable def ksL : List Nat := [0,31,30,32,33,34,35,36,38,37]
noncomputable def Ao : List (List Int) := [[0,0,136],[0,0,137],[0,0,138],[0,0,139],[0,0,141]]
noncomputable def xR : Str := Str.ofString "forms"
noncomputable def drM (m : MO) : MO := sx 1365 xR Ao m
noncomputable def kF (P : Gam → List MO → Prop) : KS := λ fl D O => match fl with
 | .next => cond (rX ksL O.length) (P ⟨pH ksL O D.loc,pH ksL O D.cel⟩ ((σK ksL O).map drM)) False
 | _ => False
noncomputable def LL1 (xs : KM) : List (Str × V) := [zz "regs" (.h 8),zz "pen" (.h 0),zz "script" (.nums xs)]
noncomputable def CC1 : List (Str × V) := [zz "held" (.h 9),zz "state" (.io 1250 1)]
noncomputable def stL (cs : KM) (sp rs : Int) (R : KM) (rip b1 b2 : Int) : List MO := F5 cs sp rs :: ((g7 ⟨[],R,rip,0,b1,b2⟩).map (shM 1) ++ [.nums R,.imap []])
theorem la1 {P : Gam → List MO → Prop} {xs cs : KM} : stS e7 (g8 e7 100) G9.scope (laB 1) ⟨[zz "pen" (.h 0),zz "script" (.nums xs)],[]⟩ [F5 cs 0 0] (kF P) = P ⟨LL1 xs,CC1⟩ (stL cs 0 0 z16 0 0 0) := by kernel_rfl
end
section
open PySem.Spec
noncomputable def Ap (s : Stmt) : Expr × List Stmt := if c : s.ctorIdx = 9 then Stmt.For.elim (motive_2 := λ Z => Expr × List Stmt) s c λ t Z b Z Z => (t,b) else (.Constant .none 0 ⟨0,0,0,0⟩,[])
noncomputable def loB (i : Nat) : Stmt := gD (Ap (laB 6)).2 i
noncomputable def LL2 (xs : KM) : List (Str × V) := zi "number" 15 :: LL1 xs
noncomputable def LL3 (xs : KM) (h : Int) : List (Str × V) := zz "bottoms" (.h 10) :: zi "here" h :: LL2 xs
noncomputable def LL5 (xs : KM) (h tu : Int) : List (Str × V) := zi "turn" tu :: zi "here" h :: zz "bottoms" (.h 10) :: LL2 xs
noncomputable def LL6 (xs : KM) (h tu : Int) : List (Str × V) := zi "here" h :: zi "turn" tu :: zz "bottoms" (.h 10) :: LL2 xs
noncomputable def CC3 : List (Str × V) := [zz "state" (.io 1250 1),zz "held" (.h 9)]
noncomputable def R0 : List Int := (List.range 16).map λ (n : Nat) => 1229782938247303441 * ((n : Int) + 1) % T64
noncomputable def xS : List Int := [4096,18446744073709551613,8191,18446744073709551596]
noncomputable def stM (cs : KM) (sp rs : Int) (R : KM) (rip b1 b2 w1 w2 : Int) : List MO := stL cs sp rs R rip b1 b2 ++ [.lst [.int 0,.int w1,.int w2]]
noncomputable def stN (cs : KM) (sp rs : Int) (R : KM) (rip b1 b2 w1 w2 : Int) : List MO := stL cs sp rs R rip b1 b2 ++ [.nums [0,w1,w2]]
section
variable {k : KS} {xs cs : KM} {y : SY}
theorem la0 : stS (tbQ xs) (g8 (tbQ xs) 140) G9.scope (laB 0) ⟨[zz "script" (.nums xs)],[]⟩ [] k = (([.nums xs] : KN) = [.nums xs] ∧ ([] : KG) = [] ∧ k .next ⟨[zz "pen" (.h 0),zz "script" (.nums xs)],[]⟩ [F5 (xs.take 40) 0 0]) := by kernel_rfl
theorem la2 : stS e7 (g8 e7 140) G9.scope (laB 2) ⟨LL1 xs,CC1⟩ (stL cs 0 0 z16 0 0 0) k = k .next ⟨LL2 xs,CC1⟩ (stL cs 0 0 R0 0 0 0) := by kernel_rfl
theorem la3 : stS e7 (g8 e7 140) G9.scope (laB 3) ⟨LL2 xs,CC1⟩ (stL cs 0 0 R0 0 0 0) k = cond (gI cs 0 0) (∀ w sp rs : Int,0 ≤ w → w < 2 ^ 64 → 0 ≤ sp → sp ≤ 0 + 5 → 0 ≤ rs → cond (gI cs sp rs) (∀ w2 sp2 rs2 : Int,0 ≤ w2 → w2 < 2 ^ 64 → sp ≤ sp2 → sp2 ≤ sp + 5 → 0 ≤ rs2 →
  cond (true && (decide (0 ≤ sp2) && decide (sp2 < 1048576)) && decide (0 ≤ rs2) && decide (cs.length ≤ 40)) (∀ d sp3 rs3 : Int,0 ≤ d → d < 4 → sp2 ≤ sp3 → sp3 ≤ sp2 + 1 → 0 ≤ rs3 → cond (inB d 4) (k .next ⟨LL3 xs (xS.getD d.toNat 0),CC1⟩ (stN cs sp3 rs3 R0 0 0 0 w w2)) False) False) False) False := by kernel_rfl
theorem la4 {sp rs h w1 w2 : Int} : stS e7 (g8 e7 140) G9.scope (laB 4) ⟨LL3 xs h,CC1⟩ (stM cs sp rs R0 0 0 0 w1 w2) k = k .next ⟨LL3 xs h,CC1⟩ (stM cs sp rs R0 0 w1 w2 w1 w2) := by kernel_rfl
theorem la5 {sp rs h w1 w2 : Int} : stS e7 (g8 e7 140) G9.scope (laB 5) ⟨LL3 xs h,CC1⟩ (stM cs sp rs R0 0 w1 w2 w1 w2) k = k .next ⟨LL3 xs h,CC1⟩ (stM cs sp rs R0 h w1 w2 w1 w2) := by kernel_rfl
noncomputable def tn (k : KS) (vs : KN) (D : Gam) (O : KG) : Prop := vj (g8 tbT 320) G9.scope (Ap (laB 6)).1 (Ap (laB 6)).2 k vs D O
noncomputable def itC (v : V) (K : List V → Prop) : Prop := match M1 v with
 | some vals => K vals
 | none => False
theorem la6 : stS tbT (g8 tbT 320) G9.scope (laB 6) ⟨LL3 xs y.rip,CC1⟩ y.t.st k = dw y.t 3 λ d t1 => itC (.rng 0 (2 + d)) λ vals => tn k vals ⟨LL3 xs y.rip,CC1⟩ t1.st := by kernel_rfl
theorem la7 : stS e7 (g8 e7 140) G9.scope (laB 7) ⟨LL6 xs y.rip i,CC1⟩ y.t.st k = k (.ret (.bool true)) ⟨LL6 xs y.rip i,CC1⟩ y.t.st := by kernel_rfl
theorem oG : G9.body = [laB 0,laB 1,laB 2,laB 3,laB 4,laB 5,laB 6,laB 7] := by kernel_rfl
noncomputable def ssL (k : KS) (b : List Stmt) (D : Gam) (O : KG) : Prop := ssS tbT (g8 tbT 319) G9.scope b D O k
noncomputable def nxL (k : KS) (vs : KN) (P : Gam → List MO → Prop) : KS := λ fl D O => match fl with
 | .next => P D O
 | .cont => P D O
 | .brk => k .next D O
 | .ret v => k (.ret v) D O
theorem xT {h i : Int} : tn k (.int i :: vs) ⟨LL3 xs h,CC1⟩ O = ssL (nxL k vs (tn k vs)) [loB 0,loB 1,loB 2] ⟨LL5 xs h i,CC1⟩ O := by kernel_rfl
theorem xU {h i j : Int} : tn k (.int i :: vs) ⟨LL6 xs h j,CC1⟩ O = ssL (nxL k vs (tn k vs)) [loB 0,loB 1,loB 2] ⟨LL5 xs h i,CC1⟩ O := by kernel_rfl
noncomputable def lo (i : Nat) (D : Gam) (O : KG) (k : KS) : Prop := stS tbT (g8 tbT 319) G9.scope (loB i) D O k
theorem lo0 : lo 0 ⟨LL5 xs y.rip i,CC1⟩ y.t.st k = ∃ (y1 : SY) (N : Int) (L : Nat),lD y.rip = lD y1.rip ∧ y.t.st = y1.t.st ∧ Inv y1 N L ∧ N < 300000 ∧ L ≤ 7000 ∧
 ∀ y' : SY,Inv y' (N + 26) (L + 18) → y'.c = y1.c → y'.b1 = y1.b1 → y'.b2 = y1.b2 → 0 ≤ y'.rip → k .next ⟨LL6 xs y'.rip i,CC1⟩ y'.t.st := by unfold lo; kernel_rfl
noncomputable def inC (R : KM) : Nat → Nat → Prop → Prop
 | _,0,P => P
 | i,n + 1,P => cond (inB (i : Int) R.length) (inC R (i + 1) n P) False
noncomputable def Aq (R : KM) : List Int := (List.range 16).map λ n => R.getD n 0 % T64
theorem lo1 : lo 1 ⟨LL6 xs y.rip i,CC1⟩ y.t.st k = cond (decide (y.rip < 0)) (k (.ret (.bool false)) ⟨LL6 xs y.rip i,CC1⟩ y.t.st)
  (inC y.R 0 16 (cond (!decide (Aq y.R = y.R)) (k (.ret (.bool false)) ⟨LL6 xs y.rip i,CC3⟩ y.t.st) (k .next ⟨LL6 xs y.rip i,CC3⟩ y.t.st))) := by unfold lo; kernel_rfl
noncomputable def Ea (o : Option Bool) (K : Bool → Prop) : Prop := match o.map (!·) with
 | some v => K v
 | none => False
theorem lo2 : lo 2 ⟨LL6 xs y.rip i,CC3⟩ y.t.st k = cond (decide (y.H.length ≤ 100000) && true && true && true) (cond (Nat.blt (I4 y.H).length 128) (cond (decide (y.H.length ≤ 100000) && true && true && true) (cond (Nat.blt (I4 y.H).length 128)
  (Ea (iw y.t.st (.prs (aR (I4 y.H))) (.prs (aR (I4 y.H)))) λ v => cond v (k (.ret (.bool false)) ⟨LL6 xs y.rip i,CC1⟩ y.t.st) (k .next ⟨LL6 xs y.rip i,CC1⟩ y.t.st)) False) False) False) False := by unfold lo; kernel_rfl
end
end
section
open PySem.Spec
theorem LeM.numsLst : LeM (.nums xs) (.lst (xs.map .int)) := λ prog w F J o q => by
 cases q with
 | nums q => exact .lst (VRs.ofInts q)
theorem LeS.snoc {a b : MO} (h : LeM a b) : ∀ (O : KG),LeS (O ++ [a]) (O ++ [b]) := by
 intro O
 induction O with
 | nil =>
  exact .cons h .nil
 | cons m O ih =>
  exact .cons (.refl m) (ih)
section
variable {k : KS}
theorem xV {R : KM} {P : Prop} (h : R.length = 16) (p : P) : ∀ {n i : Nat},i + n ≤ 16 → inC R i n P := by
 intro n
 induction n with
 | zero =>
  intro Z Z
  exact p
 | succ n ih =>
  intro i hi
  exact c8 (p7 h (by lia) (by lia)) (ih (by lia))
theorem tq {R : KM} (h : okR R) : Aq R = R := by
 have hl := h.1
 unfold Aq
 refine List.ext_getElem (by rw [yb4,List.length_range,hl]) λ n h1 h2 => ?_
 rw [List.getElem_map,List.getElem_range]
 have e : R.getD n 0 = R[n] := by simp [yc9,yb1 h2]
 refine e.symm ▸ ?_
 have := h.2 _ (List.getElem_mem h2)
 exact Int.emod_eq_of_lt this.1 this.2
theorem lF : (I4 es).length ≤ es.length := by
 unfold I4
 rw [yb4]
 exact List.length_filter_le _ _
theorem lG {y : SY} {N : Int} {L : Nat} {P : Gam → List MO → Prop} {vs : KN} (hI : Inv y N L) (hN : N < 300000) (hL : L ≤ 100) (h : ∀ y' : SY,Inv y' (N + 26) (L + 18) → P ⟨LL6 xs y'.rip i,CC1⟩ y'.t.st) :
  ssL (nxL k vs P) [loB 0,loB 1,loB 2] ⟨LL5 xs y.rip i,CC1⟩ y.t.st := by
 refine (?_ : lo 0 ⟨LL5 xs y.rip i,CC1⟩ y.t.st _)
 rw [lo0]
 refine ⟨y,N,L,rfl,rfl,hI,hN,by lia,λ y' hI' Z Z Z hr => ?_⟩
 refine (?_ : lo 1 ⟨LL6 xs y'.rip i,CC1⟩ y'.t.st _)
 rw [lo1]
 rw [decide_eq_false (by lia : ¬ y'.rip < 0),cond_false]
 refine xV hI'.R.1 ?_ (by decide)
 rw [tq hI'.R,ya2 rfl]
 refine (?_ : lo 2 ⟨LL6 xs y'.rip i,CC3⟩ y'.t.st _)
 rw [lo2]
 have l1 := hI'.len
 have l2 := lF (es := y'.H)
 have d1 : (decide (y'.H.length ≤ 100000) && true && true && true) = true := by rw [ya2 (by lia)]; rfl
 have d2 : Nat.blt (I4 y'.H).length 128 = true := by rw [Nat.blt_eq]; lia
 refine c8 d1 (c8 d2 (c8 d1 (c8 d2 ?_)))
 have e : iw y'.t.st (.prs (aR (I4 y'.H))) (.prs (aR (I4 y'.H))) = some true := by
  refine (?_ : cond (decide (aR (I4 y'.H) = aR (I4 y'.H))) (some true) none = some true)
  rw [ya2 rfl]; rfl
 refine e.symm ▸ ?_
 exact h y' hI'
theorem Ar : ∀ (vs : KM) {y : SY} {N : Int} {L : Nat} {j : Int},Inv y N L → N + 26 * (vs.length : Int) < 200000 → L + 18 * vs.length ≤ 100 → (∀ (y' : SY) (j : Int),k .next ⟨LL6 xs y'.rip j,CC1⟩ y'.t.st) → tn k (vs.map V.int) ⟨LL6 xs y.rip j,CC1⟩ y.t.st := by
 intro vs
 induction vs with
 | nil =>
  intro y N L j Z Z Z h
  exact h y j
 | cons i vs ih =>
  intro y N L j hI hN hL h
  rw [yb2] at hN hL
  rw [yc8,xU]
  exact lG hI (by lia) (by lia) λ y' hI' => ih hI' (by lia) (by lia) h
theorem tv (i : Int) (vs : KM) {y : SY} {N : Int} {L : Nat} (hI : Inv y N L) (hN : N + 26 * (vs.length : Int) < 100000) (hL : L + 18 * vs.length ≤ 80) (h : ∀ (y' : SY) (j : Int),k .next ⟨LL6 xs y'.rip j,CC1⟩ y'.t.st) : tn k ((i :: vs).map V.int) ⟨LL3 xs y.rip,CC1⟩ y.t.st := by
 rw [yc8,xT]
 exact lG hI (by lia) (by lia) λ y' hI' => Ar vs hI' (by lia) (by lia) h
end
end
section
open PySem.Spec
noncomputable def laF : Nat → Nat → List Stmt
 | _,0 => []
 | i,n + 1 => laB i :: laF (i + 1) n
theorem tw : G9.body = laF 0 8 := oG
structure Lw (X : Wd) (env : Env) (kT : KS) (i m : Nat) (D : Gam) (O : KG) : Prop where
 ev : EvW X 330 env D O (laF i m) kT
noncomputable def nxW (X : Wd) (env : Env) (kT : KS) (i m : Nat) : KS := λ fl D O => match fl with
 | .next => Lw X env kT i m D O
 | .brk => kT .brk D O
 | .cont => kT .cont D O
 | .ret v => kT (.ret v) D O
section
variable {kT : KS}
theorem goK {T : Tab} (hT : TabOK X T) (henv : env.scope = G9.scope) (hn : n ≤ 330) {i m : Nat} {K : KS} (h : stS T (g8 T n) G9.scope (laB i) D O K) (hK : ∀ fl D O,K fl D O → nxW X env kT (i + 1) m fl D O) : Lw X env kT i (m + 1) D O := by
 refine ⟨sw (a := [laB i]) (b := laF (i + 1) m) (vS (bL ((Q9 hT ((u9 hT n).mono hn) h henv).imp λ fl D σ' z => ?_)))⟩
 have z := hK fl D σ' z
 induction fl using Fl.casesOn with
 | next => exact oP z.ev
 | brk => exact z
 | cont => exact z
 | ret v => exact z
theorem goW {T : Tab} (hT : TabOK X T) (henv : env.scope = G9.scope) (hn : n ≤ 330) {i m : Nat} (h : stS T (g8 T n) G9.scope (laB i) D O (nxW X env kT (i + 1) m)) : Lw X env kT i (m + 1) D O :=
 goK hT henv hn h λ Z Z Z z => z
theorem E2 {i m : Nat} : nxW X env kT i m .next D O = Lw X env kT i m D O := rfl
theorem tx (O : KG) : LeS O (O.map drM) := kK O
theorem Eb (hT : TabOK X e7) (henv : env.scope = G9.scope) {xs cs : KM} (h : Lw X env kT 2 6 ⟨LL1 xs,CC1⟩ (stL cs 0 0 z16 0 0 0)) : Lw X env kT 1 7 ⟨[zz "pen" (.h 0),zz "script" (.nums xs)],[]⟩ [F5 cs 0 0] := by
 refine goK hT henv (n := 100) (by decide) (K := kF λ D O => Lw X env kT 2 6 D O) ?_ λ fl D O z => ?_
 ·rw [la1]; exact h
 ·induction fl using Fl.casesOn with
  | next =>
   obtain ⟨c,z⟩ := E3 z
   exact ⟨gG c (pG (tx _) z.ev)⟩
  | brk => exact z.elim
  | cont => exact z.elim
  | ret v => exact z.elim
noncomputable def y0 (cs : KM) (sp rs h w1 w2 : Int) : SY := ⟨cs,sp,rs,R0,[],h,0,w1,w2⟩
theorem As {cs : KM} {sp rs h w1 w2 : Int} : stM cs sp rs R0 h w1 w2 w1 w2 = (y0 cs sp rs h w1 w2).t.st := by kernel_rfl
theorem Ec : okR R0 := by
 refine ⟨by decide,?_⟩
 have : (R0.all λ x => decide (0 ≤ x) && decide (x < T64)) = true := by decide
 intro x hx
 have := List.all_eq_true.mp this x hx
 simpa using this
theorem it0 {K : List V → Prop} : itC (.rng 0 (2 + 0)) K = K (([0,1] : KM).map V.int) := by kernel_rfl
theorem it1 {K : List V → Prop} : itC (.rng 0 (2 + 1)) K = K (([0,1,2] : KM).map V.int) := by kernel_rfl
theorem it2 {K : List V → Prop} : itC (.rng 0 (2 + 2)) K = K (([0,1,2,3] : KM).map V.int) := by kernel_rfl
theorem At (hT : TabOK X e7) (henv : env.scope = G9.scope) {y : SY} {N : Int} {L : Nat} (hI : Inv y N L) (hN : N < 5000) (hL : L = 0) (h : ∀ D O,kT (.ret (.bool true)) D O) : Lw X env kT 6 2 ⟨LL3 xs y.rip,CC1⟩ y.t.st := by
 subst hL
 have h7 : ∀ (y' : SY) (j : Int),nxW X env kT (6 + 1) 1 .next ⟨LL6 xs y'.rip j,CC1⟩ y'.t.st := λ y' j => by
  rw [E2]
  refine goW hT henv (n := 140) (by decide) ?_
  rw [la7]
  exact h _ _
 refine goW (xP hT) henv (n := 320) (by decide) ?_
 rw [la6]
 refine U4 hI.pen (by lia) λ d s r d0 d1 hp => ?_
 rw [ls] at hp ⊢
 have hI' : Inv (y.up s r y.R) (N + 1) 0 := ⟨hp,hI.R,hI.H,hI.len⟩
 rcases (show d = 0 ∨ d = 1 ∨ d = 2 by lia) with rfl | rfl | rfl
 ·rw [it0]; exact tv (y := y.up s r y.R) 0 [1] hI' (by rw [List.length_singleton]; lia) (by decide) h7
 ·rw [it1]; exact tv (y := y.up s r y.R) 0 [1,2] hI' (by show N + 1 + 26 * 2 < 100000; lia) (by decide) h7
 ·rw [it2]; exact tv (y := y.up s r y.R) 0 [1,2,3] hI' (by show N + 1 + 26 * 3 < 100000; lia) (by decide) h7
theorem Au (hT : TabOK X e7) (henv : env.scope = G9.scope) {xs cs : KM} (hc : cs.length ≤ 40) (h : ∀ D O,kT (.ret (.bool true)) D O) : Lw X env kT 2 6 ⟨LL1 xs,CC1⟩ (stL cs 0 0 z16 0 0 0) := by
 refine goW hT henv (n := 140) (by decide) ?_
 rw [la2,E2]
 refine goW hT henv (n := 140) (by decide) ?_
 rw [la3]
 have pb : ∀ {sp rs : Int},0 ≤ sp → sp ≤ 100 → 0 ≤ rs → gI cs sp rs = true := λ {sp rs} h1 h2 h3 => by
  unfold gI
  rw [ya2 hc,ya2 h1,ya2 h3,ya2 (by lia)]; rfl
 refine c8 (pb (by lia) (by lia) (by lia)) λ w sp rs w0 w1 s0 s1 r0 => c8 (pb (by lia) (by lia) (by lia)) λ w2 sp2 rs2 x0 x1 t0 t1 q0 => c8 ?_ λ d sp3 rs3 d0 d1 u0 u1 p0 => c8 (dI d0 d1 (by decide)) ?_
 ·rw [ya2 (by lia : 0 ≤ sp2),ya2 (by lia : sp2 < 1048576),ya2 q0,ya2 hc]; rfl
 ·rw [E2]
  generalize xS.getD d.toNat 0 = hh
  have step4 : Lw X env kT 4 4 ⟨LL3 xs hh,CC1⟩ (stM cs sp3 rs3 R0 0 0 0 w w2) := by
   refine goW hT henv (n := 140) (by decide) ?_
   rw [la4,E2]
   refine goW hT henv (n := 140) (by decide) ?_
   rw [la5,E2,As]
   refine At (y := y0 cs sp3 rs3 hh w w2) (N := 100) (L := 0) hT henv ⟨⟨hc,p0,show 0 ≤ sp3 by lia,show sp3 ≤ 100 by lia⟩,Ec,λ p hp => (by cases hp),ya7 _⟩ (by decide) rfl h
  exact ⟨pG (LeS.snoc (LeM.numsLst (xs := [0,w,w2])) _) step4.ev⟩
theorem xW (hT : TabOK X e7) (henv : env.scope = G9.scope) (hl : xs.length ≤ 63) (h : ∀ D O,kT (.ret (.bool true)) D O) : Lw X env kT 0 8 ⟨[zz "script" (.nums xs)],[]⟩ [] := by
 refine goW (xQ hT hl) henv (n := 140) (by decide) ?_
 rw [la0]
 refine ⟨rfl,rfl,?_⟩
 rw [E2]
 exact Eb hT henv (Au hT henv (by rw [List.length_take]; lia) h)
theorem lH {b : List Stmt} {k : KS} (h : EvW X 330 env D [] b k) : Ev X (RFl X) 330 env D [] [] (λ Z => execs b env) k := by
 intro A E Q s F G J us hA r f hv hk
 have e : J = [] := List.length_eq_zero_iff.mp r.len
 subst e
 exact h A E Q s F G [] hA r f λ v u h' tk' F' ρ' σ' Γ' z x r' f' hr => hk v u h' tk' F' ρ' σ' Γ' z ⟨x,λ n a q => by cases q⟩ r' f' hr
theorem oH : jL G9.pars G9.dfl [.nums xs] = some [zz "script" (.nums xs)] := by kernel_rfl
theorem tz : ([zz "script" (.nums xs)] : KD).filter (λ p => mC G9.scope p.1) = [zz "script" (.nums xs)] := by kernel_rfl
theorem tA : ([zz "script" (.nums xs)] : KD).filter (λ p => mD G9.scope p.1) = [] := by kernel_rfl
theorem tB : e7.cal.lookup gE = some (.fn G9) := by kernel_rfl
theorem tC (hT : TabOK X e7) (hl : xs.length ≤ 63) (h : ∀ O,k (.bool true) O) : OpC X 331 [] [.nums xs] (.ref gE) k := by
 obtain ⟨⟨ok⟩,nd⟩ := (hT.cal _ _ tB : FnFact X gE G9)
 refine A7 ok oH nd λ env henv => ?_
 refine tz.symm ▸ tA.symm ▸ ?_
 have e : G9.body = laF 0 8 := tw
 rw [e]
 exact lH (xW hT henv hl λ D O => h O).ev
end
end
section
open PySem.Spec
noncomputable section
noncomputable abbrev rwL : OpenLaw := PySem.Challenge.rw_nn0099_01
noncomputable abbrev pwL : Program := PySem.Challenge.pw_nn0099_01
theorem tD : pB eO = true := by kernel_rfl
theorem oI (h : TabOK X eO) : TabOK X e7 := sy (wu (wt (wm (wk (wj (wf (wc (wb (vY h)))))))))
noncomputable def oJ : List (Nat × Str × V) → Str → Option V
 | [],_ => none
 | (_,y,v) :: r,x => cond (y == x) (some v) (oJ r x)
theorem lI : ∀ {l : List (Nat × Str × V)} {x : Str} {v : V},oJ l x = some v → ∃ n,(n,x,v) ∈ l := by
 intro l
 induction l with
 | nil =>
  intro Z Z h
  cases h
 | cons hd r ih =>
  obtain ⟨n,y,w⟩ := hd
  intro x v h
  unfold oJ at h
  cases q : (y == x) with
  | true =>
   rw [q] at h
   obtain rfl := sj h
   rw [beq_iff_eq] at q
   subst q
   exact ⟨n,List.mem_cons_self⟩
  | false =>
   rw [q] at h
   refine i6 (ih h) λ m hm => ?_
   exact ⟨m,mM _ hm⟩
theorem lJ : oJ eO.glob (Str.ofString "law") = some (.val (.ref gE)) := by kernel_rfl
theorem hO {h : Heap} : ∀ {ds : List WData} {vs : KK},WShape.hasItems [] ds .int = true → WellAll P h vs ds → ∃ xs : List Int,IntsAre vs xs ∧ xs.length = ds.length := by
 intro ds
 induction ds with
 | nil => intro vs _ w; cases w; exact ⟨[],.nil,rfl⟩
 | cons d ds ih =>
  intro vs hi w
  have hi2 : WShape.has [] d .int = true ∧ WShape.hasItems [] ds .int = true := by
   unfold WShape.hasItems at hi
   rwa [ya4] at hi
  refine i6 (hasW_int hi2.1) λ i eR1 => ?_
  subst eR1
  cases w with
  | cons w1 w2 =>
   refine a9 (ih hi2.2 w2) λ xs h1 h2 => ?_
   cases w1 with
   | int _ t => exact ⟨i :: xs,.cons i t h1,congrArg (· + 1) h2⟩
theorem oK {l : OpenLaw} (h1 : l.most = some 63) (h2 : l.bound = none) {ds : List WData} (h : l.pre.holds [] { args := [.list ds] } = true) : ds.length ≤ 63 := by
 unfold OpenLaw.pre at h
 replace h := h2 ▸ h1 ▸ h
 have e : PySem.W.less? (.int 63) (.int (ds.length : Int)) = some (decide ((63 : Int) < (ds.length : Int))) := rfl
 have e2 : WTm.holds [] (.and (.not (.lt (.lit (.int 63)) (.len (.arg 0)))) (.lit (.bool true))) { args := [.list ds] } = !decide ((63 : Int) < (ds.length : Int)) := by
  unfold WTm.holds
  have e3 : WTm.value [] (.lt (.lit (.int 63)) (.len (.arg 0))) { args := [.list ds] } = some (.bool (decide ((63 : Int) < (ds.length : Int)))) := rfl
  have e4 : WTm.value [] (.not (.lt (.lit (.int 63)) (.len (.arg 0)))) { args := [.list ds] } = some (.bool (!decide ((63 : Int) < (ds.length : Int)))) := by
   unfold WTm.value
   rw [e3]
  unfold WTm.value
  refine e4.symm ▸ ?_
  cases decide ((63 : Int) < (ds.length : Int)) <;> rfl
 have h : WTm.holds [] (.and (.not (.lt (.lit (.int 63)) (.len (.arg 0)))) (.lit (.bool true))) { args := [.list ds] } = true := h
 replace h := e2 ▸ h
 cases q : decide ((63 : Int) < (ds.length : Int)) with
 | true => rw [q] at h; cases h
 | false => have := of_decide_eq_false q; omega
theorem oL : rwL.most = some 63 := by kernel_rfl
theorem lK : rwL.bound = none := by kernel_rfl
theorem oM : rwL.row.toRowW.args = [.list .int] := by kernel_rfl
theorem oN {args : List WData} : rwL.row.toRowW.claim.post args (.bool true) args = true := by kernel_rfl
theorem hU {args : List WData} {cls : ExcName} : rwL.row.toRowW.claim.raises args cls = false := by kernel_rfl
theorem tE (hT : TabOK X e7) (hs : X.h₀ = s.heap) {l : Addr} {its : KK} (hl1 : s.heap.get? l = some (d7 its.toArray n)) (hx : IntsAre its xs) (hl : xs.length ≤ 63) {R : Result → Shared → Prop}
  (hR : ∀ h' tk',(∀ b o,s.heap.get? b = some o → h'.get? b = some o) → R (.ok (.ret (.bool true))) { s with heap := h',toks := tk' }) : codeAny (model X.prog X.w) callerA (.call (.ref gE) ⟨[.ref l],[]⟩) R s := by
 refine tC (k := λ v Z => v = .bool true) hT (xs := xs) hl (λ Z => rfl) callerA R s (λ a => s.heap.get? a) (λ Z => none) [] _ ⟨rfl,by decide,by decide⟩ ?_ (.cons (.nums hl1 hx) .nil) ?_
 ·exact ⟨λ Z Z e => hs ▸ e,λ Z Z e => e,λ Z Z e => (nomatch e),λ Z Z e => (nomatch e),List.nodup_nil,λ Z h => (nomatch h),rfl,λ n a o h => (nomatch h)⟩
 ·intro v u h' tk' F' ρ' σ' hk x r hv
  subst hk
  cases hv
  exact hR h' tk' λ b o e => r.f b o (x.f b o e)
noncomputable def Ed (w : World) (g : Addr → Option Obj) (h : Heap) (q : Program) (l : List Str) (mg mb : Str → Option Value) (a : (kG g kAs).In h) (b : TopRead q l mg mb h) : Wd := ⟨pwL,w,kG g kAs,h,q,l,mg,mb,a,b⟩
theorem Av {q : Program} {loose : List Str} {XP : (Str → Option Value) → Heap → Prop} {d : DefRec} {kwd : List (Str × Expr)} (hd : d.name = Str.ofString "law") :
  WalkO q loose XP (λ Z h => YP0 h) rwL.row.toRowW d kwd (λ f vs => PySem.call f vs) := by
 intro w Fc EG mg mb G Y a o pm cd doc dV kV h1 h2 h3 h4 h5 hgens args vals as hpre hlay hrd hwl hlo
 refine lL (Y) λ g hgh ht hv => ?_
 have hT0 := sq (X := Ed w g EG.heap q (looseW q loose) mg mb (yT hgh) (topRead_of G.T)) hgh ht hv tD
 have hT := oI hT0
 refine i6 (lI lJ) λ n hm => ?_
 refine a9 (hT0.glob _ _ _ hm) λ u hu hr => ?_
 have hr := hr (λ Z => none) []
 have ha : a = gE := by
  have hu : mg (Str.ofString "law") = some u := hu
  replace h5 := hd ▸ h5
  rw [h5] at hu
  obtain rfl := sj hu
  cases hr
  rfl
 subst ha
 obtain ⟨p1,p2⟩ := pre_splitW hpre
 replace p1 := oM ▸ p1
 refine S8 (hasAllW_cons p1) λ d0 rest eR2 p3 p4 => ?_
 subst eR2
 cases hasAllW_nil p4
 refine a9 (hasW_list p3) λ ds eR1 p5 => ?_
 subst eR1
 have hl := oK oL lK p2
 cases hwl with
 | cons w1 w2 =>
  cases w2
  cases w1 with
  | list hl1 hall =>
   refine a9 (hO p5 hall) λ xs hx1 hx2 => ?_
   refine wpAny_call ?_
   exact tE hT rfl hl1 hx1 (hx2 ▸ hl) λ h' tk' keep => ⟨.inl ⟨.bool true,.bool true,[],rfl,λ Z => hU,.bool true,oN,λ Z => ⟨List.nodup_nil,λ a h => (nomatch h)⟩⟩,.of_keep keep,rfl,.of_eq hgens⟩
end
end
end Mine.Internal
open PySem PySem.W PyProof.Rows
namespace MineH.Internal
open Mine.Internal
theorem Ee (k1 : rw0.row.wellSaid = true) : rw0.row.Holds := PySem.W.holds_open (r := rw0.row) za (XP := λ _ _ => True) (YP := λ _ h => YP0 h) (λ w s h => of_eq_true h) (λ w h h' y hk => kI y hk) (λ _ _ => trivial) (λ _ _ _ _ _ => trivial)
 zb vR zc (λ _ _ => recFacts_nil (by kernel_rfl)) rfl k1 ok0 zd ze (Av sv)
theorem Aw : rw0.wellSaid = true := by
 unfold OpenLaw.wellSaid OpenRow.wellSaid OpenRow.partSaid looksOpen
 with_reducible repeat' refine look_both ?_ ?_
 all_goals as_aux_lemma => (
  try rw [PySem.W.R.allR_eq]
  try rw [PySem.W.R.anyR_eq]
  try rw [PySem.W.R.mapR_eq]
  try rw [PySem.W.R.filterR_eq]
  try rw [PySem.W.Fast.sDec_eq]
  try rw [PySem.W.Fast.named_eq]
  try rw [PySem.W.S.strDecS_eq]
  try rw [PySem.W.Fast.te10501279942588096481]
  try rw [PySem.W.Fast.te10792542408131684335]
  try rw [PySem.W.Fast.te11788848310118352699]
  try rw [PySem.W.Fast.te12749700546528644094]
  try rw [PySem.W.Fast.te12862048085361865435]
  try rw [PySem.W.Fast.te12879404354523853263]
  try rw [PySem.W.Fast.te13343964577679436407]
  try rw [PySem.W.Fast.te13582783067957832011]
  try rw [PySem.W.Fast.te14412699480532031325]
  try rw [PySem.W.Fast.te16286561074155671207]
  try rw [PySem.W.Fast.te17095254045102204799]
  try rw [PySem.W.Fast.te17119622794617984870]
  try rw [PySem.W.Fast.te17691160309236699985]
  try rw [PySem.W.Fast.te17868728402115742887]
  try rw [PySem.W.Fast.te18344453789297297638]
  try rw [PySem.W.Fast.te2357444279172408678]
  try rw [PySem.W.Fast.te2368527892694137696]
  try rw [PySem.W.Fast.te3471404346716756564]
  try rw [PySem.W.Fast.te4274047373036748609]
  try rw [PySem.W.Fast.te4579403493507170074]
  try rw [PySem.W.Fast.te482687673346738481]
  try rw [PySem.W.Fast.te4857012375875476094]
  try rw [PySem.W.Fast.te5318747976498570220]
  try rw [PySem.W.Fast.te5923862056798008813]
  try rw [PySem.W.Fast.te6984425678791042302]
  try rw [PySem.W.Fast.te7723801398212525404]
  try rw [PySem.W.Fast.te797321630700447069]
  try rw [PySem.W.Fast.te8179353310426384613]
  try rw [PySem.W.Fast.te8326940854005059898]
  try rw [PySem.W.Fast.te8377067652309620493]
  try rw [PySem.W.Fast.te9558739934217749035]
  try rw [PySem.W.Fast.te9572597257264208301]
  try rw [PySem.W.Fast.te9706382859710513879]
  try rw [PySem.W.Fast.te9807087744658564304]
  kernel_rfl)
theorem holds0 : rw0.Holds := PySem.W.holds_law Aw Ee
end MineH.Internal
theorem PySem.Challenge.cw_nn0099_01_holds : PySem.Challenge.rw_nn0099_01.Holds :=
 MineH.Internal.holds0
