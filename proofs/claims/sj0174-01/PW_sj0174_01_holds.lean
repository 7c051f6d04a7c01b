import PyProof.Rows.All
import Wide.All
import OpenK.AllK
import Wide.FinOn
import PySem.Challenge.RW_sj0174_01
set_option Elab.async false
set_option genSizeOf false
set_option genInjectivity false
section
open PySem PySem.Calls
set_option maxRecDepth 100000
set_option Elab.async false
set_option autoImplicit false
noncomputable section
namespace Mine
inductive Va where
  | d (x : PyData)
  | c (n : Nat)
inductive Ce where
  | list (xs : List Va)
  | dict (kvs : List (PyData × Va))
abbrev Sto := List Ce
abbrev Ro := List (Nat × Va)
noncomputable def lstO (vs : Array Value) (n : Nat) : Obj := { cls := .type "list", data := .seq vs n }
noncomputable def tupO (vs : Array Value) (n : Nat) : Obj := { cls := .type "tuple", data := .seq vs n }
noncomputable def tupK (ks : List Int) : PyData := .tuple (ks.map .int)
structure Step (W : List Addr) (h h' : Heap) : Prop where
  keep : ∀ b o, b ∉ W → h.get? b = some o → h'.get? b = some o
  live : ∀ b, (h.get? b).isSome = true → (h'.get? b).isSome = true
noncomputable def Kp (W : List Addr) (h h' : Heap) : Prop := ∀ b o, b ∉ W → h.get? b = some o → h'.get? b = some o
theorem Step.refl {W : List Addr} {h : Heap} : Step W h h := ⟨fun _ _ _ e => e, fun _ e => e⟩
theorem Step.of_keep {W : List Addr} {h h' : Heap} (k : ∀ b o, h.get? b = some o → h'.get? b = some o) : Step W h h' :=
  ⟨fun b o _ e => k b o e, fun b e => by
    obtain ⟨o, ho⟩ := Option.isSome_iff_exists.mp e
    rw [k b o ho]; rfl⟩
theorem Step.trans {W : List Addr} {h h' h'' : Heap} (a : Step W h h') (b : Step W h' h'') : Step W h h'' :=
  ⟨fun x o hx e => b.keep x o hx (a.keep x o hx e), fun x e => b.live x (a.live x e)⟩
theorem Step.more {W W' : List Addr} {h h' : Heap} (a : Step W h h') (hs : ∀ x ∈ W, x ∈ W') : Step W' h h' :=
  ⟨fun x o hx e => a.keep x o (fun q => hx (hs x q)) e, a.live⟩
theorem Step.trans_new {W nw : List Addr} {h h' h'' : Heap} (a : Step W h h') (b : Step (W ++ nw) h' h'') (hn : ∀ x ∈ nw, h.get? x = none) : Step W h h'' :=
  ⟨fun x o hx e => b.keep x o (fun q => by
      rcases List.mem_append.mp q with q | q
      · exact hx q
      · rw [hn x q] at e; cases e) (a.keep x o hx e), fun x e => b.live x (a.live x e)⟩
theorem Step.push {W : List Addr} {h : Heap} (o : Obj) : Step W h (h.push o) := Step.of_keep fun _ _ e => Heap.get?_push_of_some o e
theorem Step.sameBut {W : List Addr} {h h' : Heap} {a : Addr} (hs : Heap.SameBut a h h') (ha : a ∈ W) (hl : (h'.get? a).isSome = true) : Step W h h' :=
  ⟨fun b o hb e => (hs.2 b (fun q => hb (q ▸ ha))).trans e, fun b e => by
    by_cases q : b = a
    · subst q; exact hl
    · rw [hs.2 b q]; exact e⟩
section
variable (prog : Program) (w : World)
mutual
inductive Rep (X : List Addr) (h : Heap) : Value → PyData → Prop
  | none : Rep X h Value.none PyData.none
  | bool (b : Bool) : Rep X h (Value.bool b) (PyData.bool b)
  | int (i : Int) (t : Tok) : Rep X h (Value.int i t) (PyData.int i)
  | str (x : Str) (t : Tok) : Rep X h (Value.str x t) (PyData.str x)
  | tup {a : Addr} {vs : List Value} {n : Nat} {ds : List PyData} : h.get? a = some (tupO vs.toArray n) → a ∉ X → RepL X h vs ds → Rep X h (Value.ref a) (PyData.tuple ds)
  | list {a : Addr} {vs : List Value} {n : Nat} {ds : List PyData} : h.get? a = some (lstO vs.toArray n) → a ∉ X → RepL X h vs ds → Rep X h (Value.ref a) (PyData.list ds)
  | dictI {a : Addr} {ps : List (Int × Value)} {kvs : List (PyData × PyData)} : h.DictOf (intKind prog w) a ps → (a == sysModules) = false → a ∉ X → RepI X h ps kvs → Rep X h (Value.ref a) (PyData.dict kvs)
  | dictT {a : Addr} {xs : List (List Int × Addr × Value)} {kvs : List (PyData × PyData)} : h.DictOfH (tupleKind (intKind prog w)) a xs → (a == sysModules) = false → a ∉ X → RepT X h xs kvs → Rep X h (Value.ref a) (PyData.dict kvs)
inductive RepL (X : List Addr) (h : Heap) : List Value → List PyData → Prop
  | nil : RepL X h [] []
  | cons {v : Value} {d : PyData} {vs : List Value} {ds : List PyData} : Rep X h v d → RepL X h vs ds → RepL X h (v :: vs) (d :: ds)
inductive RepI (X : List Addr) (h : Heap) : List (Int × Value) → List (PyData × PyData) → Prop
  | nil : RepI X h [] []
  | cons {k : Int} {v : Value} {d : PyData} {ps : List (Int × Value)} {kvs : List (PyData × PyData)} : Rep X h v d → RepI X h ps kvs → RepI X h ((k, v) :: ps) ((PyData.int k, d) :: kvs)
inductive RepT (X : List Addr) (h : Heap) : List (List Int × Addr × Value) → List (PyData × PyData) → Prop
  | nil : RepT X h [] []
  | cons {k : List Int} {a : Addr} {v : Value} {d : PyData} {ps : List (List Int × Addr × Value)} {kvs : List (PyData × PyData)} : Rep X h (Value.ref a) (tupK k) → Rep X h v d → RepT X h ps kvs → RepT X h ((k, a, v) :: ps) ((tupK k, d) :: kvs)
end
end
section
variable {prog : Program} {w : World}
theorem itemsAre_ints {ks : List Int} : ∀ {vs : List Value} {X : List Addr} {h : Heap}, RepL prog w X h vs (ks.map .int) → ItemsAre (intKind prog w) ks vs := by
  induction ks with
  | nil => intro vs X h r; cases r; exact .nil
  | cons k ks ih =>
    intro vs X h r
    cases r with
    | cons h1 h2 =>
      cases h1 with
      | int i t => exact .cons (by simp [intKind, Value.isInt]) (ih h2)
theorem isTupleKey_of {X : List Addr} {h : Heap} {a : Addr} {ks : List Int} (r : Rep prog w X h (.ref a) (tupK ks)) : IsTupleKey (intKind prog w) h ks a := by
  unfold tupK at r
  cases r with
  | tup ho _ hl => exact ⟨_, _, _, ho, rfl, rfl, by simpa using itemsAre_ints hl⟩
theorem dictOf_at {h h' : Heap} {a : Addr} {ps : List (Int × Value)} (x : h.DictOf (intKind prog w) a ps) (k : ∀ o, h.get? a = some o → h'.get? a = some o) : h'.DictOf (intKind prog w) a ps :=
  let ⟨o, es, ep, ho, r⟩ := x; ⟨o, es, ep, k _ ho, r⟩
theorem Rep.ind {X : List Addr} {h : Heap} {M1 : Value → PyData → Prop} {M2 : List Value → List PyData → Prop} {M3 : List (Int × Value) → List (PyData × PyData) → Prop} {M4 : List (List Int × Addr × Value) → List (PyData × PyData) → Prop}
    (h1 : M1 .none .none) (h2 : ∀ b, M1 (.bool b) (.bool b)) (h3 : ∀ i t, M1 (.int i t) (.int i)) (h4 : ∀ x t, M1 (.str x t) (.str x))
    (h5 : ∀ a vs n ds, h.get? a = some (tupO (List.toArray vs) n) → a ∉ X → M2 vs ds → M1 (.ref a) (.tuple ds)) (h6 : ∀ a vs n ds, h.get? a = some (lstO (List.toArray vs) n) → a ∉ X → M2 vs ds → M1 (.ref a) (.list ds))
    (h7 : ∀ a ps kvs, h.DictOf (intKind prog w) a ps → (a == sysModules) = false → a ∉ X → M3 ps kvs → M1 (.ref a) (.dict kvs)) (h8 : ∀ a xs kvs, h.DictOfH (tupleKind (intKind prog w)) a xs → (a == sysModules) = false → a ∉ X → M4 xs kvs → M1 (.ref a) (.dict kvs))
    (l0 : M2 [] []) (l1 : ∀ v d vs ds, M1 v d → M2 vs ds → M2 (v :: vs) (d :: ds)) (i0 : M3 [] []) (i1 : ∀ k v d ps kvs, M1 v d → M3 ps kvs → M3 ((k, v) :: ps) ((.int k, d) :: kvs))
    (t0 : M4 [] []) (t1 : ∀ k a v d ps kvs, Rep prog w X h (.ref a) (tupK k) → M1 (.ref a) (tupK k) → M1 v d → M4 ps kvs → M4 ((k, a, v) :: ps) ((tupK k, d) :: kvs)) :
    (∀ v d, Rep prog w X h v d → M1 v d) ∧ (∀ vs ds, RepL prog w X h vs ds → M2 vs ds) ∧ (∀ ps kvs, RepI prog w X h ps kvs → M3 ps kvs) ∧ ∀ xs kvs, RepT prog w X h xs kvs → M4 xs kvs :=
  ⟨fun _ _ r => Rep.rec (motive_1 := fun v d _ => M1 v d) (motive_2 := fun v d _ => M2 v d) (motive_3 := fun v d _ => M3 v d) (motive_4 := fun v d _ => M4 v d) h1 h2 h3 h4 (fun e a _ q => h5 _ _ _ _ e a q) (fun e a _ q => h6 _ _ _ _ e a q) (fun e a b _ q => h7 _ _ _ e a b q) (fun e a b _ q => h8 _ _ _ e a b q) l0 (fun _ _ a b => l1 _ _ _ _ a b) i0 (fun _ _ a b => i1 _ _ _ _ _ a b) t0 (fun r _ _ q a b => t1 _ _ _ _ _ _ r q a b) r,
   fun _ _ r => RepL.rec (motive_1 := fun v d _ => M1 v d) (motive_2 := fun v d _ => M2 v d) (motive_3 := fun v d _ => M3 v d) (motive_4 := fun v d _ => M4 v d) h1 h2 h3 h4 (fun e a _ q => h5 _ _ _ _ e a q) (fun e a _ q => h6 _ _ _ _ e a q) (fun e a b _ q => h7 _ _ _ e a b q) (fun e a b _ q => h8 _ _ _ e a b q) l0 (fun _ _ a b => l1 _ _ _ _ a b) i0 (fun _ _ a b => i1 _ _ _ _ _ a b) t0 (fun r _ _ q a b => t1 _ _ _ _ _ _ r q a b) r,
   fun _ _ r => RepI.rec (motive_1 := fun v d _ => M1 v d) (motive_2 := fun v d _ => M2 v d) (motive_3 := fun v d _ => M3 v d) (motive_4 := fun v d _ => M4 v d) h1 h2 h3 h4 (fun e a _ q => h5 _ _ _ _ e a q) (fun e a _ q => h6 _ _ _ _ e a q) (fun e a b _ q => h7 _ _ _ e a b q) (fun e a b _ q => h8 _ _ _ e a b q) l0 (fun _ _ a b => l1 _ _ _ _ a b) i0 (fun _ _ a b => i1 _ _ _ _ _ a b) t0 (fun r _ _ q a b => t1 _ _ _ _ _ _ r q a b) r,
   fun _ _ r => RepT.rec (motive_1 := fun v d _ => M1 v d) (motive_2 := fun v d _ => M2 v d) (motive_3 := fun v d _ => M3 v d) (motive_4 := fun v d _ => M4 v d) h1 h2 h3 h4 (fun e a _ q => h5 _ _ _ _ e a q) (fun e a _ q => h6 _ _ _ _ e a q) (fun e a b _ q => h7 _ _ _ e a b q) (fun e a b _ q => h8 _ _ _ e a b q) l0 (fun _ _ a b => l1 _ _ _ _ a b) i0 (fun _ _ a b => i1 _ _ _ _ _ a b) t0 (fun r _ _ q a b => t1 _ _ _ _ _ _ r q a b) r⟩
theorem RepL.ind {X : List Addr} {h : Heap} {M : List Value → List PyData → Prop} (l0 : M [] []) (l1 : ∀ v d vs ds, Rep prog w X h v d → M vs ds → M (v :: vs) (d :: ds)) {vs : List Value} {ds : List PyData} (r : RepL prog w X h vs ds) : M vs ds :=
  (Rep.ind (M1 := Rep prog w X h) (M2 := fun vs ds => RepL prog w X h vs ds ∧ M vs ds) (M3 := RepI prog w X h) (M4 := RepT prog w X h) .none .bool .int .str (fun _ _ _ _ e a q => .tup e a q.1) (fun _ _ _ _ e a q => .list e a q.1) (fun _ _ _ e a b q => .dictI e a b q) (fun _ _ _ e a b q => .dictT e a b q) ⟨.nil, l0⟩ (fun _ _ _ _ a b => ⟨.cons a b.1, l1 _ _ _ _ a b.2⟩) .nil (fun _ _ _ _ _ a b => .cons a b) .nil (fun _ _ _ _ _ _ r _ a b => .cons r a b)).2.1 _ _ r |>.2
theorem RepI.ind {X : List Addr} {h : Heap} {M : List (Int × Value) → List (PyData × PyData) → Prop} (l0 : M [] []) (l1 : ∀ k v d ps kvs, Rep prog w X h v d → M ps kvs → M ((k, v) :: ps) ((.int k, d) :: kvs)) {ps : List (Int × Value)} {kvs : List (PyData × PyData)} (r : RepI prog w X h ps kvs) : M ps kvs :=
  (Rep.ind (M1 := Rep prog w X h) (M2 := RepL prog w X h) (M3 := fun ps kvs => RepI prog w X h ps kvs ∧ M ps kvs) (M4 := RepT prog w X h) .none .bool .int .str (fun _ _ _ _ e a q => .tup e a q) (fun _ _ _ _ e a q => .list e a q) (fun _ _ _ e a b q => .dictI e a b q.1) (fun _ _ _ e a b q => .dictT e a b q) .nil (fun _ _ _ _ a b => .cons a b) ⟨.nil, l0⟩ (fun _ _ _ _ _ a b => ⟨.cons a b.1, l1 _ _ _ _ _ a b.2⟩) .nil (fun _ _ _ _ _ _ r _ a b => .cons r a b)).2.2.1 _ _ r |>.2
theorem RepT.ind {X : List Addr} {h : Heap} {M : List (List Int × Addr × Value) → List (PyData × PyData) → Prop} (l0 : M [] []) (l1 : ∀ k a v d ps kvs, Rep prog w X h (.ref a) (tupK k) → Rep prog w X h v d → M ps kvs → M ((k, a, v) :: ps) ((tupK k, d) :: kvs)) {ps : List (List Int × Addr × Value)} {kvs : List (PyData × PyData)} (r : RepT prog w X h ps kvs) : M ps kvs :=
  (Rep.ind (M1 := Rep prog w X h) (M2 := RepL prog w X h) (M3 := RepI prog w X h) (M4 := fun ps kvs => RepT prog w X h ps kvs ∧ M ps kvs) .none .bool .int .str (fun _ _ _ _ e a q => .tup e a q) (fun _ _ _ _ e a q => .list e a q) (fun _ _ _ e a b q => .dictI e a b q) (fun _ _ _ e a b q => .dictT e a b q.1) .nil (fun _ _ _ _ a b => .cons a b) .nil (fun _ _ _ _ _ a b => .cons a b) ⟨.nil, l0⟩ (fun _ _ _ _ _ _ r _ a b => ⟨.cons r a b.1, l1 _ _ _ _ _ _ r a b.2⟩)).2.2.2 _ _ r |>.2
theorem RepT.keys {X : List Addr} {h : Heap} {xs : List (List Int × Addr × Value)} {ds : List (PyData × PyData)} (r : RepT prog w X h xs ds) : ∀ x ∈ xs, (tupleKind (intKind prog w)).is h x.1 x.2.1 :=
  RepT.ind (M := fun xs _ => ∀ x ∈ xs, (tupleKind (intKind prog w)).is h x.1 x.2.1) (fun _ hx => nomatch hx) (fun _ _ _ _ _ _ k _ ih => List.forall_mem_cons.mpr ⟨isTupleKey_of k, ih⟩) r
theorem keepA {X W : List Addr} {h h' : Heap} (hk : Kp W h h') (hW : ∀ b ∈ W, b ∈ X) : (∀ v d, Rep prog w X h v d → Rep prog w X h' v d) ∧ (∀ vs ds, RepL prog w X h vs ds → RepL prog w X h' vs ds) ∧ (∀ ps kvs, RepI prog w X h ps kvs → RepI prog w X h' ps kvs) ∧ ∀ xs kvs, RepT prog w X h xs kvs → RepT prog w X h' xs kvs :=
  Rep.ind .none .bool .int .str (fun _ _ _ _ e a q => .tup (hk _ _ (fun q => a (hW _ q)) e) a q) (fun _ _ _ _ e a q => .list (hk _ _ (fun q => a (hW _ q)) e) a q)
    (fun _ _ _ e m a q => .dictI (dictOf_at e fun o e => hk _ _ (fun q => a (hW _ q)) e) m a q) (fun _ _ _ ⟨o, es, ep, ho, hx, hdt, he, hi, hn⟩ m a q => .dictT ⟨o, es, ep, hk _ _ (fun q => a (hW _ q)) ho, hx, hdt, he, RepT.keys q, hn⟩ m a q)
    .nil (fun _ _ _ _ a b => .cons a b) .nil (fun _ _ _ _ _ a b => .cons a b) .nil (fun _ _ _ _ _ _ _ r a b => .cons r a b)
theorem Rep.keepK {X W : List Addr} {h h' : Heap} (hk : Kp W h h') (hW : ∀ b ∈ W, b ∈ X) {v : Value} {d : PyData} (r : Rep prog w X h v d) : Rep prog w X h' v d := (keepA hk hW).1 _ _ r
theorem RepL.keepK {X W : List Addr} {h h' : Heap} (hk : Kp W h h') (hW : ∀ b ∈ W, b ∈ X) {vs : List Value} {ds : List PyData} (r : RepL prog w X h vs ds) : RepL prog w X h' vs ds := (keepA hk hW).2.1 _ _ r
theorem Rep.keep {X W : List Addr} {h h' : Heap} (hk : Step W h h') (hW : ∀ b ∈ W, b ∈ X) {v : Value} {d : PyData} (r : Rep prog w X h v d) : Rep prog w X h' v d := Rep.keepK hk.keep hW r
theorem RepL.keep {X W : List Addr} {h h' : Heap} (hk : Step W h h') (hW : ∀ b ∈ W, b ∈ X) {vs : List Value} {ds : List PyData} (r : RepL prog w X h vs ds) : RepL prog w X h' vs ds := RepL.keepK hk.keep hW r
theorem moreA {X X' : List Addr} {h : Heap} (hX : ∀ b ∈ X', b ∈ X ∨ h.get? b = none) : (∀ v d, Rep prog w X h v d → Rep prog w X' h v d) ∧ (∀ vs ds, RepL prog w X h vs ds → RepL prog w X' h vs ds) ∧ (∀ ps kvs, RepI prog w X h ps kvs → RepI prog w X' h ps kvs) ∧ ∀ xs kvs, RepT prog w X h xs kvs → RepT prog w X' h xs kvs :=
  have off : ∀ {a : Addr} {o : Obj}, h.get? a = some o → a ∉ X → a ∉ X' := fun e ha q => (hX _ q).elim ha fun e' => Option.some_ne_none _ (e.symm.trans e')
  Rep.ind .none .bool .int .str (fun _ _ _ _ e a q => .tup e (off e a) q) (fun _ _ _ _ e a q => .list e (off e a) q) (fun _ _ _ e m a q => .dictI e m (e.elim fun _ ⟨_, _, ho, _⟩ => off ho a) q) (fun _ _ _ e m a q => .dictT e m (e.elim fun _ ⟨_, _, ho, _⟩ => off ho a) q)
    .nil (fun _ _ _ _ a b => .cons a b) .nil (fun _ _ _ _ _ a b => .cons a b) .nil (fun _ _ _ _ _ _ _ r a b => .cons r a b)
theorem Rep.more {X X' : List Addr} {h : Heap} (hX : ∀ b ∈ X', b ∈ X ∨ h.get? b = Option.none) {v : Value} {d : PyData} (r : Rep prog w X h v d) : Rep prog w X' h v d := (moreA hX).1 _ _ r
theorem RepL.more {X X' : List Addr} {h : Heap} (hX : ∀ b ∈ X', b ∈ X ∨ h.get? b = none) {vs : List Value} {ds : List PyData} (r : RepL prog w X h vs ds) : RepL prog w X' h vs ds := (moreA hX).2.1 _ _ r
noncomputable def VaRep (prog : Program) (w : World) (X as : List Addr) (h : Heap) (v : Value) : Va → Prop
  | .d x => Rep prog w X h v x
  | .c n => ∃ a, as[n]? = some a ∧ v = .ref a
theorem VaRep.stepK {X X' W as nw : List Addr} {h h' : Heap} {v : Value} {x : Va} (r : VaRep prog w X as h v x) (hk : Kp W h h') (hW : ∀ b ∈ W, b ∈ X) (hX : ∀ b ∈ X', b ∈ X ∨ h.get? b = none) : VaRep prog w X' (as ++ nw) h' v x := by
  cases x with
  | d x =>
    have r1 : Rep prog w (X ++ X') h v x := Rep.more (fun b hb => (List.mem_append.mp hb).elim .inl fun q => hX b q) r
    exact Rep.more (fun b hb => .inl (List.mem_append_right _ hb)) (Rep.keepK hk (fun b hb => List.mem_append_left _ (hW b hb)) r1)
  | c n =>
    obtain ⟨a, ha, e⟩ := r
    refine ⟨a, ?_, e⟩
    have hlt : n < as.length := (List.getElem?_eq_some_iff.mp ha).1
    rw [List.getElem?_append_left hlt]; exact ha
theorem VaRep.step {X X' W as nw : List Addr} {h h' : Heap} {v : Value} {x : Va} (r : VaRep prog w X as h v x) (hk : Step W h h') (hW : ∀ b ∈ W, b ∈ X) (hX : ∀ b ∈ X', b ∈ X ∨ h.get? b = none) : VaRep prog w X' (as ++ nw) h' v x := r.stepK hk.keep hW hX
noncomputable def CeAt (prog : Program) (w : World) (X as : List Addr) (h : Heap) (a : Addr) : Ce → Prop
  | .list xs => ∃ vs n, h.get? a = some (lstO (List.toArray vs) n) ∧ Paired (VaRep prog w X as h) vs xs
  | .dict kvs => (∃ ps, h.DictOf (intKind prog w) a ps ∧ Paired (fun (p : Int × Value) (kv : PyData × Va) => kv.1 = .int p.1 ∧ VaRep prog w X as h p.2 kv.2) ps kvs) ∨
      ∃ xs, h.DictOfH (tupleKind (intKind prog w)) a xs ∧ Paired (fun (x : List Int × Addr × Value) (kv : PyData × Va) => kv.1 = tupK x.1 ∧ Rep prog w X h (.ref x.2.1) (tupK x.1) ∧ VaRep prog w X as h x.2.2 kv.2) xs kvs
theorem Paired.append {α β : Type} {F : α → β → Prop} {l₁ : List α} {l₂ : List β} {k₁ : List α} {k₂ : List β} (p : Paired F l₁ l₂) (q : Paired F k₁ k₂) : Paired F (l₁ ++ k₁) (l₂ ++ k₂) :=
  Paired.rec (motive := fun l k _ => Paired F (l ++ k₁) (k ++ k₂)) q (fun a _ ih => .cons a ih) p
theorem CeAt.live {X as : List Addr} {h : Heap} {a : Addr} {c : Ce} (x : CeAt prog w X as h a c) : ∃ o, h.get? a = some o := by
  cases c with
  | list xs => obtain ⟨vs, n, ho, _⟩ := x; exact ⟨_, ho⟩
  | dict kvs =>
    rcases x with ⟨ps, ⟨o, _, _, ho, _⟩, _⟩ | ⟨ps, ⟨o, _, _, ho, _⟩, _⟩ <;> exact ⟨o, ho⟩
theorem CeAt.stepK {X X' W as nw : List Addr} {h h' : Heap} {a : Addr} {c : Ce} (r : CeAt prog w X as h a c) (hk : Kp W h h') (hW : ∀ b ∈ W, b ∈ X) (hX : ∀ b ∈ X', b ∈ X ∨ h.get? b = none) (ha : ∀ o, h.get? a = some o → h'.get? a = some o) :
    CeAt prog w X' (as ++ nw) h' a c := by
  cases c with
  | list xs =>
    obtain ⟨vs, n, ho, hp⟩ := r
    exact ⟨vs, n, ha _ ho, Paired.mono (fun _ _ q => q.stepK hk hW hX) hp⟩
  | dict kvs =>
    rcases r with ⟨ps, hd, hp⟩ | ⟨xs, hd, hp⟩
    · exact .inl ⟨ps, dictOf_at hd ha, Paired.mono (fun _ _ q => ⟨q.1, q.2.stepK hk hW hX⟩) hp⟩
    · refine .inr ⟨xs, ?_, Paired.mono (fun (x : List Int × Addr × Value) (kv : PyData × Va) q => ?_) hp⟩
      · obtain ⟨o, es, ep, ho, hx, hdt, he, hi, hn⟩ := hd
        refine ⟨o, es, ep, ha _ ho, hx, hdt, he, ?_, hn⟩
        have go : ∀ {xs : List (List Int × Addr × Value)} {kvs : List (PyData × Va)}, Paired (fun (x : List Int × Addr × Value) (kv : PyData × Va) => kv.1 = tupK x.1 ∧ Rep prog w X h (.ref x.2.1) (tupK x.1) ∧ VaRep prog w X as h x.2.2 kv.2) xs kvs →
            ∀ x ∈ xs, (tupleKind (intKind prog w)).is h' x.1 x.2.1 := by
          intro xs kvs hp
          induction hp with
          | nil => intro x hx; cases hx
          | cons q _ ih =>
            intro x hx
            rcases List.mem_cons.mp hx with rfl | hx
            · exact isTupleKey_of (Rep.keepK hk hW q.2.1)
            · exact ih x hx
        exact go hp
      · exact ⟨q.1, Rep.more (fun b hb => .inl (List.mem_append_right _ hb)) (Rep.keepK hk (fun b hb => List.mem_append_left _ (hW b hb)) (Rep.more (X' := X ++ X') (fun b hb => (List.mem_append.mp hb).elim .inl fun q => hX b q) q.2.1)), q.2.2.stepK hk hW hX⟩
theorem CeAt.step {X X' W as nw : List Addr} {h h' : Heap} {a : Addr} {c : Ce} (r : CeAt prog w X as h a c) (hk : Step W h h') (hW : ∀ b ∈ W, b ∈ X) (hX : ∀ b ∈ X', b ∈ X ∨ h.get? b = none) (ha : ∀ o, h.get? a = some o → h'.get? a = some o) : CeAt prog w X' (as ++ nw) h' a c := r.stepK hk.keep hW hX ha
structure St (prog : Program) (w : World) (B : Heap) (F as : List Addr) (S : Sto) (h : Heap) : Prop where
  base : ∀ b o, B.get? b = some o → h.get? b = some o
  vol : ∀ a ∈ F ++ as, B.get? a = none
  live : ∀ a ∈ F, (h.get? a).isSome = true
  nd : as.Nodup
  off : ∀ a ∈ as, a ∉ F
  len : as.length = S.length
  cells : ∀ (n : Nat) (a : Addr) (c : Ce), as[n]? = some a → S[n]? = some c → CeAt prog w (F ++ as) as h a c
theorem St.clive {B : Heap} {F as : List Addr} {S : Sto} {h : Heap} (x : St prog w B F as S h) : ∀ a ∈ as, (h.get? a).isSome = true := by
  intro a ha
  obtain ⟨n, hn, e⟩ := List.getElem_of_mem ha
  have h1 : as[n]? = some a := by rw [List.getElem?_eq_getElem hn, e]
  have hl := x.len
  have h2 : S[n]? = some (S[n]'(by lia)) := List.getElem?_eq_getElem _
  obtain ⟨o, ho⟩ := (x.cells n a _ h1 h2).live
  rw [ho]; rfl
theorem St.step {B : Heap} {F W as : List Addr} {S : Sto} {h h' : Heap} (x : St prog w B F as S h) (hk : Step W h h') (hW : ∀ b ∈ W, b ∈ F) : St prog w B F as S h' := by
  refine ⟨fun b o e => hk.keep b o (fun q => ?_) (x.base b o e), x.vol, fun a ha => hk.live a (x.live a ha), x.nd, x.off, x.len, fun n a c h1 h2 => ?_⟩
  · rw [x.vol b (List.mem_append_left _ (hW b q))] at e; cases e
  · have := (x.cells n a c h1 h2).step (X' := F ++ as) (nw := []) hk (fun b hb => List.mem_append_left _ (hW b hb)) (fun b hb => .inl hb) (fun o e => hk.keep a o (fun q => x.off a (List.mem_of_getElem? h1) (hW a q)) e)
    rwa [List.append_nil] at this
end
end Mine
end
end
section
open PySem PySem.Calls
set_option maxRecDepth 100000
set_option Elab.async false
set_option autoImplicit false
noncomputable section
namespace Mine
noncomputable def isIK : PyData → Bool
  | .int _ => true
  | _ => false
noncomputable def isTK : PyData → Bool
  | .tuple ds => ds.all isIK
  | _ => false
noncomputable def okK {β : Type} (kvs : List (PyData × β)) (k : PyData) : Bool := (isIK k && kvs.all fun p => isIK p.1) || (isTK k && kvs.all fun p => isTK p.1)
noncomputable def keqL : List PyData → List PyData → Bool
  | [], [] => true
  | .int a :: r, .int b :: t => a == b && keqL r t
  | _, _ => false
noncomputable def keq : PyData → PyData → Bool
  | .int a, .int b => a == b
  | .tuple a, .tuple b => keqL a b
  | _, _ => false
noncomputable def dget {β : Type} (kvs : List (PyData × β)) (k : PyData) : Option β := (kvs.find? fun p => keq p.1 k).map (·.2)
noncomputable def dput {β : Type} (kvs : List (PyData × β)) (k : PyData) (v : β) : List (PyData × β) :=
  if (kvs.find? fun p => keq p.1 k).isSome then kvs.map fun p => if keq p.1 k then (p.1, v) else p else kvs ++ [(k, v)]
noncomputable def clp (n : Nat) (i : Int) : Nat := (max 0 (min (if i < 0 then i + n else i) n)).toNat
noncomputable def pickL {α : Type} (xs : List α) (lo hi : Option Int) : List α := (xs.take (hi.elim xs.length (clp xs.length))).drop (lo.elim 0 (clp xs.length))
noncomputable def idxD : PyData → PyData → Option PyData
  | .list xs, .int i => if 0 ≤ i ∧ i < 1000000 then xs[i.toNat]? else none
  | .tuple xs, .int i => if 0 ≤ i ∧ i < 1000000 then xs[i.toNat]? else none
  | .dict kvs, k => if okK kvs k then dget kvs k else none
  | _, _ => none
inductive Bop where
  | add | sub | mul | mod | fdiv | shl | band
  deriving DecidableEq
inductive Cop where
  | eq | ne | lt | le | gt | ge | isIn | notIn | isN | isNotN
  deriving DecidableEq
noncomputable def big : Nat := 1000000
noncomputable def addD : PyData → PyData → Option PyData
  | .int a, .int b => some (.int (a + b))
  | .list a, .list b => if a.length + b.length ≤ big then some (.list (a ++ b)) else none
  | .tuple a, .tuple b => if a.length + b.length ≤ big then some (.tuple (a ++ b)) else none
  | _, _ => none
noncomputable def onII (x y : PyData) (f : Int → Int → Option PyData) : Option PyData := match x, y with
  | .int a, .int b => f a b
  | _, _ => none
noncomputable def binD : Bop → PyData → PyData → Option PyData
  | .add, x, y => addD x y
  | .sub, x, y => onII x y fun a b => some (.int (a - b))
  | .mul, x, y => onII x y fun a b => if a.natAbs < 2 ^ 60 then some (.int (a * b)) else none
  | .mod, x, y => onII x y fun a b => if b ≠ 0 then some (.int (Int.fmod a b)) else none
  | .fdiv, x, y => onII x y fun a b => if b ≠ 0 ∧ b.natAbs < 2 ^ 60 then some (.int (Int.fdiv a b)) else none
  | .shl, x, y => onII x y fun a b => if 0 ≤ b ∧ b ≤ 1000 ∧ a.natAbs < 2 ^ 60 then some (.int (a * 2 ^ b.toNat)) else none
  | .band, x, y => onII x y fun a b => some (.int (Builtin.bitAnd a b))
mutual
noncomputable def flatD : Nat → PyData → Bool
  | _, .none => true
  | _, .bool _ => true
  | _, .int _ => true
  | _, .str x => PyData.strOk x
  | 0, _ => false
  | n + 1, .list xs => flatL n xs
  | n + 1, .tuple xs => flatL n xs
  | _, .dict _ => false
noncomputable def flatL : Nat → List PyData → Bool
  | _, [] => true
  | n, x :: xs => flatD n x && flatL n xs
end
noncomputable def strLt (a b : Str) : Bool := decide (a.cps.toList < b.cps.toList)
noncomputable def lt1 : PyData → PyData → Option Bool
  | .int a, .int b => some (decide (a < b))
  | .str a, .str b => some (strLt a b)
  | _, _ => none
noncomputable def lexT (f : PyData → PyData → Option Bool) : List PyData → List PyData → Option Bool
  | [], [] => some false
  | x :: xs, y :: ys => if PyData.eqv x y then lexT f xs ys else f x y
  | _, _ => none
noncomputable def ordD (f : Int → Int → Bool) (g : List PyData → List PyData → Option Bool) : PyData → PyData → Option Bool
  | .int a, .int b => some (f a b)
  | .tuple a, .tuple b => if flatL 7 a && flatL 7 b then g a b else none
  | _, _ => none
noncomputable def inD (x : PyData) : PyData → Option Bool
  | .list ys => if flatD 8 x && flatL 7 ys then some (ys.any fun y => PyData.eqv y x) else none
  | .tuple ys => if flatD 8 x && flatL 7 ys then some (ys.any fun y => PyData.eqv y x) else none
  | .dict kvs => if okK kvs x then some (dget kvs x).isSome else none
  | _ => none
noncomputable def ninD (x : PyData) : PyData → Option Bool
  | .list ys => if flatD 8 x && flatL 7 ys then some (!ys.any fun y => PyData.eqv y x) else none
  | .tuple ys => if flatD 8 x && flatL 7 ys then some (!ys.any fun y => PyData.eqv y x) else none
  | .dict kvs => if okK kvs x then some (!(dget kvs x).isSome) else none
  | _ => none
noncomputable def cmpD : Cop → PyData → PyData → Option Bool
  | .eq, a, b => if flatD 8 a && flatD 8 b then some (PyData.eqv a b) else none
  | .ne, a, b => if flatD 8 a && flatD 8 b then some (!PyData.eqv a b) else none
  | .lt, x, y => ordD (fun a b => decide (a < b)) (lexT lt1) x y
  | .le, x, y => ordD (fun a b => decide (a ≤ b)) (fun _ _ => none) x y
  | .gt, x, y => ordD (fun a b => decide (b < a)) (lexT fun x y => lt1 y x) x y
  | .ge, x, y => ordD (fun a b => decide (b ≤ a)) (fun _ _ => none) x y
  | .isIn, x, y => inD x y
  | .notIn, x, y => ninD x y
  | .isN, _, _ => none
  | .isNotN, _, _ => none
noncomputable def pairsOf : List PyData → Option (List (Int × Int))
  | [] => some []
  | .tuple [.int a, .int b] :: r => (pairsOf r).map ((a, b) :: ·)
  | _ => none
noncomputable def pairD (p : Int × Int) : PyData := .tuple [.int p.1, .int p.2]
noncomputable def plt (p q : Int × Int) : Bool := decide (p.1 < q.1) || (p.1 == q.1 && decide (p.2 < q.2))
noncomputable def pins (p : Int × Int) : List (Int × Int) → List (Int × Int)
  | [] => [p]
  | q :: r => if plt p q then p :: q :: r else q :: pins p r
noncomputable def psort : List (Int × Int) → List (Int × Int)
  | [] => []
  | p :: r => pins p (psort r)
noncomputable def distinctP : List (Int × Int) → Bool
  | [] => true
  | p :: r => !r.contains p && distinctP r
noncomputable def sortL (xs : List PyData) : Option PyData := (pairsOf xs).bind fun ps => if distinctP ps && decide (ps.length < 64) then some (.list ((psort ps).map pairD)) else none
noncomputable def items : PyData → Option (List PyData)
  | .list xs => some xs
  | .tuple xs => some xs
  | .dict kvs => some (kvs.map (·.1))
  | _ => none
noncomputable def dictOfL : List PyData → List (PyData × PyData) → Option (List (PyData × PyData))
  | [], acc => some acc
  | .tuple [k, v] :: r, acc => if okK acc k then dictOfL r (dput acc k v) else none
  | _, _ => none
inductive Bi where
  | abs | len | dict | list | tuple | sorted | min
  deriving DecidableEq
noncomputable def bi1 (f : PyData → Option PyData) : List PyData → Option PyData
  | [x] => f x
  | _ => none
noncomputable def absD : PyData → Option PyData
  | .int i => some (.int (if i < 0 then -i else i))
  | _ => none
noncomputable def lenD : PyData → Option PyData
  | .list xs => if xs.length ≤ big then some (.int xs.length) else none
  | .tuple xs => if xs.length ≤ big then some (.int xs.length) else none
  | _ => none
noncomputable def listD : PyData → Option PyData
  | .list xs => if xs.length ≤ big then some (.list xs) else none
  | .tuple xs => if xs.length ≤ big then some (.list xs) else none
  | _ => none
noncomputable def onL (f : List PyData → Option PyData) : PyData → Option PyData
  | .list xs => f xs
  | _ => none
noncomputable def sortD : PyData → Option PyData
  | .list xs => sortL xs
  | .dict kvs => sortL (kvs.map (·.1))
  | _ => none
noncomputable def minD : List PyData → Option PyData
  | [x, y] => onII x y fun a b => some (.int (if b < a then b else a))
  | _ => none
noncomputable def biD : Bi → List PyData → Option PyData
  | .abs, ds => bi1 absD ds
  | .len, ds => bi1 lenD ds
  | .min, ds => minD ds
  | .list, ds => bi1 listD ds
  | .tuple, ds => bi1 (onL fun xs => if xs.length ≤ big then some (.tuple xs) else none) ds
  | .sorted, ds => bi1 sortD ds
  | .dict, ds => bi1 (onL fun xs => if xs.length ≤ big then (dictOfL xs []).map .dict else none) ds
noncomputable def dat : Va → Option PyData
  | .d x => some x
  | .c _ => none
noncomputable def dats : List Va → Option (List PyData)
  | [] => some []
  | .d x :: r => (dats r).map (x :: ·)
  | .c _ :: _ => none
noncomputable def datKv : List (PyData × Va) → Option (List (PyData × PyData))
  | [] => some []
  | (k, .d x) :: r => (datKv r).map ((k, x) :: ·)
  | (_, .c _) :: _ => none
noncomputable def rd (S : Sto) : Va → Option PyData
  | .d x => some x
  | .c n => match S[n]? with
    | some (.list xs) => (dats xs).map .list
    | some (.dict kvs) => (datKv kvs).map .dict
    | none => none
noncomputable def rds (S : Sto) : List Va → Option (List PyData)
  | [] => some []
  | v :: r => (rd S v).bind fun x => (rds S r).map (x :: ·)
inductive Tg where
  | nm (i : Nat)
  | tup (is : List Nat)
noncomputable def setV (ρ : Ro) (i : Nat) (v : Va) : Ro := (i, v) :: ρ.filter fun p => p.1 != i
noncomputable def setAll : Ro → List Nat → List PyData → Option Ro
  | ρ, [], [] => some ρ
  | ρ, i :: is, x :: xs => setAll (setV ρ i (.d x)) is xs
  | _, _, _ => none
noncomputable def bindTg : Tg → Va → Ro → Option Ro
  | .nm i, v, ρ => some (setV ρ i v)
  | .tup is, .d (.tuple xs), ρ => setAll ρ is xs
  | _, _, _ => none
inductive Ex where
  | int (i : Int) | str (x : Str) | bool (b : Bool) | none
  | var (i : Nat)
  | glob (i : Nat) (v : Int)
  | bin (op : Bop) (a b : Ex)
  | neg (a : Ex) | not (a : Ex)
  | cmp (op : Cop) (a b : Ex)
  | isN (a : Ex) | isNotN (a : Ex)
  | and (es : List Ex) | or (es : List Ex)
  | ite (t a b : Ex)
  | tup (es : List Ex) | lst (es : List Ex) | lstC (es : List Ex) | dctC
  | dct1 (k v : Ex)
  | idx (a i : Ex)
  | sl (a : Ex) (lo hi : Option Ex)
  | rev (a : Ex)
  | call (f : Nat) (es : List Ex)
  | bi (b : Bi) (es : List Ex)
  | dictC (a : Ex)
  | get (o k : Ex) | get2 (o k d : Ex)
  | app (o x : Ex)
  | sdf (o k : Ex)
  | comp (elt : Ex) (tg : Tg) (it : Ex) (ifs : List Ex)
  | bad
noncomputable def tru : Va → Option Bool
  | .d (.bool b) => some b
  | _ => none
noncomputable def cloop (f : PyData → Sto → Option (Option PyData × Sto)) : List PyData → Sto → Option (List PyData × Sto)
  | [], S => some ([], S)
  | x :: xs, S => (f x S).bind fun r => (cloop f xs r.2).map fun q => (match r.1 with | some y => y :: q.1 | none => q.1, q.2)
abbrev Fn := Nat → List Va → Sto → Option (Va × Sto)
noncomputable def kindD (S : Sto) : Va → Bool
  | .d (.dict _) => true
  | .c n => match S[n]? with
    | some (.dict _) => true
    | _ => false
  | _ => false
noncomputable def kindL (S : Sto) : Va → Bool
  | .c n => match S[n]? with
    | some (.list _) => true
    | _ => false
  | _ => false
mutual
noncomputable def ev (fn : Fn) (ρ : Ro) (S : Sto) : Ex → Option (Va × Sto)
  | .int i => some (.d (.int i), S)
  | .str x => some (.d (.str x), S)
  | .bool b => some (.d (.bool b), S)
  | .none => some (.d .none, S)
  | .var i => (ρ.lookup i).map fun v => (v, S)
  | .glob _ v => some (.d (.int v), S)
  | .bin op a b => (ev fn ρ S a).bind fun r => (ev fn ρ r.2 b).bind fun q => (rd q.2 r.1).bind fun x => (rd q.2 q.1).bind fun y => (binD op x y).map fun z => (.d z, q.2)
  | .neg a => (ev fn ρ S a).bind fun r => match r.1 with
    | .d (.int i) => some (.d (.int (-i)), r.2)
    | _ => none
  | .not a => (ev fn ρ S a).bind fun r => (tru r.1).map fun b => (.d (.bool (!b)), r.2)
  | .cmp op a b => (ev fn ρ S a).bind fun r => (ev fn ρ r.2 b).bind fun q => (rd q.2 r.1).bind fun x => (rd q.2 q.1).bind fun y => (cmpD op x y).map fun z => (.d (.bool z), q.2)
  | .isN a => (ev fn ρ S a).map fun r => (.d (.bool (match r.1 with | .d .none => true | _ => false)), r.2)
  | .isNotN a => (ev fn ρ S a).map fun r => (.d (.bool (match r.1 with | .d .none => false | _ => true)), r.2)
  | .and es => evAnd fn ρ S es
  | .or es => evOr fn ρ S es
  | .ite t a b => (ev fn ρ S t).bind fun r => (tru r.1).bind fun c => if c then ev fn ρ r.2 a else ev fn ρ r.2 b
  | .tup es => (evs fn ρ S es).bind fun r => (dats r.1).map fun xs => (.d (.tuple xs), r.2)
  | .lst es => (evs fn ρ S es).bind fun r => (dats r.1).map fun xs => (.d (.list xs), r.2)
  | .lstC es => (evs fn ρ S es).map fun r => (.c r.2.length, r.2 ++ [Ce.list r.1])
  | .dctC => some (.c S.length, S ++ [Ce.dict []])
  | .dct1 k v => (ev fn ρ S k).bind fun r => (ev fn ρ r.2 v).bind fun q => (dat r.1).bind fun x => (dat q.1).bind fun y => if isIK x then some (.d (.dict [(x, y)]), q.2) else none
  | .idx a i => (ev fn ρ S a).bind fun r => (ev fn ρ r.2 i).bind fun q => (rd q.2 r.1).bind fun x => (dat q.1).bind fun y => (idxD x y).map fun z => (.d z, q.2)
  | .sl a lo hi => (ev fn ρ S a).bind fun r => (evO fn ρ r.2 lo).bind fun q => (evO fn ρ q.2 hi).bind fun u => (rd u.2 r.1).bind fun x => match x with
    | .list xs => if xs.length ≤ big then some (.d (.list (pickL xs q.1 u.1)), u.2) else none
    | .tuple xs => if xs.length ≤ big then some (.d (.tuple (pickL xs q.1 u.1)), u.2) else none
    | _ => none
  | .rev a => (ev fn ρ S a).bind fun r => (rd r.2 r.1).bind fun x => match x with
    | .list xs => if xs.length ≤ big then some (.d (.list xs.reverse), r.2) else none
    | _ => none
  | .call f es => (evs fn ρ S es).bind fun r => fn f r.1 r.2
  | .bi b es => (evs fn ρ S es).bind fun r => (rds r.2 r.1).bind fun xs => (biD b xs).map fun z => (.d z, r.2)
  | .dictC a => (ev fn ρ S a).bind fun r => match r.1 with
    | .d (.dict kvs) => if kvs.all (fun p => isIK p.1) && decide (kvs.length ≤ big) then some (.c r.2.length, r.2 ++ [Ce.dict (kvs.map fun p => (p.1, Va.d p.2))]) else none
    | _ => none
  | .get o k => (ev fn ρ S o).bind fun r => if !kindD r.2 r.1 then none else (ev fn ρ r.2 k).bind fun q => (rd q.2 r.1).bind fun x => (dat q.1).bind fun y => match x with
    | .dict kvs => if okK kvs y then some (.d ((dget kvs y).getD .none), q.2) else none
    | _ => none
  | .get2 o k d => (ev fn ρ S o).bind fun r => if !kindD r.2 r.1 then none else (ev fn ρ r.2 k).bind fun q => (ev fn ρ q.2 d).bind fun u => (rd u.2 r.1).bind fun x => (dat q.1).bind fun y => (dat u.1).bind fun z => match x with
    | .dict kvs => if okK kvs y then some (.d ((dget kvs y).getD z), u.2) else none
    | _ => none
  | .app o x => (ev fn ρ S o).bind fun r => if !kindL r.2 r.1 then none else (ev fn ρ r.2 x).bind fun q => match r.1 with
    | .c n => (match q.2[n]? with
      | some (.list xs) => if xs.length ≤ big then some (.d .none, q.2.set n (.list (xs ++ [q.1]))) else none
      | _ => none)
    | _ => none
  | .sdf o k => (ev fn ρ S o).bind fun r => if !kindD r.2 r.1 then none else (ev fn ρ r.2 k).bind fun q => (dat q.1).bind fun y => match r.1 with
    | .c n => (match q.2[n]? with
      | some (.dict kvs) => if isIK y && kvs.all (fun p => isIK p.1) && decide (kvs.length ≤ big) then (match dget kvs y with
          | some v => some (v, q.2 ++ [Ce.list []])
          | none => some (.c q.2.length, (q.2 ++ [Ce.list []]).set n (.dict (kvs ++ [(y, .c q.2.length)])))) else none
      | _ => none)
    | _ => none
  | .comp elt tg it ifs => (ev fn ρ S it).bind fun r => match r.1 with
    | .d x => (items x).bind fun xs => if xs.length ≤ big then (cloop (fun y S₁ => (bindTg tg (.d y) ρ).bind fun ρ' => (evTests fn ρ' S₁ ifs).bind fun t => if t.1 then (ev fn ρ' t.2 elt).bind fun u => (dat u.1).map fun z => (some z, u.2) else some (none, t.2)) xs r.2).map fun q => (.d (.list q.1), q.2) else none
    | _ => none
  | .bad => none
noncomputable def evs (fn : Fn) (ρ : Ro) (S : Sto) : List Ex → Option (List Va × Sto)
  | [] => some ([], S)
  | e :: es => (ev fn ρ S e).bind fun r => (evs fn ρ r.2 es).map fun q => (r.1 :: q.1, q.2)
noncomputable def evO (fn : Fn) (ρ : Ro) (S : Sto) : Option Ex → Option (Option Int × Sto)
  | none => some (none, S)
  | some e => (ev fn ρ S e).bind fun r => match r.1 with
    | .d (.int i) => some (some i, r.2)
    | _ => none
noncomputable def evAnd (fn : Fn) (ρ : Ro) (S : Sto) : List Ex → Option (Va × Sto)
  | [] => some (.d (.bool true), S)
  | e :: es => (ev fn ρ S e).bind fun r => (tru r.1).bind fun b => if b then evAnd fn ρ r.2 es else some (.d (.bool false), r.2)
noncomputable def evOr (fn : Fn) (ρ : Ro) (S : Sto) : List Ex → Option (Va × Sto)
  | [] => some (.d (.bool false), S)
  | e :: es => (ev fn ρ S e).bind fun r => (tru r.1).bind fun b => if b then some (.d (.bool true), r.2) else evOr fn ρ r.2 es
noncomputable def evTests (fn : Fn) (ρ : Ro) (S : Sto) : List Ex → Option (Bool × Sto)
  | [] => some (true, S)
  | e :: es => (ev fn ρ S e).bind fun r => (tru r.1).bind fun b => if b then evTests fn ρ r.2 es else some (false, r.2)
end
inductive It where
  | ex (e : Ex)
  | range (a : Ex)
  | down (a : Ex)
inductive Sm where
  | asg (tg : Tg) (e : Ex)
  | setI (o i e : Ex)
  | ife (t : Ex) (a b : List Sm)
  | loop (tg : Tg) (it : It) (body : List Sm)
  | ret (e : Ex)
  | cont
  | exp (e : Ex)
inductive Fl where
  | next | cont
  | ret (v : Va)
noncomputable def floop (f : PyData → Ro → Sto → Option (Fl × Ro × Sto)) : List PyData → Ro → Sto → Option (Fl × Ro × Sto)
  | [], ρ, S => some (.next, ρ, S)
  | x :: xs, ρ, S => (f x ρ S).bind fun r => match r.1 with
    | .ret v => some (.ret v, r.2)
    | _ => floop f xs r.2.1 r.2.2
noncomputable def upTo (n : Int) : List PyData := (List.range n.toNat).map fun (k : Nat) => .int (k : Int)
noncomputable def downFrom (n : Int) : List PyData := (List.range (n + 1).toNat).map fun (k : Nat) => .int (n - (k : Int))
noncomputable def evIt (fn : Fn) (ρ : Ro) (S : Sto) : It → Option (List PyData × Sto)
  | .ex e => (ev fn ρ S e).bind fun r => match r.1 with
    | .d x => (items x).bind fun xs => if xs.length ≤ big then some (xs, r.2) else none
    | _ => none
  | .range a => (ev fn ρ S a).bind fun r => match r.1 with
    | .d (.int n) => if n ≤ 1000 ∧ -1000 ≤ n then some (upTo n, r.2) else none
    | _ => none
  | .down a => (ev fn ρ S a).bind fun r => match r.1 with
    | .d (.int n) => if n ≤ 1000 ∧ -1000 ≤ n then some (downFrom n, r.2) else none
    | _ => none
noncomputable def setLs : List Va → Int → Va → Option (List Va)
  | xs, i, v => if 0 ≤ i ∧ i < xs.length ∧ i < 1000000 then some (xs.set i.toNat v) else none
mutual
noncomputable def ex1 (fn : Fn) (ρ : Ro) (S : Sto) : Sm → Option (Fl × Ro × Sto)
  | .asg tg e => (ev fn ρ S e).bind fun r => (bindTg tg r.1 ρ).map fun ρ' => (.next, ρ', r.2)
  | .setI o i e => (ev fn ρ S e).bind fun r => (ev fn ρ r.2 o).bind fun q => (ev fn ρ q.2 i).bind fun u => (dat u.1).bind fun k => match q.1 with
    | .c n => (match u.2[n]? with
      | some (.list xs) => (match k with
        | .int i => (setLs xs i r.1).map fun ys => (.next, ρ, u.2.set n (.list ys))
        | _ => none)
      | some (.dict kvs) => if okK kvs k && decide (kvs.length ≤ big) then some (.next, ρ, u.2.set n (.dict (dput kvs k r.1))) else none
      | none => none)
    | _ => none
  | .ife t a b => (ev fn ρ S t).bind fun r => (tru r.1).bind fun c => if c then exs fn ρ r.2 a else exs fn ρ r.2 b
  | .loop tg it body => (evIt fn ρ S it).bind fun r => floop (fun x ρ' S' => (bindTg tg (.d x) ρ').bind fun ρ'' => exs fn ρ'' S' body) r.1 ρ r.2
  | .ret e => (ev fn ρ S e).map fun r => (.ret r.1, ρ, r.2)
  | .cont => some (.cont, ρ, S)
  | .exp e => (ev fn ρ S e).bind fun r => match r.1 with
    | .d .none => some (.next, ρ, r.2)
    | _ => none
noncomputable def exs (fn : Fn) (ρ : Ro) (S : Sto) : List Sm → Option (Fl × Ro × Sto)
  | [] => some (.next, ρ, S)
  | s :: r => (ex1 fn ρ S s).bind fun q => match q.1 with
    | .next => exs fn q.2.1 q.2.2 r
    | _ => some q
end
noncomputable def mapO {α β : Type} (f : α → Option β) : List α → Option (List β)
  | [] => some []
  | x :: r => (f x).bind fun y => (mapO f r).map (y :: ·)
noncomputable def frz (lo : Nat) (S : Sto) : Nat → Va → Option PyData
  | _, .d x => some x
  | 0, .c _ => none
  | k + 1, .c n => if n < lo then none else match S[n]? with
    | some (.list xs) => (mapO (frz lo S k) xs).map .list
    | some (.dict kvs) => (mapO (fun p => (frz lo S k p.2).map fun y => (p.1, y)) kvs).map .dict
    | none => none
structure FnD where
  params : List Nat
  body : List Sm
noncomputable def okVa (lo : Nat) : Va → Bool
  | .d _ => true
  | .c n => decide (n < lo)
noncomputable def okCe (lo : Nat) : Ce → Bool
  | .list xs => xs.all (okVa lo)
  | .dict kvs => kvs.all fun p => okVa lo p.2
noncomputable def flV : Fl → Va
  | .ret v => v
  | _ => .d .none
noncomputable def run (prg : List FnD) : Nat → Fn
  | 0, _, _, _ => none
  | k + 1, f, args, S => (prg[f]?).bind fun fd => if args.length = fd.params.length then
      (exs (run prg k) (fd.params.zip args).reverse S fd.body).bind fun r => if (r.2.2.take S.length).all (okCe S.length) && decide (S.length ≤ r.2.2.length) then (frz S.length r.2.2 3 (flV r.1)).map fun x => (.d x, r.2.2.take S.length) else none
    else none
theorem fD_none (n : Nat) : flatD n .none = true := by cases n <;> rfl
theorem fD_bool (n : Nat) (b : Bool) : flatD n (.bool b) = true := by cases n <;> rfl
theorem fD_int (n : Nat) (i : Int) : flatD n (.int i) = true := by cases n <;> rfl
theorem fD_str (n : Nat) (x : Str) : flatD n (.str x) = PyData.strOk x := by cases n <;> rfl
theorem fD_list (n : Nat) (xs : List PyData) : flatD (n + 1) (.list xs) = flatL n xs := rfl
theorem fD_tup (n : Nat) (xs : List PyData) : flatD (n + 1) (.tuple xs) = flatL n xs := rfl
theorem fL_nil (n : Nat) : flatL n [] = true := rfl
theorem fL_cons (n : Nat) (x : PyData) (xs : List PyData) : flatL n (x :: xs) = (flatD n x && flatL n xs) := rfl
theorem mapO_cons {α β : Type} (f : α → Option β) (x : α) (r : List α) : mapO f (x :: r) = (f x).bind fun y => (mapO f r).map (y :: ·) := rfl
theorem distinctP_cons (p : Int × Int) (r : List (Int × Int)) : distinctP (p :: r) = (!r.contains p && distinctP r) := rfl
theorem pins_cons (p q : Int × Int) (r : List (Int × Int)) : pins p (q :: r) = if plt p q then p :: q :: r else q :: pins p r := rfl
theorem frz_l {lo : Nat} {S : Sto} {k n : Nat} {xs : List Va} (h : ¬ n < lo) (e : S[n]? = some (.list xs)) : frz lo S (k + 1) (.c n) = (mapO (frz lo S k) xs).map .list := by
  refine (if_neg h).trans ?_
  rw [e]
theorem frz_k {lo : Nat} {S : Sto} {k n : Nat} {kvs : List (PyData × Va)} (h : ¬ n < lo) (e : S[n]? = some (.dict kvs)) : frz lo S (k + 1) (.c n) = (mapO (fun p => (frz lo S k p.2).map fun y => (p.1, y)) kvs).map .dict := by
  refine (if_neg h).trans ?_
  rw [e]
theorem kindD_c {S : Sto} {n : Nat} {kvs : List (PyData × Va)} (e : S[n]? = some (.dict kvs)) : kindD S (.c n) = true := by
  delta kindD; dsimp only; rw [e]
theorem kindL_c {S : Sto} {n : Nat} {xs : List Va} (e : S[n]? = some (.list xs)) : kindL S (.c n) = true := by
  delta kindL; dsimp only; rw [e]
theorem kindD_of {S : Sto} {n : Nat} (h : kindD S (.c n) = true) : ∃ kvs, S[n]? = some (.dict kvs) := by
  delta kindD at h; dsimp only at h
  cases e : S[n]? with
  | none => rw [e] at h; exact absurd h Bool.false_ne_true
  | some c => cases c with
    | list xs => rw [e] at h; exact absurd h Bool.false_ne_true
    | dict kvs => exact ⟨kvs, rfl⟩
theorem kindL_of {S : Sto} {n : Nat} (h : kindL S (.c n) = true) : ∃ xs, S[n]? = some (.list xs) := by
  delta kindL at h; dsimp only at h
  cases e : S[n]? with
  | none => rw [e] at h; exact absurd h Bool.false_ne_true
  | some c => cases c with
    | list xs => exact ⟨xs, rfl⟩
    | dict kvs => rw [e] at h; exact absurd h Bool.false_ne_true
end Mine
end
end
section
open PySem PySem.Calls
set_option maxRecDepth 100000
set_option Elab.async false
set_option autoImplicit false
noncomputable section
namespace Mine
noncomputable def nmTab : List Str := [Str.ofString "length", Str.ofString "bits", Str.ofString "address", Str.ofString "table", Str.ofString "route", Str.ofString "known", Str.ofString "routes", Str.ofString "found", Str.ofString "area", Str.ofString "is_intra", Str.ofString "BACKBONE", Str.ofString "ways", Str.ofString "best", Str.ofString "way", Str.ofString "place", Str.ofString "body", Str.ofString "kind", Str.ofString "is_type2", Str.ofString "metric", Str.ofString "forward", Str.ofString "tag", Str.ofString "hops", Str.ofString "number", Str.ofString "rows", Str.ofString "own", Str.ofString "leading", Str.ofString "head", Str.ofString "age", Str.ofString "options", Str.ofString "sort", Str.ofString "ls_id", Str.ofString "adv", Str.ofString "EXTERNAL", Str.ofString "MAX_AGE", Str.ofString "LS_INFINITY", Str.ofString "prefix", Str.ofString "hop", Str.ofString "pool", Str.ofString "many", Str.ofString "is_one", Str.ofString "sender", Str.ofString "turn", Str.ofString "is_second", Str.ofString "net", Str.ofString "one", Str.ofString "two", Str.ofString "inner", Str.ofString "cost", Str.ofString "second", Str.ofString "more", Str.ofString "whole", Str.ofString "left", Str.ofString "right", Str.ofString "both", Str.ofString "worths", Str.ofString "later", Str.ofString "elder", Str.ofString "newer", Str.ofString "script", Str.ofString "near", Str.ofString "far", Str.ofString "dear", Str.ofString "cut", Str.ofString "lots", Str.ofString "lot", Str.ofString "some", Str.ofString "least"]
noncomputable def c_mask_of : FnD := ⟨[0, 1], [
    .ret (.bin .shl (.bin .sub (.bin .shl (.int 1) (.var 0)) (.int 1)) (.bin .sub (.var 1) (.var 0)))]⟩
noncomputable def c_prefix_at : FnD := ⟨[2, 0, 1], [
    .ret (.tup [(.bin .band (.var 2) (.call 0 [(.var 0), (.var 1)])), (.var 0)])]⟩
noncomputable def c_take_route : FnD := ⟨[3, 4], [
    .asg (.nm 5) (.get (.var 3) (.idx (.var 4) (.int 0))),
    .ife (.or [(.isN (.var 5)), .bad]) [.setI (.var 3) (.idx (.var 4) (.int 0)) (.var 4)] [.exp .bad]]⟩
noncomputable def c_table_of : FnD := ⟨[6], [
    .asg (.nm 7) .dctC,
    .loop (.nm 4) (.ex (.var 6)) [.exp (.call 2 [(.var 7), (.var 4)])],
    .ret (.var 7)]⟩
noncomputable def c_looked_up : FnD := ⟨[3, 2, 1], [
    .loop (.nm 0) (.down (.var 1)) [.asg (.nm 7) (.get (.var 3) (.call 1 [(.var 2), (.var 0), (.var 1)])), .ife (.isNotN (.var 7)) [.ret (.var 7)] []],
    .ret .none]⟩
noncomputable def c_rank_of : FnD := ⟨[8, 9], [
    .ret (.ite (.and [(.var 9), (.cmp .ne (.var 8) (.glob 10 0))]) (.int 0) (.int 1))]⟩
noncomputable def c_preferred_way : FnD := ⟨[11], [
    .asg (.nm 12) .none,
    .loop (.nm 13) (.ex (.var 11)) [.asg (.nm 14) (.tup [(.call 5 [(.idx (.var 13) (.int 2)), (.idx (.var 13) (.int 3))]), (.idx (.var 13) (.int 0)), (.neg (.idx (.var 13) (.int 2)))]), .ife (.or [(.isN (.var 12)), (.cmp .lt (.var 14) (.idx (.var 12) (.int 0)))]) [.asg (.nm 12) (.tup [(.var 14), (.var 13)])] []],
    .ret (.ite (.isN (.var 12)) .none (.idx (.var 12) (.int 1)))]⟩
noncomputable def c_way_out : FnD := ⟨[15, 11, 3, 1], [
    .asg (.tup [16, 0, 17, 18, 19, 20]) (.sl (.var 15) none (some (.int 6))),
    .ife (.cmp .eq (.var 19) (.int 0)) [.asg (.nm 13) (.call 6 [(.var 11)]), .ret (.ite (.isN (.var 13)) .none (.tup [(.idx (.var 13) (.int 0)), (.idx (.var 13) (.int 1)), (.call 5 [(.idx (.var 13) (.int 2)), (.idx (.var 13) (.int 3))])]))] [],
    .asg (.nm 4) (.call 4 [(.var 3), (.var 19), (.var 1)]),
    .ife (.or [(.isN (.var 4)), (.cmp .notIn (.idx (.var 4) (.int 1)) (.tup [(.str (Str.ofString "intra")), (.str (Str.ofString "inter"))])), (.cmp .eq (.bi .len [(.idx (.var 4) (.int 5))]) (.int 0))]) [.ret .none] [],
    .asg (.nm 21) (.bi .dict [(.comp (.tup [(.tup [(.var 22), (.ite (.cmp .eq (.var 2) (.int 0)) (.var 19) (.var 2))]), (.bool true)]) (.tup [22, 2]) (.idx (.var 4) (.int 5)) [])]),
    .ret (.tup [(.idx (.var 4) (.int 2)), (.bi .tuple [(.bi .sorted [(.var 21)])]), (.call 5 [(.idx (.var 4) (.int 4)), (.cmp .eq (.idx (.var 4) (.int 1)) (.str (Str.ofString "intra")))])])]⟩
noncomputable def c_external_worth : FnD := ⟨[15, 13], [
    .ife (.idx (.var 15) (.int 2)) [.ret (.tup [(.int 1), (.idx (.var 15) (.int 3)), (.idx (.var 13) (.int 2)), (.idx (.var 13) (.int 0))])] [],
    .ret (.tup [(.int 0), (.int 0), (.idx (.var 13) (.int 2)), (.bin .add (.idx (.var 13) (.int 0)) (.idx (.var 15) (.int 3)))])]⟩
noncomputable def c_external_routes : FnD := ⟨[23, 24, 25, 3, 1], [
    .asg (.nm 12) .dctC,
    .loop (.tup [26, 15]) (.ex (.var 23)) [.asg (.tup [27, 28, 29, 30, 31]) (.sl (.var 26) none (some (.int 5))), .ife (.or [(.cmp .ne (.var 29) (.glob 32 5)), (.cmp .ge (.var 27) (.glob 33 3600)), (.cmp .eq (.var 31) (.var 24)), (.cmp .ge (.idx (.var 15) (.int 3)) (.glob 34 16777215)), (.cmp .notIn (.var 31) (.var 25))]) [.cont] [], .asg (.nm 13) (.call 7 [(.var 15), (.idx (.var 25) (.var 31)), (.var 3), (.var 1)]), .ife (.isN (.var 13)) [.cont] [], .asg (.tup [35, 14]) (.tup [(.call 1 [(.var 30), (.idx (.var 15) (.int 1)), (.var 1)]), (.call 8 [(.var 15), (.var 13)])]), .ife (.or [(.cmp .notIn (.var 35) (.var 12)), (.cmp .lt (.var 14) (.idx (.idx (.var 12) (.var 35)) (.int 0)))]) [.setI (.var 12) (.var 35) (.tup [(.var 14), (.bi .list [(.idx (.var 13) (.int 1))])])] [.ife (.cmp .eq (.var 14) (.idx (.idx (.var 12) (.var 35)) (.int 0))) [.setI (.var 12) (.var 35) (.tup [(.var 14), (.bin .add (.idx (.idx (.var 12) (.var 35)) (.int 1)) (.comp (.var 36) (.nm 36) (.idx (.var 13) (.int 1)) [(.cmp .notIn (.var 36) (.idx (.idx (.var 12) (.var 35)) (.int 1)))]))])] []]],
    .ret (.comp (.call 10 [(.var 35), (.idx (.var 12) (.var 35))]) (.nm 35) (.bi .sorted [(.var 12)]) [])]⟩
noncomputable def c_route_told : FnD := ⟨[35, 7], [
    .asg (.tup [14, 21]) (.var 7),
    .ife (.cmp .eq (.idx (.var 14) (.int 0)) (.int 1)) [.ret (.tup [(.var 35), (.str (Str.ofString "ext2")), (.idx (.var 14) (.int 3)), (.idx (.var 14) (.int 1)), (.glob 10 0), (.bi .tuple [(.bi .sorted [(.var 21)])])])] [],
    .ret (.tup [(.var 35), (.str (Str.ofString "ext1")), (.idx (.var 14) (.int 3)), (.int 0), (.glob 10 0), (.bi .tuple [(.bi .sorted [(.var 21)])])])]⟩
noncomputable def c_law_drawn : FnD := ⟨[37, 38], [
    .setI (.var 37) (.int 1) (.bin .add (.idx (.var 37) (.int 1)) (.int 1)),
    .ife (.cmp .le (.idx (.var 37) (.int 1)) (.bi .len [(.idx (.var 37) (.int 0))])) [.ret (.bin .mod (.bi .abs [(.idx (.idx (.var 37) (.int 0)) (.bin .sub (.idx (.var 37) (.int 1)) (.int 1)))]) (.var 38))] [],
    .ret (.bin .mod (.bin .add (.bin .mul (.int 7) (.idx (.var 37) (.int 1))) (.bin .fdiv (.idx (.var 37) (.int 1)) (.int 3))) (.var 38))]⟩
noncomputable def c_law_ways : FnD := ⟨[37, 39], [
    .asg (.nm 7) .dctC,
    .loop (.nm 40) (.ex (.tup [(.int 2), (.int 3), (.int 4)])) [.asg (.nm 38) (.bin .add (.call 11 [(.var 37), (.int 5)]) (.int 1)), .loop (.nm 41) (.range (.bin .fdiv (.var 38) (.int 2))) [.asg (.nm 8) (.ite (.var 39) (.int 0) (.call 11 [(.var 37), (.int 3)])), .asg (.nm 21) (.idx (.lst [(.tup [(.tup [(.var 40), (.int 7)])]), (.tup [(.tup [(.int 1), (.int 7)]), (.tup [(.var 40), (.int 9)])])]) (.call 11 [(.var 37), (.int 2)])), .exp (.app (.sdf (.var 7) (.var 40)) (.tup [(.bin .add (.int 1) (.call 11 [(.var 37), (.int 4)])), (.var 21), (.var 8), (.cmp .eq (.var 41) (.int 0))]))]],
    .ret (.var 7)]⟩
noncomputable def c_law_rows : FnD := ⟨[37], [
    .asg (.nm 23) (.lstC []),
    .loop (.nm 41) (.range (.bin .add (.int 3) (.call 11 [(.var 37), (.int 4)]))) [.asg (.tup [42, 18]) (.tup [(.cmp .eq (.call 11 [(.var 37), (.int 2)]) (.int 1)), (.bin .add (.int 2) (.call 11 [(.var 37), (.int 3)]))]), .asg (.tup [19, 43, 40]) (.tup [(.idx (.lst [(.int 0), (.int 0), (.int 0), (.int 17), (.int 9)]) (.call 11 [(.var 37), (.int 5)])), (.bin .mul (.int 8) (.call 11 [(.var 37), (.int 2)])), (.bin .add (.int 2) (.call 11 [(.var 37), (.int 3)]))]), .exp (.app (.var 23) (.tup [(.tup [(.int 1), (.int 2), (.int 5), (.var 43), (.var 40), (.bin .add (.int 5) (.var 41)), (.int 0)]), (.tup [(.str (Str.ofString "external")), (.int 2), (.var 42), (.var 18), (.var 19), (.int 0)])]))],
    .ret (.var 23)]⟩
noncomputable def c_law_moved_rows : FnD := ⟨[23, 44, 45], [
    .ret (.comp (.tup [(.var 26), (.bin .add (.bin .add (.sl (.var 15) none (some (.int 3))) (.tup [(.bin .add (.idx (.var 15) (.int 3)) (.ite (.idx (.var 15) (.int 2)) (.var 45) (.var 44)))])) (.sl (.var 15) (some (.int 4)) none))]) (.tup [26, 15]) (.var 23) [])]⟩
noncomputable def c_law_moved : FnD := ⟨[6, 46, 44, 45], [
    .asg (.nm 7) (.lstC []),
    .loop (.tup [35, 29, 47, 48, 8, 21]) (.ex (.var 6)) [.asg (.nm 49) (.ite (.cmp .eq (.var 29) (.str (Str.ofString "ext1"))) (.var 44) (.int 0)), .exp (.app (.var 7) (.tup [(.var 35), (.var 29), (.bin .add (.bin .add (.var 47) (.var 46)) (.var 49)), (.bin .add (.var 48) (.ite (.cmp .eq (.var 29) (.str (Str.ofString "ext2"))) (.var 45) (.int 0))), (.var 8), (.var 21)]))],
    .ret (.var 7)]⟩
noncomputable def c_law_is_joined : FnD := ⟨[50, 51, 52, 39], [
    .ife (.or [(.isN (.var 51)), (.isN (.var 52))]) [.ret (.cmp .eq (.var 50) (.ite (.isN (.var 51)) (.var 52) (.var 51)))] [],
    .asg (.nm 53) (.bin .add (.sl (.var 51) none (some (.int 5))) (.tup [(.bi .tuple [(.bi .sorted [(.bin .add (.bi .list [(.idx (.var 51) (.int 5))]) (.comp (.var 36) (.nm 36) (.idx (.var 52) (.int 5)) [(.cmp .notIn (.var 36) (.idx (.var 51) (.int 5)))]))])])])),
    .ife (.not (.var 39)) [.ret (.or [(.cmp .isIn (.var 50) (.tup [(.var 51), (.var 52)])), (.and [(.cmp .eq (.sl (.var 51) none (some (.int 5))) (.sl (.var 52) none (some (.int 5)))), (.cmp .eq (.var 50) (.var 53))])])] [],
    .asg (.nm 54) (.comp (.tup [(.idx (.var 4) (.int 1)), (.idx (.var 4) (.int 3)), (.idx (.var 4) (.int 2))]) (.nm 4) (.tup [(.var 51), (.var 52)]) []),
    .ret (.cmp .eq (.var 50) (.ite (.cmp .eq (.idx (.var 54) (.int 0)) (.idx (.var 54) (.int 1))) (.var 53) (.ite (.cmp .lt (.idx (.var 54) (.int 0)) (.idx (.var 54) (.int 1))) (.var 51) (.var 52))))]⟩
noncomputable def c_law_no_worse : FnD := ⟨[6, 55, 39], [
    .loop (.nm 35) (.ex (.var 6)) [.ife (.cmp .notIn (.var 35) (.var 55)) [.ret (.bool false)] [], .asg (.tup [56, 57]) (.tup [(.idx (.var 6) (.var 35)), (.idx (.var 55) (.var 35))]), .ife (.cmp .gt (.tup [(.idx (.var 57) (.int 1)), (.idx (.var 57) (.int 3))]) (.tup [(.idx (.var 56) (.int 1)), (.idx (.var 56) (.int 3))])) [.ret (.bool false)] [], .ife (.and [(.var 39), (.cmp .gt (.tup [(.idx (.var 57) (.int 1)), (.idx (.var 57) (.int 3)), (.idx (.var 57) (.int 2))]) (.tup [(.idx (.var 56) (.int 1)), (.idx (.var 56) (.int 3)), (.idx (.var 56) (.int 2))]))]) [.ret (.bool false)] []],
    .ret (.bool true)]⟩
noncomputable def c_law_by_net : FnD := ⟨[6], [
    .ret (.bi .dict [(.comp (.tup [(.idx (.var 4) (.int 0)), (.var 4)]) (.nm 4) (.var 6) [])])]⟩
noncomputable def c_law : FnD := ⟨[58], [
    .asg (.nm 37) (.lstC [(.bi .list [(.sl (.var 58) none (some (.int 60)))]), (.int 0)]),
    .asg (.nm 39) (.cmp .eq (.call 11 [(.var 37), (.int 2)]) (.int 1)),
    .asg (.tup [11, 23]) (.tup [(.call 12 [(.var 37), (.var 39)]), (.call 13 [(.var 37)])]),
    .asg (.nm 59) (.tup [(.tup [(.int 16), (.int 2)]), (.str (Str.ofString "intra")), (.bin .add (.int 1) (.call 11 [(.var 37), (.int 4)])), (.int 0), (.ite (.var 39) (.int 0) (.call 11 [(.var 37), (.int 2)])), (.tup [(.tup [(.int 4), (.int 0)])])]),
    .asg (.nm 3) (.call 3 [(.lst [(.var 59), (.tup [(.tup [(.int 8), (.int 2)]), (.str (Str.ofString "inter")), (.bin .add (.int 1) (.call 11 [(.var 37), (.int 4)])), (.int 0), (.int 0), (.tup [(.tup [(.int 5), (.int 6)]), (.tup [(.int 6), (.int 6)])])])])]),
    .asg (.nm 6) (.call 9 [(.var 23), (.int 1), (.var 11), (.var 3), (.int 5)]),
    .ife (.or [(.cmp .ne (.call 9 [(.rev (.var 23)), (.int 1), (.var 11), (.var 3), (.int 5)]) (.var 6)), (.cmp .ne (.call 9 [(.bin .add (.var 23) (.var 23)), (.int 1), (.var 11), (.var 3), (.int 5)]) (.var 6))]) [.ret (.bool false)] [],
    .asg (.tup [46, 44, 45]) (.tup [(.bin .add (.int 1) (.call 11 [(.var 37), (.int 9)])), (.call 11 [(.var 37), (.int 9)]), (.call 11 [(.var 37), (.int 9)])]),
    .asg (.nm 60) (.bi .dict [(.comp (.tup [(.var 40), (.comp (.bin .add (.tup [(.bin .add (.idx (.var 13) (.int 0)) (.var 46))]) (.sl (.var 13) (some (.int 1)) none)) (.nm 13) (.idx (.var 11) (.var 40)) [])]) (.nm 40) (.var 11) [])]),
    .asg (.nm 61) (.bi .dict [(.comp (.tup [(.var 43), (.bin .add (.bin .add (.sl (.idx (.var 3) (.var 43)) none (some (.int 2))) (.tup [(.bin .add (.idx (.idx (.var 3) (.var 43)) (.int 2)) (.var 46))])) (.sl (.idx (.var 3) (.var 43)) (some (.int 3)) none))]) (.nm 43) (.var 3) [])]),
    .ife (.cmp .ne (.call 9 [(.call 14 [(.var 23), (.var 44), (.var 45)]), (.int 1), (.var 60), (.var 61), (.int 5)]) (.call 15 [(.var 6), (.var 46), (.var 44), (.var 45)])) [.ret (.bool false)] [],
    .asg (.tup [62, 5]) (.tup [(.bin .add (.int 1) (.call 11 [(.var 37), (.int 2)])), (.call 18 [(.var 6)])]),
    .asg (.nm 63) (.comp (.call 18 [(.call 9 [(.var 64), (.int 1), (.var 11), (.var 3), (.int 5)])]) (.nm 64) (.tup [(.sl (.var 23) none (some (.var 62))), (.sl (.var 23) (some (.var 62)) none)]) []),
    .loop (.nm 43) (.ex (.tup [(.tup [(.int 0), (.int 2)]), (.tup [(.int 8), (.int 2)])])) [.ife (.not (.call 16 [(.get (.var 5) (.var 43)), (.get (.idx (.var 63) (.int 0)) (.var 43)), (.get (.idx (.var 63) (.int 1)) (.var 43)), (.var 39)])) [.ret (.bool false)] []],
    .asg (.tup [40, 49]) (.tup [(.bin .add (.int 2) (.call 11 [(.var 37), (.int 3)])), (.tup [(.bin .add (.int 1) (.call 11 [(.var 37), (.int 4)])), (.tup [(.tup [(.int 8), (.int 8)])]), (.int 0), (.cmp .eq (.call 11 [(.var 37), (.int 2)]) (.int 1))])]),
    .asg (.nm 65) (.dictC (.var 11)),
    .setI (.var 65) (.var 40) (.bin .add (.get2 (.var 11) (.var 40) (.lst [])) (.lst [(.var 49)])),
    .ife (.not (.call 17 [(.var 5), (.call 18 [(.call 9 [(.var 23), (.int 1), (.var 65), (.var 3), (.int 5)])]), (.var 39)])) [.ret (.bool false)] [],
    .setI (.var 65) (.var 40) (.bin .add (.idx (.var 65) (.var 40)) (.lst [(.tup [(.int 90), (.tup [(.tup [(.int 9), (.int 9)])]), (.int 2), (.bool true)])])),
    .asg (.nm 24) (.comp (.tup [(.var 26), (.var 15)]) (.tup [26, 15]) (.var 23) [(.and [(.cmp .eq (.idx (.var 26) (.int 4)) (.var 40)), (.cmp .eq (.idx (.var 15) (.int 4)) (.int 0)), (.not (.idx (.var 15) (.int 2)))])]),
    .asg (.nm 7) (.call 9 [(.var 24), (.int 1), (.dct1 (.var 40) (.sl (.idx (.var 65) (.var 40)) (some (.neg (.int 2))) none)), (.var 3), (.int 5)]),
    .asg (.nm 66) .dctC,
    .loop (.tup [26, 15]) (.ex (.var 24)) [.setI (.var 66) (.tup [(.idx (.var 26) (.int 3)), (.int 2)]) (.bi .min [(.get2 (.var 66) (.tup [(.idx (.var 26) (.int 3)), (.int 2)]) (.int 99)), (.idx (.var 15) (.int 3))])],
    .ret (.cmp .eq (.var 7) (.comp (.tup [(.var 43), (.str (Str.ofString "ext1")), (.bin .add (.int 90) (.idx (.var 66) (.var 43))), (.int 0), (.int 0), (.tup [(.tup [(.int 9), (.int 9)])])]) (.nm 43) (.bi .sorted [(.var 66)]) []))]⟩
noncomputable def prg : List FnD := [c_mask_of, c_prefix_at, c_take_route, c_table_of, c_looked_up, c_rank_of, c_preferred_way, c_way_out, c_external_worth, c_external_routes, c_route_told, c_law_drawn, c_law_ways, c_law_rows, c_law_moved_rows, c_law_moved, c_law_is_joined, c_law_no_worse, c_law_by_net, c_law]
end Mine
end
end
section
open PySem PySem.Calls
set_option maxRecDepth 100000
set_option Elab.async false
set_option autoImplicit false
noncomputable section
namespace Mine
noncomputable def RawD (h : Heap) (d : Addr) (es : Array DictEntry) (ep : Nat) : Prop := ∃ o, h.get? d = some o ∧ o.ExactDict ∧ o.data = .dict es ep
section
variable {prog : Program} {w : World} {A : Around} {E : Value → Shared → Prop} {s : Shared} {d it : Addr} {es : Array DictEntry} {ep i : Nat}
theorem RawD.typeIs {h : Shared} (x : RawD h.heap d es ep) : h.TypeIs (.ref d) "dict" := let ⟨o, ho, hc, _⟩ := x; ⟨o, ho, hc.1⟩
theorem RawD.at {h h' : Heap} (x : RawD h d es ep) (k : ∀ o, h.get? d = some o → h'.get? d = some o) : RawD h' d es ep := let ⟨o, ho, r⟩ := x; ⟨o, k o ho, r⟩
theorem RawD.lt {h : Heap} (x : RawD h d es ep) : d < h.objs.size := let ⟨_, ho, _⟩ := x; Heap.lt_size ho
theorem iter_raw {Q : Value → Shared → Prop} (hd : (d == sysModules) = false) (x : RawD s.heap d es ep)
    (hQ : Q (.ref s.heap.objs.size) { s with heap := s.heap.push { cls := .type "dict_keyiterator", data := .fields #[.ref d, .int 0 0, .int es.size 0, .int ep 0] } }) :
    wpAny (model prog w) A (pyIter (.ref d)) Q E s := by
  have hT := x.typeIs
  obtain ⟨o, ho, hc, hdat⟩ := x
  refine wpAny_pyIter_slot hT F.slot_dict_iter (wpAny_call_entry F.slot_dict_iter hT F.entry_dict_iter ?_ (F.args_dict_iter_1 _))
  unfold Builtin.«dict.__iter__» Builtin.Dict.dictSlotNone
  refine wpAny_bind (wpAny_bind (wpAny_notOrdered_dict hT ?_))
  show wpAny _ _ (pure (Value.ref d)) _ _ s
  refine wpAny_pure ?_
  show wpAny _ _ (Builtin.Dict.showsAll d >>= _) _ _ s
  unfold Builtin.Dict.showsAll
  rw [hd]
  refine wpAny_bind (wpAny_pure (wpAny_bind (wpAny_dictEntries ho hdat (wpAny_bind (wpAny_dictEpoch ho hdat ?_)))))
  refine wpAny_bind (wpAny_newObj_type (wpAny_pure ⟨_, rfl, "dict_keyiterator", _, ⟨_, Heap.get?_push_size _ rfl, rfl⟩, F.slot_dict_keyiterator_next.lookup, ?_⟩))
  simpa [rawInt] using hQ
theorem next_raw_item {Q : Option Value → Shared → Prop} {e : DictEntry} (hit : s.heap.IsKeyIter it d i es.size ep) (x : RawD s.heap d es ep) (hx : es[i]? = some e)
    (hQ : ∀ h', h'.IsKeyIter it d (i + 1) es.size ep → Heap.SameBut it s.heap h' → Q (some e.key) { s with heap := h' }) :
    wpAny (model prog w) A (pyNext (.ref it)) Q E s := by
  have hT := hit.typeIs
  obtain ⟨o, ho, hc, hd⟩ := id hit
  obtain ⟨od, hod, _, hdd⟩ := x
  have hlt : i < es.size := (Array.getElem?_eq_some_iff.mp hx).1
  unfold pyNext
  refine wpAny_bind (wpAny_attempt (wpAny_callSpecial?_slot (name := Str.ofString "__next__") hT F.slot_dict_keyiterator_next
    (wpAny_call_entry F.slot_dict_keyiterator_next hT F.entry_dict_keyiterator_next ?_ (F.args_dict_keyiterator_next_1 _))))
  refine wpAny_bind (wpAny_pure (wpAny_bind (wpAny_bind ?_)))
  refine wpAny_bind (wpAny_typeNameOfWhole_keyiter hT (wpAny_pure ?_))
  refine wpAny_bind (wpAny_fieldsOf ho hd ?_)
  simp only [show Builtin.Dict_items.ownsTuple "dict_keyiterator" = false by decide, Bool.false_eq_true, if_false]
  show wpAny _ _ (if (Value.ref d == Value.none) = true then _ else _) _ _ s
  rw [if_neg (show ¬ ((Value.ref d == Value.none) = true) from Bool.false_ne_true)]
  refine wpAny_bind (wpAny_pure (wpAny_bind (wpAny_dictEntries hod hdd ?_)))
  rw [if_neg (by simp)]
  refine wpAny_bind (wpAny_pure (wpAny_bind (wpAny_dictEpoch hod hdd ?_)))
  rw [if_neg (by simp)]
  refine wpAny_pure ?_
  simp only [show ¬ ((i : Int) < 0) from by lia, if_false, Int.toNat_natCast, hx]
  refine wpAny_bind (wpAny_bind (wpAny_typeNameOfWhole_keyiter hT (wpAny_pure ?_)))
  refine wpAny_bind (wpAny_isOneOf_keyiter hT ?_)
  show wpAny _ _ (setField (.ref it) 1 (rawInt ((i : Int) + 1)) >>= _) _ _ s
  refine wpAny_bind (wpAny_setField ho hd (by simp) ?_)
  have hit' : (s.heap.update it (Obj.mapFields (·.setIfInBounds 1 (rawInt ((i : Int) + 1))))).IsKeyIter it d (i + 1) es.size ep :=
    ⟨_, Heap.get?_update_self _ ho (Obj.isFreed_of_fields (Obj.data_mapFields hd _)), (Obj.cls_mapFields ..).trans hc, by rw [Obj.data_mapFields hd]; simp [rawInt]⟩
  refine wpAny_bind (wpAny_holding (wpAny_bind (wpAny_isOneOf_keyiter (s := { s with heap := s.heap.update it (Obj.mapFields (·.setIfInBounds 1 (rawInt ((i : Int) + 1)))) }) hit'.typeIs ?_)))
  show wpAny _ _ (pure e.key) _ _ _
  exact wpAny_pure (wpAny_pure ⟨_, rfl, wpAny_pure (hQ _ hit' (Heap.SameBut.update ..))⟩)
theorem next_raw_end {Q : Option Value → Shared → Prop} (hh : A.handled = none) (hit : s.heap.IsKeyIter it d i es.size ep) (x : RawD s.heap d es ep) (hx : es[i]? = none)
    (hQ : ∀ h', Heap.ExtBut it s.heap h' → Q none { s with heap := h' }) : wpAny (model prog w) A (pyNext (.ref it)) Q E s := by
  have hT := hit.typeIs
  obtain ⟨o, ho, hc, hd⟩ := id hit
  obtain ⟨od, hod, _, hdd⟩ := x
  unfold pyNext
  refine wpAny_bind (wpAny_attempt (wpAny_callSpecial?_slot (name := Str.ofString "__next__") hT F.slot_dict_keyiterator_next
    (wpAny_call_entry F.slot_dict_keyiterator_next hT F.entry_dict_keyiterator_next ?_ (F.args_dict_keyiterator_next_1 _))))
  refine wpAny_bind (wpAny_pure (wpAny_bind (wpAny_bind ?_)))
  refine wpAny_bind (wpAny_typeNameOfWhole_keyiter hT (wpAny_pure ?_))
  refine wpAny_bind (wpAny_fieldsOf ho hd ?_)
  simp only [show Builtin.Dict_items.ownsTuple "dict_keyiterator" = false by decide, Bool.false_eq_true, if_false]
  show wpAny _ _ (if (Value.ref d == Value.none) = true then _ else _) _ _ s
  rw [if_neg (show ¬ ((Value.ref d == Value.none) = true) from Bool.false_ne_true)]
  refine wpAny_bind (wpAny_pure (wpAny_bind (wpAny_dictEntries hod hdd ?_)))
  rw [if_neg (by simp)]
  refine wpAny_bind (wpAny_pure (wpAny_bind (wpAny_dictEpoch hod hdd ?_)))
  rw [if_neg (by simp)]
  refine wpAny_pure ?_
  simp only [show ¬ ((i : Int) < 0) from by lia, if_false, Int.toNat_natCast, hx]
  refine wpAny_bind (wpAny_bind (wpAny_typeNameOfWhole_keyiter hT (wpAny_pure ?_)))
  show wpAny _ _ (setField (.ref it) 0 .none >>= _) _ _ s
  refine wpAny_bind (wpAny_setField ho hd (by simp) ?_)
  show wpAny _ _ (newExc (.type "StopIteration") [] >>= _) _ _ _
  refine wpAny_bind ?_
  simp only [newExc, newTuple]
  refine wpAny_bind (wpAny_newObj_type ?_ (by size_fits))
  refine wpAny_bind (m := firstArgMember _ _) (wpAny_of_eq (a := Value.none) (by first | rfl | (simp only [firstArgMember]; rfl)) ?_)
  refine wpAny_newObj_type ?_ (by size_fits)
  simp only [raiseNew]
  refine wpAny_bind (wpAny_handled ?_)
  rw [show A.in1.handled = none from hh]
  refine wpAny_bind (wpAny_pure (wpAny_throw ?_))
  refine wpAny_bind (wpAny_isInstance (T := "StopIteration") (b := true) ⟨_, Heap.get?_push_size _ rfl, rfl⟩ isSubtype_stop ?_)
  exact wpAny_pure (hQ _ (((Heap.SameBut.update ..).extBut.push _).push _))
theorem walks_raw (hh : A.handled = none) (I d : Addr) (hne : d ≠ I) (es : Array DictEntry) (ep : Nat) :
    Walks prog w A I [I, d] [I] es.size (fun i v => ∃ e, es[i]? = some e ∧ v = e.key) (fun i h => h.IsKeyIter I d i es.size ep ∧ RawD h d es ep) where
  sub := fun b hb => by simp at hb; simp [hb]
  frame := fun _ _ _ st hk => ⟨st.1.at fun o e => hk I (by simp) o e, st.2.at fun o e => hk d (by simp) o e⟩
  item := fun i s Q E hi st hQ => by
    refine next_raw_item st.1 st.2 (e := es[i]) (by simp [hi]) fun h' hit' hs' => ?_
    exact hQ _ h' s.toks ⟨es[i], by simp [hi], rfl⟩ ⟨hit', st.2.at fun o e => hs'.extBut d o hne e⟩ fun b o hb e => hs'.extBut b o (fun h => hb (by simp [h])) e
  done := fun s Q E st hQ => next_raw_end hh st.1 st.2 (by simp) fun h' he' => hQ h' s.toks fun b o hb e => he' b o (fun h => hb (by simp [h])) e
  self := fun _ _ _ _ st hQ => wpAny_pyIter_keyiter st.1 hQ
theorem src_raw (hd : (d == sysModules) = false) : PySem.W.KdlSrc prog w "dict" d d es.size (fun i v => ∃ e, es[i]? = some e ∧ v = e.key) (fun h => RawD h d es ep) where
  type := fun _ x => x.typeIs
  there := fun _ x => ⟨x.lt, x.lt⟩
  keep := fun _ _ x hk => x.at fun o e => hk d (.inl rfl) o e
  notList := by decide
  notTuple := by decide
  hint := fun _ _ _ _ x hq => PySem.W.kdl_hint_dict x.typeIs hq
  iter := fun _ _ hh x => ⟨_, _, (fun _ _ hq => iter_raw hd x hq), walks_raw hh _ d (Nat.ne_of_lt x.lt) es ep, ⟨⟨_, Heap.get?_push_size _ rfl, rfl, rfl⟩, x.at fun o e => Heap.get?_push_of_some _ e⟩⟩
end
end Mine
end
end
section
open PySem PySem.Calls PySem.W PyProof.Rows
set_option maxRecDepth 100000
set_option Elab.async false
set_option autoImplicit false
set_option linter.unusedVariables false
noncomputable section
namespace Mine
section
variable (lt : Nat → Nat → Bool) (n : Nat)
noncomputable def KasOk {α : Type} : KasT α → (α → Prop) → Prop
  | .ret a, P => P a
  | .ask i j k, P => i < n ∧ j < n ∧ KasOk (k (lt i j)) P
end
section
variable {lt : Nat → Nat → Bool} {n : Nat}
theorem KasOk.mono {α : Type} {P Q : α → Prop} (h : ∀ a, P a → Q a) : ∀ {t : KasT α}, KasOk lt n t P → KasOk lt n t Q
  | .ret a, x => h a x
  | .ask _ _ _, x => ⟨x.1, x.2.1, KasOk.mono h x.2.2⟩
theorem KasOk.bind {α β : Type} {P : β → Prop} {f : α → KasT β} : ∀ {t : KasT α}, KasOk lt n t (fun a => KasOk lt n (f a) P) → KasOk lt n (t.bind f) P
  | .ret a, x => x
  | .ask i j k, x => ⟨x.1, x.2.1, KasOk.bind x.2.2⟩
structure Ord (lt : Nat → Nat → Bool) (n : Nat) : Prop where
  trans : ∀ i j k, i < n → j < n → k < n → lt i j = true → lt j k = true → lt i k = true
  tot : ∀ i j, i < n → j < n → i ≠ j → lt i j = true ∨ lt j i = true
  asym : ∀ i j, i < n → j < n → lt i j = true → lt j i = false
noncomputable def Pm (n : Nat) (p : Array Nat) : Prop := p.toList.Perm (List.range n)
theorem pm_size {p : Array Nat} (h : Pm n p) : p.size = n := by
  have := h.length_eq
  simpa using this
theorem pm_lt {p : Array Nat} (h : Pm n p) {i : Nat} (hi : i < n) : p.getD i 0 < n := by
  have hs := pm_size h
  have e : p.getD i 0 = p[i]'(by lia) := by simp [Array.getD, hs, hi]
  rw [e]
  have : p[i]'(by lia) ∈ p.toList := by simp
  exact List.mem_range.mp (h.mem_iff.mp this)
theorem pm_inj {p : Array Nat} (h : Pm n p) {i j : Nat} (hi : i < n) (hj : j < n) (hne : i ≠ j) : p.getD i 0 ≠ p.getD j 0 := by
  have hs := pm_size h
  have hn : p.toList.Nodup := h.nodup_iff.mpr List.nodup_range
  have e : ∀ k (hk : k < n), p.getD k 0 = p.toList[k]'(by rw [Array.length_toList, hs]; exact hk) := fun k hk => by simp [Array.getD, hs, hk]
  rw [e i hi, e j hj]
  intro q
  exact hne ((List.getElem_inj hn).mp q)
theorem pm_perm {p q : Array Nat} (h : Pm n p) (e : q.Perm p) : Pm n q := (Array.perm_iff_toList_perm.mp e).trans h
abbrev at0 (p : Array Nat) (i : Nat) : Nat := p.getD i 0
noncomputable def Srt (lt : Nat → Nat → Bool) (p : Array Nat) (m : Nat) : Prop := ∀ i j, i < j → j < m → lt (at0 p i) (at0 p j) = true
noncomputable def Dsc (lt : Nat → Nat → Bool) (p : Array Nat) (m : Nat) : Prop := ∀ i j, i < j → j < m → lt (at0 p j) (at0 p i) = true
theorem eq_of_ge {j m : Nat} (h : j < m + 1) (q : ¬ j < m) : j = m := Nat.le_antisymm (Nat.le_of_lt_succ h) (Nat.le_of_not_lt q)
theorem lt_pred {m n : Nat} (h : m < n) : m - 1 < n := Nat.lt_of_le_of_lt (Nat.sub_le _ _) h
theorem pred_ne {m : Nat} (h : 1 ≤ m) : m ≠ m - 1 := Nat.ne_of_gt (Nat.sub_lt h Nat.one_pos)
theorem lt_of_add {m f n : Nat} (h : m + (f + 1) = n) : m < n := h ▸ Nat.lt_add_of_pos_right (Nat.succ_pos f)
theorem add_next {m f n : Nat} (h : m + (f + 1) = n) : m + 1 + f = n := (Nat.add_right_comm m 1 f).trans h
theorem Srt.snoc {p : Array Nat} {m : Nat} (O : Ord lt n) (hp : Pm n p) (hm : m < n) (h1 : 1 ≤ m) (h : Srt lt p m) (hl : lt (at0 p (m - 1)) (at0 p m) = true) : Srt lt p (m + 1) := by
  intro i j hij hj
  by_cases hjm : j < m
  · exact h i j hij hjm
  · rw [eq_of_ge hj hjm] at hij ⊢
    by_cases hi : i = m - 1
    · rw [hi]; exact hl
    · exact O.trans _ _ _ (pm_lt hp (Nat.lt_trans hij hm)) (pm_lt hp (lt_pred hm)) (pm_lt hp hm) (h i (m - 1) (Nat.lt_of_le_of_ne (Nat.le_pred_of_lt hij) hi) (Nat.sub_lt h1 Nat.one_pos)) hl
theorem Dsc.snoc {p : Array Nat} {m : Nat} (O : Ord lt n) (hp : Pm n p) (hm : m < n) (h1 : 1 ≤ m) (h : Dsc lt p m) (hl : lt (at0 p m) (at0 p (m - 1)) = true) : Dsc lt p (m + 1) := by
  intro i j hij hj
  by_cases hjm : j < m
  · exact h i j hij hjm
  · rw [eq_of_ge hj hjm] at hij ⊢
    by_cases hi : i = m - 1
    · rw [hi]; exact hl
    · exact O.trans _ _ _ (pm_lt hp hm) (pm_lt hp (lt_pred hm)) (pm_lt hp (Nat.lt_trans hij hm)) hl (h i (m - 1) (Nat.lt_of_le_of_ne (Nat.le_pred_of_lt hij) hi) (Nat.sub_lt h1 Nat.one_pos))
theorem Ord.up (O : Ord lt n) {p : Array Nat} (hp : Pm n p) {i j : Nat} (hi : i < n) (hj : j < n) (hne : i ≠ j) (hc : lt (p.getD i 0) (p.getD j 0) = false) : lt (at0 p j) (at0 p i) = true :=
  (O.tot _ _ (pm_lt hp hi) (pm_lt hp hj) (pm_inj hp hi hj hne)).resolve_left fun q => Bool.false_ne_true (hc.symm.trans q)
theorem ok_asc (O : Ord lt n) {p : Array Nat} (hp : Pm n p) (f : Nat) : ∀ m : Nat, 1 ≤ m → m + f = n → Srt lt p m →
    KasOk lt n (kas_asc p f m) fun k => m ≤ k ∧ k ≤ n ∧ Srt lt p k ∧ (k < n → lt (at0 p k) (at0 p (k - 1)) = true) := by
  induction f with
  | zero => exact fun m _ hf hs => ⟨Nat.le_refl _, Nat.le_of_eq hf, hs, fun h => absurd hf (Nat.ne_of_lt h)⟩
  | succ f ih =>
    intro m h1 hf hs
    have hm := lt_of_add hf
    refine ⟨pm_lt hp hm, pm_lt hp (lt_pred hm), ?_⟩
    cases hc : lt (p.getD m 0) (p.getD (m - 1) 0) with
    | true => exact ⟨Nat.le_refl _, Nat.le_of_lt hm, hs, fun _ => hc⟩
    | false => exact KasOk.mono (fun k hk => ⟨Nat.le_of_succ_le hk.1, hk.2⟩) (ih (m + 1) (Nat.le_succ_of_le h1) (add_next hf) (hs.snoc O hp hm h1 (O.up hp hm (lt_pred hm) (pred_ne h1) hc)))
theorem ok_desc (O : Ord lt n) {p : Array Nat} (hp : Pm n p) (f : Nat) : ∀ m : Nat, 2 ≤ m → m + f = n → Dsc lt p m →
    KasOk lt n (kas_desc f p m 0) fun r => r.1 = p ∧ 2 ≤ r.2.1 ∧ r.2.1 ≤ n ∧ r.2.2 = 0 ∧ Dsc lt p r.2.1 := by
  induction f with
  | zero => exact fun m h2 hf hd => ⟨rfl, h2, Nat.le_of_eq hf, rfl, hd⟩
  | succ f ih =>
    intro m h2 hf hd
    have hm := lt_of_add hf
    have h1 : 1 ≤ m := Nat.le_of_succ_le h2
    refine ⟨pm_lt hp hm, pm_lt hp (lt_pred hm), ?_⟩
    cases hc : lt (p.getD m 0) (p.getD (m - 1) 0) with
    | true =>
      dsimp only
      rw [if_pos rfl, if_neg (Nat.not_lt_zero _)]
      exact ih (m + 1) (Nat.le_succ_of_le h2) (add_next hf) (hd.snoc O hp hm h1 hc)
    | false =>
      dsimp only
      rw [if_neg Bool.false_ne_true]
      refine ⟨pm_lt hp (lt_pred hm), pm_lt hp hm, ?_⟩
      rw [show lt (p.getD (m - 1) 0) (p.getD m 0) = true from O.up hp hm (lt_pred hm) (pred_ne h1) hc]
      dsimp only
      rw [if_pos rfl]
      exact ⟨rfl, h2, Nat.le_of_lt hm, rfl, hd⟩
theorem at0_of {p q : Array Nat} {i j : Nat} (h : p[i]? = q[j]?) : at0 p i = at0 q j := by
  have e : ∀ (p : Array Nat) (i : Nat), at0 p i = (p[i]?).getD 0 := fun p i => by simp [at0]
  rw [e, e, h]
theorem rev_lt {i j m : Nat} (hij : i < j) (hj : j < m) : m - 1 - j < m - 1 - i ∧ m - 1 - i < m := by omega
theorem rev_srt {p : Array Nat} {m : Nat} (hm : m ≤ p.size) (h : Dsc lt p m) : Srt lt (kas_rev p 0 m) m := by
  intro i j hij hj
  have e : ∀ k, k < m → at0 (kas_rev p 0 m) k = at0 p (m - 1 - k) := fun k hk => at0_of (by
    show (mirror p 0 m ((m - 0) / 2))[k]? = _
    rw [getElem?_mirror_all hm, if_pos ⟨Nat.zero_le _, hk⟩, Nat.zero_add, Nat.sub_right_comm])
  rw [e i (Nat.lt_trans hij hj), e j hj]
  exact h _ _ (rev_lt hij hj).1 (rev_lt hij hj).2
theorem rev_pm {p : Array Nat} {i j : Nat} (h : Pm n p) : Pm n (kas_rev p i j) := pm_perm h (mirror_perm _ _ _ _)
theorem ok_tail3 (O : Ord lt n) {p : Array Nat} (hp : Pm n p) {m : Nat} (h2 : 2 ≤ m) (hm : m ≤ n) (hd : Dsc lt p m) :
    KasOk lt n (kas_tail3 m n p) fun r => Pm n r.2 ∧ 1 ≤ r.1 ∧ r.1 ≤ n ∧ Srt lt r.2 r.1 := by
  unfold kas_tail3
  refine KasOk.bind (KasOk.mono (fun k hk => ?_) (ok_asc O (rev_pm hp) (n - m) m (Nat.le_of_succ_le h2) (Nat.add_sub_of_le hm) (rev_srt (Nat.le_trans hm (Nat.le_of_eq (pm_size hp).symm)) hd)))
  exact ⟨rev_pm hp, Nat.le_trans (Nat.le_of_succ_le h2) hk.1, hk.2.1, hk.2.2.1⟩
theorem ok_count (O : Ord lt n) {p : Array Nat} (hp : Pm n p) (h1 : 1 ≤ n) : KasOk lt n (kas_count n p) fun r => Pm n r.2 ∧ 1 ≤ r.1 ∧ r.1 ≤ n ∧ Srt lt r.2 r.1 := by
  unfold kas_count
  refine KasOk.bind (KasOk.mono (fun k hk => ?_) (ok_asc O hp (n - 1) 1 (Nat.le_refl _) (Nat.add_sub_of_le h1) (fun i j hij hj => absurd (Nat.lt_of_lt_of_le hij (Nat.le_of_lt_succ hj)) (Nat.not_lt_zero _))))
  obtain ⟨k1, kn, hs, hl⟩ := hk
  by_cases e : (k == n) = true
  · rw [if_pos e]; exact ⟨hp, k1, kn, hs⟩
  · rw [if_neg e]
    have hkn : k < n := Nat.lt_of_le_of_ne kn fun q => e (beq_iff_eq.mpr q)
    by_cases hk1 : k > 1
    · rw [if_pos hk1]
      refine ⟨pm_lt hp h1, pm_lt hp (lt_pred hkn), ?_⟩
      have : lt (p.getD 0 0) (p.getD (k - 1) 0) = true := hs 0 (k - 1) (Nat.sub_pos_of_lt hk1) (Nat.sub_lt k1 Nat.one_pos)
      rw [this]
      dsimp only
      rw [if_pos rfl]
      exact ⟨hp, k1, kn, hs⟩
    · rw [if_neg hk1]
      have hk' : k = 1 := Nat.le_antisymm (Nat.le_of_not_lt hk1) k1
      subst hk'
      unfold kas_descPart
      refine KasOk.bind (KasOk.mono (fun r hr => ?_) (ok_desc O hp (n - (1 + 1)) (1 + 1) (Nat.le_refl _) (Nat.add_sub_of_le hkn) ?_))
      · obtain ⟨e1, r2, rn, e0, hd⟩ := hr
        rw [if_neg (Nat.not_lt.mpr (Nat.le_of_eq e0)), e1]
        exact ok_tail3 O hp r2 rn hd
      · intro i j hij hj
        have hj1 : j = 1 := Nat.le_antisymm (Nat.le_of_lt_succ hj) (Nat.lt_of_le_of_lt (Nat.zero_le _) hij)
        subst hj1
        rw [Nat.lt_one_iff.mp hij]
        exact hl hkn
theorem mid_at {l r : Nat} (h : ¬ l ≥ r) : l ≤ (l + r) / 2 ∧ (l + r) / 2 < r := by omega
theorem left_f {l r m f : Nat} (hf : r - l ≤ f + 1) (h1 : l ≤ m) (h2 : m < r) : m - l ≤ f := Nat.le_of_lt_succ (Nat.lt_of_lt_of_le (Nat.sub_lt_sub_right h1 h2) hf)
theorem right_f {l r m f : Nat} (hf : r - l ≤ f + 1) (h1 : l ≤ m) : r - (m + 1) ≤ f := by omega
theorem ok_place (O : Ord lt n) {p : Array Nat} (hp : Pm n p) {k : Nat} (hk : k < n) (hs : Srt lt p k) (f : Nat) : ∀ l r : Nat, l ≤ r → r ≤ k → r - l ≤ f →
    (∀ i, i < l → lt (at0 p i) (at0 p k) = true) → (∀ i, r ≤ i → i < k → lt (at0 p k) (at0 p i) = true) →
    KasOk lt n (kas_place p k f l r) fun m => m ≤ k ∧ (∀ i, i < m → lt (at0 p i) (at0 p k) = true) ∧ ∀ i, m ≤ i → i < k → lt (at0 p k) (at0 p i) = true := by
  induction f with
  | zero => exact fun l r hlr hrk hf ha hb => ⟨Nat.le_trans hlr hrk, ha, fun i hi hik => hb i (Nat.le_trans (Nat.sub_eq_zero_iff_le.mp (Nat.le_zero.mp hf)) hi) hik⟩
  | succ f ih =>
    intro l r hlr hrk hf ha hb
    unfold kas_place
    by_cases hge : l ≥ r
    · rw [if_pos hge]
      exact ⟨Nat.le_trans hlr hrk, ha, fun i hi hik => hb i (Nat.le_trans hge hi) hik⟩
    · rw [if_neg hge]
      obtain ⟨m1, m2⟩ := mid_at hge
      generalize (l + r) / 2 = m at m1 m2
      have mk : m < k := Nat.lt_of_lt_of_le m2 hrk
      have mn := Nat.lt_trans mk hk
      refine ⟨pm_lt hp hk, pm_lt hp mn, ?_⟩
      cases hc : lt (p.getD k 0) (p.getD m 0) with
      | true =>
        dsimp only
        rw [if_pos rfl]
        refine ih l m m1 (Nat.le_of_lt mk) (left_f hf m1 m2) ha fun i hi hik => ?_
        rcases Nat.eq_or_lt_of_le hi with q | q
        · rw [← q]; exact hc
        · exact O.trans _ _ _ (pm_lt hp hk) (pm_lt hp mn) (pm_lt hp (Nat.lt_trans hik hk)) hc (hs _ _ q hik)
      | false =>
        dsimp only
        rw [if_neg Bool.false_ne_true]
        have hl : lt (at0 p m) (at0 p k) = true := O.up hp hk mn (Nat.ne_of_gt mk) hc
        refine ih (m + 1) r m2 hrk (right_f hf m1) (fun i hi => ?_) hb
        rcases Nat.eq_or_lt_of_le (Nat.le_of_lt_succ hi) with q | q
        · rw [q]; exact hl
        · exact O.trans _ _ _ (pm_lt hp (Nat.lt_trans q mn)) (pm_lt hp mn) (pm_lt hp hk) (hs _ _ q mk) hl
theorem shift_lt {i j k m : Nat} (hij : i < j) (hj : j < k + 1) : (¬ i = m → j = m → i < k ∧ i < m) ∧ (m < i ∧ i ≤ k → m < j ∧ j ≤ k ∧ i - 1 < j - 1 ∧ j - 1 < k) ∧ (¬ (m < i ∧ i ≤ k) → ¬ i = m → m < j ∧ j ≤ k → i < j - 1 ∧ j - 1 < k) ∧ (¬ j = m → ¬ (m < j ∧ j ≤ k) → m ≤ k → j < k) ∧ (i = m → m < j ∧ j ≤ k ∧ ¬ j = m ∧ m ≤ j - 1 ∧ j - 1 < k) := by omega
theorem ok_bin (O : Ord lt n) (f : Nat) : ∀ (p : Array Nat) (k : Nat), Pm n p → k + f = n → Srt lt p k → KasOk lt n (kas_bin f p k) fun q => Pm n q ∧ Srt lt q n := by
  induction f with
  | zero => exact fun p k hp hf hs => ⟨hp, hf ▸ hs⟩
  | succ f ih =>
    intro p k hp hf hs
    unfold kas_bin
    have hk := lt_of_add hf
    refine KasOk.bind (KasOk.mono (fun m hm => ?_) (ok_place O hp hk hs k 0 k (Nat.zero_le _) (Nat.le_refl _) (Nat.sub_le _ _) (fun i hi => absurd hi (Nat.not_lt_zero _)) (fun i h1 h2 => absurd h2 (Nat.not_lt.mpr h1))))
    obtain ⟨hmk, ha, hb⟩ := hm
    refine ih (bubble p k (k - m)) (k + 1) (pm_perm hp (bubble_perm _ _ _)) (add_next hf) ?_
    have e : ∀ i, at0 (bubble p k (k - m)) i = if i = m then at0 p k else if m < i ∧ i ≤ k then at0 p (i - 1) else at0 p i := fun i => by
      have q := getElem?_bubble (xs := p) (src := k) (Nat.lt_of_lt_of_eq hk (pm_size hp).symm) (k - m) (Nat.sub_le _ _) i
      rw [Nat.sub_sub_self hmk] at q
      by_cases h : i = m
      · rw [if_pos h] at q ⊢; exact at0_of q
      · rw [if_neg h] at q ⊢
        by_cases h2 : m < i ∧ i ≤ k
        · rw [if_pos h2] at q ⊢; exact at0_of q
        · rw [if_neg h2] at q ⊢; exact at0_of q
    intro i j hij hj
    obtain ⟨s1, s2, s3, s4, s5⟩ := shift_lt (m := m) hij hj
    rw [e i, e j]
    by_cases h1 : i = m
    · have s5 := s5 h1
      rw [if_pos h1, if_neg s5.2.2.1, if_pos ⟨s5.1, s5.2.1⟩]
      exact hb _ s5.2.2.2.1 s5.2.2.2.2
    · rw [if_neg h1]
      by_cases h2 : j = m
      · have s1 := s1 h1 h2
        rw [if_pos h2, if_neg (fun q => Nat.lt_asymm q.1 s1.2)]
        exact ha _ s1.2
      · rw [if_neg h2]
        by_cases h3 : m < i ∧ i ≤ k
        · have s2 := s2 h3
          rw [if_pos h3, if_pos ⟨s2.1, s2.2.1⟩]
          exact hs _ _ s2.2.2.1 s2.2.2.2
        · rw [if_neg h3]
          by_cases h4 : m < j ∧ j ≤ k
          · have s3 := s3 h3 h1 h4
            rw [if_pos h4]
            exact hs _ _ s3.1 s3.2
          · rw [if_neg h4]
            exact hs _ _ hij (s4 h2 h4 hmk)
theorem ok_sort (O : Ord lt n) (h1 : 1 ≤ n) : KasOk lt n (kas_sort n) fun q => Pm n q ∧ Srt lt q n := by
  unfold kas_sort
  refine KasOk.bind (KasOk.mono (fun r hr => ?_) (ok_count O (p := List.toArray (List.range n)) (List.Perm.refl _) h1))
  obtain ⟨hp, r1, rn, hs⟩ := hr
  by_cases h : r.1 < n
  · rw [if_pos h, Nat.max_eq_left r1]
    exact ok_bin O (n - r.1) r.2 r.1 hp (Nat.add_sub_of_le rn) hs
  · rw [if_neg h]
    rw [Nat.le_antisymm rn (Nat.le_of_not_lt h)] at hs
    exact ⟨hp, hs⟩
end
theorem plt_iff {p q : Int × Int} : plt p q = true ↔ p.1 < q.1 ∨ (p.1 = q.1 ∧ p.2 < q.2) := by
  unfold plt
  rw [Bool.or_eq_true, Bool.and_eq_true, decide_eq_true_iff, decide_eq_true_iff, beq_iff_eq]
theorem plt_trans {p q r : Int × Int} (a : plt p q = true) (b : plt q r = true) : plt p r = true := by
  rw [plt_iff] at a b ⊢
  rcases a with a | ⟨a1, a2⟩ <;> rcases b with b | ⟨b1, b2⟩
  · exact .inl (Int.lt_trans a b)
  · exact .inl (b1 ▸ a)
  · exact .inl (a1 ▸ b)
  · exact .inr ⟨a1.trans b1, Int.lt_trans a2 b2⟩
theorem plt_asym {p q : Int × Int} (a : plt p q = true) : plt q p = false := by
  refine Bool.eq_false_iff.mpr fun b => ?_
  rcases plt_iff.mp (plt_trans a b) with q | q
  · exact Int.lt_irrefl _ q
  · exact Int.lt_irrefl _ q.2
theorem plt_tot {p q : Int × Int} (h : p ≠ q) : plt p q = true ∨ plt q p = true := by
  rw [plt_iff, plt_iff]
  rcases Int.lt_trichotomy p.1 q.1 with e | e | e
  · exact .inl (.inl e)
  · rcases Int.lt_trichotomy p.2 q.2 with f | f | f
    · exact .inl (.inr ⟨e, f⟩)
    · exact absurd (Prod.ext e f) h
    · exact .inr (.inr ⟨e.symm, f⟩)
  · exact .inr (.inl e)
theorem pins_perm (p : Int × Int) : ∀ l, (pins p l).Perm (p :: l)
  | [] => List.Perm.refl _
  | q :: r => by
    rw [pins_cons]
    split
    · exact List.Perm.refl _
    · exact ((pins_perm p r).cons q).trans (List.Perm.swap p q r)
theorem psort_perm : ∀ l, (psort l).Perm l
  | [] => List.Perm.refl _
  | p :: r => (pins_perm p _).trans ((psort_perm r).cons p)
abbrev PSorted (l : List (Int × Int)) : Prop := l.Pairwise fun a b => plt a b = true
theorem pins_sorted (p : Int × Int) : ∀ l, PSorted l → (∀ q ∈ l, q ≠ p) → PSorted (pins p l)
  | [], _, _ => List.pairwise_singleton _ _
  | q :: r, hs, hne => by
    rw [pins_cons]
    obtain ⟨h1, h2⟩ := List.pairwise_cons.mp hs
    split
    · rename_i hc
      refine List.pairwise_cons.mpr ⟨fun x hx => ?_, hs⟩
      rcases List.mem_cons.mp hx with rfl | hx
      · exact hc
      · exact plt_trans hc (h1 x hx)
    · rename_i hc
      refine List.pairwise_cons.mpr ⟨fun x hx => ?_, pins_sorted p r h2 fun x hx => hne x (.tail _ hx)⟩
      rcases List.mem_cons.mp ((pins_perm p r).mem_iff.mp hx) with rfl | hx
      · exact (plt_tot (hne q (.head _))).resolve_right (by simpa using hc)
      · exact h1 x hx
theorem distinct_nodup : ∀ {l : List (Int × Int)}, distinctP l = true → l.Nodup
  | [], _ => List.nodup_nil
  | p :: r, h => by
    simp only [distinctP_cons, Bool.and_eq_true, Bool.not_eq_true', List.contains_eq_mem, decide_eq_false_iff_not] at h
    exact List.nodup_cons.mpr ⟨h.1, distinct_nodup h.2⟩
theorem nodup_distinct : ∀ {l : List (Int × Int)}, l.Nodup → distinctP l = true
  | [], _ => rfl
  | p :: r, h => by
    obtain ⟨h1, h2⟩ := List.nodup_cons.mp h
    simp [distinctP_cons, h1, nodup_distinct h2]
theorem psort_sorted : ∀ {l : List (Int × Int)}, l.Nodup → PSorted (psort l)
  | [], _ => List.Pairwise.nil
  | p :: r, h => by
    obtain ⟨h1, h2⟩ := List.nodup_cons.mp h
    exact pins_sorted p _ (psort_sorted h2) fun q hq e => h1 (e ▸ (psort_perm r).mem_iff.mp hq)
theorem sorted_unique : ∀ {l k : List (Int × Int)}, PSorted l → PSorted k → l.Perm k → l = k
  | [], k, _, _, hp => (List.nil_perm.mp hp).symm
  | p :: r, k, hl, hk, hp => by
    cases k with
    | nil => exact absurd hp.length_eq (by simp)
    | cons q t =>
      obtain ⟨a1, a2⟩ := List.pairwise_cons.mp hl
      obtain ⟨b1, b2⟩ := List.pairwise_cons.mp hk
      have e : p = q := by
        rcases List.mem_cons.mp (hp.mem_iff.mp (List.mem_cons_self (a := p) (l := r))) with e | m
        · exact e
        · rcases List.mem_cons.mp (hp.mem_iff.mpr (List.mem_cons_self (a := q) (l := t))) with e | m'
          · exact e.symm
          · have x := plt_asym (b1 p m)
            rw [a1 q m'] at x; cases x
      subst e
      rw [sorted_unique a2 b2 (List.Perm.cons_inv hp)]
theorem sort_places {ps : List (Int × Int)} (hn : ps.Nodup) {q : Array Nat} (hp : Pm ps.length q) (hs : Srt (fun i j => plt (ps.getD i (0, 0)) (ps.getD j (0, 0))) q ps.length) :
    (q.toList.map fun i => ps.getD i (0, 0)) = psort ps := by
  refine sorted_unique ?_ (psort_sorted hn) ?_
  · rw [PSorted, List.pairwise_map]
    refine List.pairwise_iff_getElem.mpr fun i j hi hj hij => ?_
    have hz := pm_size hp
    simp only [Array.length_toList] at hi hj
    have := hs i j hij (by lia)
    simpa [at0, Array.getD, hi, hj] using this
  · refine (List.Perm.map _ hp).trans ?_
    have e : (List.range ps.length).map (fun i => ps.getD i (0, 0)) = ps := by
      apply List.ext_getElem
      · simp
      · intro i h1 h2
        simp at h1
        simp [h1]
    rw [e]
    exact (psort_perm ps).symm
theorem plt_ord {ps : List (Int × Int)} (hn : ps.Nodup) : Ord (fun i j => plt (ps.getD i (0, 0)) (ps.getD j (0, 0))) ps.length where
  trans := fun _ _ _ _ _ _ a b => plt_trans a b
  asym := fun _ _ _ _ a => plt_asym a
  tot := fun i j hi hj hne => plt_tot (by
    rw [List.getD_eq_getElem?_getD, List.getD_eq_getElem?_getD, List.getElem?_eq_getElem hi, List.getElem?_eq_getElem hj]
    exact fun e => hne ((List.getElem_inj hn).mp e))
end Mine
end
end
section
open PySem PySem.Calls PySem.W PyProof.Rows
set_option maxRecDepth 100000
set_option Elab.async false
set_option autoImplicit false
set_option linter.unusedVariables false
noncomputable section
namespace Mine
noncomputable def PairAt (h : Heap) (v : Value) (p : Int × Int) : Prop := ∃ a t u n, v = .ref a ∧ h.get? a = some (tupO #[.int p.1 t, .int p.2 u] n)
theorem PairAt.keep {h h' : Heap} {v : Value} {p : Int × Int} (k : ∀ b o, h.get? b = some o → o.cls = .type "tuple" → h'.get? b = some o) (x : PairAt h v p) : PairAt h' v p :=
  let ⟨a, t, u, n, e, ho⟩ := x; ⟨a, t, u, n, e, k _ _ ho rfl⟩
section
variable {prog : Program} {w : World}
theorem pairAt_of {X : List Addr} {h : Heap} {v : Value} {p : Int × Int} (r : Rep prog w X h v (pairD p)) : PairAt h v p := by
  unfold pairD at r
  cases r with
  | tup ho _ hl =>
    cases hl with
    | cons h1 h2 =>
      cases h2 with
      | cons h3 h4 =>
        cases h4
        cases h1 with
        | int i t =>
          cases h3 with
          | int j u => exact ⟨_, t, u, _, rfl, ho⟩
theorem pairsAt_of {X : List Addr} {h : Heap} {vs : List Value} {ps : List (Int × Int)} (r : RepL prog w X h vs (ps.map pairD)) : Paired (PairAt h) vs ps := by
  induction ps generalizing vs with
  | nil => cases r; exact .nil
  | cons p ps ih => cases r with
    | cons a b => exact .cons (pairAt_of a) (ih b)
end
theorem Paired.getD {α β : Type} {R : α → β → Prop} {d : α} {e : β} {l : List α} {k : List β} (p : Paired R l k) : ∀ i, i < l.length → R (l.getD i d) (k.getD i e) :=
  Paired.rec (motive := fun l k _ => ∀ i, i < l.length → R (l.getD i d) (k.getD i e)) (fun i h => absurd h (Nat.not_lt_zero _)) (fun {a b _ _} q _ ih i h => by
    cases i with
    | zero => exact q
    | succ i => exact ih i (Nat.lt_of_succ_lt_succ h)) p
theorem katTups_of {h : Heap} {vs : List Value} {ps : List (Int × Int)} (p : Paired (PairAt h) vs ps) : ∃ fs : List Value, KatTups h vs fs ∧ fs.length = vs.length ∧ ∀ v ∈ fs, ∃ i t, v = .int i t := by
  induction p with
  | nil => exact ⟨[], KatTups.nil, rfl, fun _ hv => nomatch hv⟩
  | cons a b ih =>
    obtain ⟨fs, h1, h2, h3⟩ := ih
    obtain ⟨c, t, u, n, rfl, ho⟩ := a
    exact ⟨_ :: fs, KatTups.cons ho rfl rfl rfl h1, congrArg (· + 1) h2, List.forall_mem_cons.mpr ⟨⟨_, _, rfl⟩, h3⟩⟩
section
variable {prog : Program} {w : World} {A : Around} {E : Value → Shared → Prop} {s : Shared}
theorem lt_pairs {x y : Value} {p q : Int × Int} {Q : Bool → Shared → Prop} (hx : PairAt s.heap x p) (hy : PairAt s.heap y q) (h : Q (plt p q) s) : wpAny (model prog w) A (keyLt' (tuples' true) x y) Q E s := by
  obtain ⟨a, t, u, n, rfl, ha⟩ := hx
  obtain ⟨b, t', u', n', rfl, hb⟩ := hy
  refine kat_lt ha rfl hb rfl ?_
  show KatLex prog w A true _ Q [(Value.int p.1 t, Value.int q.1 t'), (Value.int p.2 u, Value.int q.2 u')] 0 s
  refine kat_cons (wpAny_eqBool_int (kat_go (fun e => kat_yes (kat_cons (wpAny_eqBool_int (kat_go (fun e2 => kat_yes (kat_nil ?_)) fun e2 => kat_no ?_)))) fun e => kat_no ?_))
  · have e' : p.1 = q.1 := beq_iff_eq.mp e
    have e2' : p.2 = q.2 := beq_iff_eq.mp e2
    have : plt p q = false := by simp [plt, e', e2']
    rw [this] at h; exact h
  · have e' : p.1 = q.1 := beq_iff_eq.mp e
    have : plt p q = decide (p.2 < q.2) := by simp [plt, e']
    rw [this] at h
    exact kat_one _ _ (lt_int h)
  · have e' : p.1 ≠ q.1 := fun z => by rw [z] at e; simp at e
    have : plt p q = decide (p.1 < q.1) := by simp [plt, e']
    rw [this] at h
    exact oneLt_int h
theorem ask_all {vs : List Value} {ps : List (Int × Int)} {α : Type} {P : α → Prop} {Q : α → Shared → Prop} (hp : Paired (PairAt s.heap) vs ps) (hq : ∀ a, P a → Q a s) :
    ∀ {t : KasT α}, KasOk (fun i j => plt (ps.getD i (0, 0)) (ps.getD j (0, 0))) vs.length t P → t.kasWp (kas_ask prog w A (tuples' true) vs) Q s
  | .ret a, h => hq a h
  | .ask i j k, h => by
    show kas_ask prog w A (tuples' true) vs i j (fun b s' => (k b).kasWp (kas_ask prog w A (tuples' true) vs) Q s') s
    unfold kas_ask
    exact lt_pairs (Mine.Paired.getD hp i h.1) (Mine.Paired.getD hp j h.2.1) (ask_all hp hq h.2.2)
theorem sort_pairs {a : Addr} {vs : List Value} {ps : List (Int × Int)} {n : Nat} {P : PySem.Fin → Shared → Prop} (ho : s.heap.get? a = some (seqObj "list" vs.toArray n)) (hp : Paired (PairAt s.heap) vs ps)
    (hn : ps.Nodup) (h64 : vs.length < 64)
    (h : ∀ (h' : Heap) (q : Array Nat) (e : Nat), (∀ b o, b ≠ a → s.heap.get? b = some o → h'.get? b = some o) → h'.get? a = some (seqObj "list" (List.toArray (q.toList.map fun i => vs.getD i Value.none)) e) →
      (q.toList.map fun i => ps.getD i (0, 0)) = psort ps → Pm ps.length q → P (.done (.ret .none)) { s with heap := h' }) :
    wpAny (model prog w) A (Builtin.«list.sort» ⟨[.ref a], []⟩) P E s := by
  have hlen : vs.length = ps.length := hp.length
  have ha : a < s.heap.objs.size := Heap.lt_size ho
  obtain ⟨e1, ho1⟩ : ∃ e1, (s.heap.update a (Obj.mapSeq fun _ => (#[] : Array Value))).get? a = some (seqObj "list" #[] e1) := ⟨_, get?_update_seq ho fun _ => #[]⟩
  rw [list_sort_plain]
  refine wpAny_bind (listItems_at ho rfl ?_)
  refine wpAny_bind (listUpdate_at ho rfl ?_ (by rw [List.size_toArray, sizeLine_eq]; lia) (Nat.zero_le _))
  refine wpAny_bind (seqEpoch_at ho1 rfl ?_)
  refine wpAny_bind (wpAny_newTuple ?_ (by show vs.length ≤ _; rw [sizeLine_eq]; lia))
  refine wpAny_bind (wpAny_newList ?_ (Nat.zero_le _))
  refine wpAny_holding ?_
  generalize hH : ((s.heap.update a (Obj.mapSeq fun _ => (#[] : Array Value))).push (seqObj "tuple" vs.toArray 0)).push (seqObj "list" #[] 0) = H
  have keep : ∀ b o, b ≠ a → s.heap.get? b = some o → H.get? b = some o := fun b o hb e => by
    rw [← hH]
    exact Heap.get?_push_of_some _ (Heap.get?_push_of_some _ ((Heap.get?_update_other _ _ (Ne.symm hb)).trans e))
  have hoA : H.get? a = some (seqObj "list" #[] e1) := by rw [← hH]; exact Heap.get?_push_of_some _ (Heap.get?_push_of_some _ ho1)
  have hp' : Paired (PairAt H) vs ps := Paired.mono (fun v p x => x.keep fun b o e hc => keep b o (fun q => by rw [q, ho] at e; rw [← Option.some.inj e] at hc; simp at hc) e) hp
  show wpAny (model prog w) A _ P E { s with heap := H }
  dsimp only
  have fin : ∀ (q : Array Nat), Pm ps.length q → (q.toList.map fun i => ps.getD i (0, 0)) = psort ps →
      P (.done (.ret .none)) { s with heap := H.update a (Obj.mapSeq fun _ => List.toArray (q.toList.map fun i => vs.getD i Value.none)) } := fun q h1 h2 =>
    h _ q _ (fun b o hb e => (Heap.get?_update_other _ _ (Ne.symm hb)).trans (keep b o hb e)) (get?_update_seq hoA _) h2 h1
  have hsz : vs.toArray.size = vs.length := List.size_toArray ..
  by_cases h2 : vs.toArray.size < 2
  · rw [if_pos h2, if_pos h2]
    refine wpAny_bind (wpAny_pure ?_)
    rw [StateT.run_pure]
    refine wpAny_bind (wpAny_pure ?_)
    dsimp only
    have hout : (arrOf (SortSt.mk' general' (vs.toArray.zip vs.toArray) #[] 7 none)).map (·.2) = List.toArray ((List.toArray (List.range ps.length)).toList.map fun i => vs.getD i Value.none) := by
      show (vs.toArray.zip vs.toArray).map (·.2) = _
      apply Array.toList_inj.mp
      apply List.ext_getElem
      · simp [hlen]
      · intro i h1 h2
        simp at h1
        simp [h1]
    rw [hout]
    refine wpAny_bind (seqEpoch_at hoA rfl ?_)
    refine wpAny_bind (listUpdate_at hoA rfl ?_ (Nat.zero_le _) (by
      show (List.toArray ((List.toArray (List.range ps.length)).toList.map fun i => vs.getD i Value.none)).size ≤ _
      rw [sizeLine_eq]; simp; lia))
    simp only [bne_self_eq_false, Bool.false_eq_true, if_false]
    refine wpAny_pure (fin (List.toArray (List.range ps.length)) (List.Perm.refl _) ?_)
    refine sorted_unique ?_ (psort_sorted hn) ?_
    · match ps, hlen with
      | [], _ => exact List.Pairwise.nil
      | [p], _ => exact List.pairwise_singleton _ _
      | _ :: _ :: _, hl => rw [hsz] at h2; simp only [List.length_cons] at hl; lia
    · have e : ((List.toArray (List.range ps.length)).toList.map fun i => ps.getD i (0, 0)) = ps := by
        apply List.ext_getElem
        · simp
        · intro i h1 h2
          simp at h1
          simp [h1]
      rw [e]
      exact (psort_perm ps).symm
  · rw [if_neg h2, if_neg h2]
    rw [hsz] at h2
    obtain ⟨fs, k1, k2, k3⟩ := katTups_of hp'
    refine wpAny_bind (kat_kind (T := .type "int") k1 (by lia) (fun v hv => ?_) (by decide) ?_)
    · obtain ⟨i, t, rfl⟩ := k3 v hv
      exact Looks.of_pure rfl
    have hK : (Value.type "int" != Value.type "tuple") = true := by decide
    rw [hK]
    refine wpAny_bind (wpAny_mono (kat_run (ks := vs) (Q := fun st' s' => ∃ p : Array Nat, p.size = vs.length ∧ arrOf st' = p.map (kas_item (vs.toArray.zip vs.toArray)) ∧ failedOf st' = none ∧ (Pm ps.length p ∧ Srt (fun i j => plt (ps.getD i (0, 0)) (ps.getD j (0, 0))) p ps.length) ∧ s' = { s with heap := H })
      rfl (by lia) h64 (G := fun q s' => (Pm ps.length q ∧ Srt (fun i j => plt (ps.getD i (0, 0)) (ps.getD j (0, 0))) q ps.length) ∧ s' = { s with heap := H })
      (fun p' st' s' a1 a2 a3 a4 => ⟨p', a1, a2, a3, a4.1, a4.2⟩) (ask_all (s := { s with heap := H }) hp' (fun a ha => ⟨ha, rfl⟩) ?_)) ?_ fun _ _ e => e)
    · rw [hlen]; exact ok_sort (plt_ord hn) (by lia)
    rintro ⟨⟨⟩, st'⟩ s' ⟨p, hps, har, hf, ⟨hpm, hsr⟩, rfl⟩
    dsimp only
    have hout := kat_snds (ks := vs) rfl har
    rw [hout]
    refine wpAny_bind (seqEpoch_at hoA rfl ?_)
    refine wpAny_bind (listUpdate_at hoA rfl ?_ (Nat.zero_le _) (by
      show (List.toArray (p.toList.map fun i => vs.getD i Value.none)).size ≤ _
      rw [sizeLine_eq, List.size_toArray, List.length_map, Array.length_toList, hps]; lia))
    rw [hf]
    simp only [bne_self_eq_false, Bool.false_eq_true, if_false]
    exact wpAny_pure (fin p hpm (sort_places hn hpm hsr))
theorem RepL.get {X : List Addr} {h : Heap} {d : Value} {e : PyData} {vs : List Value} {ds : List PyData} (r : RepL prog w X h vs ds) : ∀ i, i < vs.length → Rep prog w X h (vs.getD i d) (ds.getD i e) :=
  RepL.ind (M := fun vs ds => ∀ i, i < vs.length → Rep prog w X h (vs.getD i d) (ds.getD i e)) (fun i h => absurd h (Nat.not_lt_zero _)) (fun v y vs ds a ih i h => by
    cases i with
    | zero => exact a
    | succ i => exact ih i (Nat.lt_of_succ_lt_succ h)) r
theorem RepL.length {X : List Addr} {h : Heap} {vs : List Value} {ds : List PyData} (r : RepL prog w X h vs ds) : vs.length = ds.length :=
  RepL.ind (M := fun vs ds => vs.length = ds.length) rfl (fun _ _ _ _ _ ih => congrArg (· + 1) ih) r
theorem RepL.places {X : List Addr} {h : Heap} {vs : List Value} {ps : List (Int × Int)} (r : RepL prog w X h vs (ps.map pairD)) {q : List Nat} (hq : ∀ i ∈ q, i < vs.length) : RepL prog w X h (q.map fun i => vs.getD i Value.none) ((q.map fun i => ps.getD i (0, 0)).map pairD) := by
  induction q with
  | nil => exact .nil
  | cons i q ih =>
    have hq := List.forall_mem_cons.mp hq
    refine .cons ?_ (ih hq.2)
    have := RepL.get (d := Value.none) (e := pairD (0, 0)) r i hq.1
    rw [show (ps.map pairD).getD i (pairD (0, 0)) = pairD (ps.getD i (0, 0)) by rw [List.getD_eq_getElem?_getD, List.getD_eq_getElem?_getD, List.getElem?_map, Option.getD_map]] at this
    exact this
theorem sorted_pairs {x : Value} {vs : List Value} {ps : List (Int × Int)} {X : List Addr} {Q : Value → Shared → Prop} (hX : ∀ b ∈ X, (s.heap.get? b).isSome = true)
    (hc : ∀ (P : List Value → Shared → Prop), (∀ h' tk, (∀ b o, s.heap.get? b = some o → h'.get? b = some o) → P vs { s with heap := h', toks := tk }) → wpAny (model prog w) A.in1 (collect x) P E s)
    (hr : RepL prog w X s.heap vs (ps.map pairD)) (hn : ps.Nodup) (h64 : vs.length < 64)
    (h : ∀ h' tk val, (∀ b o, s.heap.get? b = some o → h'.get? b = some o) → Rep prog w X h' val (.list ((psort ps).map pairD)) → Q val { s with heap := h', toks := tk }) :
    wpAny (model prog w) A (call (.builtin "sorted") [x]) Q E s := by
  refine Calls.call_function_entry kind_sorted plain_sorted entry_sorted (args_sorted1 _) ?_
  unfold Builtin.«sorted»
  refine wpAny_bind (m := checkCount "sorted" 1 1 _) (wpAny_pure ?_)
  refine wpAny_bind (hc _ fun h₁ tk k₁ => ?_)
  refine wpAny_bind (wpAny_newList ?_ (by rw [sizeLine_eq]; lia))
  have hnew : (h₁.push { cls := .type "list", data := .seq vs.toArray }).get? h₁.objs.size = some (seqObj "list" vs.toArray 0) := Heap.get?_push_size _ rfl
  have k₂ : ∀ b o, s.heap.get? b = some o → (h₁.push { cls := .type "list", data := .seq vs.toArray }).get? b = some o := fun b o e => Heap.get?_push_of_some _ (k₁ b o e)
  have r₂ : RepL prog w X (h₁.push { cls := .type "list", data := .seq vs.toArray }) vs (ps.map pairD) := RepL.keep (W := []) (Step.of_keep k₂) (fun _ hb => nomatch hb) hr
  refine wpAny_bind (wpAny_holding (wpAny_call_entry slot_list_sort ⟨_, hnew, rfl⟩ entry_list_sort ?_ (args_list_sort _)))
  refine sort_pairs (s := { s with heap := h₁.push { cls := .type "list", data := .seq vs.toArray }, toks := tk }) hnew (pairsAt_of r₂) hn h64 fun h₃ q e k₃ ho₃ hq hpm => ⟨_, rfl, ?_⟩
  have old : ∀ b o, s.heap.get? b = some o → h₃.get? b = some o := fun b o e => k₃ b o (Nat.ne_of_lt (Heap.lt_size (k₁ b o e))) (k₂ b o e)
  refine wpAny_pure ⟨_, rfl, h h₃ tk _ old (.list ho₃ (fun hm => ?_) ?_)⟩
  · obtain ⟨o, ho⟩ := Option.isSome_iff_exists.mp (hX _ hm)
    exact absurd (Heap.lt_size (k₁ _ _ ho)) (Nat.lt_irrefl _)
  · rw [← hq]
    refine RepL.places (RepL.keep (W := []) (Step.of_keep old) (fun _ hb => nomatch hb) hr) fun i hi => ?_
    have hl := RepL.length hr
    rw [List.length_map] at hl
    rw [hl]
    exact List.mem_range.mp (hpm.mem_iff.mp hi)
end
end Mine
end
end
section
open PySem PySem.Calls PySem.W PyProof.Rows
set_option maxRecDepth 100000
set_option Elab.async false
set_option autoImplicit false
set_option linter.unusedVariables false
noncomputable section
namespace Mine
noncomputable def Liv (X : List Addr) (h : Heap) : Prop := ∀ b ∈ X, (h.get? b).isSome = true
theorem Liv.fresh {X : List Addr} {h : Heap} {a : Addr} (l : Liv X h) (ha : h.objs.size ≤ a) : a ∉ X := fun hm => by
  obtain ⟨o, ho⟩ := Option.isSome_iff_exists.mp (l a hm)
  exact absurd (Heap.lt_size ho) (Nat.not_lt.mpr ha)
section
variable (prog : Program) (w : World)
inductive RdR (X : List Addr) (h : Heap) : Value → PyData → Prop
  | of {v : Value} {d : PyData} : Rep prog w X h v d → RdR X h v d
  | list {a : Addr} {vs : List Value} {n : Nat} {ds : List PyData} : h.get? a = some (lstO vs.toArray n) → RepL prog w X h vs ds → RdR X h (Value.ref a) (PyData.list ds)
  | dictI {a : Addr} {ps : List (Int × Value)} {kvs : List (PyData × PyData)} : h.DictOf (intKind prog w) a ps → (a == sysModules) = false → RepI prog w X h ps kvs → RdR X h (Value.ref a) (PyData.dict kvs)
  | dictT {a : Addr} {xs : List (List Int × Addr × Value)} {kvs : List (PyData × PyData)} : h.DictOfH (tupleKind (intKind prog w)) a xs → (a == sysModules) = false → RepT prog w X h xs kvs → RdR X h (Value.ref a) (PyData.dict kvs)
end
section
variable {prog : Program} {w : World} {X : List Addr} {h : Heap} {v : Value}
theorem RdR.list_inv {ds : List PyData} (r : RdR prog w X h v (.list ds)) : ∃ a vs n, v = .ref a ∧ h.get? a = some (lstO (List.toArray vs) n) ∧ RepL prog w X h vs ds := by
  cases r with
  | of r => cases r with | list ho _ hl => exact ⟨_, _, _, rfl, ho, hl⟩
  | list ho hl => exact ⟨_, _, _, rfl, ho, hl⟩
theorem RdR.tup_inv {ds : List PyData} (r : RdR prog w X h v (.tuple ds)) : ∃ a vs n, v = .ref a ∧ h.get? a = some (tupO (List.toArray vs) n) ∧ a ∉ X ∧ RepL prog w X h vs ds := by
  cases r with
  | of r => cases r with | tup ho ha hl => exact ⟨_, _, _, rfl, ho, ha, hl⟩
theorem RdR.int_inv {i : Int} (r : RdR prog w X h v (.int i)) : ∃ t, v = .int i t := by
  cases r with
  | of r => cases r with | int _ t => exact ⟨t, rfl⟩
theorem RdR.str_inv {i : Str} (r : RdR prog w X h v (.str i)) : ∃ t, v = .str i t := by
  cases r with
  | of r => cases r with | str _ t => exact ⟨t, rfl⟩
theorem RdR.bool_inv {b : Bool} (r : RdR prog w X h v (.bool b)) : v = .bool b := by
  cases r with
  | of r => cases r with | bool _ => rfl
theorem RdR.dict_inv {kvs : List (PyData × PyData)} (r : RdR prog w X h v (.dict kvs)) : ∃ a, v = .ref a ∧ (a == sysModules) = false ∧
    ((∃ ps, h.DictOf (intKind prog w) a ps ∧ RepI prog w X h ps kvs) ∨ ∃ xs, h.DictOfH (tupleKind (intKind prog w)) a xs ∧ RepT prog w X h xs kvs) := by
  cases r with
  | of r =>
    cases r with
    | dictI hd hm _ hl => exact ⟨_, rfl, hm, .inl ⟨_, hd, hl⟩⟩
    | dictT hd hm _ hl => exact ⟨_, rfl, hm, .inr ⟨_, hd, hl⟩⟩
  | dictI hd hm hl => exact ⟨_, rfl, hm, .inl ⟨_, hd, hl⟩⟩
  | dictT hd hm hl => exact ⟨_, rfl, hm, .inr ⟨_, hd, hl⟩⟩
theorem readsA : (∀ v d, Rep prog w X h v d → ∀ n, flatD n d = true → ∃ as, Reads h v d as) ∧ (∀ vs ds, RepL prog w X h vs ds → ∀ n, flatL n ds = true → ∃ as, ReadsAll h vs ds as) ∧ (∀ ps kvs, RepI prog w X h ps kvs → True) ∧ ∀ xs kvs, RepT prog w X h xs kvs → True := by
  refine Rep.ind (fun _ _ => ⟨_, Reads.none⟩) (fun b _ _ => ⟨_, Reads.bool b⟩) (fun i t _ _ => ⟨_, Reads.int i t⟩) (fun x t _ _ => ⟨_, Reads.str x t⟩) ?_ ?_ ?_ ?_ (fun _ _ => ⟨_, ReadsAll.nil⟩) ?_ trivial (fun _ _ _ _ _ _ _ => trivial) trivial (fun _ _ _ _ _ _ _ _ _ _ => trivial)
  · intro a vs n ds ho _ ih m hf
    cases m with
    | zero => exact absurd hf Bool.false_ne_true
    | succ m => exact (ih m hf).elim fun _ q => ⟨_, Reads.tuple ho rfl rfl q⟩
  · intro a vs n ds ho _ ih m hf
    cases m with
    | zero => exact absurd hf Bool.false_ne_true
    | succ m => exact (ih m hf).elim fun _ q => ⟨_, Reads.list ho rfl rfl q⟩
  · intro a ps kvs _ _ _ _ m hf
    cases m <;> exact absurd hf Bool.false_ne_true
  · intro a ps kvs _ _ _ _ m hf
    cases m <;> exact absurd hf Bool.false_ne_true
  · intro v d vs ds a b n hf
    have hf := Bool.and_eq_true_iff.mp hf
    exact (a n hf.1).elim fun _ q => (b n hf.2).elim fun _ p => ⟨_, ReadsAll.cons q p⟩
theorem rdReads {d : PyData} {n : Nat} (r : RdR prog w X h v d) (hf : flatD n d = true) : ∃ as, Reads h v d as := by
  cases r with
  | of r => exact readsA.1 _ _ r n hf
  | list ho hl =>
    cases n with
    | zero => exact absurd hf Bool.false_ne_true
    | succ n => exact (readsA.2.1 _ _ hl n hf).elim fun _ q => ⟨_, Reads.list ho rfl rfl q⟩
  | dictI _ _ _ => cases n <;> exact absurd hf Bool.false_ne_true
  | dictT _ _ _ => cases n <;> exact absurd hf Bool.false_ne_true
end
mutual
theorem flat_lay : ∀ (n : Nat) (d : PyData), flatD n d = true → d.canLay0 = true ∧ d.depth ≤ n
  | n, .none, _ => ⟨rfl, Nat.zero_le _⟩
  | n, .bool _, _ => ⟨rfl, Nat.zero_le _⟩
  | n, .int _, _ => ⟨rfl, Nat.zero_le _⟩
  | n, .str x, hf => ⟨by cases n <;> exact hf, Nat.zero_le _⟩
  | 0, .list _, hf => absurd hf Bool.false_ne_true
  | 0, .tuple _, hf => absurd hf Bool.false_ne_true
  | n + 1, .list xs, hf => ⟨(flatL_lay n xs hf).1, Nat.succ_le_succ (flatL_lay n xs hf).2⟩
  | n + 1, .tuple xs, hf => ⟨(flatL_lay n xs hf).1, Nat.succ_le_succ (flatL_lay n xs hf).2⟩
  | n, .dict _, hf => by cases n <;> exact absurd hf Bool.false_ne_true
theorem flatL_lay : ∀ (n : Nat) (ds : List PyData), flatL n ds = true → PyData.canLayAll0 ds = true ∧ PyData.depthAll ds ≤ n
  | n, [], _ => ⟨rfl, Nat.zero_le _⟩
  | n, d :: ds, hf => by
    have hf := Bool.and_eq_true_iff.mp hf
    have a := flat_lay n d hf.1
    have b := flatL_lay n ds hf.2
    exact ⟨Bool.and_eq_true_iff.mpr ⟨a.1, b.1⟩, Nat.max_le.mpr ⟨a.2, b.2⟩⟩
end
theorem flat_shaped {n : Nat} {d : PyData} (hn : n ≤ 64) (hf : flatD n d = true) : SeqAt.shaped d = true := by
  have q := flat_lay n d hf
  unfold SeqAt.shaped
  rw [q.1, Bool.true_and]
  exact decide_eq_true (Nat.le_trans q.2 hn)
noncomputable def Bop.op : Bop → Operator
  | .add => .Add | .sub => .Sub | .mul => .Mult | .mod => .Mod | .fdiv => .FloorDiv | .shl => .LShift | .band => .BitAnd
noncomputable def Cop.op : Cop → CmpOp
  | .eq => .Eq | .ne => .NotEq | .lt => .Lt | .le => .LtE | .gt => .Gt | .ge => .GtE | .isIn => .In | .notIn => .NotIn | .isN => .Is | .isNotN => .IsNot
theorem big_line : big ≤ sizeLine := by rw [sizeLine_eq]; decide
section
variable {prog : Program} {w : World} {A : Around} {E : Value → Shared → Prop} {s : Shared} {X : List Addr} {Q : Value → Shared → Prop}
noncomputable def Gv (prog : Program) (w : World) (X : List Addr) (s : Shared) (d : PyData) (Q : Value → Shared → Prop) : Prop :=
  ∀ h' tk val, Step [] s.heap h' → Rep prog w X h' val d → Q val { s with heap := h', toks := tk }
theorem Gv.same {d : PyData} {val : Value} (g : Gv prog w X s d Q) (r : Rep prog w X s.heap val d) (tk : Nat) : Q val { s with toks := tk } := g s.heap tk val Step.refl r
theorem repL_push {vs : List Value} {ds : List PyData} (o : Obj) (r : RepL prog w X s.heap vs ds) : RepL prog w X (s.heap.push o) vs ds := RepL.keep (W := []) (Step.push o) (fun _ hb => nomatch hb) r
theorem op_tuple {vs : List Value} {ds : List PyData} (l : Liv X s.heap) (r : RepL prog w X s.heap vs ds) (hz : vs.length ≤ big) (g : Gv prog w X s (.tuple ds) Q) : wpAny (model prog w) A (newTuple vs) Q E s :=
  wpAny_newTuple (g _ s.toks _ (Step.push _) (.tup (n := 0) (Heap.get?_push_size _ rfl) (l.fresh (Nat.le_refl _)) (repL_push _ r))) (Nat.le_trans hz big_line)
theorem op_list {vs : List Value} {ds : List PyData} (l : Liv X s.heap) (r : RepL prog w X s.heap vs ds) (hz : vs.length ≤ big) (g : Gv prog w X s (.list ds) Q) : wpAny (model prog w) A (newList vs) Q E s :=
  wpAny_newList (g _ s.toks _ (Step.push _) (.list (n := 0) (Heap.get?_push_size _ rfl) (l.fresh (Nat.le_refl _)) (repL_push _ r))) (Nat.le_trans hz big_line)
theorem RepL.append {h : Heap} {vs ws : List Value} {ds es : List PyData} (r : RepL prog w X h vs ds) (k : RepL prog w X h ws es) : RepL prog w X h (vs ++ ws) (ds ++ es) :=
  RepL.ind (M := fun vs ds => RepL prog w X h (vs ++ ws) (ds ++ es)) k (fun _ _ _ _ a ih => .cons a ih) r
theorem noPylong (x y : Int) (h : y.natAbs < 2 ^ 60) : Builtin.divisionGoesByPylong x y = false := by
  unfold Builtin.divisionGoesByPylong
  have : ¬ ((if (y == 0) = true then 0 else y.natAbs.log2 / 30 + 1) > 300) := by
    split
    · lia
    · have h2 : y.natAbs.log2 ≤ 60 := by
        by_cases h0 : y.natAbs = 0
        · rw [h0]; decide
        · exact Nat.le_of_lt ((Nat.log2_lt h0).mpr h)
      lia
  simp only [decide_eq_false this, Bool.false_and]
theorem tupAdd {t b : Addr} {vs ws : List Value} {n m : Nat} {Q : Value → Shared → Prop} (ht : s.heap.get? t = some (tupO vs.toArray n)) (hb : s.heap.get? b = some (tupO ws.toArray m)) (hz : vs.length + ws.length ≤ sizeLine)
    (h1 : vs = [] → Q (.ref b) { s with toks := s.toks }) (h2 : ws = [] → Q (.ref t) { s with toks := s.toks })
    (h3 : Q (.ref s.heap.objs.size) { s with heap := s.heap.push { cls := .type "tuple", data := .seq (vs.toArray ++ ws.toArray) }, toks := s.toks }) : wpAny (model prog w) A (binaryOp .Add (.ref t) (.ref b)) Q E s := by
  by_cases e1 : vs = []
  · exact concat_meets ⟨_, ht, rfl⟩ ⟨_, hb, rfl⟩ noFill_tuple_add seq_tuple_add F.slot_tuple_add F.entry_tuple_add (F.args_tuple_add_2 _ _) (AutoSeq1.tuple___add___tuple_tuple_0 t vs.toArray n b ws.toArray m (by simp [e1])) ⟨ht, hb, h1 e1⟩
  · by_cases e2 : ws = []
    · exact concat_meets ⟨_, ht, rfl⟩ ⟨_, hb, rfl⟩ noFill_tuple_add seq_tuple_add F.slot_tuple_add F.entry_tuple_add (F.args_tuple_add_2 _ _) (AutoSeq1.tuple___add___tuple_tuple_1 t vs.toArray n b ws.toArray m (by simp [e1]) (by simp [e2])) ⟨ht, hb, h2 e2⟩
    · exact PySem.P.add_tuple ht hb (by simp [e1]) (by simp [e2]) h3 (by simpa using hz)
theorem op_bin {op : Bop} {x y z : PyData} {u v : Value} (e : binD op x y = some z) (l : Liv X s.heap) (hx : RdR prog w X s.heap u x) (hy : RdR prog w X s.heap v y) (g : Gv prog w X s z Q) :
    wpAny (model prog w) A (binaryOp op.op u v) Q E s := by
  have ii : ∀ {f : Int → Int → Option PyData}, onII x y f = some z → ∃ a b ta tb, u = .int a ta ∧ v = .int b tb ∧ f a b = some z := by
    intro f e
    unfold onII at e
    split at e
    · obtain ⟨t, rfl⟩ := hx.int_inv
      obtain ⟨t', rfl⟩ := hy.int_inv
      exact ⟨_, _, t, t', rfl, rfl, e⟩
    · cases e
  cases op with
  | add =>
    have e : addD x y = some z := e
    unfold addD at e
    split at e
    · cases e; obtain ⟨t, rfl⟩ := hx.int_inv; obtain ⟨t', rfl⟩ := hy.int_inv
      exact PyProof.Rows.add_int (g.same (.int _ _) _)
    · split at e
      · rename_i hb
        cases e
        obtain ⟨a, vs, n, rfl, ho, hl⟩ := hx.list_inv
        obtain ⟨b, ws, m, rfl, ho', hl'⟩ := hy.list_inv
        have z1 := RepL.length hl
        have z2 := RepL.length hl'
        have hz := big_line
        refine PySem.P.add_list ho ho' (g _ s.toks _ (Step.push _) (.list (vs := vs ++ ws) (n := 0) ?_ (l.fresh (Nat.le_refl _)) (repL_push _ (RepL.append hl hl')))) (by simp; lia)
        rw [Heap.get?_push_size _ rfl]; simp [lstO]
      · cases e
    · split at e
      · rename_i hb
        cases e
        obtain ⟨a, vs, n, rfl, ho, ha, hl⟩ := hx.tup_inv
        obtain ⟨b, ws, m, rfl, ho', hb', hl'⟩ := hy.tup_inv
        have z1 := RepL.length hl
        have z2 := RepL.length hl'
        have hz := big_line
        exact tupAdd ho ho' (by lia) (fun e1 => by
          subst e1; cases hl
          exact g.same (.tup ho' hb' hl') _) (fun e1 => by
          subst e1; cases hl'
          rw [List.append_nil] at g
          exact g.same (.tup ho ha hl) _) (by
          refine g _ s.toks _ (Step.push _) (.tup (vs := vs ++ ws) (n := 0) ?_ (l.fresh (Nat.le_refl _)) (repL_push _ (RepL.append hl hl')))
          rw [Heap.get?_push_size _ rfl]; simp [tupO])
      · cases e
    · cases e
  | sub =>
    obtain ⟨a, b, t, t', rfl, rfl, e⟩ := ii e
    cases e
    exact sub_int (g.same (.int _ _) _)
  | mul =>
    obtain ⟨a, b, t, t', rfl, rfl, e⟩ := ii e
    split at e
    · rename_i hb
      cases e
      refine mul_int (g.same (.int _ _) _) ?_
      intro hc
      simp only [Bool.and_eq_true, decide_eq_true_eq] at hc
      have h1 := hc.1.1
      have := PyProof.Rows.intBits_le hb
      simp only [shortFactorBits] at h1
      lia
    · cases e
  | mod =>
    obtain ⟨a, b, t, t', rfl, rfl, e⟩ := ii e
    split at e
    · rename_i hb
      cases e
      exact mod_int' hb (g.same (.int _ _) _)
    · cases e
  | fdiv =>
    obtain ⟨a, b, t, t', rfl, rfl, e⟩ := ii e
    split at e
    · rename_i hb
      cases e
      exact floordiv_int hb.1 (g.same (.int _ _) _) (.inl (noPylong _ _ hb.2))
    · cases e
  | shl =>
    obtain ⟨a, b, t, t', rfl, rfl, e⟩ := ii e
    split at e
    · rename_i hb
      cases e
      exact lshift_int_small hb.1 (by lia) (by lia) (g.same (.int _ _) _)
    · cases e
  | band =>
    obtain ⟨a, b, t, t', rfl, rfl, e⟩ := ii e
    cases e
    exact and_int (g.same (.int _ _) _)
end
end Mine
end
end
section
open PySem PySem.Calls PySem.W PyProof.Rows
set_option maxRecDepth 100000
set_option Elab.async false
set_option autoImplicit false
set_option linter.unusedVariables false
noncomputable section
namespace Mine
theorem ifP {α : Type} {c : Prop} [Decidable c] {x : Option α} {b : α} (e : (if c then x else none) = some b) : c ∧ x = some b := by
  by_cases h : c
  · rw [if_pos h] at e; exact ⟨h, e⟩
  · rw [if_neg h] at e; cases e
theorem ifN {α : Type} {c : Prop} [Decidable c] {x : Option α} {b : α} (e : (if c then none else x) = some b) : ¬ c ∧ x = some b := by
  by_cases h : c
  · rw [if_pos h] at e; cases e
  · rw [if_neg h] at e; exact ⟨h, e⟩
theorem isIK_int {k : PyData} (h : isIK k = true) : ∃ i, k = .int i := by
  cases k with
  | int i => exact ⟨i, rfl⟩
  | _ => exact absurd h Bool.false_ne_true
theorem ints_all (ds : List PyData) : ds.all isIK = true → ∃ is : List Int, ds = is.map .int := by
  induction ds with
  | nil => exact fun _ => ⟨[], rfl⟩
  | cons d ds ih =>
    intro h
    have h := Bool.and_eq_true_iff.mp h
    exact (isIK_int h.1).elim fun i e => (ih h.2).elim fun is q => ⟨i :: is, by rw [e, q]; rfl⟩
theorem isTK_tup {k : PyData} (h : isTK k = true) : ∃ is : List Int, k = tupK is := by
  cases k with
  | tuple ds => exact (ints_all ds h).elim fun is q => ⟨is, by rw [q]; rfl⟩
  | _ => exact absurd h Bool.false_ne_true
theorem keq_int (a b : Int) : keq (.int a) (.int b) = decide (a = b) := rfl
theorem keqL_ints : ∀ a b : List Int, keqL (a.map .int) (b.map .int) = decide (a = b) := by
  intro a
  induction a with
  | nil => intro b; cases b <;> rfl
  | cons a r ih =>
    intro b
    cases b with
    | nil => rfl
    | cons b t =>
      show (a == b && keqL (r.map .int) (t.map .int)) = _
      rw [ih t]
      by_cases h : a = b <;> simp [h]
theorem keq_tup (a b : List Int) : keq (tupK a) (tupK b) = decide (a = b) := keqL_ints a b
theorem isTK_tupK (k : List Int) : isTK (tupK k) = true := by
  show (k.map PyData.int).all isIK = true
  rw [List.all_map]
  exact List.all_eq_true.mpr fun _ _ => rfl
theorem isIK_tupK (k : List Int) : isIK (tupK k) = false := rfl
theorem okK_cases {β : Type} {kvs : List (PyData × β)} {k : PyData} (hc : okK kvs k = true) : (∃ i, k = .int i ∧ ∀ p ∈ kvs, isIK p.1 = true) ∨ ∃ is, k = tupK is ∧ ∀ p ∈ kvs, isTK p.1 = true := by
  rcases Bool.or_eq_true_iff.mp hc with q | q
  · have q := Bool.and_eq_true_iff.mp q
    exact (isIK_int q.1).elim fun i e => .inl ⟨i, e, List.all_eq_true.mp q.2⟩
  · have q := Bool.and_eq_true_iff.mp q
    exact (isTK_tup q.1).elim fun i e => .inr ⟨i, e, List.all_eq_true.mp q.2⟩
theorem find2 {α β : Type} {F : α → β → Prop} {p : α → Bool} {q : β → Bool} (hq : ∀ a b, F a b → q b = p a) {l : List α} {k : List β} (h : Paired F l k) : (l.find? p = none ∧ k.find? q = none) ∨ ∃ a b, l.find? p = some a ∧ k.find? q = some b ∧ F a b := by
  induction h with
  | nil => exact .inl ⟨rfl, rfl⟩
  | @cons a b l k f _ ih =>
    rw [List.find?_cons, List.find?_cons, hq _ _ f]
    cases p a with
    | true => exact .inr ⟨_, _, rfl, rfl, f⟩
    | false => exact ih
theorem any_find {α : Type} {p : α → Bool} (l : List α) : l.any p = (l.find? p).isSome := by
  induction l with
  | nil => rfl
  | cons a l ih =>
    rw [List.find?_cons, List.any_cons]
    cases p a with
    | true => rfl
    | false => exact ih
theorem find2_some {α β : Type} {F : α → β → Prop} {p : α → Bool} {q : β → Bool} (hq : ∀ a b, F a b → q b = p a) {l : List α} {k : List β} (h : Paired F l k) : (l.find? p).isSome = (k.find? q).isSome := by
  rcases find2 hq h with ⟨e1, e2⟩ | ⟨a, b, e1, e2, _⟩ <;> rw [e1, e2] <;> rfl
theorem Paired.map2 {α β γ δ : Type} {F : α → β → Prop} {G : γ → δ → Prop} {f : α → γ} {g : β → δ} (h : ∀ a b, F a b → G (f a) (g b)) {l : List α} {k : List β} (p : Paired F l k) : Paired G (l.map f) (k.map g) :=
  Paired.rec (motive := fun l k _ => Paired G (l.map f) (k.map g)) .nil (fun a _ ih => .cons (h _ _ a) ih) p
noncomputable def PI {β : Type} (R : Value → β → Prop) (p : Int × Value) (kv : PyData × β) : Prop := kv.1 = .int p.1 ∧ R p.2 kv.2
noncomputable def PT {β : Type} (K : Value → PyData → Prop) (R : Value → β → Prop) (x : List Int × Addr × Value) (kv : PyData × β) : Prop := kv.1 = tupK x.1 ∧ K (.ref x.2.1) (tupK x.1) ∧ R x.2.2 kv.2
noncomputable def DAt {β : Type} (prog : Program) (w : World) (K : Value → PyData → Prop) (R : Value → β → Prop) (h : Heap) (D : Addr) (kvs : List (PyData × β)) : Prop :=
  (∃ ps, h.DictOf (intKind prog w) D ps ∧ Paired (PI R) ps kvs) ∨ ∃ xs, h.DictOfH (tupleKind (intKind prog w)) D xs ∧ Paired (PT K R) xs kvs
section
variable {β : Type} {K : Value → PyData → Prop} {R : Value → β → Prop} {kvs : List (PyData × β)}
theorem agI {k : Int} (a : Int × Value) (b : PyData × β) (f : PI R a b) : keq b.1 (.int k) = decide (a.1 = k) := by rw [f.1]; rfl
theorem agT {k : List Int} (a : List Int × Addr × Value) (b : PyData × β) (f : PT K R a b) : keq b.1 (tupK k) = decide (a.1 = k) := by rw [f.1]; exact keq_tup _ _
theorem findI {k : Int} {ps : List (Int × Value)} (h : Paired (PI R) ps kvs) : (valueAt ps k = none ∧ dget kvs (.int k) = none) ∨ ∃ v x, valueAt ps k = some v ∧ dget kvs (.int k) = some x ∧ R v x := by
  rcases find2 (agI (k := k)) h with ⟨e1, e2⟩ | ⟨a, b, e1, e2, f⟩
  · exact .inl ⟨congrArg (Option.map Prod.snd) e1, congrArg (Option.map Prod.snd) e2⟩
  · exact .inr ⟨_, _, congrArg (Option.map Prod.snd) e1, congrArg (Option.map Prod.snd) e2, f.2⟩
theorem findT {k : List Int} {xs : List (List Int × Addr × Value)} (h : Paired (PT K R) xs kvs) : (atKey xs k = none ∧ dget kvs (tupK k) = none) ∨ ∃ v x, atKey xs k = some v ∧ dget kvs (tupK k) = some x ∧ R v.2 x := by
  rcases find2 (agT (k := k)) h with ⟨e1, e2⟩ | ⟨a, b, e1, e2, f⟩
  · exact .inl ⟨congrArg (Option.map Prod.snd) e1, congrArg (Option.map Prod.snd) e2⟩
  · exact .inr ⟨_, _, congrArg (Option.map Prod.snd) e1, congrArg (Option.map Prod.snd) e2, f.2.2⟩
theorem storedI {k : Int} {v : Value} {x : β} {ps : List (Int × Value)} (hp : Paired (PI R) ps kvs) (hv : R v x) : Paired (PI R) (stored ps k v) (dput kvs (.int k) x) := by
  unfold stored dput
  rw [any_find, find2_some (agI (k := k)) hp]
  cases (kvs.find? fun p => keq p.1 (.int k)).isSome with
  | true =>
    refine Paired.map2 (fun a b f => ?_) hp
    rw [agI a b f]
    by_cases c : a.1 = k
    · rw [if_pos c, if_pos (decide_eq_true c)]; exact ⟨f.1, hv⟩
    · rw [if_neg c, if_neg (fun q => c (of_decide_eq_true q))]; exact f
  | false => exact Paired.append hp (.cons ⟨rfl, hv⟩ .nil)
theorem storedT {k : List Int} {a : Addr} {v : Value} {x : β} {xs : List (List Int × Addr × Value)} (hp : Paired (PT K R) xs kvs) (hk : K (.ref a) (tupK k)) (hv : R v x) : Paired (PT K R) (storedH xs k a v) (dput kvs (tupK k) x) := by
  unfold storedH dput atKey
  rw [Option.isSome_map, find2_some (agT (k := k)) hp]
  cases (kvs.find? fun p => keq p.1 (tupK k)).isSome with
  | true =>
    refine Paired.map2 (fun a b f => ?_) hp
    rw [agT a b f]
    unfold putAt
    by_cases c : a.1 = k
    · rw [if_pos c, if_pos (decide_eq_true c)]; exact ⟨f.1, f.2.1, hv⟩
    · rw [if_neg c, if_neg (fun q => c (of_decide_eq_true q))]; exact f
  | false => exact Paired.append hp (.cons ⟨rfl, hk, hv⟩ .nil)
end
section
variable {prog : Program} {w : World} {X : List Addr} {h : Heap}
theorem RepI.pair {ps : List (Int × Value)} {kvs : List (PyData × PyData)} (r : RepI prog w X h ps kvs) : Paired (PI (Rep prog w X h)) ps kvs := RepI.ind .nil (fun _ _ _ _ _ a ih => .cons ⟨rfl, a⟩ ih) r
theorem RepT.pair {xs : List (List Int × Addr × Value)} {kvs : List (PyData × PyData)} (r : RepT prog w X h xs kvs) : Paired (PT (Rep prog w X h) (Rep prog w X h)) xs kvs := RepT.ind .nil (fun _ _ _ _ _ _ k a ih => .cons ⟨rfl, k, a⟩ ih) r
theorem Heap.DictOfH.emptyI {D : Addr} (x : h.DictOfH (tupleKind (intKind prog w)) D []) : h.DictOf (intKind prog w) D [] := by
  obtain ⟨o, es, ep, ho, hx', hdt, he, _, _⟩ := x
  obtain ⟨l⟩ := es
  cases he
  exact ⟨o, #[], ep, ho, hx', hdt, fun e he => (nomatch he), Pairs.nil, List.nodup_nil⟩
theorem Heap.DictOf.emptyT {D : Addr} (x : h.DictOf (intKind prog w) D []) : h.DictOfH (tupleKind (intKind prog w)) D [] := by
  obtain ⟨o, es, ep, ho, hx', hdt, _, he, _⟩ := x
  have hes : es.toList = [] := by cases hq : es.toList with
    | nil => rfl
    | cons e r => rw [hq] at he; cases he
  exact ⟨o, es, ep, ho, hx', hdt, hes, fun x hx => (nomatch hx), List.nodup_nil⟩
theorem key_cases {β : Type} {K : Value → PyData → Prop} {R : Value → β → Prop} {D : Addr} {kvs : List (PyData × β)} {k : PyData} {u : Value} {P : Prop} (hc : okK kvs k = true) (hd : DAt prog w K R h D kvs) (hk : RdR prog w X h u k)
    (hi : ∀ (i : Int) (ps : List (Int × Value)), k = .int i → (intKind prog w).is i u = true → h.DictOf (intKind prog w) D ps → Paired (PI R) ps kvs → P)
    (ht : ∀ (b : Addr) (ks : List Int) (xs : List (List Int × Addr × Value)), k = tupK ks → u = .ref b → (tupleKind (intKind prog w)).is h ks b → h.DictOfH (tupleKind (intKind prog w)) D xs → Paired (PT K R) xs kvs → P) : P := by
  rcases okK_cases hc with ⟨i, e, hall⟩ | ⟨is, e, hall⟩ <;> rw [e] at hk
  · have hk' : (intKind prog w).is i u = true := by
      obtain ⟨t, e⟩ := hk.int_inv
      rw [e]; exact beq_self_eq_true i
    rcases hd with ⟨ps, hd, hp⟩ | ⟨xs, hd, hp⟩
    · exact hi i ps e hk' hd hp
    · cases hp with
      | nil => exact hi i [] e hk' (Heap.DictOfH.emptyI hd) .nil
      | @cons p kv _ _ q _ => exact absurd ((congrArg isIK q.1.symm).trans (hall kv (.head _))) Bool.false_ne_true
  · obtain ⟨b, vs, n, eu, ho, hb, hl⟩ := hk.tup_inv
    have hk' : (tupleKind (intKind prog w)).is h is b := isTupleKey_of (.tup ho hb hl)
    rcases hd with ⟨ps, hd, hp⟩ | ⟨xs, hd, hp⟩
    · cases hp with
      | nil => exact ht b is [] e eu hk' (Heap.DictOf.emptyT hd) .nil
      | @cons p kv _ _ q _ => exact absurd ((congrArg isTK q.1.symm).trans (hall kv (.head _))) Bool.false_ne_true
    · exact ht b is xs e eu hk' hd hp
end
section
variable {prog : Program} {w : World} {A : Around} {E : Value → Shared → Prop} {s : Shared} {X : List Addr} {Q : Value → Shared → Prop}
abbrev tkd (prog : Program) (w : World) : HeapKind prog w (List Int) := tupleKind (intKind prog w)
theorem room_of (hu : A.units + 64 < cLine) : (tkd prog w).room A.in1 := by
  first
    | (show A.in1.units < cLine; simp; lia)
    | (show A.in1.units + 1 < cLine; simp; lia)
    | (refine ⟨?_, ?_⟩ <;> simp <;> lia)
    | trivial
theorem room_of0 (hu : A.units + 64 < cLine) : (tkd prog w).room A := by
  first
    | (show A.units < cLine; lia)
    | (show A.units + 1 < cLine; lia)
    | trivial
theorem lt1_inv {d d' : PyData} {c : Bool} (e : lt1 d d' = some c) : (∃ a b, d = .int a ∧ d' = .int b ∧ decide (a < b) = c) ∨ ∃ a b, d = .str a ∧ d' = .str b ∧ strLt a b = c := by
  cases d with
  | int a => cases d' with
    | int b => exact .inl ⟨a, b, rfl, rfl, Option.some.inj e⟩
    | _ => cases e
  | str a => cases d' with
    | str b => exact .inr ⟨a, b, rfl, rfl, Option.some.inj e⟩
    | _ => cases e
  | _ => cases e
theorem lt1_sem {x y : Value} {d d' : PyData} {c : Bool} {P : Value → Shared → Prop} (hx : Rep prog w X s.heap x d) (hy : Rep prog w X s.heap y d') (e : lt1 d d' = some c) (h : P (.bool c) s) : wpAny (model prog w) A (richCompare .Lt x y) P E s := by
  rcases lt1_inv e with ⟨a, b, rfl, rfl, rfl⟩ | ⟨a, b, rfl, rfl, rfl⟩
  · cases hx; cases hy; exact PyProof.Rows.lt_int h
  · cases hx; cases hy; exact PyProof.Rows.lt_str h
theorem gt1_sem {x y : Value} {d d' : PyData} {c : Bool} {P : Value → Shared → Prop} (hx : Rep prog w X s.heap x d) (hy : Rep prog w X s.heap y d') (e : lt1 d' d = some c) (h : P (.bool c) s) : wpAny (model prog w) A (richCompare .Gt x y) P E s := by
  rcases lt1_inv e with ⟨a, b, rfl, rfl, rfl⟩ | ⟨a, b, rfl, rfl, rfl⟩
  · cases hx; cases hy; exact PyProof.Rows.gt_int h
  · cases hx; cases hy; exact PySem.P.gt_str h
theorem eqBool_sem {x y : Value} {d d' : PyData} {P : Bool → Shared → Prop} {n m : Nat} (hx : Rep prog w X s.heap x d) (hy : Rep prog w X s.heap y d') (hf : flatD n d = true) (hf' : flatD m d' = true) (hn : n ≤ 8) (hu : A.units + 9 < cLine)
    (h : P (PyData.eqv d d') s) : wpAny (model prog w) A (eqBool x y) P E s := by
  obtain ⟨as, ra⟩ := readsA.1 _ _ hx n hf
  obtain ⟨bs, rb⟩ := readsA.1 _ _ hy m hf'
  have la := flat_lay n d hf
  have lb := flat_lay m d' hf'
  exact SeqAt.eqAt_reads d d' A s x y as bs ra rb la.1 lb.1 (by have := Nat.min_le_left d.depth d'.depth; have := la.2; lia) prog w E P h
noncomputable def LexI (prog : Program) (w : World) (X : List Addr) (s : Shared) (f : PyData → PyData → Option Bool) (c : Bool) (vs ws : List Value) (rest : List (Value × Value)) (s' : Shared) : Prop :=
  s' = s ∧ ∃ vs' ws' ds es, rest = List.zip vs' ws' ∧ RepL prog w X s.heap vs' ds ∧ RepL prog w X s.heap ws' es ∧ flatL 7 ds = true ∧ flatL 7 es = true ∧ lexT f ds es = some c ∧ vs.length + ws'.length = ws.length + vs'.length
theorem lex_turn {f : PyData → PyData → Option Bool} {c : Bool} {vs ws : List Value} {u v : Value} {rest : List (Value × Value)} {s' : Shared} (I : LexI prog w X s f c vs ws ((u, v) :: rest) s') :
    s = s' ∧ ∃ d d', Rep prog w X s.heap u d ∧ Rep prog w X s.heap v d' ∧ flatD 7 d = true ∧ flatD 7 d' = true ∧ (PyData.eqv d d' = true → LexI prog w X s f c vs ws rest s) ∧ (PyData.eqv d d' = false → f d d' = some c) := by
  obtain ⟨e0, vs', ws', ds, es, hz, h1, h2, f1, f2, e, hl⟩ := I
  cases h1 with
  | nil => exact absurd hz (List.cons_ne_nil _ _)
  | @cons v1 d1 vs1 ds1 hx h1 =>
    cases h2 with
    | nil => exact absurd hz (List.cons_ne_nil _ _)
    | @cons v2 d2 vs2 ds2 hy h2 =>
      have hz := List.cons.inj (show (u, v) :: rest = (v1, v2) :: List.zip vs1 vs2 from hz)
      have e1 := Prod.mk.inj hz.1
      have f1 := Bool.and_eq_true_iff.mp f1
      have f2 := Bool.and_eq_true_iff.mp f2
      have e : (if PyData.eqv d1 d2 = true then lexT f ds1 ds2 else f d1 d2) = some c := e
      rw [e1.1, e1.2]
      refine ⟨e0.symm, _, _, hx, hy, f1.1, f2.1, fun q => ⟨rfl, _, _, _, _, hz.2, h1, h2, f1.2, f2.2, ?_, Nat.succ.inj hl⟩, fun q => ?_⟩
      · rw [if_pos q] at e; exact e
      · rw [q] at e; exact e
theorem lex_end {f : PyData → PyData → Option Bool} {c : Bool} {vs ws : List Value} {s' : Shared} (I : LexI prog w X s f c vs ws [] s') : s = s' ∧ false = c ∧ vs.length = ws.length := by
  obtain ⟨e0, vs', ws', ds, es, hz, h1, h2, f1, f2, e, hl⟩ := I
  cases h1 with
  | nil => cases h2 with
    | nil => exact ⟨e0.symm, Option.some.inj e, hl⟩
    | cons _ _ => cases e
  | cons _ _ => cases h2 with
    | nil => cases e
    | cons _ _ => exact absurd hz.symm (List.cons_ne_nil _ _)
theorem lex_lt {a b : Addr} {vs ws : List Value} {n m : Nat} {c : Bool} {ds es : List PyData} {P : PySem.Fin → Shared → Prop}
    (ho : s.heap.get? a = some (tupO vs.toArray n)) (ho' : s.heap.get? b = some (tupO ws.toArray m)) (hl : RepL prog w X s.heap vs ds) (hl' : RepL prog w X s.heap ws es) (hf : flatL 7 ds = true) (hf' : flatL 7 es = true)
    (e : lexT lt1 ds es = some c) (hu : A.units + 20 < cLine) (h : P (.done (.ret (.bool c))) s) : wpAny (model prog w) A (Builtin.«tuple.__lt__» ⟨[.ref a, .ref b], []⟩) P E s := by
  show wpAny _ _ (isInstance (.ref b) (.type "tuple") >>= _) _ _ s
  refine wpAny_bind (wpAny_isInstance (T := "tuple") ⟨_, ho', rfl⟩ isSubtype_tuple_tuple ?_)
  refine wpAny_bind (wpAny_tupleItemsOf ho rfl (wpAny_bind (wpAny_tupleItemsOf ho' rfl ?_)))
  refine wpAny_bind (wpAny_forIn_list _ (fun rest r s' => r.1 = none ∧ LexI prog w X s lt1 c vs ws rest s') _ ?_ ?_ _ _ ⟨rfl, rfl, vs, ws, ds, es, rfl, hl, hl', hf, hf', e, Nat.add_comm _ _⟩)
  · rintro ⟨u, v⟩ rest r s' ⟨hr, I⟩
    obtain ⟨rfl, d, d', hx, hy, f1, f2, g1, g2⟩ := lex_turn I
    refine wpAny_bind (eqBool_sem hx hy f1 f2 (by decide) (by lia) ?_)
    cases q : PyData.eqv d d' with
    | true => exact wpAny_pure ⟨rfl, g1 q⟩
    | false => exact wpAny_bind (wpAny_rule (wpAny_bind (lt1_sem hx hy (g2 q) (wpAny_pure (wpAny_pure h)))))
  · rintro ⟨r1, r2⟩ s' ⟨hr, I⟩
    obtain ⟨rfl, rfl, hl⟩ := lex_end I
    cases hr
    have e : Builtin.Tuple.tupleCompareSizes .Lt vs.toArray.size ws.toArray.size = .bool false := by
      show Value.bool (decide _) = _
      rw [show vs.toArray.size = ws.toArray.size from hl]
      exact congrArg Value.bool (decide_eq_false (Nat.lt_irrefl _))
    show wpAny _ _ (ret (Builtin.Tuple.tupleCompareSizes .Lt vs.toArray.size ws.toArray.size)) _ _ _
    rw [e]
    exact wpAny_pure h
theorem lex_gt {a b : Addr} {vs ws : List Value} {n m : Nat} {c : Bool} {ds es : List PyData} {P : PySem.Fin → Shared → Prop}
    (ho : s.heap.get? a = some (tupO vs.toArray n)) (ho' : s.heap.get? b = some (tupO ws.toArray m)) (hl : RepL prog w X s.heap vs ds) (hl' : RepL prog w X s.heap ws es) (hf : flatL 7 ds = true) (hf' : flatL 7 es = true)
    (e : lexT (fun x y => lt1 y x) ds es = some c) (hu : A.units + 20 < cLine) (h : P (.done (.ret (.bool c))) s) : wpAny (model prog w) A (Builtin.«tuple.__gt__» ⟨[.ref a, .ref b], []⟩) P E s := by
  show wpAny _ _ (isInstance (.ref b) (.type "tuple") >>= _) _ _ s
  refine wpAny_bind (wpAny_isInstance (T := "tuple") ⟨_, ho', rfl⟩ isSubtype_tuple_tuple ?_)
  refine wpAny_bind (wpAny_tupleItemsOf ho rfl (wpAny_bind (wpAny_tupleItemsOf ho' rfl ?_)))
  refine wpAny_bind (wpAny_forIn_list _ (fun rest r s' => r.1 = none ∧ LexI prog w X s (fun x y => lt1 y x) c vs ws rest s') _ ?_ ?_ _ _ ⟨rfl, rfl, vs, ws, ds, es, rfl, hl, hl', hf, hf', e, Nat.add_comm _ _⟩)
  · rintro ⟨u, v⟩ rest r s' ⟨hr, I⟩
    obtain ⟨rfl, d, d', hx, hy, f1, f2, g1, g2⟩ := lex_turn I
    refine wpAny_bind (eqBool_sem hx hy f1 f2 (by decide) (by lia) ?_)
    cases q : PyData.eqv d d' with
    | true => exact wpAny_pure ⟨rfl, g1 q⟩
    | false => exact wpAny_bind (wpAny_rule (wpAny_bind (gt1_sem hx hy (g2 q) (wpAny_pure (wpAny_pure h)))))
  · rintro ⟨r1, r2⟩ s' ⟨hr, I⟩
    obtain ⟨rfl, rfl, hl⟩ := lex_end I
    cases hr
    have e : Builtin.Tuple.tupleCompareSizes .Gt vs.toArray.size ws.toArray.size = .bool false := by
      show Value.bool (decide _) = _
      rw [show vs.toArray.size = ws.toArray.size from hl]
      exact congrArg Value.bool (decide_eq_false (Nat.lt_irrefl _))
    show wpAny _ _ (ret (Builtin.Tuple.tupleCompareSizes .Gt vs.toArray.size ws.toArray.size)) _ _ _
    rw [e]
    exact wpAny_pure h
theorem RdR.at {kvs : List (PyData × PyData)} {h : Heap} {v : Value} (r : RdR prog w X h v (.dict kvs)) : ∃ a, v = .ref a ∧ (a == sysModules) = false ∧ DAt prog w (Rep prog w X h) (Rep prog w X h) h a kvs := by
  obtain ⟨a, e, hm, ⟨ps, hd, hr⟩ | ⟨xs, hd, hr⟩⟩ := r.dict_inv
  · exact ⟨a, e, hm, .inl ⟨ps, hd, hr.pair⟩⟩
  · exact ⟨a, e, hm, .inr ⟨xs, hd, hr.pair⟩⟩
theorem dict_cases {h : Heap} {kvs : List (PyData × PyData)} {k : PyData} {u v : Value} (hc : okK kvs k = true) (hx : RdR prog w X h u k) (hy : RdR prog w X h v (.dict kvs)) {P : Prop}
    (hi : ∀ (a : Addr) (i : Int) (ps : List (Int × Value)), v = .ref a → (a == sysModules) = false → k = .int i → (intKind prog w).is i u = true → h.DictOf (intKind prog w) a ps → Paired (PI (Rep prog w X h)) ps kvs → P)
    (ht : ∀ (a b : Addr) (ks : List Int) (xs : List (List Int × Addr × Value)), v = .ref a → (a == sysModules) = false → k = tupK ks → u = .ref b → (tkd prog w).is h ks b → h.DictOfH (tkd prog w) a xs → Paired (PT (Rep prog w X h) (Rep prog w X h)) xs kvs → P) : P :=
  hy.at.elim fun a ⟨e, hm, hd⟩ => key_cases hc hd hx (fun i ps e2 q hd hp => hi a i ps e hm e2 q hd hp) fun b ks xs e2 e3 q hd hp => ht a b ks xs e hm e2 e3 q hd hp
theorem in_dict {kvs : List (PyData × PyData)} {k : PyData} {u v : Value} (hc : okK kvs k = true) (hx : RdR prog w X s.heap u k) (hy : RdR prog w X s.heap v (.dict kvs)) (hu : A.units + 64 < cLine) (h : ∀ tk, Q (.bool (dget kvs k).isSome) { s with toks := tk }) :
    wpAny (model prog w) A (compareOp .In u v) Q E s := by
  refine dict_cases hc hx hy (fun a i ps ev hm ek hk hd hr => ?_) (fun a b ks xs ev hm ek eu hb hd hr => ?_) <;> subst ev <;> subst ek
  · refine wpAny_in_of hk hm hd.mapOf ?_
    rcases findI (k := i) hr with ⟨e1, e2⟩ | ⟨v, d, e1, e2, _⟩ <;> rw [e1] <;> rw [e2] at h <;> exact h _
  · subst eu
    refine wpAny_in_heap (room_of hu) hb hm hd ?_
    rcases findT (k := ks) hr with ⟨e1, e2⟩ | ⟨v, d, e1, e2, _⟩ <;> rw [e1] <;> rw [e2] at h <;> exact h _
theorem notIn_dict {kvs : List (PyData × PyData)} {k : PyData} {u v : Value} (hc : okK kvs k = true) (hx : RdR prog w X s.heap u k) (hy : RdR prog w X s.heap v (.dict kvs)) (hu : A.units + 64 < cLine) (h : ∀ tk, Q (.bool (!(dget kvs k).isSome)) { s with toks := tk }) :
    wpAny (model prog w) A (compareOp .NotIn u v) Q E s := by
  refine dict_cases hc hx hy (fun a i ps ev hm ek hk hd hr => ?_) (fun a b ks xs ev hm ek eu hb hd hr => ?_) <;> subst ev <;> subst ek
  · refine wpAny_notIn_of hk hm hd.mapOf ?_
    rcases findI (k := i) hr with ⟨e1, e2⟩ | ⟨v, d, e1, e2, _⟩ <;> rw [e1] <;> rw [e2] at h <;> exact h _
  · subst eu
    refine wpAny_notIn_heap (room_of hu) hb hm hd ?_
    rcases findT (k := ks) hr with ⟨e1, e2⟩ | ⟨v, d, e1, e2, _⟩ <;> rw [e1] <;> rw [e2] at h <;> exact h _
theorem ord_inv {f : Int → Int → Bool} {g : List PyData → List PyData → Option Bool} {x y : PyData} {c : Bool} (e : ordD f g x y = some c) : (∃ a b, x = .int a ∧ y = .int b ∧ f a b = c) ∨ ∃ ds es, x = .tuple ds ∧ y = .tuple es ∧ flatL 7 ds = true ∧ flatL 7 es = true ∧ g ds es = some c := by
  cases x with
  | int a => cases y with
    | int b => exact .inl ⟨a, b, rfl, rfl, Option.some.inj e⟩
    | _ => cases e
  | tuple ds => cases y with
    | tuple es =>
      obtain ⟨q, e⟩ := ifP (show (if (flatL 7 ds && flatL 7 es) = true then g ds es else none) = some c from e)
      have q := Bool.and_eq_true_iff.mp q
      exact .inr ⟨ds, es, rfl, rfl, q.1, q.2, e⟩
    | _ => cases e
  | _ => cases e
theorem in_inv {x y : PyData} {c : Bool} (e : inD x y = some c) : (∃ ys, (y = .list ys ∨ y = .tuple ys) ∧ flatD 8 x = true ∧ flatL 7 ys = true ∧ (ys.any fun y => PyData.eqv y x) = c) ∨ ∃ kvs, y = .dict kvs ∧ okK kvs x = true ∧ (dget kvs x).isSome = c := by
  have go : ∀ ys : List PyData, (if (flatD 8 x && flatL 7 ys) = true then some (ys.any fun y => PyData.eqv y x) else none) = some c → flatD 8 x = true ∧ flatL 7 ys = true ∧ (ys.any fun y => PyData.eqv y x) = c := fun ys e => by
    obtain ⟨q, e⟩ := ifP e
    have q := Bool.and_eq_true_iff.mp q
    exact ⟨q.1, q.2, Option.some.inj e⟩
  cases y with
  | list ys => exact .inl ⟨ys, .inl rfl, go ys e⟩
  | tuple ys => exact .inl ⟨ys, .inr rfl, go ys e⟩
  | dict kvs =>
    obtain ⟨q, e⟩ := ifP (show (if okK kvs x = true then some (dget kvs x).isSome else none) = some c from e)
    exact .inr ⟨kvs, rfl, q, Option.some.inj e⟩
  | _ => cases e
theorem nin_in {x y : PyData} {c : Bool} (e : ninD x y = some c) : ∃ b, inD x y = some b ∧ (!b) = c := by
  cases y with
  | list ys =>
    obtain ⟨q, e⟩ := ifP (show (if (flatD 8 x && flatL 7 ys) = true then some (!ys.any fun y => PyData.eqv y x) else none) = some c from e)
    exact ⟨_, if_pos q, Option.some.inj e⟩
  | tuple ys =>
    obtain ⟨q, e⟩ := ifP (show (if (flatD 8 x && flatL 7 ys) = true then some (!ys.any fun y => PyData.eqv y x) else none) = some c from e)
    exact ⟨_, if_pos q, Option.some.inj e⟩
  | dict kvs =>
    obtain ⟨q, e⟩ := ifP (show (if okK kvs x = true then some (!(dget kvs x).isSome) else none) = some c from e)
    exact ⟨_, if_pos q, Option.some.inj e⟩
  | _ => cases e
theorem ord_sem {f : Int → Int → Bool} {g : List PyData → List PyData → Option Bool} {op : CmpOp} {x y : PyData} {c : Bool} {u v : Value} (e : ordD f g x y = some c) (hx : RdR prog w X s.heap u x) (hy : RdR prog w X s.heap v y)
    (h1 : ∀ a b t t', f a b = c → wpAny (model prog w) A (richCompare op (.int a t) (.int b t')) Q E s)
    (h2 : ∀ ds es a b vs ws n m, s.heap.get? a = some (tupO (List.toArray vs) n) → s.heap.get? b = some (tupO (List.toArray ws) m) → RepL prog w X s.heap vs ds → RepL prog w X s.heap ws es → flatL 7 ds = true → flatL 7 es = true → g ds es = some c → wpAny (model prog w) A (richCompare op (.ref a) (.ref b)) Q E s) : wpAny (model prog w) A (richCompare op u v) Q E s := by
  rcases ord_inv e with ⟨a, b, ex, ey, e⟩ | ⟨ds, es, ex, ey, f1, f2, e⟩ <;> rw [ex] at hx <;> rw [ey] at hy
  · obtain ⟨t, eu⟩ := hx.int_inv
    obtain ⟨t', ev⟩ := hy.int_inv
    rw [eu, ev]; exact h1 a b t t' e
  · obtain ⟨a, vs, n, eu, ho, _, hl⟩ := hx.tup_inv
    obtain ⟨b, ws, m, ev, ho', _, hl'⟩ := hy.tup_inv
    rw [eu, ev]; exact h2 ds es a b vs ws n m ho ho' hl hl' f1 f2 e
theorem op_cmp {op : Cop} {x y : PyData} {c : Bool} {u v : Value} (e : cmpD op x y = some c) (hx : RdR prog w X s.heap u x) (hy : RdR prog w X s.heap v y) (hu : A.units + 64 < cLine) (h : ∀ tk, Q (.bool c) { s with toks := tk }) :
    wpAny (model prog w) A (compareOp op.op u v) Q E s := by
  have h0 : Q (.bool c) s := h s.toks
  have hu1 : A.units < cLine := Nat.lt_of_le_of_lt (Nat.le_add_right _ _) hu
  cases op with
  | isN => cases e
  | isNotN => cases e
  | eq =>
    obtain ⟨hc, e⟩ := ifP (show (if (flatD 8 x && flatD 8 y) = true then some (PyData.eqv x y) else none) = some c from e)
    cases e
    have hc := Bool.and_eq_true_iff.mp hc
    exact (rdReads hx hc.1).elim fun _ ra => (rdReads hy hc.2).elim fun _ rb => eq_dataH ra rb (flat_shaped (by decide) hc.1) (flat_shaped (by decide) hc.2) hu h0
  | ne =>
    obtain ⟨hc, e⟩ := ifP (show (if (flatD 8 x && flatD 8 y) = true then some (!PyData.eqv x y) else none) = some c from e)
    cases e
    have hc := Bool.and_eq_true_iff.mp hc
    exact (rdReads hx hc.1).elim fun _ ra => (rdReads hy hc.2).elim fun _ rb => ne_dataH ra rb (flat_shaped (by decide) hc.1) (flat_shaped (by decide) hc.2) hu h0
  | lt =>
    refine ord_sem (op := .Lt) e hx hy (fun a b t t' q => by subst q; exact PyProof.Rows.lt_int h0) fun ds es a b vs ws n m ho ho' hl hl' f1 f2 e => ?_
    exact wpAny_richCompare_same_room (op := .Lt) ⟨_, ho, rfl⟩ ⟨_, ho', rfl⟩ F.slot_tuple_lt (wpAny_call_entry F.slot_tuple_lt ⟨_, ho, rfl⟩ F.entry_tuple_lt (lex_lt ho ho' hl hl' f1 f2 e (by simp; lia) ⟨_, rfl, by simp, h0⟩) (F.args_tuple_lt_2 _ _)) hu1
  | gt =>
    refine ord_sem (op := .Gt) e hx hy (fun a b t t' q => by subst q; exact PyProof.Rows.gt_int h0) fun ds es a b vs ws n m ho ho' hl hl' f1 f2 e => ?_
    exact wpAny_richCompare_same_room (op := .Gt) ⟨_, ho, rfl⟩ ⟨_, ho', rfl⟩ F.slot_tuple_gt (wpAny_call_entry F.slot_tuple_gt ⟨_, ho, rfl⟩ F.entry_tuple_gt (lex_gt ho ho' hl hl' f1 f2 e (by simp; lia) ⟨_, rfl, by simp, h0⟩) (F.args_tuple_gt_2 _ _)) hu1
  | le => exact ord_sem (op := .LtE) e hx hy (fun a b t t' q => by subst q; exact PyProof.Rows.le_int h0) fun _ _ _ _ _ _ _ _ _ _ _ _ _ _ e => nomatch e
  | ge => exact ord_sem (op := .GtE) e hx hy (fun a b t t' q => by subst q; exact PyProof.Rows.ge_int h0) fun _ _ _ _ _ _ _ _ _ _ _ _ _ _ e => nomatch e
  | isIn =>
    rcases in_inv e with ⟨ys, q, f1, f2, rfl⟩ | ⟨kvs, rfl, hc, rfl⟩
    · have l1 := flat_lay 8 _ f1
      have l2 := flatL_lay 7 _ f2
      obtain ⟨as, ra⟩ := rdReads hx f1
      rcases q with rfl | rfl
      · exact (rdReads (n := 8) hy f2).elim fun _ rb => SeqAt.in_list_reads rb ra l2.1 l1.1 (by have q1 := l1.2; lia) h0
      · exact (rdReads (n := 8) hy f2).elim fun _ rb => SeqAt.in_tuple_reads rb ra l2.1 l1.1 (by have q1 := l1.2; lia) h0
    · exact in_dict hc hx hy hu h
  | notIn =>
    obtain ⟨b, e2, rfl⟩ := nin_in e
    rcases in_inv e2 with ⟨ys, q, f1, f2, rfl⟩ | ⟨kvs, rfl, hc, rfl⟩
    · have l1 := flat_lay 8 _ f1
      have l2 := flatL_lay 7 _ f2
      obtain ⟨as, ra⟩ := rdReads hx f1
      rcases q with rfl | rfl
      · exact (rdReads (n := 8) hy f2).elim fun _ rb => SeqAt.notIn_list_reads rb ra l2.1 l1.1 (by have q1 := l1.2; lia) h0
      · exact (rdReads (n := 8) hy f2).elim fun _ rb => SeqAt.notIn_tuple_reads rb ra l2.1 l1.1 (by have q1 := l1.2; lia) h0
    · exact notIn_dict hc hx hy hu h
end
end Mine
end
end
section
open PySem PySem.Calls PySem.W PyProof.Rows
set_option maxRecDepth 100000
set_option Elab.async false
set_option autoImplicit false
set_option linter.unusedVariables false
noncomputable section
namespace Mine
section
variable {prog : Program} {w : World} {A : Around} {E : Value → Shared → Prop} {s : Shared} {X : List Addr} {Q : Value → Shared → Prop}
theorem RepL.item {h : Heap} {d : PyData} {vs : List Value} {ds : List PyData} {i : Nat} (r : RepL prog w X h vs ds) (e : ds[i]? = some d) : ∃ v, vs[i]? = some v ∧ Rep prog w X h v d := by
  revert i
  refine RepL.ind (M := fun vs ds => ∀ {i : Nat}, ds[i]? = some d → ∃ v, vs[i]? = some v ∧ Rep prog w X h v d) (fun e => nomatch e) (fun v y _ _ a ih i e => ?_) r
  cases i with
  | zero => exact ⟨v, rfl, Option.some.inj e ▸ a⟩
  | succ i => exact ih e
theorem opr {l : List Value} {m : Sem Value} (h : wpAny (model prog w) A m Q E s) : wpAny (model prog w) A (operate l m) Q E s := fun Γ p hΓ => by
  rw [Sem.wp_operate]; exact h Γ p hΓ
theorem subTail {T id : String} {value slice : Expr} {o i : Value} (hT : s.TypeIs o T) (hl : typeLookup (.type T) "__getitem__" = pure (some (.builtin id))) (h : wpAny (model prog w) A (getItem o i) Q E s) : wpAny (model prog w) A (subscriptTail value slice o i) Q E s := by
  unfold subscriptTail getitemInPython
  refine wpAny_bind (wpAny_bind (wpAny_specialOf hT hl (wpAny_pure ?_)))
  have e : ∃ l, subscripted slice false o i = operate l (getItem o i) := by
    cases slice <;> try exact ⟨_, rfl⟩
    rename_i a b c d
    cases c <;> exact ⟨_, rfl⟩
  obtain ⟨l, e⟩ := e
  rw [e]
  exact wpAny_bind (opr (wpAny_mono h (fun v s' hq => wpAny_bind (wpAny_letTemporaryGo (wpAny_pure hq))) fun _ _ x => x))
theorem getitem_type {T : String} (h : T = "list" ∨ T = "tuple" ∨ T = "dict") : ∃ id, typeLookup (.type T) "__getitem__" = pure (some (.builtin id)) := by
  rcases h with rfl | rfl | rfl
  · exact ⟨_, slot_list_getitem.lookup⟩
  · exact ⟨_, slot_tuple_getitem.lookup⟩
  · exact ⟨_, F.slot_dict_getitem.lookup⟩
theorem sub_any {d : PyData} {value slice : Expr} {u i : Value} (hx : RdR prog w X s.heap u d) (hd : (∃ l, d = .list l) ∨ (∃ l, d = .tuple l) ∨ ∃ l, d = .dict l) (h : wpAny (model prog w) A (getItem u i) Q E s) :
    wpAny (model prog w) A (subscriptTail value slice u i) Q E s := by
  rcases hd with ⟨l, rfl⟩ | ⟨l, rfl⟩ | ⟨l, rfl⟩
  · obtain ⟨a, vs, n, rfl, ho, hl⟩ := hx.list_inv
    obtain ⟨id, e⟩ := getitem_type (T := "list") (.inl rfl)
    exact subTail ⟨_, ho, rfl⟩ e h
  · obtain ⟨a, vs, n, rfl, ho, ha, hl⟩ := hx.tup_inv
    obtain ⟨id, e⟩ := getitem_type (T := "tuple") (.inr (.inl rfl))
    exact subTail ⟨_, ho, rfl⟩ e h
  · obtain ⟨a, rfl, hm, hd⟩ := hx.dict_inv
    obtain ⟨id, e⟩ := getitem_type (T := "dict") (.inr (.inr rfl))
    refine subTail ?_ e h
    rcases hd with ⟨ps, ⟨o, es, ep, ho, hx, _⟩, _⟩ | ⟨ps, ⟨o, es, ep, ho, hx, _⟩, _⟩ <;> exact ⟨o, ho, hx.1⟩
theorem idx_inv {x y z : PyData} (e : idxD x y = some z) : (∃ xs i, (x = .list xs ∨ x = .tuple xs) ∧ y = .int i ∧ 0 ≤ i ∧ i < 1000000 ∧ xs[i.toNat]? = some z) ∨ ∃ kvs, x = .dict kvs ∧ okK kvs y = true ∧ dget kvs y = some z := by
  cases x with
  | list xs => cases y with
    | int i =>
      obtain ⟨q, e⟩ := ifP (show (if 0 ≤ i ∧ i < 1000000 then xs[i.toNat]? else none) = some z from e)
      exact .inl ⟨xs, i, .inl rfl, rfl, q.1, q.2, e⟩
    | _ => cases e
  | tuple xs => cases y with
    | int i =>
      obtain ⟨q, e⟩ := ifP (show (if 0 ≤ i ∧ i < 1000000 then xs[i.toNat]? else none) = some z from e)
      exact .inl ⟨xs, i, .inr rfl, rfl, q.1, q.2, e⟩
    | _ => cases e
  | dict kvs =>
    obtain ⟨q, e⟩ := ifP (show (if okK kvs y = true then dget kvs y else none) = some z from e)
    exact .inr ⟨kvs, rfl, q, e⟩
  | _ => cases e
theorem op_idx {x y z : PyData} {u v : Value} (e : idxD x y = some z) (hx : RdR prog w X s.heap u x) (hy : Rep prog w X s.heap v y) (hu : A.units + 64 < cLine)
    (h : ∀ tk val, Rep prog w X s.heap val z → Q val { s with toks := tk }) : wpAny (model prog w) A (getItem u v) Q E s := by
  rcases idx_inv e with ⟨xs, i, q, ey, h0, h1, e⟩ | ⟨kvs, ex, hc, e⟩
  · rw [ey] at hy
    obtain ⟨t, rfl⟩ := (RdR.of hy).int_inv
    rcases q with q | q <;> rw [q] at hx
    · obtain ⟨a, vs, n, rfl, ho, hl⟩ := hx.list_inv
      obtain ⟨val, hv, hr⟩ := RepL.item hl e
      exact wpAny_getItem_list (items := List.toArray vs) ⟨_, ho, rfl, _, rfl⟩ h0 (by lia) (by simpa using hv) (h s.toks _ hr)
    · obtain ⟨a, vs, n, rfl, ho, ha, hl⟩ := hx.tup_inv
      obtain ⟨val, hv, hr⟩ := RepL.item hl e
      have hlt : i.toNat < vs.length := (List.getElem?_eq_some_iff.mp hv).1
      refine getItem_tuple (items := List.toArray vs) (j := i.toNat) ⟨_, ho, rfl, _, rfl⟩ (by lia) (by lia) ?_ (by simpa using hv) (h s.toks _ hr)
      unfold seqIndex?
      rw [if_neg (Int.not_lt.mpr h0)]
      exact if_pos (Bool.and_eq_true_iff.mpr ⟨decide_eq_true h0, decide_eq_true ((Int.toNat_lt h0).mp hlt)⟩)
  · rw [ex] at hx
    refine dict_cases hc (.of hy) hx (fun a i ps ev hm ek hk hd hr => ?_) (fun a b ks xs ev hm ek eu hb hd hr => ?_) <;> subst ev <;> subst ek
    · rcases findI (k := i) hr with ⟨e1, e2⟩ | ⟨v', d', e1, e2, hr'⟩ <;> rw [e2] at e <;> cases e
      exact wpAny_getItem_of hk hd.mapOf e1 (h _ _ hr')
    · subst eu
      rcases findT (k := ks) hr with ⟨e1, e2⟩ | ⟨p, d', e1, e2, hr'⟩ <;> rw [e2] at e <;> cases e
      exact wpAny_getItem_heap (room_of hu) hb hd e1 (h _ _ hr')
theorem clp_clip (n : Nat) (i : Int) : clp n i = clipAt n i := rfl
theorem pickL_take {α : Type} (xs : List α) (lo hi : Option Int) : pickL xs lo hi = (xs.drop (lo.elim 0 (clp xs.length))).take (hi.elim xs.length (clp xs.length) - lo.elim 0 (clp xs.length)) := by
  unfold pickL
  rw [List.drop_take]
theorem RepL.drop {h : Heap} (n : Nat) {vs : List Value} {ds : List PyData} (r : RepL prog w X h vs ds) : RepL prog w X h (vs.drop n) (ds.drop n) := by
  induction n generalizing vs ds with
  | zero => exact r
  | succ n ih => cases r with
    | nil => exact .nil
    | cons a b => exact ih b
theorem RepL.take {h : Heap} (n : Nat) {vs : List Value} {ds : List PyData} (r : RepL prog w X h vs ds) : RepL prog w X h (vs.take n) (ds.take n) := by
  induction n generalizing vs ds with
  | zero => exact .nil
  | succ n ih => cases r with
    | nil => exact .nil
    | cons a b => exact .cons a (ih b)
theorem pick_len {α : Type} (xs : List α) (lo hi : Option Int) : (pickL xs lo hi).length ≤ xs.length := by
  unfold pickL
  rw [List.length_drop, List.length_take]
  exact Nat.le_trans (Nat.sub_le _ _) (Nat.min_le_right _ _)
theorem RepL.pick {h : Heap} {vs : List Value} {ds : List PyData} (lo hi : Option Int) (r : RepL prog w X h vs ds) : RepL prog w X h (pickL vs lo hi) (pickL ds lo hi) := by
  unfold pickL
  rw [RepL.length r]
  exact RepL.drop _ (RepL.take _ r)
theorem RepL.rev {h : Heap} {vs : List Value} {ds : List PyData} (r : RepL prog w X h vs ds) : RepL prog w X h vs.reverse ds.reverse :=
  RepL.ind (M := fun vs ds => RepL prog w X h vs.reverse ds.reverse) .nil (fun v d vs ds a ih => by rw [List.reverse_cons, List.reverse_cons]; exact RepL.append ih (.cons a .nil)) r
theorem op_slice_list {xs : List PyData} {u vl vu : Value} {sl : Addr} {lo hi : Option Int} (l : Liv X s.heap) (hx : RdR prog w X s.heap u (.list xs)) (hs : s.heap.IsSliceOf sl vl vu .none) (pl : IsPart vl lo) (pu : IsPart vu hi) (hz : xs.length ≤ big)
    (g : Gv prog w X s (.list (pickL xs lo hi)) Q) : wpAny (model prog w) A (getItem u (.ref sl)) Q E s := by
  obtain ⟨a, vs, n, rfl, ho, hl⟩ := hx.list_inv
  have hlen := RepL.length hl
  refine wpAny_getItem_list_slice (items := List.toArray vs) ⟨_, ho, rfl, _, rfl⟩ hs pl pu .none (by simp) ?_ (by have := big_line; simp; lia)
  have e : slicePick (List.toArray vs) lo hi none = (pickL vs lo hi).toArray := by
    rw [slicePick_plain, pickL_take]
    rfl
  rw [e]
  exact g _ s.toks _ (Step.push _) (.list (n := 0) (Heap.get?_push_size _ rfl) (l.fresh (Nat.le_refl _)) (repL_push _ (RepL.pick lo hi hl)))
theorem op_rev_list {xs : List PyData} {u vt : Value} {sl : Addr} (l : Liv X s.heap) (hx : RdR prog w X s.heap u (.list xs)) (hs : s.heap.IsSliceOf sl .none .none vt) (pt : IsPart vt (some (-1))) (hz : xs.length ≤ big)
    (g : Gv prog w X s (.list xs.reverse) Q) : wpAny (model prog w) A (getItem u (.ref sl)) Q E s := by
  obtain ⟨a, vs, n, rfl, ho, hl⟩ := hx.list_inv
  have hlen := RepL.length hl
  refine wpAny_getItem_list_slice (items := List.toArray vs) ⟨_, ho, rfl, _, rfl⟩ hs .none .none pt (by simp) ?_ (by have := big_line; simp; lia)
  rw [krv_pick]
  exact g _ s.toks _ (Step.push _) (.list (vs := vs.reverse) (n := 0) (by rw [Heap.get?_push_size _ rfl]; simp [lstO]) (l.fresh (Nat.le_refl _)) (repL_push _ (RepL.rev hl)))
theorem partIdx {v : Value} {o : Option Int} {P : Option Int → Shared → Prop} (p : IsPart v o) (h : P o s) : wpAny (model prog w) A (Builtin.Slice.slicePartIndex v) P E s := by
  cases p with
  | none => exact slicePart_none h
  | int i t => exact slicePart_int h
theorem places_one (a b : Nat) : Builtin.Slice.slicePlaces (a : Int) (b : Int) 1 = b - a := by
  unfold Builtin.Slice.slicePlaces
  have h1 : (1 : Int) > 0 := by lia
  simp only [h1, if_true, Int.ediv_one]
  split <;> lia
theorem adjust_one (lo hi : Option Int) (n : Nat) : Builtin.Slice.sliceAdjust lo hi 1 (n : Int) = (((lo.elim 0 (clp n) : Nat) : Int), ((hi.elim n (clp n) : Nat) : Int)) := by
  have hc : ∀ v : Int, (if v < 0 then max (v + n) 0 else min v n) = ((clp n v : Nat) : Int) := fun v => by
    rw [clp_clip, clipAt_cast]
    split <;> lia
  unfold Builtin.Slice.sliceAdjust
  have h1 : ¬ ((1 : Int) < 0) := by lia
  simp only [h1, if_false]
  cases lo <;> cases hi <;> simp [hc]
theorem sliceApp {sl : Addr} {vl vu : Value} {lo hi : Option Int} {n : Nat} {P : Int × Int × Nat → Shared → Prop} (hs : s.heap.IsSliceOf sl vl vu .none) (pl : IsPart vl lo) (pu : IsPart vu hi)
    (h : P (((lo.elim 0 (clp n) : Nat) : Int), 1, hi.elim n (clp n) - lo.elim 0 (clp n)) s) : wpAny (model prog w) A (Builtin.Slice.sliceApplied (.ref sl) (pure (n : Int))) P E s := by
  obtain ⟨os, hos, hcs, hds⟩ := id hs
  unfold Builtin.Slice.sliceApplied Builtin.Slice.sliceFields
  refine wpAny_bind (wpAny_bind (wpAny_field hos hds (x := vl) rfl (wpAny_bind (wpAny_field hos hds (x := vu) rfl (wpAny_bind (wpAny_field hos hds (x := .none) rfl (wpAny_pure ?_)))))))
  refine wpAny_bind (slicePart_none ?_)
  show wpAny _ _ (if ((1 : Int) == 0) = true then _ else _) _ _ s
  rw [if_neg (by decide)]
  refine wpAny_bind (partIdx pl (wpAny_bind (partIdx pu (wpAny_bind (wpAny_pure ?_)))))
  show wpAny _ _ (match Builtin.Slice.sliceAdjust lo hi 1 (n : Int) with | (lo, hi) => pure (lo, (1 : Int), Builtin.Slice.slicePlaces lo hi 1)) _ _ s
  rw [adjust_one]
  show wpAny _ _ (pure (_, (1 : Int), Builtin.Slice.slicePlaces _ _ 1)) _ _ s
  rw [places_one]
  exact wpAny_pure h
theorem pick_places (xs : Array Value) (a k : Nat) : ((List.range k).filterMap fun (j : Nat) => xs[((a : Int) + (j : Int) * 1).toNat]?).toArray = ((xs.toList.drop a).take k).toArray := by
  have e : (fun (j : Nat) => xs[((a : Int) + (j : Int) * 1).toNat]?) = fun j => xs[a + j]? := by
    funext j
    rw [show ((a : Int) + (j : Int) * 1).toNat = a + j by lia]
  rw [e]
  have := pick_run xs a k
  rw [List.filterMap_map] at this
  rw [← this]
  rfl
theorem op_slice_tup {xs : List PyData} {u vl vu : Value} {sl : Addr} {lo hi : Option Int} (l : Liv X s.heap) (hx : RdR prog w X s.heap u (.tuple xs)) (hs : s.heap.IsSliceOf sl vl vu .none) (pl : IsPart vl lo) (pu : IsPart vu hi) (hz : xs.length ≤ big)
    (g : Gv prog w X s (.tuple (pickL xs lo hi)) Q) : wpAny (model prog w) A (getItem u (.ref sl)) Q E s := by
  obtain ⟨a, vs, n, rfl, ho, ha, hl⟩ := hx.tup_inv
  have hlen := RepL.length hl
  have hT : s.TypeIs (.ref a) "tuple" := ⟨_, ho, rfl⟩
  obtain ⟨os, hos, hcs, hds⟩ := id hs
  have hTs : s.TypeIs (.ref sl) "slice" := ⟨os, hos, hcs⟩
  have e : ((vs.toArray.toList.drop (lo.elim 0 (clp vs.length))).take (hi.elim vs.length (clp vs.length) - lo.elim 0 (clp vs.length))) = pickL vs lo hi := by rw [pickL_take]
  have hsz : (pickL vs lo hi).length ≤ sizeLine := Nat.le_trans (pick_len _ _ _) (Nat.le_trans (hlen ▸ hz) big_line)
  refine wpAny_getItem_slot hT (by decide) slot_tuple_getitem (wpAny_call_entry slot_tuple_getitem hT entry_tuple_getitem ?_ (args_tuple_getitem _ _))
  show wpAny _ _ (Builtin.Tuple.tupleItemsOf (.ref a) >>= _) _ _ s
  refine wpAny_bind (wpAny_tupleItemsOf ho rfl ?_)
  refine wpAny_bind (wpAny_typeOf hTs ?_)
  rw [if_pos (by decide)]
  refine wpAny_bind (sliceApp (n := vs.toArray.size) hs pl pu ?_)
  show wpAny _ _ (if (_ && (1 : Int) == 1 && _) = true then _ else _) _ _ s
  have fin : ∀ (E : Value → Shared → Prop), wpAny (model prog w) A.in1 (newObj (.type "tuple") (.seq (pickL vs lo hi).toArray)) Q E s := fun E =>
    wpAny_newObj_type (g _ s.toks _ (Step.push _) (.tup (n := 0) (Heap.get?_push_size _ rfl) (l.fresh (Nat.le_refl _)) (repL_push _ (RepL.pick lo hi hl)))) (by show (pickL vs lo hi).toArray.size ≤ sizeLine; rw [List.size_toArray]; exact hsz)
  have last : wpAny (model prog w) A.in1 (do return ← ret (← Builtin.Tuple.tupleExact ((List.range (hi.elim vs.toArray.size (clp vs.toArray.size) - lo.elim 0 (clp vs.toArray.size))).filterMap fun (k : Nat) => vs.toArray[(((lo.elim 0 (clp vs.toArray.size) : Nat) : Int) + (k : Int) * 1).toNat]?).toArray))
      (fun fin s' => ∃ v, fin = Fin.done (Flow.ret v) ∧ Q v s') E s := by
    rw [pick_places]
    simp only [List.size_toArray]
    rw [e]
    exact wpAny_bind (m := Builtin.Tuple.tupleExact _) (wpAny_mono (fin _) (fun v s' hq => wpAny_bind (wpAny_pure (wpAny_pure ⟨_, rfl, hq⟩))) fun _ _ x => x)
  by_cases hw : (((lo.elim 0 (clp vs.toArray.size) : Nat) : Int) == 0 && (1 : Int) == 1 && (hi.elim vs.toArray.size (clp vs.toArray.size) - lo.elim 0 (clp vs.toArray.size)) == vs.toArray.size) = true
  · rw [if_pos hw]
    simp only [Bool.and_eq_true, beq_iff_eq, List.size_toArray] at hw
    have e2 : pickL xs lo hi = xs := by
      rw [pickL_take, ← hlen]
      have q1 : lo.elim 0 (clp vs.length) = 0 := by have := hw.1.1; lia
      rw [q1, hlen] at hw ⊢
      rw [List.drop_zero, List.take_of_length_le (by have := hw.2; lia)]
    rw [e2] at g
    unfold Builtin.Tuple.tupleIsExact
    refine wpAny_bind (wpAny_bind (wpAny_typeOf hT (wpAny_pure ?_)))
    rw [if_pos (by decide)]
    exact wpAny_bind (wpAny_rule (wpAny_bind (wpAny_pure (wpAny_pure ⟨_, rfl, g.same (.tup ho ha hl) s.toks⟩))))
  · rw [if_neg hw]
    exact last
end
end Mine
end
end
section
open PySem PySem.Calls PySem.W PyProof.Rows
set_option maxRecDepth 100000
set_option Elab.async false
set_option autoImplicit false
set_option linter.unusedVariables false
noncomputable section
namespace Mine
section
variable {prog : Program} {w : World}
theorem DAt.imp {β : Type} {K K' : Value → PyData → Prop} {R R' : Value → β → Prop} {h : Heap} {D : Addr} {kvs : List (PyData × β)} (hK : ∀ v d, K v d → K' v d) (hR : ∀ v d, R v d → R' v d) (x : DAt prog w K R h D kvs) : DAt prog w K' R' h D kvs := by
  rcases x with ⟨ps, hd, hp⟩ | ⟨xs, hd, hp⟩
  · exact .inl ⟨ps, hd, Paired.mono (fun _ _ q => ⟨q.1, hR _ _ q.2⟩) hp⟩
  · exact .inr ⟨xs, hd, Paired.mono (fun _ _ q => ⟨q.1, hK _ _ q.2.1, hR _ _ q.2.2⟩) hp⟩
theorem set_cases {β : Type} {K : Value → PyData → Prop} {R : Value → β → Prop} {X : List Addr} {h : Heap} {D : Addr} {kvs : List (PyData × β)} {k : PyData} {u v : Value} {x : β} {P : Prop}
    (hc : okK kvs k = true) (hd : DAt prog w K R h D kvs) (hk : Rep prog w X h u k) (hK : K u k) (hv : R v x)
    (hi : ∀ (i : Int) (ps : List (Int × Value)), k = .int i → (intKind prog w).is i u = true → h.DictOf (intKind prog w) D ps → ps.length = kvs.length → Paired (PI R) ps kvs → (∀ h' : Heap, h'.DictOf (intKind prog w) D (stored ps i v) → DAt prog w K R h' D (dput kvs k x)) → P)
    (ht : ∀ (b : Addr) (ks : List Int) (xs : List (List Int × Addr × Value)), k = tupK ks → u = .ref b → (tkd prog w).is h ks b → h.DictOfH (tkd prog w) D xs → xs.length = kvs.length → (∀ h' : Heap, h'.DictOfH (tkd prog w) D (storedH xs ks b v) → DAt prog w K R h' D (dput kvs k x)) → P) : P := by
  refine key_cases hc hd (.of hk) (fun i ps e q hd hp => hi i ps e q hd (Paired.length hp) hp fun h' hd' => ?_) fun b ks xs e eu q hd hp => ht b ks xs e eu q hd (Paired.length hp) fun h' hd' => ?_
  · rw [e]; exact .inl ⟨_, hd', storedI hp hv⟩
  · rw [e]; rw [e, eu] at hK; exact .inr ⟨_, hd', storedT hp hK hv⟩
section
variable {A : Around} {E : Value → Shared → Prop} {s : Shared}
theorem op_dictSet {β : Type} {K : Value → PyData → Prop} {R : Value → β → Prop} {X : List Addr} {D : Addr} {kvs : List (PyData × β)} {k : PyData} {u v : Value} {x : β} {Q : Unit → Shared → Prop} (hc : okK kvs k = true) (hd : DAt prog w K R s.heap D kvs) (hk : Rep prog w X s.heap u k) (hK : K u k) (hv : R v x) (hz : kvs.length ≤ big) (hu : A.units + 64 < cLine)
    (h : ∀ h' tk, Heap.SameBut D s.heap h' → DAt prog w K R h' D (dput kvs k x) → Q () { s with heap := h', toks := tk }) : wpAny (model prog w) A (dictSet D u v) Q E s := by
  have hb := big_line
  refine set_cases hc hd hk hK hv (fun i ps ek hi hd' hl _ hs => ?_) (fun b ks xs ek eu hi hd' hl hs => ?_)
  · exact wpAny_dictSet_pairs hi hd' (fun h' hd2 hs2 => h h' _ hs2 (hs h' hd2)) (by lia)
  · subst eu
    exact wpAny_dictSet_heap (room_of0 hu) hi hd' (fun h' hd2 hs2 => h h' _ hs2 (hs h' hd2)) (by lia)
theorem op_setItem {β : Type} {K : Value → PyData → Prop} {R : Value → β → Prop} {X : List Addr} {D : Addr} {kvs : List (PyData × β)} {k : PyData} {u v : Value} {x : β} {Q : Unit → Shared → Prop} (hc : okK kvs k = true) (hd : DAt prog w K R s.heap D kvs) (hk : Rep prog w X s.heap u k) (hK : K u k) (hv : R v x) (hz : kvs.length ≤ big) (hu : A.units + 64 < cLine)
    (h : ∀ h' tk, Heap.SameBut D s.heap h' → DAt prog w K R h' D (dput kvs k x) → Q () { s with heap := h', toks := tk }) : wpAny (model prog w) A (setItem (.ref D) u v) Q E s := by
  have hb := big_line
  refine set_cases hc hd hk hK hv (fun i ps ek hi hd' hl _ hs => ?_) (fun b ks xs ek eu hi hd' hl hs => ?_)
  · exact wpAny_setItem_pairs hi hd' (fun h' hd2 hs2 => h h' _ hs2 (hs h' hd2)) (by lia)
  · subst eu
    exact wpAny_setItem_heap (room_of hu) hi hd' (fun h' hd2 hs2 => h h' _ hs2 (hs h' hd2)) (by lia)
theorem repI_of {X : List Addr} {h : Heap} {ps : List (Int × Value)} {kvs : List (PyData × PyData)} (p : Paired (PI (Rep prog w X h)) ps kvs) : RepI prog w X h ps kvs :=
  Paired.rec (motive := fun ps kvs _ => RepI prog w X h ps kvs) .nil (fun {p kv _ _} q _ ih => by obtain ⟨k, v⟩ := kv; obtain ⟨e, a⟩ := q; cases e; exact .cons a ih) p
theorem repT_of {X : List Addr} {h : Heap} {xs : List (List Int × Addr × Value)} {kvs : List (PyData × PyData)} (p : Paired (PT (Rep prog w X h) (Rep prog w X h)) xs kvs) : RepT prog w X h xs kvs :=
  Paired.rec (motive := fun xs kvs _ => RepT prog w X h xs kvs) .nil (fun {p kv _ _} q _ ih => by obtain ⟨k, v⟩ := kv; obtain ⟨e, b, a⟩ := q; cases e; exact .cons b a ih) p
theorem DAt.rep {X : List Addr} {h : Heap} {D : Addr} {kvs : List (PyData × PyData)} (x : DAt prog w (Rep prog w X h) (Rep prog w X h) h D kvs) (hm : (D == sysModules) = false) (hX : D ∉ X) : Rep prog w X h (.ref D) (.dict kvs) := by
  rcases x with ⟨ps, hd, hp⟩ | ⟨xs, hd, hp⟩
  · exact .dictI hd hm hX (repI_of hp)
  · exact .dictT hd hm hX (repT_of hp)
theorem DAt.there {β : Type} {K : Value → PyData → Prop} {R : Value → β → Prop} {h : Heap} {D : Addr} {kvs : List (PyData × β)} (x : DAt prog w K R h D kvs) : ∃ o, h.get? D = some o := by
  rcases x with ⟨ps, ⟨o, _, _, ho, _⟩, _⟩ | ⟨ps, ⟨o, _, _, ho, _⟩, _⟩ <;> exact ⟨o, ho⟩
theorem DAt.at {β : Type} {K : Value → PyData → Prop} {R : Value → β → Prop} {h h' : Heap} {D : Addr} {kvs : List (PyData × β)} (hk : ∀ o, h.get? D = some o → h'.get? D = some o) (hK : ∀ a k, K (.ref a) (tupK k) → (tkd prog w).is h' k a) (x : DAt prog w K R h D kvs) : DAt prog w K R h' D kvs := by
  rcases x with ⟨ps, hd, hp⟩ | ⟨xs, hd, hp⟩
  · exact .inl ⟨ps, dictOf_at hd hk, hp⟩
  · refine .inr ⟨xs, ?_, hp⟩
    obtain ⟨o, es, ep, ho, hx, hdt, he, hi, hn⟩ := hd
    refine ⟨o, es, ep, hk _ ho, hx, hdt, he, ?_, hn⟩
    exact Paired.rec (motive := fun (xs : List (List Int × Addr × Value)) _ _ => ∀ x ∈ xs, (tkd prog w).is h' x.1 x.2.1) (fun _ hx => nomatch hx) (fun q _ ih => List.forall_mem_cons.mpr ⟨hK _ _ q.2.1, ih⟩) hp
end
end
end Mine
end
end
section
open PySem PySem.Calls PySem.W PyProof.Rows
set_option maxRecDepth 100000
set_option Elab.async false
set_option autoImplicit false
set_option linter.unusedVariables false
noncomputable section
namespace Mine
theorem entry_dict_loop : entryFor table "dict.update.loop" = some Builtin.«dict.update.loop» := entryFor_of_tree (by kernel_rfl)
theorem plain_dict_loop : plainId "dict.update.loop" = true := by decide +kernel
theorem list_no_keys : typeLookup (.type "list") (Str.ofString "keys") = pure none := am_miss_of_fast (by decide +kernel)
section
variable {prog : Program} {w : World} {A : Around} {E : Value → Shared → Prop} {s : Shared}
theorem noKeys_list {a : Addr} {o : Obj} {xs : Array Value} {k : Nat} {Q : Option Value → Shared → Prop}
    (hx : s.heap.get? a = some o) (hc : o.cls = .type "list") (hdat : o.data = .seq xs k) (hd : o.dict = none) (hA : A.handled = none)
    (h : ∀ h' tk, (∀ b o, s.heap.get? b = some o → h'.get? b = some o) → Q none { s with heap := h', toks := tk }) :
    wpAny (model prog w) A (getAttr? (.ref a) (Str.ofString "keys")) Q E s := by
  obtain ⟨c, dct, dat, sl⟩ := o
  simp only at hc hdat hd
  subst hc hdat hd
  obtain ⟨hp, g, d, tk, os⟩ := s
  have hT : ∀ tk', (⟨hp, g, d, tk', os⟩ : Shared).TypeIs (.ref a) "list" := fun _ => ⟨_, hx, rfl⟩
  have f1 := sub_AttributeError
  have f3 := F.slot_list_getattribute.lookup
  have f4 := F.slot_list_getattribute.bind (.ref a)
  have f5 := am_list_getattr_none
  unfold getAttr? getAttrBy? getAttrBy
  repeat (any_goals (first | assumption | exact hT _ | ((with_reducible show wpAny _ _ (call (Value.builtin "list.__getattribute__") _ _) _ _ _); refine call_meets F.slot_list_getattribute (hT _) am_entry_list_getattribute (F.args_list_getattribute_2 _ _) (meets_getattribute_miss_list a xs k sl (Str.ofString "keys") _ list_no_keys (by decide +kernel) (by size_fits)) ⟨hx, hA, fun h' tk' e hx' => ?_⟩) | wp_step))
  obtain ⟨t', u', he⟩ := hx'.there
  show wpAny _ _ (getattributeRaised _ _ _ _ _ _ _) _ _ _
  unfold getattributeRaised
  repeat (any_goals (first | assumption | wp_step))
  exact h _ _ hx'.keeps
theorem Rep.kept {X : List Addr} {h h' : Heap} {v : Value} {d : PyData} (k : ∀ b o, h.get? b = some o → h'.get? b = some o) (r : Rep prog w X h v d) : Rep prog w X h' v d := Rep.keep (W := []) (Step.of_keep k) (fun _ hb => nomatch hb) r
theorem RepL.kept {X : List Addr} {h h' : Heap} {v : List Value} {d : List PyData} (k : ∀ b o, h.get? b = some o → h'.get? b = some o) (r : RepL prog w X h v d) : RepL prog w X h' v d := RepL.keep (W := []) (Step.of_keep k) (fun _ hb => nomatch hb) r
theorem dictL_inv {d : PyData} {r : List PyData} {acc all : List (PyData × PyData)} (e : dictOfL (d :: r) acc = some all) : ∃ kd vd, d = .tuple [kd, vd] ∧ okK acc kd = true ∧ dictOfL r (dput acc kd vd) = some all := by
  cases d with
  | tuple l => cases l with
    | nil => cases e
    | cons k l => cases l with
      | nil => cases e
      | cons v l => cases l with
        | nil => exact ⟨k, v, rfl, ifP (show (if okK acc k = true then dictOfL r (dput acc k v) else none) = some all from e)⟩
        | cons _ _ => cases e
  | _ => cases e
theorem dput_len {β : Type} (acc : List (PyData × β)) (k : PyData) (v : β) : (dput acc k v).length ≤ acc.length + 1 := by
  unfold dput
  cases (acc.find? fun p => keq p.1 k).isSome with
  | true => exact Nat.le_succ_of_le (Nat.le_of_eq (List.length_map _))
  | false => exact Nat.le_of_eq List.length_append
theorem dict_loop {X : List Addr} {I D a : Addr} {items : Array Value} {ds : List PyData} {all : List (PyData × PyData)} {R : Result → Shared → Prop} {h₀ : Heap} {nv : Value}
    (W : Walks prog w A.in1 I [I, a] [I] items.size (fun i v => items[i]? = some v) (fun i h => h.IsListIter I a i ∧ h.IsList a items))
    (hI : h₀.get? I = none) (hD : h₀.get? D = none) (hne : D ≠ I) (hu : A.units + 65 < cLine)
    (hr : RepL prog w (D :: I :: X) h₀ items.toList ds) (hz : ds.length ≤ big) :
    ∀ (k i : Nat) (acc : List (PyData × PyData)) (s : Shared), ds.length = i + k → dictOfL (ds.drop i) acc = some all → acc.length ≤ i → s.heap.IsListIter I a i ∧ s.heap.IsList a items → a ≠ D →
      (∀ b o, h₀.get? b = some o → s.heap.get? b = some o) → DAt prog w (Rep prog w (D :: I :: X) h₀) (Rep prog w (D :: I :: X) h₀) s.heap D acc →
      (∀ h' tk, (∀ b o, h₀.get? b = some o → h'.get? b = some o) → DAt prog w (Rep prog w (D :: I :: X) h₀) (Rep prog w (D :: I :: X) h₀) h' D all → R (.ok (.ret nv)) { s with heap := h', toks := tk }) →
      codeAny (model prog w) A (.builtin "dict.update.loop" ⟨[.ref D, .ref I, rawInt i, nv], []⟩) R s := by
  intro k
  have hlen := RepL.length hr
  induction k with
  | zero =>
    intro i acc s hk hd hacc hst haD hkeep hdat hR
    have hin : ds.drop i = [] := List.drop_eq_nil_of_le (by lia)
    rw [hin] at hd
    cases hd
    have hi : i = items.size := by simp at hlen; lia
    subst hi
    refine codeAny_builtin entry_dict_loop ?_
    rw [Around.under_plainId plain_dict_loop _]
    show wpAny _ A.in1 (pyNext (.ref I) >>= _) _ _ s
    refine wpAny_bind (W.done s _ _ hst fun h' tk hk' => ?_)
    show wpAny _ A.in1 (Builtin.Dict.addKeywords D [] >>= fun _ => ret nv) _ _ _
    refine wpAny_bind (wpAny_pure (wpAny_pure (hR h' tk (fun b o e => hk' b o (fun hm => ?_) (hkeep b o e)) ?_)))
    · rw [List.mem_singleton.mp hm, hI] at e; cases e
    · refine DAt.at (fun o e => hk' D o (fun hm => hne (List.mem_singleton.mp hm)) e) (fun b ks q => isTupleKey_of (Rep.kept (fun b o e => hk' b o (fun hm => ?_) (hkeep b o e)) q)) hdat
      rw [List.mem_singleton.mp hm, hI] at e; cases e
  | succ k ih =>
    intro i acc s hk hd hacc hst haD hkeep hdat hR
    have hlt : i < ds.length := by lia
    have hlt2 : i < items.size := by simp at hlen; lia
    refine codeAny_builtin entry_dict_loop ?_
    rw [Around.under_plainId plain_dict_loop _]
    show wpAny _ A.in1 (pyNext (.ref I) >>= _) _ _ s
    refine wpAny_bind (W.item i s _ _ hlt2 hst fun v h' tk hv hst' hk' => ?_)
    rw [List.drop_eq_getElem_cons hlt] at hd
    have hkeep' : ∀ b o, h₀.get? b = some o → h'.get? b = some o := fun b o e => hk' b o (fun hm => by rw [List.mem_singleton.mp hm, hI] at e; cases e) (hkeep b o e)
    obtain ⟨v2, hv2, hrep⟩ := RepL.item hr (List.getElem?_eq_getElem hlt)
    have : v2 = v := by
      rw [Array.getElem?_toList, hv] at hv2; cases hv2; rfl
    subst this
    obtain ⟨kd, vd, ed, hc, hd⟩ := dictL_inv hd
    rw [ed] at hrep
    obtain ⟨p, vs, n, rfl, ho, hp, hl⟩ := (RdR.of hrep).tup_inv
    cases hl with
    | @cons ku _ vs' _ hk1 hl =>
      cases hl with
      | @cons vu _ vs'' _ hv1 hl =>
        cases hl
        have ho' := hkeep' _ _ ho
        have hT : (⟨h', s.gens, s.drawn, tk, s.os⟩ : Shared).TypeIs (.ref p) "tuple" := ⟨_, ho', rfl⟩
        have hdat' : DAt prog w (Rep prog w (D :: I :: X) h₀) (Rep prog w (D :: I :: X) h₀) h' D acc :=
          DAt.at (fun o e => hk' D o (fun hm => hne (List.mem_singleton.mp hm)) e) (fun b ks q => isTupleKey_of (Rep.kept hkeep' q)) hdat
        have hpair : ∀ (Q : List Value → Shared → Prop) (E : Value → Shared → Prop), Q [ku, vu] ⟨h', s.gens, s.drawn, tk, s.os⟩ → wpAny (model prog w) A.in1 (Builtin.Dict.pairItems (.ref p)) Q E ⟨h', s.gens, s.drawn, tk, s.os⟩ := by
          intro Q E hq
          unfold Builtin.Dict.pairItems
          refine wpAny_bind (wpAny_typeOf hT ?_)
          rw [if_pos (by decide)]
          exact wpAny_bind (wpAny_seqItems (items := #[ku, vu]) ho' rfl (wpAny_pure hq))
        refine wpAny_bind (wpAny_holding (wpAny_bind (wpAny_tryCatch (hpair _ _ ?_))))
        show wpAny _ _ (holding [ku, vu] (dictSet D ku vu)) _ _ _
        refine wpAny_holding ?_
        refine op_dictSet (X := D :: I :: X) (R := Rep prog w (D :: I :: X) h₀) (K := Rep prog w (D :: I :: X) h₀) hc hdat' (Rep.kept hkeep' hk1) hk1 hv1 (by lia) (by simp; lia) fun h2 tk2 hs2 hdat2 => ?_
        have hkeep2 : ∀ b o, h₀.get? b = some o → h2.get? b = some o := fun b o e => (hs2.2 b (fun q => by rw [q, hD] at e; cases e)).trans (hkeep' b o e)
        refine wpAny_pure ⟨plainId_quiet plain_dict_loop _, ?_⟩
        have e1 : ((i : Int) + 1) = ((i + 1 : Nat) : Int) := by lia
        have hst2 : h2.IsListIter I a (i + 1) ∧ h2.IsList a items := W.frame _ _ _ hst' fun b hb o e => (hs2.2 b (fun q => by
          subst q
          rcases List.mem_cons.mp hb with q | q
          · exact hne q
          · exact haD (List.mem_singleton.mp q).symm)).trans e
        show codeAny _ _ (.builtin "dict.update.loop" ⟨[.ref D, .ref I, rawInt ((i : Int) + 1), nv], []⟩) _ _
        rw [e1]
        exact ih (i + 1) _ _ (by lia) hd (Nat.le_trans (dput_len _ _ _) (Nat.succ_le_succ hacc)) hst2 haD hkeep2 hdat2 fun h3 tk3 => hR h3 tk3
end
end Mine
end
end
section
open PySem PySem.Calls PySem.W PyProof.Rows
set_option maxRecDepth 100000
set_option Elab.async false
set_option autoImplicit false
set_option linter.unusedVariables false
noncomputable section
namespace Mine
noncomputable def Bi.val : Bi → Value
  | .abs => .builtin "abs" | .len => .builtin "len" | .min => .builtin "min" | .sorted => .builtin "sorted" | .list => .type "list" | .tuple => .type "tuple" | .dict => .type "dict"
section
variable {prog : Program} {w : World} {A : Around} {E : Value → Shared → Prop} {s : Shared} {X : List Addr} {Q : Value → Shared → Prop}
theorem op_dict_list {xs : List PyData} {all : List (PyData × PyData)} {u : Value} (l : Liv X s.heap) (hx : RdR prog w X s.heap u (.list xs)) (hd : dictOfL xs [] = some all) (hz : xs.length ≤ big) (hh : A.handled = none) (hu : A.units + 70 < cLine) (hm : (s.heap.objs.size == sysModules) = false)
    (g : Gv prog w X s (.dict all) Q) : wpAny (model prog w) A (call (.type "dict") [u]) Q E s := by
  obtain ⟨a, vs, n, rfl, ho, hl⟩ := hx.list_inv
  have hlen := RepL.length hl
  have hb := big_line
  have haD : a ≠ s.heap.objs.size := Nat.ne_of_lt (Heap.lt_size ho)
  have hnoD : s.heap.get? s.heap.objs.size = none := Heap.get?_none_of_le (Nat.le_refl _)
  refine callType_codes (Q₁ := fun obj s₁ => obj = .ref s.heap.objs.size ∧ s₁ = { s with heap := s.heap.push { cls := .type "dict", data := .dict #[] } }) F.kt_called_dict (F.kt_typeCall_dict_1 _) F.entry_dict_init (kt_code_dict_new _ ⟨rfl, rfl⟩) ?_
  rintro obj s₁ ⟨rfl, rfl⟩
  have hnew : (s.heap.push { cls := .type "dict", data := .dict #[] }).DictOf (intKind prog w) s.heap.objs.size [] := Heap.DictOf.new s.heap
  have ho' : (s.heap.push { cls := .type "dict", data := .dict #[] }).get? a = some (lstO (List.toArray vs) n) := Heap.get?_push_of_some _ ho
  refine ⟨hnew.typeIs, F.args_dict_init_2 _ _, ?_⟩
  unfold Builtin.«dict.__init__»
  refine wpAny_bind ?_
  unfold Builtin.Dict.selfAndRest
  refine wpAny_bind (wpAny_notOrdered_dict hnew.typeIs ?_)
  show wpAny _ _ (pure (s.heap.objs.size, [Value.ref a])) _ _ _
  refine wpAny_pure ?_
  show wpAny _ _ (Builtin.Dict.updateFrom "dict.__init__" s.heap.objs.size (.ref a) [] .none) _ _ _
  unfold Builtin.Dict.updateFrom
  refine wpAny_bind (wpAny_typeOf (T := "list") ⟨_, ho', rfl⟩ ?_)
  rw [if_pos (by decide)]
  refine wpAny_bind (noKeys_list ho' rfl rfl rfl hh fun h₁ tk k₁ => ?_)
  simp only [Option.isNone_none, if_true]
  refine wpAny_bind (wpAny_rule ?_)
  refine wpAny_bind (wpAny_pyIter_list (items := vs.toArray) ⟨_, k₁ _ _ ho', rfl, _, rfl⟩ ?_)
  refine wpAny_pure ⟨plainId_quiet plain_dict_loop _, ?_⟩
  have hD1 : ∃ o, h₁.get? s.heap.objs.size = some o := by
    obtain ⟨o, _, _, e, _⟩ := hnew
    exact ⟨o, k₁ _ _ e⟩
  have hlt : s.heap.objs.size < h₁.objs.size := by obtain ⟨o, e⟩ := hD1; exact Heap.lt_size e
  have hI : s.heap.get? h₁.objs.size = none := Heap.get?_none_of_le (Nat.le_of_lt hlt)
  have k₂ : ∀ b o, s.heap.get? b = some o → (h₁.push { cls := .type "list_iterator", data := .fields #[.ref a, .int 0 0] }).get? b = some o := fun b o e => Heap.get?_push_of_some _ (k₁ b o (Heap.get?_push_of_some _ e))
  have hr' : RepL prog w (s.heap.objs.size :: h₁.objs.size :: X) s.heap vs xs := RepL.more (fun b hb => by
    rcases List.mem_cons.mp hb with rfl | hb
    · exact .inr hnoD
    rcases List.mem_cons.mp hb with rfl | hb
    · exact .inr hI
    · exact .inl hb) hl
  refine dict_loop (X := X) (ds := xs) (all := all) (h₀ := s.heap) (nv := .none) (a := a) (items := vs.toArray) (Walks.list (by simpa using hh) _ a (Nat.ne_of_lt (Heap.lt_size (k₁ _ _ ho'))) vs.toArray) hI hnoD (Nat.ne_of_lt hlt) (by simp; lia) (by simpa using hr') hz
    xs.length 0 [] _ (by lia) (by simpa using hd) (Nat.zero_le _) ⟨⟨_, Heap.get?_push_size _ rfl, rfl, rfl⟩, ⟨_, Heap.get?_push_of_some _ (k₁ _ _ ho'), rfl, _, rfl⟩⟩ haD k₂
    (.inl ⟨[], dictOf_at hnew fun o e => Heap.get?_push_of_some _ (k₁ _ _ e), .nil⟩) fun h' tk' k' hdat => ?_
  refine ⟨rfl, g h' tk' _ (Step.of_keep k') ?_⟩
  have hdat' : DAt prog w (Rep prog w X h') (Rep prog w X h') h' s.heap.objs.size all := DAt.imp (fun v d q => Rep.more (fun b hb => .inl (List.mem_cons_of_mem _ (List.mem_cons_of_mem _ hb))) (Rep.kept k' q)) (fun v d q => Rep.more (fun b hb => .inl (List.mem_cons_of_mem _ (List.mem_cons_of_mem _ hb))) (Rep.kept k' q)) hdat
  exact hdat'.rep hm (l.fresh (Nat.le_refl _))
theorem RepI.keysL {h : Heap} {es : List DictEntry} {ps : List (Int × Value)} {kvs : List (PyData × PyData)} (p : Pairs (intKind prog w) es ps) (r : RepI prog w X h ps kvs) : RepL prog w X h (es.map (·.key)) (kvs.map (·.1)) := by
  refine RepI.ind (M := fun ps kvs => ∀ es, Pairs (intKind prog w) es ps → RepL prog w X h (es.map (·.key)) (kvs.map (·.1))) (fun es p => ?_) (fun k v d ps kvs _ ih es p => ?_) r es p
  · cases p; exact .nil
  · cases p with
    | @cons e kv es _ hk _ hp =>
      have : ∃ t, e.key = .int k t := by
        have hk : Value.isInt k e.key = true := hk
        revert hk
        cases e.key with
        | int i t => exact fun hk => ⟨t, by rw [beq_iff_eq.mp (show (i == k) = true from hk)]⟩
        | _ => exact fun hk => absurd hk Bool.false_ne_true
      obtain ⟨t, ht⟩ := this
      show RepL prog w X h (e.key :: _) _
      rw [ht]
      exact .cons (.int _ _) (ih _ hp)
theorem RepT.keysL {h : Heap} {xs : List (List Int × Addr × Value)} {kvs : List (PyData × PyData)} (r : RepT prog w X h xs kvs) : RepL prog w X h ((xs.map (entryOfKey (tupleKind (intKind prog w)))).map (·.key)) (kvs.map (·.1)) :=
  RepT.ind (M := fun (xs : List (List Int × Addr × Value)) (kvs : List (PyData × PyData)) => RepL prog w X h ((xs.map (entryOfKey (tupleKind (intKind prog w)))).map DictEntry.key) (kvs.map Prod.fst)) .nil (fun _ _ _ _ _ _ k _ ih => .cons k ih) r
theorem raw_dict {kvs : List (PyData × PyData)} {u : Value} (hx : RdR prog w X s.heap u (.dict kvs)) : ∃ (a : Addr) (es : Array DictEntry) (ep : Nat), u = .ref a ∧ (a == sysModules) = false ∧ RawD s.heap a es ep ∧ RepL prog w X s.heap (es.toList.map (·.key)) (kvs.map (·.1)) := by
  obtain ⟨a, rfl, hm, hd⟩ := hx.dict_inv
  rcases hd with ⟨ps, ⟨o, es, ep, ho, hx, hdt, _, hp, _⟩, hr⟩ | ⟨xs, ⟨o, es, ep, ho, hx, hdt, he, _, _⟩, hr⟩
  · exact ⟨a, es, ep, rfl, hm, ⟨o, ho, hx, hdt⟩, RepI.keysL hp hr⟩
  · refine ⟨a, es, ep, rfl, hm, ⟨o, ho, hx, hdt⟩, ?_⟩
    rw [he]
    exact RepT.keysL hr
theorem collect_dict {kvs : List (PyData × PyData)} {u : Value} (hx : RdR prog w X s.heap u (.dict kvs)) (hz : kvs.length ≤ big) (hh : A.handled = none) :
    ∃ vs, RepL prog w X s.heap vs (kvs.map (·.1)) ∧ ∀ (P : List Value → Shared → Prop), (∀ h' tk, (∀ b o, s.heap.get? b = some o → h'.get? b = some o) → P vs { s with heap := h', toks := tk }) → wpAny (model prog w) A (collect u) P E s := by
  obtain ⟨a, es, ep, rfl, hm, hraw, hr⟩ := raw_dict hx
  have hlen := RepL.length hr
  have hb := big_line
  refine ⟨_, hr, fun P hP => ?_⟩
  unfold collect
  refine wpAny_bind (wpAny_runValue (codeAny_builtin F.entry_proto_collect ?_))
  rw [Around.under_plainId F.plain_proto_collect _]
  show wpAny _ A.in1 (newList [] >>= fun l => again (.builtin "list.__iadd__" ⟨[l, .ref a], []⟩)) _ _ s
  refine wpAny_bind (wpAny_newObj_type ?_)
  refine wpAny_pure ⟨plainId_quiet F.plain_list_iadd _, codeAny_builtin F.entry_list_iadd ?_⟩
  rw [Around.under_plainId F.plain_list_iadd _]
  show wpAny _ A.in1 (Builtin.List.listExtendWith (.ref s.heap.objs.size) (.ref a) (.ref s.heap.objs.size)) _ _ _
  have hS : (s.heap.push { cls := .type "list", data := .seq ([] : List Value).toArray }).get? s.heap.objs.size = some { cls := .type "list", data := .seq #[] 0 } := Heap.get?_push_size _ rfl
  have hne : s.heap.objs.size ≠ a := Nat.ne_of_gt hraw.lt
  refine wpAny_mono (kdl_extend (A := A) (src_raw (es := es) (ep := ep) hm) hh (hraw.at fun o e => Heap.get?_push_of_some _ e) s.heap.objs.size hne hne _ 0 hS
    (R := fun r s' => r = .ok (.ret (.ref s.heap.objs.size)) ∧ ∃ h' tk acc c, s' = { s with heap := h', toks := tk } ∧ (∀ b o, s.heap.get? b = some o → h'.get? b = some o) ∧ h'.get? s.heap.objs.size = some { cls := .type "list", dict := none, data := .seq acc c, slots := #[] } ∧ ItemsOf (fun i v => ∃ e, es[i]? = some e ∧ v = e.key) acc es.size)
    (fun h' tk acc c hk hS' hacc => ⟨rfl, h', tk, acc, c, rfl, fun b o e => hk b o (Nat.ne_of_lt (Heap.lt_size e)) (Heap.get?_push_of_some _ e), hS', hacc⟩) (by simp at hlen; lia)) (fun fin s' h => ?_) (fun e s' h => absurd h.1 (by simp))
  have fin' : ∀ s' : Shared, (∃ h' tk acc c, s' = { s with heap := h', toks := tk } ∧ (∀ b o, s.heap.get? b = some o → h'.get? b = some o) ∧ h'.get? s.heap.objs.size = some { cls := .type "list", dict := none, data := .seq acc c, slots := #[] } ∧ ItemsOf (fun i v => ∃ e, es[i]? = some e ∧ v = e.key) acc es.size) → wpAny (model prog w) A (match Value.ref s.heap.objs.size with
      | Value.ref a => do
        match (← load a).data with
          | Data.seq xs _ => pure xs.toList
          | _ => unsupported "internal:collect"
      | _ => unsupported "internal:collect") P E s' := by
    rintro s' ⟨h', tk, acc, c, rfl, hk, hS', hacc⟩
    show wpAny _ A (load s.heap.objs.size >>= _) _ _ _
    refine wpAny_bind (wpAny_load hS' ?_)
    refine wpAny_pure ?_
    have e : acc.toList = es.toList.map (·.key) := by
      apply List.ext_getElem?
      intro i
      rw [List.getElem?_map, Array.getElem?_toList, Array.getElem?_toList]
      by_cases hi : i < es.size
      · have hi2 : i < acc.size := by rw [hacc.1]; exact hi
        obtain ⟨e, he, hv⟩ := hacc.2 i acc[i] (Array.getElem?_eq_getElem hi2)
        rw [Array.getElem?_eq_getElem hi2, he, hv]; rfl
      · rw [Array.getElem?_eq_none (by have := hacc.1; lia), Array.getElem?_eq_none (by lia)]; rfl
    show P acc.toList _
    rw [e]
    exact hP h' tk hk
  cases fin with
  | done f =>
    obtain ⟨e, hs'⟩ := h
    cases e
    exact fin' _ hs'
  | again c' => exact ⟨h.1, codeAny_mono h.2 fun r s'' hr => by obtain ⟨rfl, hs'⟩ := hr; exact fin' _ hs'⟩
theorem pairsOf_inv {x : PyData} {r : List PyData} {ps : List (Int × Int)} (e : pairsOf (x :: r) = some ps) : ∃ a b qs, x = .tuple [.int a, .int b] ∧ pairsOf r = some qs ∧ ps = (a, b) :: qs := by
  have go : ∀ {a b : Int}, (pairsOf r).map ((a, b) :: ·) = some ps → ∃ qs, pairsOf r = some qs ∧ ps = (a, b) :: qs := fun e => by
    cases q : pairsOf r with
    | none => rw [q] at e; cases e
    | some qs => rw [q] at e; exact ⟨qs, rfl, (Option.some.inj e).symm⟩
  cases x with
  | tuple l => cases l with
    | nil => cases e
    | cons u l => cases u with
      | int a => cases l with
        | nil => cases e
        | cons v l => cases v with
          | int b => cases l with
            | nil => exact (go (a := a) (b := b) e).elim fun qs q => ⟨a, b, qs, rfl, q⟩
            | cons _ _ => cases e
          | _ => cases e
      | _ => cases e
  | _ => cases e
theorem pairsOf_map {xs : List PyData} {ps : List (Int × Int)} (h : pairsOf xs = some ps) : xs = ps.map pairD := by
  induction xs generalizing ps with
  | nil => cases h; rfl
  | cons x r ih =>
    obtain ⟨a, b, qs, e1, e2, e3⟩ := pairsOf_inv h
    rw [e1, e3, ih e2]; rfl
theorem sort_inv {xs : List PyData} {z : PyData} (e : sortL xs = some z) : ∃ ps, xs = ps.map pairD ∧ ps.Nodup ∧ ps.length < 64 ∧ .list ((psort ps).map pairD) = z := by
  cases hp : pairsOf xs with
  | none => unfold sortL at e; rw [hp] at e; cases e
  | some ps =>
    unfold sortL at e
    rw [hp] at e
    obtain ⟨hc, e⟩ := ifP (show (if (distinctP ps && decide (ps.length < 64)) = true then some (PyData.list ((psort ps).map pairD)) else none) = some z from e)
    have hc := Bool.and_eq_true_iff.mp hc
    exact ⟨ps, pairsOf_map hp, distinct_nodup hc.1, of_decide_eq_true hc.2, Option.some.inj e⟩
theorem one_inv {f : PyData → Option PyData} {ds : List PyData} {z : PyData} {us : List Value} (e : bi1 f ds = some z) (hx : Paired (RdR prog w X s.heap) us ds) : ∃ u x, us = [u] ∧ RdR prog w X s.heap u x ∧ f x = some z := by
  cases hx with
  | nil => cases e
  | cons h1 h2 => cases h2 with
    | nil => exact ⟨_, _, rfl, h1, e⟩
    | cons _ _ => cases e
theorem lst_inv {f : List PyData → Option PyData} {x z : PyData} (e : onL f x = some z) : ∃ xs, x = .list xs ∧ f xs = some z := by
  cases x with
  | list xs => exact ⟨xs, rfl, e⟩
  | _ => cases e
theorem few_inv {f : List PyData → PyData} {x z : PyData} (e : (match x with | .list xs => if xs.length ≤ big then some (f xs) else none | .tuple xs => if xs.length ≤ big then some (f xs) else none | _ => none) = some z) : ∃ xs, (x = .list xs ∨ x = .tuple xs) ∧ xs.length ≤ big ∧ f xs = z := by
  cases x with
  | list xs => exact ⟨xs, .inl rfl, (ifP e).1, Option.some.inj (ifP e).2⟩
  | tuple xs => exact ⟨xs, .inr rfl, (ifP e).1, Option.some.inj (ifP e).2⟩
  | _ => cases e
theorem few_at {xs : List PyData} {x : PyData} {u : Value} (q : x = .list xs ∨ x = .tuple xs) (h : RdR prog w X s.heap u x) : ∃ a vs n, u = .ref a ∧ RepL prog w X s.heap vs xs ∧ vs.length = xs.length ∧ (s.heap.get? a = some (lstO (List.toArray vs) n) ∨ s.heap.get? a = some (tupO (List.toArray vs) n)) := by
  rcases q with q | q <;> rw [q] at h
  · obtain ⟨a, vs, n, e, ho, hl⟩ := h.list_inv
    exact ⟨a, vs, n, e, hl, RepL.length hl, .inl ho⟩
  · obtain ⟨a, vs, n, e, ho, _, hl⟩ := h.tup_inv
    exact ⟨a, vs, n, e, hl, RepL.length hl, .inr ho⟩
theorem op_len {x z : PyData} {u : Value} (e : lenD x = some z) (h1 : RdR prog w X s.heap u x) (g : Gv prog w X s z Q) : wpAny (model prog w) A (call (.builtin "len") [u]) Q E s := by
  obtain ⟨xs, q, hz, rfl⟩ := few_inv (f := fun xs => .int xs.length) e
  obtain ⟨a, vs, n, rfl, hl, hlen, ho⟩ := few_at q h1
  have hfit : ((List.toArray vs).size : Int) < 2 ^ 63 := by
    rw [List.size_toArray, hlen]
    exact Int.lt_of_le_of_lt (Int.ofNat_le.mpr hz) (by decide)
  rw [← hlen] at g
  rcases ho with ho | ho
  · exact Calls.call_len_list (items := vs.toArray) ⟨_, ho, rfl, _, rfl⟩ hfit (g.same (.int _ _) _)
  · exact PyProof.Rows.len_tuple (items := vs.toArray) ⟨_, ho, rfl, _, rfl⟩ hfit (g.same (.int _ _) _)
theorem op_listOf {x z : PyData} {u : Value} (e : listD x = some z) (l : Liv X s.heap) (h1 : RdR prog w X s.heap u x) (g : Gv prog w X s z Q) : wpAny (model prog w) A (call (.type "list") [u]) Q E s := by
  obtain ⟨xs, q, hz, rfl⟩ := few_inv (f := .list) e
  obtain ⟨a, vs, n, rfl, hl, hlen, ho⟩ := few_at q h1
  have hfit : (List.toArray vs).size ≤ sizeLine := Nat.le_trans (Nat.le_of_eq hlen) (Nat.le_trans hz big_line)
  have fin : ∀ (h' : Heap) (c' : Nat), (∀ b o', s.heap.get? b = some o' → h'.get? b = some o') → h'.get? s.heap.objs.size = some { cls := .type "list", dict := none, data := .seq vs.toArray c', slots := #[] } → Q (.ref s.heap.objs.size) { s with heap := h' } :=
    fun h' c' hk ho' => g h' s.toks _ (Step.of_keep hk) (.list (n := c') ho' (l.fresh (Nat.le_refl _)) (RepL.kept hk hl))
  rcases ho with ho | ho
  · exact call_list_seq a (.inl rfl) ho rfl rfl fin hfit
  · exact call_list_seq a (.inr rfl) ho rfl rfl fin hfit
theorem op_tupleOf {x z : PyData} {u : Value} (e : onL (fun xs => if xs.length ≤ big then some (.tuple xs) else none) x = some z) (l : Liv X s.heap) (h1 : RdR prog w X s.heap u x) (g : Gv prog w X s z Q) : wpAny (model prog w) A (call (.type "tuple") [u]) Q E s := by
  obtain ⟨xs, rfl, e⟩ := lst_inv e
  obtain ⟨hz, e⟩ := ifP e
  cases e
  obtain ⟨a, vs, n, rfl, ho, hl⟩ := h1.list_inv
  refine call_tuple_list (items := vs.toArray) ⟨_, ho, rfl, _, rfl⟩ (fun h' hk => ?_) (Nat.le_trans (Nat.le_of_eq (RepL.length hl)) (Nat.le_trans hz big_line))
  have k : ∀ b o, s.heap.get? b = some o → (h'.push { cls := .type "tuple", data := .seq vs.toArray }).get? b = some o := fun b o e => Heap.get?_push_of_some _ (hk b o e)
  refine g _ s.toks _ (Step.of_keep k) (.tup (n := 0) (Heap.get?_push_size _ rfl) (fun hm => ?_) (RepL.kept k hl))
  exact (Option.isSome_iff_exists.mp (l _ hm)).elim fun o ho => Nat.lt_irrefl _ (Heap.lt_size (hk _ _ ho))
theorem op_sortedOf {x z : PyData} {u : Value} (e : sortD x = some z) (l : Liv X s.heap) (h1 : RdR prog w X s.heap u x) (hh : A.handled = none) (g : Gv prog w X s z Q) : wpAny (model prog w) A (call (.builtin "sorted") [u]) Q E s := by
  have gk : ∀ h' tk val, (∀ b o, s.heap.get? b = some o → h'.get? b = some o) → Rep prog w X h' val z → Q val { s with heap := h', toks := tk } := fun h' tk val k r => g h' tk val (Step.of_keep k) r
  cases x with
  | list xs =>
    obtain ⟨ps, rfl, hn, hlt, rfl⟩ := sort_inv e
    obtain ⟨a, vs, n, rfl, ho, hl⟩ := h1.list_inv
    have h64 : vs.length < 64 := by rw [RepL.length hl, List.length_map]; exact hlt
    exact sorted_pairs (ps := ps) (vs := vs) l (fun P hP => wpAny_collect_seq a (.inl rfl) ho rfl rfl (fun h' hk => hP h' s.toks hk) (Nat.le_trans (Nat.le_of_lt h64) (by decide +kernel))) hl hn h64 gk
  | dict kvs =>
    obtain ⟨ps, hps, hn, hlt, rfl⟩ := sort_inv e
    have hlk : kvs.length = ps.length := by rw [← List.length_map (f := Prod.fst), hps, List.length_map]
    obtain ⟨vs, hr, hcol⟩ := collect_dict (A := A.in1) (E := E) h1 (Nat.le_trans (Nat.le_of_lt (hlk ▸ hlt)) (by decide)) hh
    rw [hps] at hr
    exact sorted_pairs (ps := ps) l hcol hr hn (by rw [RepL.length hr, List.length_map]; exact hlt) gk
  | _ => cases e
theorem min_inv {ds : List PyData} {z : PyData} (e : minD ds = some z) : ∃ a b, ds = [.int a, .int b] ∧ .int (if b < a then b else a) = z := by
  cases ds with
  | nil => cases e
  | cons x r => cases r with
    | nil => cases e
    | cons y r => cases r with
      | cons _ _ => cases e
      | nil => cases x with
        | int a => cases y with
          | int b => exact ⟨a, b, rfl, Option.some.inj e⟩
          | _ => cases e
        | _ => cases e
theorem op_bi {b : Bi} {ds : List PyData} {z : PyData} {us : List Value} (e : biD b ds = some z) (l : Liv X s.heap) (hx : Paired (RdR prog w X s.heap) us ds) (hh : A.handled = none) (hu : A.units + 70 < cLine) (hm : (s.heap.objs.size == sysModules) = false)
    (g : Gv prog w X s z Q) : wpAny (model prog w) A (call b.val us) Q E s := by
  cases b with
  | abs =>
    obtain ⟨u, x, rfl, h1, e⟩ := one_inv (f := absD) e hx
    cases x with
    | int i => obtain ⟨t, rfl⟩ := h1.int_inv; cases e; exact call_abs_int fun u tk => g.same (.int _ _) tk
    | _ => cases e
  | len => obtain ⟨u, x, rfl, h1, e⟩ := one_inv (f := lenD) e hx; exact op_len e h1 g
  | min =>
    obtain ⟨a, b, rfl, rfl⟩ := min_inv e
    cases hx with
    | cons h1 h2 => cases h2 with
      | cons h2 h3 =>
        cases h3; obtain ⟨t, rfl⟩ := h1.int_inv; obtain ⟨t', rfl⟩ := h2.int_inv
        refine min_two_ints hh fun h' tk hk => g h' tk _ (Step.of_keep hk) ?_
        by_cases q : b < a
        · rw [if_pos q, if_pos q]; exact .int _ _
        · rw [if_neg q, if_neg q]; exact .int _ _
  | list => obtain ⟨u, x, rfl, h1, e⟩ := one_inv (f := listD) e hx; exact op_listOf e l h1 g
  | tuple => obtain ⟨u, x, rfl, h1, e⟩ := one_inv (f := onL fun xs => if xs.length ≤ big then some (.tuple xs) else none) e hx; exact op_tupleOf e l h1 g
  | sorted => obtain ⟨u, x, rfl, h1, e⟩ := one_inv (f := sortD) e hx; exact op_sortedOf e l h1 hh g
  | dict =>
    obtain ⟨u, x, rfl, h1, e⟩ := one_inv (f := onL fun xs => if xs.length ≤ big then (dictOfL xs []).map .dict else none) e hx
    obtain ⟨xs, rfl, e⟩ := lst_inv e
    obtain ⟨hz, e⟩ := ifP e
    cases hd : dictOfL xs [] with
    | none => rw [hd] at e; cases e
    | some all => rw [hd] at e; cases e; exact op_dict_list l h1 hd hz hh hu hm g
end
end Mine
end
end
section
open PySem PySem.Calls PySem.W PyProof.Rows
set_option maxRecDepth 100000
set_option Elab.async false
set_option autoImplicit false
set_option linter.unusedVariables false
noncomputable section
namespace Mine
section
variable {prog : Program} {w : World} {A : Around} {E : Value → Shared → Prop} {s : Shared} {X : List Addr} {Q : Value → Shared → Prop}
theorem op_get {kvs : List (PyData × PyData)} {k : PyData} {u v : Value} (hc : okK kvs k = true) (hx : RdR prog w X s.heap u (.dict kvs)) (hk : Rep prog w X s.heap v k) (hu : A.units + 64 < cLine)
    (h : ∀ tk val, Rep prog w X s.heap val ((dget kvs k).getD .none) → Q val { s with toks := tk }) : wpAny (model prog w) A (call (.builtin "dict.get") [u, v]) Q E s := by
  refine dict_cases hc (.of hk) hx (fun a i ps ev hm ek hi hd hr => ?_) (fun a b ks xs ev hm ek eu hb hd hr => ?_)
  · subst ev; subst ek
    refine call_meetsIn F.slot_dict_get hd.mapOf.typeIs F.entry_dict_get (F.args_dict_get_2 _ _) (meets_dict_get (intKind prog w) a hi hm) ⟨_, hd.mapOf, ?_⟩
    rcases findI (k := i) hr with ⟨e1, e2⟩ | ⟨v', d', e1, e2, hr'⟩
    · rw [e1]; rw [e2] at h; exact h _ _ .none
    · rw [e1]; rw [e2] at h; exact h _ _ hr'
  · subst ev; subst ek; subst eu
    refine call_meetsIn F.slot_dict_get hd.typeIs F.entry_dict_get (F.args_dict_get_2 _ _) (meetsH_dict_get (tkd prog w) a b hm) ⟨room_of hu, _, _, hb, hd, ?_⟩
    rcases findT (k := ks) hr with ⟨e1, e2⟩ | ⟨p, d', e1, e2, hr'⟩
    · rw [e1]; rw [e2] at h; exact h _ _ .none
    · rw [e1]; rw [e2] at h; exact h _ _ hr'
theorem op_get2 {kvs : List (PyData × PyData)} {k z : PyData} {u v x : Value} (hc : okK kvs k = true) (hx : RdR prog w X s.heap u (.dict kvs)) (hk : Rep prog w X s.heap v k) (hz : Rep prog w X s.heap x z) (hu : A.units + 64 < cLine)
    (h : ∀ tk val, Rep prog w X s.heap val ((dget kvs k).getD z) → Q val { s with toks := tk }) : wpAny (model prog w) A (call (.builtin "dict.get") [u, v, x]) Q E s := by
  refine dict_cases hc (.of hk) hx (fun a i ps ev hm ek hi hd hr => ?_) (fun a b ks xs ev hm ek eu hb hd hr => ?_)
  · subst ev; subst ek
    refine call_meetsIn F.slot_dict_get hd.mapOf.typeIs F.entry_dict_get (F.args_dict_get_3 _ _ _) (meets_dict_get_default (intKind prog w) a hi hm x) ⟨_, hd.mapOf, ?_⟩
    rcases findI (k := i) hr with ⟨e1, e2⟩ | ⟨v', d', e1, e2, hr'⟩
    · rw [e1]; rw [e2] at h; exact h _ _ hz
    · rw [e1]; rw [e2] at h; exact h _ _ hr'
  · subst ev; subst ek; subst eu
    refine call_meetsIn F.slot_dict_get hd.typeIs F.entry_dict_get (F.args_dict_get_3 _ _ _) (meetsH_dict_get_default (tkd prog w) a b hm x) ⟨room_of hu, _, _, hb, hd, ?_⟩
    rcases findT (k := ks) hr with ⟨e1, e2⟩ | ⟨p, d', e1, e2, hr'⟩
    · rw [e1]; rw [e2] at h; exact h _ _ hz
    · rw [e1]; rw [e2] at h; exact h _ _ hr'
theorem op_setList {a : Addr} {vs : List Value} {n : Nat} {k : Int} {t : Tok} {v : Value} {Q : Unit → Shared → Prop} (ho : s.heap.get? a = some (lstO vs.toArray n)) (h0 : 0 ≤ k) (hlt : k < vs.length) (hb : k < 1000000)
    (hQ : ∀ h' n', h'.get? a = some (lstO (vs.set k.toNat v).toArray n') → Heap.SameBut a s.heap h' → Q () { s with heap := h' }) :
    wpAny (model prog w) A (setItem (.ref a) (.int k t) v) Q E s := by
  have hl : s.heap.IsList a vs.toArray := ⟨_, ho, rfl, _, rfl⟩
  unfold setItem
  try with_reducible refine wpAny_holding ?_
  refine wpAny_bind (wpAny_sequenceKey hl.typeIs (by decide) ?_)
  refine wpAny_bind (wpAny_callSpecial?_slot (name := Str.ofString "__setitem__") hl.typeIs slot_list_setitem
    (wpAny_call_entry slot_list_setitem hl.typeIs entry_list_setitem ?_ (args_list_setitem _ _ _)))
  show wpAny _ _ (Builtin.List.listSubscript? (.int k t) >>= _) _ _ s
  refine wpAny_bind (wpAny_listSubscript_int (fitsIndex_of h0 (by lia)) ?_)
  obtain ⟨j, rfl⟩ := Int.eq_ofNat_of_zero_le h0
  have hj : j < vs.toArray.size := by simp; lia
  have hx' : vs.toArray[j]? = some vs.toArray[j] := Array.getElem?_eq_getElem hj
  show wpAny _ _ ((seqItemAt a j >>= fun r => pure (r.map (j, ·))) >>= _) _ _ s
  refine wpAny_bind (wpAny_bind (wpAny_seqItemAt ho rfl (wpAny_pure ?_)))
  rw [hx']
  show wpAny _ _ (setSeqItemAt a j v >>= _) _ _ s
  have hfin : ∃ n', (s.heap.update a (Obj.mapSeq (·.setIfInBounds j v))).get? a = some (lstO (vs.set j v).toArray n') := by
    have e : ∃ n', Obj.mapSeq (·.setIfInBounds j v) (lstO vs.toArray n) = lstO (vs.set j v).toArray n' := by
      obtain ⟨n', hd'⟩ := Obj.data_mapSeq (o := lstO vs.toArray n) rfl (·.setIfInBounds j v)
      refine ⟨n', ?_⟩
      simp only [lstO, Obj.mapSeq] at hd' ⊢
      simp at hd' ⊢
      exact hd'
    obtain ⟨n', e⟩ := e
    exact ⟨n', (Heap.get?_update_self _ ho (by rw [e]; rfl)).trans (by rw [e])⟩
  obtain ⟨n', hfin⟩ := hfin
  refine wpAny_bind (wpAny_setSeqItemAt ho rfl ?_)
  first
    | exact wpAny_bind (wpAny_pure (wpAny_pure ⟨.none, rfl, wpAny_pure (hQ _ n' hfin (Heap.SameBut.update ..))⟩))
    | exact wpAny_pure ⟨.none, rfl, wpAny_pure (hQ _ n' hfin (Heap.SameBut.update ..))⟩
theorem op_append {a : Addr} {vs : List Value} {n : Nat} {v : Value} (ho : s.heap.get? a = some (lstO vs.toArray n)) (hz : vs.length ≤ big)
    (hQ : ∀ h' n', h'.get? a = some (lstO (vs ++ [v]).toArray n') → Heap.SameBut a s.heap h' → Q .none { s with heap := h' }) : wpAny (model prog w) A (call (.builtin "list.append") [.ref a, v]) Q E s := by
  refine wpAny_list_append_plain ⟨n, ho⟩ (fun h' hp hs => ?_) (by have := big_line; simp; lia)
  obtain ⟨n', hp⟩ := hp
  exact hQ h' n' (by rw [hp]; simp [lstO]) hs
end
section
variable {prog : Program} {w : World} {B : Heap} {F as : List Addr} {S : Sto} {h h' : Heap}
theorem St.set (x : St prog w B F as S h) {n : Nat} {a : Addr} {ce : Ce} (hn : as[n]? = some a) (hs : Heap.SameBut a h h') (hc : CeAt prog w (F ++ as) as h' a ce) : St prog w B F as (S.set n ce) h' := by
  have ha : a ∈ as := List.mem_of_getElem? hn
  have hstep : Step [a] h h' := Step.sameBut hs (List.mem_singleton.mpr rfl) (by obtain ⟨o, ho⟩ := hc.live; rw [ho]; rfl)
  refine ⟨fun b o e => (hs.2 b (fun q => ?_)).trans (x.base b o e), x.vol, fun b hb => hstep.live b (x.live b hb), x.nd, x.off, by rw [List.length_set]; exact x.len, fun m b c h1 h2 => ?_⟩
  · rw [q, x.vol a (List.mem_append_right _ ha)] at e; cases e
  · rw [List.getElem?_set] at h2
    by_cases hm : n = m
    · subst hm
      rw [hn] at h1; cases h1
      rw [if_pos rfl] at h2
      split at h2
      · cases h2; exact hc
      · cases h2
    · rw [if_neg hm] at h2
      have hne : b ≠ a := fun q => by
        subst q
        obtain ⟨l1, e1⟩ := List.getElem?_eq_some_iff.mp h1
        obtain ⟨l2, e2⟩ := List.getElem?_eq_some_iff.mp hn
        exact hm ((List.getElem_inj x.nd).mp (e2.trans e1.symm))
      have := (x.cells m b c h1 h2).step (X' := F ++ as) (nw := []) hstep (fun d hd => by rw [List.mem_singleton.mp hd]; exact List.mem_append_right _ ha) (fun d hd => .inl hd) (fun o e => (hs.2 b hne).trans e)
      rwa [List.append_nil] at this
theorem St.add (x : St prog w B F as S h) {a : Addr} {ce : Ce} (k : ∀ b o, h.get? b = some o → h'.get? b = some o) (ha : h.get? a = none) (hc : CeAt prog w (F ++ (as ++ [a])) (as ++ [a]) h' a ce) : St prog w B F (as ++ [a]) (S ++ [ce]) h' := by
  have hna : a ∉ as := fun q => by have := x.clive a q; rw [ha] at this; cases this
  have hnF : a ∉ F := fun q => by have := x.live a q; rw [ha] at this; cases this
  have hstep : Step [] h h' := Step.of_keep k
  refine ⟨fun b o e => k b o (x.base b o e), fun b hb => ?_, fun b hb => hstep.live b (x.live b hb), ?_, fun b hb => ?_, by simp [x.len], fun m b c h1 h2 => ?_⟩
  · rw [← List.append_assoc] at hb
    rcases List.mem_append.mp hb with hb | hb
    · exact x.vol b hb
    · rw [List.mem_singleton.mp hb]
      cases e : B.get? a with
      | none => rfl
      | some o => rw [x.base a o e] at ha; cases ha
  · rw [List.nodup_append]
    exact ⟨x.nd, by simp, fun b hb c hc e => hna (by rw [List.mem_singleton.mp hc] at e; exact e ▸ hb)⟩
  · rcases List.mem_append.mp hb with hb | hb
    · exact x.off b hb
    · rw [List.mem_singleton.mp hb]; exact hnF
  · by_cases hm : m < as.length
    · rw [List.getElem?_append_left hm] at h1
      rw [List.getElem?_append_left (by rw [← x.len]; exact hm)] at h2
      refine (x.cells m b c h1 h2).step (X' := F ++ (as ++ [a])) (nw := [a]) hstep (fun d hd => nomatch hd) (fun d hd => ?_) (fun o e => k b o e)
      rw [← List.append_assoc] at hd
      rcases List.mem_append.mp hd with hd | hd
      · exact .inl hd
      · rw [List.mem_singleton.mp hd]; exact .inr ha
    · rw [List.getElem?_append_right (by lia)] at h1
      rw [List.getElem?_append_right (by rw [← x.len]; lia)] at h2
      have h3 := (List.getElem?_eq_some_iff.mp h1).1
      have e : m - as.length = 0 := by simp at h3; lia
      rw [e] at h1
      rw [← x.len, e] at h2
      simp only [List.getElem?_cons_zero, Option.some.injEq] at h1 h2
      subst h1; subst h2; exact hc
theorem dats_rep {X as : List Addr} {vs : List Value} {xs : List Va} {ds : List PyData} (p : Paired (VaRep prog w X as h) vs xs) (e : dats xs = some ds) : RepL prog w X h vs ds := by
  induction p generalizing ds with
  | nil => cases e; exact .nil
  | @cons v x vs xs a b ih =>
    cases x with
    | c n => cases e
    | d x =>
      obtain ⟨ds, e2, rfl⟩ := Option.map_eq_some_iff.mp (show (dats xs).map (x :: ·) = some ds from e)
      exact .cons a (ih e2)
theorem datKv_repI {X as : List Addr} {ps : List (Int × Value)} {kvs : List (PyData × Va)} {ds : List (PyData × PyData)} (p : Paired (PI (VaRep prog w X as h)) ps kvs) (e : datKv kvs = some ds) : RepI prog w X h ps ds := by
  induction p generalizing ds with
  | nil => cases e; exact .nil
  | @cons v x vs xs a b ih =>
    obtain ⟨k, x⟩ := x
    obtain ⟨e1, a⟩ := a
    cases e1
    cases x with
    | c n => cases e
    | d x =>
      obtain ⟨ds, e2, rfl⟩ := Option.map_eq_some_iff.mp (show (datKv xs).map ((.int v.1, x) :: ·) = some ds from e)
      exact .cons a (ih e2)
theorem datKv_repT {X as : List Addr} {ps : List (List Int × Addr × Value)} {kvs : List (PyData × Va)} {ds : List (PyData × PyData)} (p : Paired (PT (Rep prog w X h) (VaRep prog w X as h)) ps kvs) (e : datKv kvs = some ds) : RepT prog w X h ps ds := by
  induction p generalizing ds with
  | nil => cases e; exact .nil
  | @cons v x vs xs a b ih =>
    obtain ⟨k, x⟩ := x
    obtain ⟨e1, hk, a⟩ := a
    cases e1
    cases x with
    | c n => cases e
    | d x =>
      obtain ⟨ds, e2, rfl⟩ := Option.map_eq_some_iff.mp (show (datKv xs).map ((tupK v.1, x) :: ·) = some ds from e)
      exact .cons hk a (ih e2)
theorem St.read (x : St prog w B F as S h) (hS : (B.get? sysModules).isSome = true) {v : Value} {va : Va} {d : PyData} (hv : VaRep prog w (F ++ as) as h v va) (e : rd S va = some d) : RdR prog w (F ++ as) h v d := by
  cases va with
  | d y => cases e; exact .of hv
  | c n =>
    obtain ⟨a, ha, rfl⟩ := hv
    simp only [rd] at e
    have hm : (a == sysModules) = false := by
      rw [beq_eq_false_iff_ne]
      rintro rfl
      rw [x.vol _ (List.mem_append_right _ (List.mem_of_getElem? ha))] at hS; cases hS
    split at e
    · rename_i xs hx
      simp only [Option.map_eq_some_iff] at e
      obtain ⟨ds, e, rfl⟩ := e
      obtain ⟨vs, k, ho, hp⟩ := x.cells n a _ ha hx
      exact .list ho (dats_rep hp e)
    · rename_i kvs hx
      simp only [Option.map_eq_some_iff] at e
      obtain ⟨ds, e, rfl⟩ := e
      rcases x.cells n a _ ha hx with ⟨ps, hd, hp⟩ | ⟨xs, hd, hp⟩
      · exact .dictI hd hm (datKv_repI hp e)
      · exact .dictT hd hm (datKv_repT hp e)
    · cases e
theorem St.liv (x : St prog w B F as S h) : Liv (F ++ as) h := fun b hb => (List.mem_append.mp hb).elim (x.live b) (x.clive b)
theorem St.big (x : St prog w B F as S h) (hS : (B.get? sysModules).isSome = true) : (h.objs.size == sysModules) = false := by
  obtain ⟨o, ho⟩ := Option.isSome_iff_exists.mp hS
  have := Heap.lt_size (x.base _ _ ho)
  rw [beq_eq_false_iff_ne]
  exact fun e => Nat.lt_irrefl _ (e ▸ this)
end
end Mine
end
end
section
open PySem PySem.Calls PySem.W PyProof.Rows
set_option maxRecDepth 100000
set_option Elab.async false
set_option autoImplicit false
set_option linter.unusedVariables false
noncomputable section
namespace Mine
structure Fm (prog : Program) (w : World) (nt : List Str) (B : Heap) (F as : List Addr) (env : Env) (ρ : Ro) (S : Sto) (h : Heap) : Prop where
  st : St prog w B F as S h
  kf : env.scope.kind = .function
  glo : env.globals = mainGlobals
  blt : env.builtins = builtinsNs
  loc : env.locals ∈ F
  ns : ∃ m, h.Ns env.locals m
  cin : ∀ x c, (x, c) ∈ env.cells → c ∈ F ∧ ∃ v, h.IsCell c v
  apart : ∀ x y c, env.cells.lookup x = some c → env.cells.lookup y = some c → x = y
  cel : ∀ x, env.kindOf x = some .cell → ∃ c, env.cells.lookup x = some c
  vars : ∀ i v x, ρ.lookup i = some v → nt[i]? = some x → ∃ val, VaRep prog w (F ++ as) as h val v ∧ (env.kindOf x = some .local → ∃ m, h.Ns env.locals m ∧ m x = some val) ∧ (∀ c, env.kindOf x = some .cell → env.cells.lookup x = some c → h.IsCell c (some val))
noncomputable def Own (env : Env) : List Addr := env.locals :: env.cells.map (·.2)
section
variable {prog : Program} {w : World} {nt : List Str} {B : Heap} {F as nw : List Addr} {env : Env} {ρ : Ro} {S S' : Sto} {h h' : Heap}
theorem Ns.same {a : Addr} {m m' : Str → Option Value} (x : h.Ns a m) (y : h.Ns a m') : m = m' := by
  obtain ⟨o, es, ep, ho, hd, _, hf⟩ := x
  obtain ⟨o', es', ep', ho', hd', _, hf'⟩ := y
  rw [ho] at ho'; cases ho'
  rw [hd] at hd'; cases hd'
  funext z; rw [← hf z, ← hf' z]
theorem Ns.at {a : Addr} {m : Str → Option Value} (x : h.Ns a m) (k : ∀ o, h.get? a = some o → h'.get? a = some o) : h'.Ns a m := let ⟨o, es, ep, ho, r⟩ := x; ⟨o, es, ep, k o ho, r⟩
theorem IsCell.at {a : Addr} {v : Option Value} (x : h.IsCell a v) (k : ∀ o, h.get? a = some o → h'.get? a = some o) : h'.IsCell a v := let ⟨o, ho, r⟩ := x; ⟨o, k o ho, r⟩
theorem Fm.own (x : Fm prog w nt B F as env ρ S h) : ∀ a ∈ Own env, a ∈ F := fun a ha => by
  rcases List.mem_cons.mp ha with rfl | ha
  · exact x.loc
  · obtain ⟨⟨y, c⟩, hp, rfl⟩ := List.mem_map.mp ha
    exact (x.cin y c hp).1
theorem Fm.step (x : Fm prog w nt B F as env ρ S h) (y : St prog w B F (as ++ nw) S' h') (k : Step as h h') (hn : ∀ a ∈ nw, h.get? a = none) : Fm prog w nt B F (as ++ nw) env ρ S' h' := by
  have off : ∀ a ∈ F, ∀ o, h.get? a = some o → h'.get? a = some o := fun a ha o e => k.keep a o (fun q => x.st.off a q ha) e
  refine ⟨y, x.kf, x.glo, x.blt, x.loc, ?_, fun z c hz => ?_, x.apart, x.cel, fun i v z hi hz => ?_⟩
  · obtain ⟨m, hm⟩ := x.ns; exact ⟨m, Ns.at hm (off _ x.loc)⟩
  · obtain ⟨h1, v, h2⟩ := x.cin z c hz; exact ⟨h1, v, IsCell.at h2 (off _ h1)⟩
  · obtain ⟨val, hv, h1, h2⟩ := x.vars i v z hi hz
    refine ⟨val, hv.step k (fun b hb => List.mem_append_right _ hb) (fun b hb => ?_), fun e => ?_, fun c e1 e2 => ?_⟩
    · rw [← List.append_assoc] at hb
      exact (List.mem_append.mp hb).elim .inl fun q => .inr (hn b q)
    · obtain ⟨m, hm, e⟩ := h1 e; exact ⟨m, Ns.at hm (off _ x.loc), e⟩
    · exact IsCell.at (h2 c e1 e2) (off _ (x.cin z c (mem_of_lookup e2)).1)
theorem Fm.same (x : Fm prog w nt B F as env ρ S h) (k : Step [] h h') : Fm prog w nt B F as env ρ S h' := by
  have := x.step (nw := []) (by rw [List.append_nil]; exact x.st.step k (fun _ q => nomatch q)) (k.more fun _ q => nomatch q) (fun _ q => nomatch q)
  rwa [List.append_nil] at this
theorem Fm.ro {ρ' : Ro} (x : Fm prog w nt B F as env ρ S h) (e : ∀ i v, ρ'.lookup i = some v → ρ.lookup i = some v) : Fm prog w nt B F as env ρ' S h :=
  ⟨x.st, x.kf, x.glo, x.blt, x.loc, x.ns, x.cin, x.apart, x.cel, fun i v y hi => x.vars i v y (e i v hi)⟩
theorem lookup_setV (ρ : Ro) (i j : Nat) (v : Va) : (setV ρ i v).lookup j = if j = i then some v else ρ.lookup j := by
  unfold setV
  rw [List.lookup_cons]
  by_cases e : j = i
  · subst e; simp
  · have : (j == i) = false := by simpa using e
    rw [this, if_neg e]
    simp only
    induction ρ with
    | nil => rfl
    | cons p r ih =>
      obtain ⟨k, u⟩ := p
      by_cases hk : k = i
      · subst hk
        simp only [List.filter_cons, bne_self_eq_false, Bool.false_eq_true, if_false, List.lookup_cons, this]
        exact ih
      · have hk' : (k != i) = true := by simpa using hk
        simp only [List.filter_cons, hk', if_true, List.lookup_cons]
        cases j == k
        · exact ih
        · rfl
section
variable {A : Around} {E : Value → Shared → Prop} {s : Shared}
theorem name_var {i : Nat} {v : Va} {x : Str} {pos : Pos} {Q : Value → Shared → Prop} (f : Fm prog w nt B F as env ρ S s.heap) (hi : ρ.lookup i = some v) (hx : nt[i]? = some x) (hk : env.kindOf x = some .local ∨ env.kindOf x = some .cell) (hd : (x == ("__debug__" : Str)) = false)
    (h : ∀ val, VaRep prog w (F ++ as) as s.heap val v → Q val s) : wpAny (model prog w) A (eval (.Name x pos) env) Q E s := by
  obtain ⟨val, hv, h1, h2⟩ := f.vars i v x hi hx
  rcases hk with hk | hk
  · obtain ⟨m, hm, e⟩ := h1 hk
    exact wpAny_Name (wpAny_loadName_local f.kf hk hm e (h val hv)) hd
  · obtain ⟨c, hc⟩ := f.cel x hk
    exact wpAny_Name (wpAny_loadName_cell f.kf hk hc (h2 c hk hc) (h val hv)) hd
theorem idx_inj (hnd : nt.Nodup) {i j : Nat} {x : Str} (hi : nt[i]? = some x) (hj : nt[j]? = some x) : i = j := by
  obtain ⟨l1, e1⟩ := List.getElem?_eq_some_iff.mp hi
  obtain ⟨l2, e2⟩ := List.getElem?_eq_some_iff.mp hj
  exact (List.getElem_inj hnd).mp (e1.trans e2.symm)
theorem store_var {W : List Addr} {i : Nat} {v : Va} {val : Value} {x : Str} {Q : Unit → Shared → Prop} (hWF : ∀ a ∈ W, a ∈ F) (hWL : env.locals ∈ W) (hWc : ∀ c, env.kindOf x = some .cell → env.cells.lookup x = some c → c ∈ W) (hnd : nt.Nodup) (f : Fm prog w nt B F as env ρ S s.heap) (hx : nt[i]? = some x) (hk : env.kindOf x = some .local ∨ env.kindOf x = some .cell) (hv : VaRep prog w (F ++ as) as s.heap val v)
    (h : ∀ h' tk, Fm prog w nt B F as env (setV ρ i v) S h' → Step W s.heap h' → Q () { s with heap := h', toks := tk }) : wpAny (model prog w) A (storeName env x val) Q E s := by
  have vs : ∀ {h' : Heap} {a : Addr}, a ∈ W → Step [a] s.heap h' → ∀ {val : Value} {v : Va}, VaRep prog w (F ++ as) as s.heap val v → VaRep prog w (F ++ as) as h' val v := fun ha k val v hv => by
    have := hv.step (X' := F ++ as) (nw := []) k (fun b hb => by rw [List.mem_singleton.mp hb]; exact List.mem_append_left _ (hWF _ ha)) (fun b hb => .inl hb)
    rwa [List.append_nil] at this
  rcases hk with hk | hk
  · obtain ⟨m, hm⟩ := f.ns
    refine wpAny_storeName_local hk hm (fun h' hm' hs => ?_) (by rw [f.kf]; rfl)
    have k : Step [env.locals] s.heap h' := Step.sameBut hs (List.mem_singleton.mpr rfl) (by obtain ⟨o, _, _, ho, _⟩ := hm'; rw [ho]; rfl)
    refine h h' _ ⟨f.st.step k (fun b hb => by rw [List.mem_singleton.mp hb]; exact f.loc), f.kf, f.glo, f.blt, f.loc, ⟨_, hm'⟩, fun y c hy => ?_, f.apart, f.cel, fun j u y hj hy => ?_⟩ (k.more fun b hb => by rw [List.mem_singleton.mp hb]; exact hWL)
    · obtain ⟨h1, u, h2⟩ := f.cin y c hy
      have hne : c ≠ env.locals := by
        rintro rfl
        obtain ⟨o, _, _, ho, hd, _⟩ := hm
        obtain ⟨o', ho', hd'⟩ := h2
        rw [ho] at ho'; cases ho'; rw [hd] at hd'; cases hd'
      exact ⟨h1, u, h2.sameBut hs hne⟩
    · rw [lookup_setV] at hj
      by_cases e : j = i
      · subst e
        rw [if_pos rfl] at hj; cases hj
        rw [hx] at hy; cases hy
        exact ⟨val, vs hWL k hv, fun _ => ⟨_, hm', by simp⟩, (fun c e1 _ => by rw [hk] at e1; cases e1)⟩
      · rw [if_neg e] at hj
        obtain ⟨val', hv', h1, h2⟩ := f.vars j u y hj hy
        refine ⟨val', vs hWL k hv', fun e1 => ?_, fun c e1 e2 => ?_⟩
        · obtain ⟨m₁, hm₁, e3⟩ := h1 e1
          have := Ns.same hm hm₁; subst this
          refine ⟨_, hm', ?_⟩
          have hyx : y ≠ x := fun q => e (idx_inj hnd (q ▸ hy) hx)
          simp only [hyx, if_false]; exact e3
        · have hne : c ≠ env.locals := by
            rintro rfl
            obtain ⟨o, _, _, ho, hd, _⟩ := hm
            obtain ⟨o', ho', hd'⟩ := h2 _ e1 e2
            rw [ho] at ho'; cases ho'; rw [hd] at hd'; cases hd'
          exact (h2 c e1 e2).sameBut hs hne
  · obtain ⟨c, hc⟩ := f.cel x hk
    obtain ⟨hcF, u, hcu⟩ := f.cin x c (mem_of_lookup hc)
    refine wpAny_storeName_cell f.kf hk hc hcu fun h' hc' hs => ?_
    have hcO : c ∈ W := hWc c hk hc
    have k : Step [c] s.heap h' := Step.sameBut hs (List.mem_singleton.mpr rfl) (by obtain ⟨o, ho, _⟩ := hc'; rw [ho]; rfl)
    have hLc : ∀ {m : Str → Option Value}, s.heap.Ns env.locals m → env.locals ≠ c := fun hm => by
      rintro rfl
      obtain ⟨o, _, _, ho, hd, _⟩ := hm
      obtain ⟨o', ho', hd'⟩ := hcu
      rw [ho] at ho'; cases ho'; rw [hd] at hd'; cases hd'
    refine h h' s.toks ⟨f.st.step k (fun b hb => by rw [List.mem_singleton.mp hb]; exact hcF), f.kf, f.glo, f.blt, f.loc, ?_, fun y d hy => ?_, f.apart, f.cel, fun j u y hj hy => ?_⟩ (k.more fun b hb => by rw [List.mem_singleton.mp hb]; exact hcO)
    · obtain ⟨m, hm⟩ := f.ns
      exact ⟨m, hm.sameBut hs (hLc hm)⟩
    · obtain ⟨h1, u, h2⟩ := f.cin y d hy
      by_cases e : d = c
      · subst e; exact ⟨h1, _, hc'⟩
      · exact ⟨h1, u, h2.sameBut hs e⟩
    · rw [lookup_setV] at hj
      by_cases e : j = i
      · subst e
        rw [if_pos rfl] at hj; cases hj
        rw [hx] at hy; cases hy
        exact ⟨val, vs hcO k hv, (fun e1 => by rw [hk] at e1; cases e1), (fun d e1 e2 => by rw [hc] at e2; cases e2; exact hc')⟩
      · rw [if_neg e] at hj
        obtain ⟨val', hv', h1, h2⟩ := f.vars j u y hj hy
        refine ⟨val', vs hcO k hv', fun e1 => ?_, fun d e1 e2 => ?_⟩
        · obtain ⟨m₁, hm₁, e3⟩ := h1 e1
          exact ⟨_, hm₁.sameBut hs (hLc hm₁), e3⟩
        · have hyx : y ≠ x := fun q => e (idx_inj hnd (q ▸ hy) hx)
          exact (h2 d e1 e2).sameBut hs fun q => hyx (f.apart y x c (q ▸ e2) hc)
noncomputable def nmOk (nt : List Str) (ks : List (Str × NameKind)) (i : Nat) (x : Str) : Bool := nt[i]? == some x && (ks.lookup x == some .local || ks.lookup x == some .cell) && !(x == ("__debug__" : Str))
theorem nmOk_inv {ks : List (Str × NameKind)} {i : Nat} {x : Str} (e : nmOk nt ks i x = true) : nt[i]? = some x ∧ (ks.lookup x = some .local ∨ ks.lookup x = some .cell) ∧ (x == ("__debug__" : Str)) = false := by
  simp only [nmOk, Bool.and_eq_true, Bool.or_eq_true, beq_iff_eq, Bool.not_eq_true'] at e
  exact ⟨e.1.1, e.1.2, e.2⟩
theorem stores {W : List Addr} (hWF : ∀ a ∈ W, a ∈ F) (hWL : env.locals ∈ W) (hWc : ∀ x c, env.kindOf x = some .cell → env.cells.lookup x = some c → c ∈ W) (hnd : nt.Nodup) {go : Str → Value → Sem Unit} (hgo : ∀ (x : Str) (val : Value) (Q : Unit → Shared → Prop) (s : Shared), wpAny (model prog w) A (storeName env x val) Q E s → wpAny (model prog w) A (go x val) Q E s) :
    ∀ (is : List Nat) (xs : List Str) (vs : List Value) (ds : List PyData) (ρ ρ' : Ro) (s : Shared) (Q : Unit → Shared → Prop), Paired (fun i x => nmOk nt env.scope.names i x = true) is xs → setAll ρ is ds = some ρ' → Fm prog w nt B F as env ρ S s.heap → RepL prog w (F ++ as) s.heap vs ds →
      (∀ h' tk, Fm prog w nt B F as env ρ' S h' → Step W s.heap h' → Q () { s with heap := h', toks := tk }) → wpAny (model prog w) A (assignInOrder (xs.map go) vs) Q E s := by
  intro is
  induction is with
  | nil =>
    intro xs vs ds ρ ρ' s Q hp he f hr h
    cases hp
    cases hr with
    | nil => cases he; exact assignInOrder_nil (h _ s.toks f Step.refl)
    | cons _ _ => cases he
  | cons i is ih =>
    intro xs vs ds ρ ρ' s Q hp he f hr h
    cases hp with
    | @cons _ x _ xs hx hp =>
      cases hr with
      | nil => cases he
      | @cons v d vs ds hv hr =>
        obtain ⟨h1, h2, h3⟩ := nmOk_inv hx
        refine assignInOrder_cons (hgo _ _ _ _ (store_var (v := .d d) hWF hWL (hWc x) hnd f h1 h2 hv fun h' tk f' k => ?_))
        refine ih xs vs ds _ ρ' _ Q hp he f' (RepL.keep k (fun b hb => List.mem_append_left _ (hWF b hb)) hr) fun h'' tk' f'' k' => h h'' tk' f'' (k.trans k')
end
end
theorem nope {p : Prop} (h : false = true) : p := absurd h Bool.false_ne_true
noncomputable def tgNames : Expr → List Str
  | .Name x _ => [x]
  | .Tuple ts _ _ => ts.filterMap fun | .Name x _ => some x | _ => none
  | _ => []
noncomputable def tgOk (nt : List Str) (ks : List (Str × NameKind)) : Tg → Expr → Bool
  | .nm i, .Name x _ => nmOk nt ks i x
  | .tup is, .Tuple ts _ _ => decide is.Nodup && (is.length == ts.length) && (is.zip ts).all fun p => match p.2 with
    | .Name x _ => nmOk nt ks p.1 x
    | _ => false
  | _, _ => false
section
variable {prog : Program} {w : World} {nt : List Str} {B : Heap} {F as nw : List Addr} {env : Env} {ρ ρ' : Ro} {S S' : Sto} {A : Around} {E : Value → Shared → Prop} {s : Shared}
theorem tg_names {ks : List (Str × NameKind)} {is : List Nat} : ∀ {ts : List Expr}, is.length = ts.length → ((is.zip ts).all fun p => match p.2 with | .Name x _ => nmOk nt ks p.1 x | _ => false) = true →
    ∃ ps : List (Str × Pos), ts = ps.map (fun p => Expr.Name p.1 p.2) ∧ Paired (fun i x => nmOk nt ks i x = true) is (ps.map (·.1)) := by
  induction is with
  | nil => intro ts e h; cases ts with
    | nil => exact ⟨[], rfl, .nil⟩
    | cons _ _ => exact nomatch e
  | cons i is ih =>
    intro ts e h
    cases ts with
    | nil => exact nomatch e
    | cons t ts => ?_
    have h := Bool.and_eq_true_iff.mp h
    obtain ⟨ps, h1, h2⟩ := ih (ts := ts) (Nat.succ.inj e) h.2
    have h3 := h.1
    clear h
    induction t using PySem.Expr.casesOn <;> first | exact nope h3 | skip
    rename_i x pos
    exact ⟨(x, pos) :: ps, by rw [h1]; rfl, .cons h3 h2⟩
theorem tg_e {ks : List (Str × NameKind)} {P : Tg → Expr → Prop} {tg : Tg} {t : Expr} (h : tgOk nt ks tg t = true) (h1 : ∀ i x p, nmOk nt ks i x = true → P (.nm i) (.Name x p))
    (h2 : ∀ (is : List Nat) (ps : List (Str × Pos)) n p, is.Nodup → Paired (fun i x => nmOk nt ks i x = true) is (ps.map (·.1)) → P (.tup is) (.Tuple (ps.map fun q => Expr.Name q.1 q.2) n p)) : P tg t := by
  cases tg with
  | nm i =>
    induction t using PySem.Expr.casesOn <;> first | exact nope h | skip
    exact h1 _ _ _ h
  | tup is =>
    induction t using PySem.Expr.casesOn <;> first | exact nope h | skip
    rename_i ts n p
    have h := Bool.and_eq_true_iff.mp h
    have h3 := Bool.and_eq_true_iff.mp h.1
    obtain ⟨ps, rfl, hp⟩ := tg_names (eq_of_beq h3.2) h.2
    exact h2 _ _ _ _ (of_decide_eq_true h3.1) hp
theorem setAll_len (is : List Nat) (ds : List PyData) (ρ ρ' : Ro) (e : setAll ρ is ds = some ρ') : is.length = ds.length := by
  induction is generalizing ds ρ with
  | nil => cases ds with
    | nil => rfl
    | cons _ _ => cases e
  | cons i is ih => cases ds with
    | nil => cases e
    | cons d ds => exact congrArg (· + 1) (ih ds _ e)
theorem bind_tup {is : List Nat} {v : Va} {ρ ρ' : Ro} (e : bindTg (.tup is) v ρ = some ρ') : ∃ xs, v = .d (.tuple xs) ∧ setAll ρ is xs = some ρ' := by
  cases v with
  | c n => cases e
  | d y => cases y with
    | tuple xs => exact ⟨xs, rfl, e⟩
    | _ => cases e
theorem assignEach_names : ∀ (ps : List (Str × Pos)), assignEach (ps.map fun p => Expr.Name p.1 p.2) env = ps.map fun p => (false, fun v => assign (.Name p.1 p.2) env v)
  | [] => rfl
  | p :: r => by rw [List.map_cons, List.map_cons, ← assignEach_names r]; rfl
theorem assign_tg {W : List Addr} {tg : Tg} {t : Expr} {v : Va} {val : Value} {Q : Unit → Shared → Prop} (hWF : ∀ a ∈ W, a ∈ F) (hWL : env.locals ∈ W) (hWc : ∀ x ∈ tgNames t, ∀ c, env.kindOf x = some .cell → env.cells.lookup x = some c → c ∈ W) (hnd : nt.Nodup) (hh : A.handled = none) (ht : tgOk nt env.scope.names tg t = true) (e : bindTg tg v ρ = some ρ') (f : Fm prog w nt B F as env ρ S s.heap) (hv : VaRep prog w (F ++ as) as s.heap val v)
    (h : ∀ h' tk, Fm prog w nt B F as env ρ' S h' → Step W s.heap h' → Q () { s with heap := h', toks := tk }) : wpAny (model prog w) A (assign t env val) Q E s := by
  revert hWc e
  apply tg_e (tg := tg) (t := t) ht
  · intro i x p ht hWc e
    cases e
    obtain ⟨h1, h2, h3⟩ := nmOk_inv ht
    exact wpAny_assign_Name (store_var hWF hWL (hWc _ (.head _)) hnd f h1 h2 hv h)
  · intro is ps k pos hnd2 hp hWc e
    obtain ⟨xs, rfl, e⟩ := bind_tup e
    obtain ⟨a, vs, n, rfl, ho, ha, hl⟩ := (RdR.of hv).tup_inv
    have hlen := RepL.length hl
    have hl2 := setAll_len _ _ _ _ e
    have hl3 := Paired.length hp
    refine wpAny_assign_Tuple (items := vs.toArray) hh ⟨_, ho, rfl, _, rfl⟩ (by rw [assignEach_names]; simp at hl3 ⊢; lia) (by rw [assignEach_names]; clear hp hl3 hWc; induction ps with
      | nil => rfl
      | cons p r ih => simp [List.findIdx?_cons] at ih ⊢) fun h' hk => ?_
    rw [assignEach_names, List.map_map]
    have k : Step [] s.heap h' := Step.of_keep fun b o e => hk b o (Nat.ne_of_lt (Heap.lt_size e)) e
    have e1 : ((fun p : Bool × (Value → Sem Unit) => p.2) ∘ fun p : Str × Pos => (false, fun v => assign (.Name p.1 p.2) env v)) = fun p : Str × Pos => fun v => assign (.Name p.1 p.2) env v := rfl
    rw [e1]
    have go : ∀ (is : List Nat) (ps : List (Str × Pos)) (vs : List Value) (ds : List PyData) (ρ ρ' : Ro) (s : Shared) (Q : Unit → Shared → Prop), (∀ p ∈ ps, ∀ c, env.kindOf p.1 = some .cell → env.cells.lookup p.1 = some c → c ∈ W) → Paired (fun i x => nmOk nt env.scope.names i x = true) is (ps.map (·.1)) → setAll ρ is ds = some ρ' → Fm prog w nt B F as env ρ S s.heap → RepL prog w (F ++ as) s.heap vs ds →
        (∀ h' tk, Fm prog w nt B F as env ρ' S h' → Step W s.heap h' → Q () { s with heap := h', toks := tk }) → wpAny (model prog w) A (assignInOrder (ps.map fun p => fun v => assign (.Name p.1 p.2) env v) vs) Q E s := by
      intro is
      induction is with
      | nil =>
        intro ps vs ds ρ ρ' s Q hwc hp he f hr h
        cases ps with
        | nil =>
          cases hr with
          | nil => cases he; exact assignInOrder_nil (h _ s.toks f Step.refl)
          | cons _ _ => cases he
        | cons _ _ => cases hp
      | cons i is ih =>
        intro ps vs ds ρ ρ' s Q hwc hp he f hr h
        cases ps with
        | nil => cases hp
        | cons p ps =>
          cases hp with
          | cons hx hp =>
            cases hr with
            | nil => cases he
            | @cons v d vs ds hv hr =>
              obtain ⟨h1, h2, h3⟩ := nmOk_inv hx
              refine assignInOrder_cons (wpAny_assign_Name (store_var (v := .d d) hWF hWL (hwc p (.head _)) hnd f h1 h2 hv fun h' tk f' k => ?_))
              exact ih ps vs ds _ ρ' _ Q (fun q hq => hwc q (.tail _ hq)) hp he f' (RepL.keep k (fun b hb => List.mem_append_left _ (hWF b hb)) hr) fun h'' tk' f'' k' => h h'' tk' f'' (k.trans k')
    have hwc : ∀ p ∈ ps, ∀ c, env.kindOf p.1 = some .cell → env.cells.lookup p.1 = some c → c ∈ W := fun p hp => hWc p.1 (by
      show p.1 ∈ List.filterMap _ (ps.map fun p => Expr.Name p.1 p.2)
      exact List.mem_filterMap.mpr ⟨_, List.mem_map.mpr ⟨p, hp, rfl⟩, rfl⟩)
    refine go is ps vs xs ρ ρ' _ Q hwc hp e (f.same k) (by simpa using RepL.keep k (fun _ q => nomatch q) hl) fun h'' tk f' k' => h h'' tk f' ((k.more fun _ q => nomatch q).trans k')
end
end Mine
end
end
section
open PySem PySem.Calls PySem.W PyProof.Rows
set_option maxRecDepth 100000
set_option Elab.async false
set_option autoImplicit false
set_option linter.unusedVariables false
noncomputable section
namespace Mine
structure Tb where
  nt : List Str
  ft : List Str
  ct : List (Str × Int)
noncomputable def Bi.nm : Bi → Str
  | .abs => "abs" | .len => "len" | .dict => "dict" | .list => "list" | .tuple => "tuple" | .sorted => "sorted" | .min => "min"
abbrev Ks := List (Str × NameKind)
noncomputable def relK (names ks : Ks) : Ks := names.map fun (n, k) => if (k == NameKind.free && ks.lookup n == some NameKind.cell) then (n, NameKind.cell) else (n, k)
noncomputable def scOk (ks : Ks) (t : Expr) (sc : Scope) : Bool := sc.kind == .function && sc.names.all fun p =>
  p.2 != .cell && (p.2 != .local || (sc.names.lookup p.1 == some .local && (tgNames t).contains p.1 || p.1 == (".0" : Str) && sc.names.lookup p.1 == some .local)) && (p.2 != .free || ks.lookup p.1 == some .cell)
noncomputable def notStar (x : Expr) : Bool := @PySem.Expr.casesOn (fun _ => Bool) x (fun _ _ _ => true) (fun _ _ _ => true) (fun _ _ _ _ => true) (fun _ _ _ => true) (fun _ _ _ _ => true) (fun _ _ _ _ => true) (fun _ _ _ => true) (fun _ _ _ => true) (fun _ _ _ _ => true) (fun _ _ _ _ => true) (fun _ _ _ _ _ => true) (fun _ _ _ _ => true) (fun _ _ => true) (fun _ _ => true) (fun _ _ => true) (fun _ _ _ _ => true) (fun _ _ _ _ => true) (fun _ _ _ _ => true) (fun _ _ => true) (fun _ _ _ => true) (fun _ _ _ => true) (fun _ _ _ => true) (fun _ _ => false) (fun _ _ => true) (fun _ _ => true) (fun _ _ _ => true) (fun _ _ _ _ => true)
noncomputable def notSet (x : Expr) : Bool := @PySem.Expr.casesOn (fun _ => Bool) x (fun _ _ _ => true) (fun _ _ _ => true) (fun _ _ _ _ => true) (fun _ _ _ => true) (fun _ _ _ _ => true) (fun _ _ _ _ => true) (fun _ _ _ => true) (fun _ _ _ => false) (fun _ _ _ _ => true) (fun _ _ _ _ => true) (fun _ _ _ _ _ => true) (fun _ _ _ _ => true) (fun _ _ => true) (fun _ _ => true) (fun _ _ => true) (fun _ _ _ _ => true) (fun _ _ _ _ => true) (fun _ _ _ _ => true) (fun _ _ => true) (fun _ _ _ => true) (fun _ _ _ => true) (fun _ _ _ => true) (fun _ _ => true) (fun _ _ => true) (fun _ _ => true) (fun _ _ _ => true) (fun _ _ _ _ => true)
noncomputable def onConst (x : Expr) (f : Const → Nat → Pos → Bool) : Bool := @PySem.Expr.casesOn (fun _ => Bool) x (fun _ _ _ => false) (fun _ _ _ => false) (fun _ _ _ _ => false) (fun _ _ _ => false) (fun _ _ _ _ => false) (fun _ _ _ _ => false) (fun _ _ _ => false) (fun _ _ _ => false) (fun _ _ _ _ => false) (fun _ _ _ _ => false) (fun _ _ _ _ _ => false) (fun _ _ _ _ => false) (fun _ _ => false) (fun _ _ => false) (fun _ _ => false) (fun _ _ _ _ => false) (fun _ _ _ _ => false) (fun _ _ _ _ => false) (fun _ _ => false) f (fun _ _ _ => false) (fun _ _ _ => false) (fun _ _ => false) (fun _ _ => false) (fun _ _ => false) (fun _ _ _ => false) (fun _ _ _ _ => false)
theorem onConst_e {P : Expr → Prop} {x : Expr} {f : Const → Nat → Pos → Bool} (h : onConst x f = true) (k : ∀ (x0 : Const) (x1 : Nat) (x2 : Pos), f x0 x1 x2 = true → P (.Constant x0 x1 x2)) : P x := by
  induction x using PySem.Expr.casesOn <;> first | exact nope h | exact k _ _ _ h
noncomputable def onName (x : Expr) (f : Str → Pos → Bool) : Bool := @PySem.Expr.casesOn (fun _ => Bool) x (fun _ _ _ => false) (fun _ _ _ => false) (fun _ _ _ _ => false) (fun _ _ _ => false) (fun _ _ _ _ => false) (fun _ _ _ _ => false) (fun _ _ _ => false) (fun _ _ _ => false) (fun _ _ _ _ => false) (fun _ _ _ _ => false) (fun _ _ _ _ _ => false) (fun _ _ _ _ => false) (fun _ _ => false) (fun _ _ => false) (fun _ _ => false) (fun _ _ _ _ => false) (fun _ _ _ _ => false) (fun _ _ _ _ => false) (fun _ _ => false) (fun _ _ _ => false) (fun _ _ _ => false) (fun _ _ _ => false) (fun _ _ => false) f (fun _ _ => false) (fun _ _ _ => false) (fun _ _ _ _ => false)
theorem onName_e {P : Expr → Prop} {x : Expr} {f : Str → Pos → Bool} (h : onName x f = true) (k : ∀ (x0 : Str) (x1 : Pos), f x0 x1 = true → P (.Name x0 x1)) : P x := by
  induction x using PySem.Expr.casesOn <;> first | exact nope h | exact k _ _ h
noncomputable def onBin (x : Expr) (f : Expr → Operator → Expr → Pos → Bool) : Bool := @PySem.Expr.casesOn (fun _ => Bool) x (fun _ _ _ => false) (fun _ _ _ => false) f (fun _ _ _ => false) (fun _ _ _ _ => false) (fun _ _ _ _ => false) (fun _ _ _ => false) (fun _ _ _ => false) (fun _ _ _ _ => false) (fun _ _ _ _ => false) (fun _ _ _ _ _ => false) (fun _ _ _ _ => false) (fun _ _ => false) (fun _ _ => false) (fun _ _ => false) (fun _ _ _ _ => false) (fun _ _ _ _ => false) (fun _ _ _ _ => false) (fun _ _ => false) (fun _ _ _ => false) (fun _ _ _ => false) (fun _ _ _ => false) (fun _ _ => false) (fun _ _ => false) (fun _ _ => false) (fun _ _ _ => false) (fun _ _ _ _ => false)
theorem onBin_e {P : Expr → Prop} {x : Expr} {f : Expr → Operator → Expr → Pos → Bool} (h : onBin x f = true) (k : ∀ (x0 : Expr) (x1 : Operator) (x2 : Expr) (x3 : Pos), f x0 x1 x2 x3 = true → P (.BinOp x0 x1 x2 x3)) : P x := by
  induction x using PySem.Expr.casesOn <;> first | exact nope h | exact k _ _ _ _ h
noncomputable def onUn (x : Expr) (f : UnaryOp → Expr → Pos → Bool) : Bool := @PySem.Expr.casesOn (fun _ => Bool) x (fun _ _ _ => false) (fun _ _ _ => false) (fun _ _ _ _ => false) f (fun _ _ _ _ => false) (fun _ _ _ _ => false) (fun _ _ _ => false) (fun _ _ _ => false) (fun _ _ _ _ => false) (fun _ _ _ _ => false) (fun _ _ _ _ _ => false) (fun _ _ _ _ => false) (fun _ _ => false) (fun _ _ => false) (fun _ _ => false) (fun _ _ _ _ => false) (fun _ _ _ _ => false) (fun _ _ _ _ => false) (fun _ _ => false) (fun _ _ _ => false) (fun _ _ _ => false) (fun _ _ _ => false) (fun _ _ => false) (fun _ _ => false) (fun _ _ => false) (fun _ _ _ => false) (fun _ _ _ _ => false)
theorem onUn_e {P : Expr → Prop} {x : Expr} {f : UnaryOp → Expr → Pos → Bool} (h : onUn x f = true) (k : ∀ (x0 : UnaryOp) (x1 : Expr) (x2 : Pos), f x0 x1 x2 = true → P (.UnaryOp x0 x1 x2)) : P x := by
  induction x using PySem.Expr.casesOn <;> first | exact nope h | exact k _ _ _ h
noncomputable def onCmp (x : Expr) (f : Expr → List CmpOp → List Expr → Pos → Bool) : Bool := @PySem.Expr.casesOn (fun _ => Bool) x (fun _ _ _ => false) (fun _ _ _ => false) (fun _ _ _ _ => false) (fun _ _ _ => false) (fun _ _ _ _ => false) (fun _ _ _ _ => false) (fun _ _ _ => false) (fun _ _ _ => false) (fun _ _ _ _ => false) (fun _ _ _ _ => false) (fun _ _ _ _ _ => false) (fun _ _ _ _ => false) (fun _ _ => false) (fun _ _ => false) (fun _ _ => false) f (fun _ _ _ _ => false) (fun _ _ _ _ => false) (fun _ _ => false) (fun _ _ _ => false) (fun _ _ _ => false) (fun _ _ _ => false) (fun _ _ => false) (fun _ _ => false) (fun _ _ => false) (fun _ _ _ => false) (fun _ _ _ _ => false)
theorem onCmp_e {P : Expr → Prop} {x : Expr} {f : Expr → List CmpOp → List Expr → Pos → Bool} (h : onCmp x f = true) (k : ∀ (x0 : Expr) (x1 : List CmpOp) (x2 : List Expr) (x3 : Pos), f x0 x1 x2 x3 = true → P (.Compare x0 x1 x2 x3)) : P x := by
  induction x using PySem.Expr.casesOn <;> first | exact nope h | exact k _ _ _ _ h
noncomputable def onBop (x : Expr) (f : BoolOp → List Expr → Pos → Bool) : Bool := @PySem.Expr.casesOn (fun _ => Bool) x f (fun _ _ _ => false) (fun _ _ _ _ => false) (fun _ _ _ => false) (fun _ _ _ _ => false) (fun _ _ _ _ => false) (fun _ _ _ => false) (fun _ _ _ => false) (fun _ _ _ _ => false) (fun _ _ _ _ => false) (fun _ _ _ _ _ => false) (fun _ _ _ _ => false) (fun _ _ => false) (fun _ _ => false) (fun _ _ => false) (fun _ _ _ _ => false) (fun _ _ _ _ => false) (fun _ _ _ _ => false) (fun _ _ => false) (fun _ _ _ => false) (fun _ _ _ => false) (fun _ _ _ => false) (fun _ _ => false) (fun _ _ => false) (fun _ _ => false) (fun _ _ _ => false) (fun _ _ _ _ => false)
theorem onBop_e {P : Expr → Prop} {x : Expr} {f : BoolOp → List Expr → Pos → Bool} (h : onBop x f = true) (k : ∀ (x0 : BoolOp) (x1 : List Expr) (x2 : Pos), f x0 x1 x2 = true → P (.BoolOp x0 x1 x2)) : P x := by
  induction x using PySem.Expr.casesOn <;> first | exact nope h | exact k _ _ _ h
noncomputable def onIfE (x : Expr) (f : Expr → Expr → Expr → Pos → Bool) : Bool := @PySem.Expr.casesOn (fun _ => Bool) x (fun _ _ _ => false) (fun _ _ _ => false) (fun _ _ _ _ => false) (fun _ _ _ => false) (fun _ _ _ _ => false) f (fun _ _ _ => false) (fun _ _ _ => false) (fun _ _ _ _ => false) (fun _ _ _ _ => false) (fun _ _ _ _ _ => false) (fun _ _ _ _ => false) (fun _ _ => false) (fun _ _ => false) (fun _ _ => false) (fun _ _ _ _ => false) (fun _ _ _ _ => false) (fun _ _ _ _ => false) (fun _ _ => false) (fun _ _ _ => false) (fun _ _ _ => false) (fun _ _ _ => false) (fun _ _ => false) (fun _ _ => false) (fun _ _ => false) (fun _ _ _ => false) (fun _ _ _ _ => false)
theorem onIfE_e {P : Expr → Prop} {x : Expr} {f : Expr → Expr → Expr → Pos → Bool} (h : onIfE x f = true) (k : ∀ (x0 : Expr) (x1 : Expr) (x2 : Expr) (x3 : Pos), f x0 x1 x2 x3 = true → P (.IfExp x0 x1 x2 x3)) : P x := by
  induction x using PySem.Expr.casesOn <;> first | exact nope h | exact k _ _ _ _ h
noncomputable def onTup (x : Expr) (f : List Expr → Nat → Pos → Bool) : Bool := @PySem.Expr.casesOn (fun _ => Bool) x (fun _ _ _ => false) (fun _ _ _ => false) (fun _ _ _ _ => false) (fun _ _ _ => false) (fun _ _ _ _ => false) (fun _ _ _ _ => false) (fun _ _ _ => false) (fun _ _ _ => false) (fun _ _ _ _ => false) (fun _ _ _ _ => false) (fun _ _ _ _ _ => false) (fun _ _ _ _ => false) (fun _ _ => false) (fun _ _ => false) (fun _ _ => false) (fun _ _ _ _ => false) (fun _ _ _ _ => false) (fun _ _ _ _ => false) (fun _ _ => false) (fun _ _ _ => false) (fun _ _ _ => false) (fun _ _ _ => false) (fun _ _ => false) (fun _ _ => false) (fun _ _ => false) f (fun _ _ _ _ => false)
theorem onTup_e {P : Expr → Prop} {x : Expr} {f : List Expr → Nat → Pos → Bool} (h : onTup x f = true) (k : ∀ (x0 : List Expr) (x1 : Nat) (x2 : Pos), f x0 x1 x2 = true → P (.Tuple x0 x1 x2)) : P x := by
  induction x using PySem.Expr.casesOn <;> first | exact nope h | exact k _ _ _ h
noncomputable def onLst (x : Expr) (f : List Expr → Pos → Bool) : Bool := @PySem.Expr.casesOn (fun _ => Bool) x (fun _ _ _ => false) (fun _ _ _ => false) (fun _ _ _ _ => false) (fun _ _ _ => false) (fun _ _ _ _ => false) (fun _ _ _ _ => false) (fun _ _ _ => false) (fun _ _ _ => false) (fun _ _ _ _ => false) (fun _ _ _ _ => false) (fun _ _ _ _ _ => false) (fun _ _ _ _ => false) (fun _ _ => false) (fun _ _ => false) (fun _ _ => false) (fun _ _ _ _ => false) (fun _ _ _ _ => false) (fun _ _ _ _ => false) (fun _ _ => false) (fun _ _ _ => false) (fun _ _ _ => false) (fun _ _ _ => false) (fun _ _ => false) (fun _ _ => false) f (fun _ _ _ => false) (fun _ _ _ _ => false)
theorem onLst_e {P : Expr → Prop} {x : Expr} {f : List Expr → Pos → Bool} (h : onLst x f = true) (k : ∀ (x0 : List Expr) (x1 : Pos), f x0 x1 = true → P (.List x0 x1)) : P x := by
  induction x using PySem.Expr.casesOn <;> first | exact nope h | exact k _ _ h
noncomputable def onDct (x : Expr) (f : List (Option Expr) → List Expr → Pos → Bool) : Bool := @PySem.Expr.casesOn (fun _ => Bool) x (fun _ _ _ => false) (fun _ _ _ => false) (fun _ _ _ _ => false) (fun _ _ _ => false) (fun _ _ _ _ => false) (fun _ _ _ _ => false) f (fun _ _ _ => false) (fun _ _ _ _ => false) (fun _ _ _ _ => false) (fun _ _ _ _ _ => false) (fun _ _ _ _ => false) (fun _ _ => false) (fun _ _ => false) (fun _ _ => false) (fun _ _ _ _ => false) (fun _ _ _ _ => false) (fun _ _ _ _ => false) (fun _ _ => false) (fun _ _ _ => false) (fun _ _ _ => false) (fun _ _ _ => false) (fun _ _ => false) (fun _ _ => false) (fun _ _ => false) (fun _ _ _ => false) (fun _ _ _ _ => false)
theorem onDct_e {P : Expr → Prop} {x : Expr} {f : List (Option Expr) → List Expr → Pos → Bool} (h : onDct x f = true) (k : ∀ (x0 : List (Option Expr)) (x1 : List Expr) (x2 : Pos), f x0 x1 x2 = true → P (.Dict x0 x1 x2)) : P x := by
  induction x using PySem.Expr.casesOn <;> first | exact nope h | exact k _ _ _ h
noncomputable def onSub (x : Expr) (f : Expr → Expr → Pos → Bool) : Bool := @PySem.Expr.casesOn (fun _ => Bool) x (fun _ _ _ => false) (fun _ _ _ => false) (fun _ _ _ _ => false) (fun _ _ _ => false) (fun _ _ _ _ => false) (fun _ _ _ _ => false) (fun _ _ _ => false) (fun _ _ _ => false) (fun _ _ _ _ => false) (fun _ _ _ _ => false) (fun _ _ _ _ _ => false) (fun _ _ _ _ => false) (fun _ _ => false) (fun _ _ => false) (fun _ _ => false) (fun _ _ _ _ => false) (fun _ _ _ _ => false) (fun _ _ _ _ => false) (fun _ _ => false) (fun _ _ _ => false) (fun _ _ _ => false) f (fun _ _ => false) (fun _ _ => false) (fun _ _ => false) (fun _ _ _ => false) (fun _ _ _ _ => false)
theorem onSub_e {P : Expr → Prop} {x : Expr} {f : Expr → Expr → Pos → Bool} (h : onSub x f = true) (k : ∀ (x0 : Expr) (x1 : Expr) (x2 : Pos), f x0 x1 x2 = true → P (.Subscript x0 x1 x2)) : P x := by
  induction x using PySem.Expr.casesOn <;> first | exact nope h | exact k _ _ _ h
noncomputable def onSlc (x : Expr) (f : Option Expr → Option Expr → Option Expr → Pos → Bool) : Bool := @PySem.Expr.casesOn (fun _ => Bool) x (fun _ _ _ => false) (fun _ _ _ => false) (fun _ _ _ _ => false) (fun _ _ _ => false) (fun _ _ _ _ => false) (fun _ _ _ _ => false) (fun _ _ _ => false) (fun _ _ _ => false) (fun _ _ _ _ => false) (fun _ _ _ _ => false) (fun _ _ _ _ _ => false) (fun _ _ _ _ => false) (fun _ _ => false) (fun _ _ => false) (fun _ _ => false) (fun _ _ _ _ => false) (fun _ _ _ _ => false) (fun _ _ _ _ => false) (fun _ _ => false) (fun _ _ _ => false) (fun _ _ _ => false) (fun _ _ _ => false) (fun _ _ => false) (fun _ _ => false) (fun _ _ => false) (fun _ _ _ => false) f
theorem onSlc_e {P : Expr → Prop} {x : Expr} {f : Option Expr → Option Expr → Option Expr → Pos → Bool} (h : onSlc x f = true) (k : ∀ (x0 : Option Expr) (x1 : Option Expr) (x2 : Option Expr) (x3 : Pos), f x0 x1 x2 x3 = true → P (.Slice x0 x1 x2 x3)) : P x := by
  induction x using PySem.Expr.casesOn <;> first | exact nope h | exact k _ _ _ _ h
noncomputable def onCall (x : Expr) (f : Expr → List Expr → List Keyword → Pos → Bool) : Bool := @PySem.Expr.casesOn (fun _ => Bool) x (fun _ _ _ => false) (fun _ _ _ => false) (fun _ _ _ _ => false) (fun _ _ _ => false) (fun _ _ _ _ => false) (fun _ _ _ _ => false) (fun _ _ _ => false) (fun _ _ _ => false) (fun _ _ _ _ => false) (fun _ _ _ _ => false) (fun _ _ _ _ _ => false) (fun _ _ _ _ => false) (fun _ _ => false) (fun _ _ => false) (fun _ _ => false) (fun _ _ _ _ => false) f (fun _ _ _ _ => false) (fun _ _ => false) (fun _ _ _ => false) (fun _ _ _ => false) (fun _ _ _ => false) (fun _ _ => false) (fun _ _ => false) (fun _ _ => false) (fun _ _ _ => false) (fun _ _ _ _ => false)
theorem onCall_e {P : Expr → Prop} {x : Expr} {f : Expr → List Expr → List Keyword → Pos → Bool} (h : onCall x f = true) (k : ∀ (x0 : Expr) (x1 : List Expr) (x2 : List Keyword) (x3 : Pos), f x0 x1 x2 x3 = true → P (.Call x0 x1 x2 x3)) : P x := by
  induction x using PySem.Expr.casesOn <;> first | exact nope h | exact k _ _ _ _ h
noncomputable def onAttr (x : Expr) (f : Expr → Str → Pos → Bool) : Bool := @PySem.Expr.casesOn (fun _ => Bool) x (fun _ _ _ => false) (fun _ _ _ => false) (fun _ _ _ _ => false) (fun _ _ _ => false) (fun _ _ _ _ => false) (fun _ _ _ _ => false) (fun _ _ _ => false) (fun _ _ _ => false) (fun _ _ _ _ => false) (fun _ _ _ _ => false) (fun _ _ _ _ _ => false) (fun _ _ _ _ => false) (fun _ _ => false) (fun _ _ => false) (fun _ _ => false) (fun _ _ _ _ => false) (fun _ _ _ _ => false) (fun _ _ _ _ => false) (fun _ _ => false) (fun _ _ _ => false) f (fun _ _ _ => false) (fun _ _ => false) (fun _ _ => false) (fun _ _ => false) (fun _ _ _ => false) (fun _ _ _ _ => false)
theorem onAttr_e {P : Expr → Prop} {x : Expr} {f : Expr → Str → Pos → Bool} (h : onAttr x f = true) (k : ∀ (x0 : Expr) (x1 : Str) (x2 : Pos), f x0 x1 x2 = true → P (.Attribute x0 x1 x2)) : P x := by
  induction x using PySem.Expr.casesOn <;> first | exact nope h | exact k _ _ _ h
noncomputable def onLcp (x : Expr) (f : Expr → List Comprehension → Scope → Pos → Bool) : Bool := @PySem.Expr.casesOn (fun _ => Bool) x (fun _ _ _ => false) (fun _ _ _ => false) (fun _ _ _ _ => false) (fun _ _ _ => false) (fun _ _ _ _ => false) (fun _ _ _ _ => false) (fun _ _ _ => false) (fun _ _ _ => false) f (fun _ _ _ _ => false) (fun _ _ _ _ _ => false) (fun _ _ _ _ => false) (fun _ _ => false) (fun _ _ => false) (fun _ _ => false) (fun _ _ _ _ => false) (fun _ _ _ _ => false) (fun _ _ _ _ => false) (fun _ _ => false) (fun _ _ _ => false) (fun _ _ _ => false) (fun _ _ _ => false) (fun _ _ => false) (fun _ _ => false) (fun _ _ => false) (fun _ _ _ => false) (fun _ _ _ _ => false)
theorem onLcp_e {P : Expr → Prop} {x : Expr} {f : Expr → List Comprehension → Scope → Pos → Bool} (h : onLcp x f = true) (k : ∀ (x0 : Expr) (x1 : List Comprehension) (x2 : Scope) (x3 : Pos), f x0 x1 x2 x3 = true → P (.ListComp x0 x1 x2 x3)) : P x := by
  induction x using PySem.Expr.casesOn <;> first | exact nope h | exact k _ _ _ _ h
noncomputable def onRet (x : Stmt) (f : Option Expr → Pos → Bool) : Bool := @PySem.Stmt.casesOn (fun _ => Bool) x (fun _ _ _ _ _ _ _ _ _ _ => false) (fun _ _ _ _ _ _ _ _ _ _ => false) (fun _ _ _ _ _ _ _ _ _ _ _ => false) f (fun _ _ => false) (fun _ _ _ => false) (fun _ _ _ _ _ _ _ => false) (fun _ _ _ _ => false) (fun _ _ _ _ _ => false) (fun _ _ _ _ _ => false) (fun _ _ _ _ _ => false) (fun _ _ _ _ => false) (fun _ _ _ _ => false) (fun _ _ _ => false) (fun _ _ _ => false) (fun _ _ _ => false) (fun _ _ _ => false) (fun _ _ _ _ _ => false) (fun _ _ _ _ _ => false) (fun _ _ _ => false) (fun _ _ => false) (fun _ _ _ _ => false) (fun _ _ => false) (fun _ _ => false) (fun _ _ => false) (fun _ => false) (fun _ => false) (fun _ => false)
theorem onRet_e {P : Stmt → Prop} {x : Stmt} {f : Option Expr → Pos → Bool} (h : onRet x f = true) (k : ∀ (x0 : Option Expr) (x1 : Pos), f x0 x1 = true → P (.Return x0 x1)) : P x := by
  induction x using PySem.Stmt.casesOn <;> first | exact nope h | exact k _ _ h
noncomputable def onAsg (x : Stmt) (f : List Expr → Expr → Pos → Bool) : Bool := @PySem.Stmt.casesOn (fun _ => Bool) x (fun _ _ _ _ _ _ _ _ _ _ => false) (fun _ _ _ _ _ _ _ _ _ _ => false) (fun _ _ _ _ _ _ _ _ _ _ _ => false) (fun _ _ => false) (fun _ _ => false) f (fun _ _ _ _ _ _ _ => false) (fun _ _ _ _ => false) (fun _ _ _ _ _ => false) (fun _ _ _ _ _ => false) (fun _ _ _ _ _ => false) (fun _ _ _ _ => false) (fun _ _ _ _ => false) (fun _ _ _ => false) (fun _ _ _ => false) (fun _ _ _ => false) (fun _ _ _ => false) (fun _ _ _ _ _ => false) (fun _ _ _ _ _ => false) (fun _ _ _ => false) (fun _ _ => false) (fun _ _ _ _ => false) (fun _ _ => false) (fun _ _ => false) (fun _ _ => false) (fun _ => false) (fun _ => false) (fun _ => false)
theorem onAsg_e {P : Stmt → Prop} {x : Stmt} {f : List Expr → Expr → Pos → Bool} (h : onAsg x f = true) (k : ∀ (x0 : List Expr) (x1 : Expr) (x2 : Pos), f x0 x1 x2 = true → P (.Assign x0 x1 x2)) : P x := by
  induction x using PySem.Stmt.casesOn <;> first | exact nope h | exact k _ _ _ h
noncomputable def onFor (x : Stmt) (f : Expr → Expr → List Stmt → List Stmt → Pos → Bool) : Bool := @PySem.Stmt.casesOn (fun _ => Bool) x (fun _ _ _ _ _ _ _ _ _ _ => false) (fun _ _ _ _ _ _ _ _ _ _ => false) (fun _ _ _ _ _ _ _ _ _ _ _ => false) (fun _ _ => false) (fun _ _ => false) (fun _ _ _ => false) (fun _ _ _ _ _ _ _ => false) (fun _ _ _ _ => false) (fun _ _ _ _ _ => false) f (fun _ _ _ _ _ => false) (fun _ _ _ _ => false) (fun _ _ _ _ => false) (fun _ _ _ => false) (fun _ _ _ => false) (fun _ _ _ => false) (fun _ _ _ => false) (fun _ _ _ _ _ => false) (fun _ _ _ _ _ => false) (fun _ _ _ => false) (fun _ _ => false) (fun _ _ _ _ => false) (fun _ _ => false) (fun _ _ => false) (fun _ _ => false) (fun _ => false) (fun _ => false) (fun _ => false)
theorem onFor_e {P : Stmt → Prop} {x : Stmt} {f : Expr → Expr → List Stmt → List Stmt → Pos → Bool} (h : onFor x f = true) (k : ∀ (x0 : Expr) (x1 : Expr) (x2 : List Stmt) (x3 : List Stmt) (x4 : Pos), f x0 x1 x2 x3 x4 = true → P (.For x0 x1 x2 x3 x4)) : P x := by
  induction x using PySem.Stmt.casesOn <;> first | exact nope h | exact k _ _ _ _ _ h
noncomputable def onIf (x : Stmt) (f : Expr → List Stmt → List Stmt → Pos → Bool) : Bool := @PySem.Stmt.casesOn (fun _ => Bool) x (fun _ _ _ _ _ _ _ _ _ _ => false) (fun _ _ _ _ _ _ _ _ _ _ => false) (fun _ _ _ _ _ _ _ _ _ _ _ => false) (fun _ _ => false) (fun _ _ => false) (fun _ _ _ => false) (fun _ _ _ _ _ _ _ => false) (fun _ _ _ _ => false) (fun _ _ _ _ _ => false) (fun _ _ _ _ _ => false) (fun _ _ _ _ _ => false) (fun _ _ _ _ => false) f (fun _ _ _ => false) (fun _ _ _ => false) (fun _ _ _ => false) (fun _ _ _ => false) (fun _ _ _ _ _ => false) (fun _ _ _ _ _ => false) (fun _ _ _ => false) (fun _ _ => false) (fun _ _ _ _ => false) (fun _ _ => false) (fun _ _ => false) (fun _ _ => false) (fun _ => false) (fun _ => false) (fun _ => false)
theorem onIf_e {P : Stmt → Prop} {x : Stmt} {f : Expr → List Stmt → List Stmt → Pos → Bool} (h : onIf x f = true) (k : ∀ (x0 : Expr) (x1 : List Stmt) (x2 : List Stmt) (x3 : Pos), f x0 x1 x2 x3 = true → P (.If x0 x1 x2 x3)) : P x := by
  induction x using PySem.Stmt.casesOn <;> first | exact nope h | exact k _ _ _ _ h
noncomputable def onExS (x : Stmt) (f : Expr → Pos → Bool) : Bool := @PySem.Stmt.casesOn (fun _ => Bool) x (fun _ _ _ _ _ _ _ _ _ _ => false) (fun _ _ _ _ _ _ _ _ _ _ => false) (fun _ _ _ _ _ _ _ _ _ _ _ => false) (fun _ _ => false) (fun _ _ => false) (fun _ _ _ => false) (fun _ _ _ _ _ _ _ => false) (fun _ _ _ _ => false) (fun _ _ _ _ _ => false) (fun _ _ _ _ _ => false) (fun _ _ _ _ _ => false) (fun _ _ _ _ => false) (fun _ _ _ _ => false) (fun _ _ _ => false) (fun _ _ _ => false) (fun _ _ _ => false) (fun _ _ _ => false) (fun _ _ _ _ _ => false) (fun _ _ _ _ _ => false) (fun _ _ _ => false) (fun _ _ => false) (fun _ _ _ _ => false) (fun _ _ => false) (fun _ _ => false) f (fun _ => false) (fun _ => false) (fun _ => false)
theorem onExS_e {P : Stmt → Prop} {x : Stmt} {f : Expr → Pos → Bool} (h : onExS x f = true) (k : ∀ (x0 : Expr) (x1 : Pos), f x0 x1 = true → P (.Expr x0 x1)) : P x := by
  induction x using PySem.Stmt.casesOn <;> first | exact nope h | exact k _ _ h
noncomputable def onCnt (x : Stmt) (f : Pos → Bool) : Bool := @PySem.Stmt.casesOn (fun _ => Bool) x (fun _ _ _ _ _ _ _ _ _ _ => false) (fun _ _ _ _ _ _ _ _ _ _ => false) (fun _ _ _ _ _ _ _ _ _ _ _ => false) (fun _ _ => false) (fun _ _ => false) (fun _ _ _ => false) (fun _ _ _ _ _ _ _ => false) (fun _ _ _ _ => false) (fun _ _ _ _ _ => false) (fun _ _ _ _ _ => false) (fun _ _ _ _ _ => false) (fun _ _ _ _ => false) (fun _ _ _ _ => false) (fun _ _ _ => false) (fun _ _ _ => false) (fun _ _ _ => false) (fun _ _ _ => false) (fun _ _ _ _ _ => false) (fun _ _ _ _ _ => false) (fun _ _ _ => false) (fun _ _ => false) (fun _ _ _ _ => false) (fun _ _ => false) (fun _ _ => false) (fun _ _ => false) (fun _ => false) (fun _ => false) f
theorem onCnt_e {P : Stmt → Prop} {x : Stmt} {f : Pos → Bool} (h : onCnt x f = true) (k : ∀ (x0 : Pos), f x0 = true → P (.Continue x0)) : P x := by
  induction x using PySem.Stmt.casesOn <;> first | exact nope h | exact k _ h
noncomputable def onNil {α : Type} (x : List α) (b : Bool) : Bool := match x with
  | [] => b
  | _ => false
theorem onNil_e {α : Type} {P : List α → Prop} {x : List α} {b : Bool} (h : onNil x b = true) (k : b = true → P []) : P x := by
  cases x with
  | nil => exact k h
  | cons _ _ => exact nope h
noncomputable def on1 {α : Type} (x : List α) (f : α → Bool) : Bool := match x with
  | [a] => f a
  | _ => false
theorem on1_e {α : Type} {P : List α → Prop} {x : List α} {f : α → Bool} (h : on1 x f = true) (k : ∀ a, f a = true → P [a]) : P x := by
  match x, h with
  | [a], h => exact k a h
  | [], h => exact nope h
  | _ :: _ :: _, h => exact nope h
noncomputable def on2 {α : Type} (x : List α) (f : α → α → Bool) : Bool := match x with
  | [a, b] => f a b
  | _ => false
theorem on2_e {α : Type} {P : List α → Prop} {x : List α} {f : α → α → Bool} (h : on2 x f = true) (k : ∀ a b, f a b = true → P [a, b]) : P x := by
  match x, h with
  | [a, b], h => exact k a b h
  | [], h => exact nope h
  | [_], h => exact nope h
  | _ :: _ :: _ :: _, h => exact nope h
noncomputable def on3 {α : Type} (x : List α) (f : α → α → α → Bool) : Bool := match x with
  | [a, b, c] => f a b c
  | _ => false
theorem on3_e {α : Type} {P : List α → Prop} {x : List α} {f : α → α → α → Bool} (h : on3 x f = true) (k : ∀ a b c, f a b c = true → P [a, b, c]) : P x := by
  match x, h with
  | [a, b, c], h => exact k a b c h
  | [], h => exact nope h
  | [_], h => exact nope h
  | [_, _], h => exact nope h
  | _ :: _ :: _ :: _ :: _, h => exact nope h
noncomputable def onU {α : Type} (x : List α) (f : α → List α → Bool) : Bool := match x with
  | [] => false
  | a :: r => f a r
theorem onU_e {α : Type} {P : List α → Prop} {x : List α} {f : α → List α → Bool} (h : onU x f = true) (k : ∀ a r, f a r = true → P (a :: r)) : P x := by
  cases x with
  | nil => exact nope h
  | cons a r => exact k a r h
noncomputable def onNo {α : Type} (x : Option α) (b : Bool) : Bool := match x with
  | none => b
  | some _ => false
theorem onNo_e {α : Type} {P : Option α → Prop} {x : Option α} {b : Bool} (h : onNo x b = true) (k : b = true → P none) : P x := by
  cases x with
  | none => exact k h
  | some _ => exact nope h
noncomputable def onSo {α : Type} (x : Option α) (f : α → Bool) : Bool := match x with
  | none => false
  | some a => f a
theorem onSo_e {α : Type} {P : Option α → Prop} {x : Option α} {f : α → Bool} (h : onSo x f = true) (k : ∀ a, f a = true → P (some a)) : P x := by
  cases x with
  | none => exact nope h
  | some a => exact k a h
noncomputable def isCall0 (x : Expr) : Bool := onCall x fun f a k _ => onName f fun _ _ => onNil a (onNil k true)
noncomputable def isCallE (x : Expr) : Bool := onCall x fun _ _ _ _ => true
mutual
noncomputable def chk (T : Tb) (ks : Ks) : Ex → Expr → Bool
  | .int i, x => onConst x fun c _ _ => decide (c = .int i)
  | .str y, x => onConst x fun c _ _ => decide (c = .str y)
  | .bool b, x => onConst x fun c _ _ => decide (c = .bool b)
  | .none, x => onConst x fun c _ _ => decide (c = .none)
  | .var i, x => onName x fun n _ => nmOk T.nt ks i n
  | .glob i v, x => onName x fun n _ => T.nt[i]? == some n && ks.lookup n == some .globalImplicit && !(n == ("__debug__" : Str)) && T.ct.contains (n, v)
  | .bin op a b, x => onBin x fun l o r _ => o == op.op && chk T ks a l && chk T ks b r
  | .neg a, x => onUn x fun o y _ => decide (o = .USub) && chk T ks a y
  | .not a, x => onUn x fun o y _ => decide (o = .Not) && chk T ks a y
  | .cmp op a b, x => onCmp x fun l os rs _ => on1 os fun o => on1 rs fun r => o == op.op && !behindInMarks o r && chk T ks a l && chk T ks b r
  | .isN a, x => onCmp x fun l os rs _ => on1 rs fun r => onConst r fun c _ _ => decide (os = [.Is]) && (decide (c = .none) && chk T ks a l)
  | .isNotN a, x => onCmp x fun l os rs _ => on1 rs fun r => onConst r fun c _ _ => decide (os = [.IsNot]) && (decide (c = .none) && chk T ks a l)
  | .and es, x => onBop x fun o vs _ => decide (o = .And) && (!es.isEmpty && chkL T ks es vs)
  | .or es, x => onBop x fun o vs _ => decide (o = .Or) && (!es.isEmpty && chkL T ks es vs)
  | .ite t a b, x => onIfE x fun y z u _ => chk T ks t y && chk T ks a z && chk T ks b u
  | .tup es, x => onTup x fun vs _ _ => decide (es.length ≤ 100) && chkL T ks es vs
  | .lst es, x => onLst x fun vs _ => decide (es.length ≤ 100) && chkL T ks es vs
  | .lstC es, x => onLst x fun vs _ => decide (es.length ≤ 100) && chkL T ks es vs
  | .dctC, x => onDct x fun a b _ => onNil a (onNil b true)
  | .dct1 k v, x => onDct x fun as bs _ => on1 as fun o => onSo o fun a => on1 bs fun b => chk T ks k a && chk T ks v b
  | .idx a i, x => onSub x fun y z _ => chk T ks a y && chk T ks i z
  | .sl a lo hi, x => onSub x fun y z _ => onSlc z fun l u s _ => onNo s (chk T ks a y && chkO T ks lo l && chkO T ks hi u)
  | .rev a, x => onSub x fun y z _ => onSlc z fun l u s _ => onNo l (onNo u (onSo s fun e => onUn e fun o t _ => onConst t fun c _ _ => decide (o = .USub) && (decide (c = .int 1) && chk T ks a y)))
  | .call f es, x => onCall x fun g args kws _ => onName g fun n _ => onNil kws (T.ft[f]? == some n && ks.lookup n == some .globalImplicit && !(n == ("__debug__" : Str)) && !es.isEmpty && chkL T ks es args)
  | .bi b es, x => onCall x fun g args kws _ => onName g fun n _ => onNil kws (n == b.nm && ks.lookup n == some .globalImplicit && !es.isEmpty && chkL T ks es args)
  | .dictC a, x => onCall x fun g args kws _ => onName g fun n _ => on1 args fun y => onNil kws (n == Bi.dict.nm && ks.lookup n == some .globalImplicit && notStar y && chk T ks a y)
  | .get o k, x => onCall x fun g args kws pos => onAttr g fun z m ap => on1 args fun y => onNil kws (m == ("get" : Str) && ap.endLine == pos.line && !isCall0 z && notStar y && chk T ks o z && chk T ks k y)
  | .get2 o k d, x => onCall x fun g args kws pos => onAttr g fun u m ap => on2 args fun y z => onNil kws (m == ("get" : Str) && ap.endLine == pos.line && !isCall0 u && notStar y && notStar z && chk T ks o u && chk T ks k y && chk T ks d z)
  | .app o e, x => onCall x fun g args kws pos => onAttr g fun z m ap => on1 args fun y => onNil kws (m == ("append" : Str) && ap.endLine == pos.line && !isCall0 z && notStar y && chk T ks o z && chk T ks e y)
  | .sdf o k, x => onCall x fun g args kws pos => onAttr g fun u m ap => on2 args fun y z => onLst z fun els _ => onNil els (onNil kws (m == ("setdefault" : Str) && ap.endLine == pos.line && !isCall0 u && notStar y && chk T ks o u && chk T ks k y))
  | .comp elt tg it ifs, x => onLcp x fun e gs sc _ => on1 gs fun g => decide (g.is_async = 0) && (notSet g.iter && scOk ks g.target sc && tgOk T.nt sc.names tg g.target && chk T ks it g.iter && chkL T (relK sc.names ks) ifs g.ifs && chk T (relK sc.names ks) elt e)
  | .bad, _ => true
noncomputable def chkL (T : Tb) (ks : Ks) : List Ex → List Expr → Bool
  | [], xs => onNil xs true
  | e :: es, xs => onU xs fun x r => chk T ks e x && notStar x && chkL T ks es r
noncomputable def chkO (T : Tb) (ks : Ks) : Option Ex → Option Expr → Bool
  | none, o => onNo o true
  | some e, o => onSo o fun x => chk T ks e x
end
noncomputable def tgVals (is : List Nat) (value : Expr) : Bool := match value with
  | .Tuple vs _ _ => !(vs.all (constantsAlone 8))
  | _ => true
noncomputable def asgOk (tg : Tg) (v : Expr) : Bool := match tg with
  | .nm _ => true
  | .tup is => tgVals is v
noncomputable def isBadE : Ex → Bool
  | .bad => true
  | _ => false
noncomputable def isBadS : Sm → Bool
  | .exp e => isBadE e
  | _ => false
mutual
noncomputable def chkS (T : Tb) (ks : Ks) : Sm → Stmt → Bool
  | .asg tg e, s => onAsg s fun ts v _ => on1 ts fun t => tgOk T.nt ks tg t && chk T ks e v && asgOk tg v
  | .setI o i e, s => onAsg s fun ts v _ => on1 ts fun t => onSub t fun x y _ => chk T ks e v && chk T ks o x && chk T ks i y
  | .ife t a b, s => onIf s fun x ys zs _ => chk T ks t x && chkSs T ks a ys && chkSs T ks b zs
  | .loop tg (.ex e) body, s => onFor s fun t x ys zs _ => onNil zs (notSet x && tgOk T.nt ks tg t && chk T ks e x && chkSs T ks body ys)
  | .loop tg (.range e) body, s => onFor s fun t c ys zs _ => onNil zs (onCall c fun g args kws _ => onName g fun r _ => onNil kws (on1 args fun x => notStar x && tgOk T.nt ks tg t && r == ("range" : Str) && ks.lookup r == some .globalImplicit && chk T ks e x && chkSs T ks body ys))
  | .loop tg (.down e) body, s => onFor s fun t c ys zs _ => onNil zs (onCall c fun g args kws _ => onName g fun r _ => onNil kws (on3 args fun x y z => onUn y fun o1 l1 _ => onConst l1 fun k1 _ _ => onUn z fun o2 l2 _ => onConst l2 fun k2 _ _ =>
      decide (o1 = .USub) && (decide (k1 = .int 1) && (decide (o2 = .USub) && (decide (k2 = .int 1) && (notStar x && tgOk T.nt ks tg t && r == ("range" : Str) && ks.lookup r == some .globalImplicit && chk T ks e x && chkSs T ks body ys))))))
  | .ret e, s => onRet s fun o _ => onSo o fun x => chk T ks e x
  | .cont, s => onCnt s fun _ => true
  | .exp e, s => onExS s fun x _ => chk T ks e x && isCallE x
noncomputable def chkSs (T : Tb) (ks : Ks) : List Sm → List Stmt → Bool
  | [], xs => onNil xs true
  | s :: r, xs => (isBadS s && r.isEmpty) || onU xs fun x y => chkS T ks s x && chkSs T ks r y
end
theorem and2 {a b : Bool} (h : (a && b) = true) : a = true ∧ b = true := Bool.and_eq_true_iff.mp h
theorem dand {p : Prop} [Decidable p] {b : Bool} {q : Prop} (h : (decide p && b) = true) (k : p → b = true → q) : q := k (of_decide_eq_true (and2 h).1) (and2 h).2
end Mine
end
end
section
open PySem PySem.Calls PySem.W PyProof.Rows
set_option maxRecDepth 100000
set_option Elab.async false
set_option autoImplicit false
set_option linter.unusedVariables false
noncomputable section
namespace Mine
structure Gl (T : Tb) (B : Heap) (mg mb : Str → Option Value) : Prop where
  nd : T.nt.Nodup
  g : B.Ns mainGlobals mg
  b : B.Ns builtinsNs mb
  sys : (B.get? sysModules).isSome = true
  con : ∀ x i, (x, i) ∈ T.ct → ∃ t, mg x = some (.int i t)
  bis : ∀ b : Bi, mg b.nm = none ∧ mb b.nm = some b.val
  rng : mg (Str.ofString "range") = none ∧ mb (Str.ofString "range") = some (.type "range")
  fns : ∀ (f : Nat) (x : Str), T.ft[f]? = some x → ∃ a o fd, mg x = some (.ref a) ∧ B.get? a = some o ∧ o.data = .func fd
structure Rm (A : Around) (k : Nat) : Prop where
  hh : A.handled = none
  dep : A.depth + k < recursionLimit
  un : A.units + 100 + 10 * k < cLine
noncomputable def Adv (as : List Addr) (h : Heap) (as' : List Addr) (h' : Heap) : Prop := ∃ nw, as' = as ++ nw ∧ Step as h h' ∧ ∀ a ∈ nw, h.get? a = none
theorem Adv.refl {as : List Addr} {h : Heap} : Adv as h as h := ⟨[], by simp, Step.refl, fun _ q => nomatch q⟩
theorem Adv.same {as : List Addr} {h h' : Heap} (k : Step [] h h') : Adv as h as h' := ⟨[], by simp, k.more (fun _ q => nomatch q), fun _ q => nomatch q⟩
theorem Adv.set {as : List Addr} {h h' : Heap} (k : Step as h h') : Adv as h as h' := ⟨[], by simp, k, fun _ q => nomatch q⟩
theorem Adv.trans {as as' as'' : List Addr} {h h' h'' : Heap} (a : Adv as h as' h') (b : Adv as' h' as'' h'') : Adv as h as'' h'' := by
  obtain ⟨nw, rfl, k, hn⟩ := a
  obtain ⟨nw', rfl, k', hn'⟩ := b
  refine ⟨nw ++ nw', by simp, k.trans_new k' hn, fun x hx => ?_⟩
  rcases List.mem_append.mp hx with hx | hx
  · exact hn x hx
  · cases e : h.get? x with
    | none => rfl
    | some o =>
      have := k.live x (by rw [e]; rfl)
      rw [hn' x hx] at this; cases this
section
variable {prog : Program} {w : World} {T : Tb} {B : Heap} {F as as' : List Addr} {env : Env} {ρ : Ro} {S S' : Sto} {h h' : Heap} {mg mb : Str → Option Value}
theorem VaRep.adv {val : Value} {v : Va} (r : VaRep prog w (F ++ as) as h val v) (a : Adv as h as' h') : VaRep prog w (F ++ as') as' h' val v := by
  obtain ⟨nw, rfl, k, hn⟩ := a
  refine r.step k (fun b hb => List.mem_append_right _ hb) fun b hb => ?_
  rw [← List.append_assoc] at hb
  exact (List.mem_append.mp hb).elim .inl fun q => .inr (hn b q)
theorem Paired.adv {vals : List Value} {vs : List Va} (r : Paired (VaRep prog w (F ++ as) as h) vals vs) (a : Adv as h as' h') : Paired (VaRep prog w (F ++ as') as' h') vals vs := Paired.mono (fun _ _ q => q.adv a) r
theorem Fm.adv {nt : List Str} (f : Fm prog w nt B F as env ρ S h) (x : St prog w B F as' S' h') (a : Adv as h as' h') : Fm prog w nt B F as' env ρ S' h' := by
  obtain ⟨nw, rfl, k, hn⟩ := a
  exact f.step x k hn
noncomputable def Pv (prog : Program) (w : World) (B : Heap) (F as : List Addr) (S' : Sto) (s : Shared) (v : Va) (Q : Value → Shared → Prop) : Prop :=
  ∀ h' tk val as', St prog w B F as' S' h' → Adv as s.heap as' h' → VaRep prog w (F ++ as') as' h' val v → Q val { s with heap := h', toks := tk }
noncomputable def Pt (prog : Program) (w : World) (B : Heap) (F as : List Addr) (S' : Sto) (s : Shared) (b : Bool) (Q : Bool → Shared → Prop) : Prop :=
  ∀ h' tk as', St prog w B F as' S' h' → Adv as s.heap as' h' → Q b { s with heap := h', toks := tk }
noncomputable def Ps (prog : Program) (w : World) (B : Heap) (F as : List Addr) (S' : Sto) (s : Shared) (vs : List Va) (Q : List Value → Shared → Prop) : Prop :=
  ∀ h' tk vals as', St prog w B F as' S' h' → Adv as s.heap as' h' → Paired (VaRep prog w (F ++ as') as' h') vals vs → Q vals { s with heap := h', toks := tk }
noncomputable def Snd (prog : Program) (w : World) (T : Tb) (B : Heap) (fn : Fn) (k : Nat) (e : Ex) : Prop :=
  ∀ (env : Env) (ρ : Ro) (S S' : Sto) (v : Va) (ex : Expr) (F as : List Addr) (A : Around) (Q E : Value → Shared → Prop) (s : Shared),
    chk T env.scope.names e ex = true → ev fn ρ S e = some (v, S') → Rm A k → Fm prog w T.nt B F as env ρ S s.heap → Pv prog w B F as S' s v Q → wpAny (model prog w) A (eval ex env) Q E s
noncomputable def SndT (prog : Program) (w : World) (T : Tb) (B : Heap) (fn : Fn) (k : Nat) (e : Ex) : Prop :=
  ∀ (env : Env) (ρ : Ro) (S S' : Sto) (v : Va) (b : Bool) (ex : Expr) (F as : List Addr) (A : Around) (Q : Bool → Shared → Prop) (E : Value → Shared → Prop) (s : Shared),
    chk T env.scope.names e ex = true → ev fn ρ S e = some (v, S') → tru v = some b → Rm A k → Fm prog w T.nt B F as env ρ S s.heap → Pt prog w B F as S' s b Q → wpAny (model prog w) A (isTrue ex env (eval ex env)) Q E s
noncomputable def SndL (prog : Program) (w : World) (T : Tb) (B : Heap) (fn : Fn) (k : Nat) (es : List Ex) : Prop := ∀ e ∈ es, Snd prog w T B fn k e ∧ SndT prog w T B fn k e
theorem Pv.gv {s : Shared} {S' : Sto} {d : PyData} {Q : Value → Shared → Prop} (p : Pv prog w B F as S' s (.d d) Q) (x : St prog w B F as S' s.heap) : Gv prog w (F ++ as) s d Q := fun h' tk val k r =>
  p h' tk val as (x.step k fun _ q => nomatch q) (Adv.same k) r
theorem Pv.after {s : Shared} {S' : Sto} {v : Va} {Q : Value → Shared → Prop} {h₁ : Heap} {tk : Nat} (p : Pv prog w B F as S' s v Q) (a : Adv as s.heap as' h₁) : Pv prog w B F as' S' { s with heap := h₁, toks := tk } v Q := fun h' tk' val as'' x b r =>
  p h' tk' val as'' x (a.trans b) r
theorem Pt.after {s : Shared} {S' : Sto} {v : Bool} {Q : Bool → Shared → Prop} {h₁ : Heap} {tk : Nat} (p : Pt prog w B F as S' s v Q) (a : Adv as s.heap as' h₁) : Pt prog w B F as' S' { s with heap := h₁, toks := tk } v Q := fun h' tk' as'' x b =>
  p h' tk' as'' x (a.trans b)
theorem Ps.after {s : Shared} {S' : Sto} {v : List Va} {Q : List Value → Shared → Prop} {h₁ : Heap} {tk : Nat} (p : Ps prog w B F as S' s v Q) (a : Adv as s.heap as' h₁) : Ps prog w B F as' S' { s with heap := h₁, toks := tk } v Q := fun h' tk' val as'' x b r =>
  p h' tk' val as'' x (a.trans b) r
theorem Rm.u {A : Around} {k : Nat} (r : Rm A k) : A.units + 70 < cLine := by have := r.un; lia
theorem Rm.u64 {A : Around} {k : Nat} (r : Rm A k) : A.units + 64 < cLine := by have := r.un; lia
section
variable {fn : Fn} {k : Nat}
theorem bind_some {α β : Type} {x : Option α} {f : α → Option β} {b : β} (h : x.bind f = some b) : ∃ a, x = some a ∧ f a = some b := Option.bind_eq_some_iff.mp h
theorem map_some {α β : Type} {x : Option α} {f : α → β} {b : β} (h : x.map f = some b) : ∃ a, x = some a ∧ f a = b := Option.map_eq_some_iff.mp h
theorem bind_e {α β : Type} {p : Prop} {x : Option α} {f : α → Option β} {b : β} (h : x.bind f = some b) (k : ∀ a, x = some a → f a = some b → p) : p := let ⟨a, e, q⟩ := bind_some h; k a e q
theorem bind2_e {α α' β : Type} {p : Prop} {x : Option (α × α')} {f : α × α' → Option β} {b : β} (h : x.bind f = some b) (k : ∀ a a', x = some (a, a') → f (a, a') = some b → p) : p := let ⟨(a, a'), e, q⟩ := bind_some h; k a a' e q
theorem bind3_e {α α' α'' β : Type} {p : Prop} {x : Option (α × α' × α'')} {f : α × α' × α'' → Option β} {b : β} (h : x.bind f = some b) (k : ∀ a a' a'', x = some (a, a', a'') → f (a, a', a'') = some b → p) : p := let ⟨(a, a', a''), e, q⟩ := bind_some h; k a a' a'' e q
theorem map_e {α β : Type} {p : Prop} {x : Option α} {f : α → β} {b : β} (h : x.map f = some b) (k : ∀ a, x = some a → f a = b → p) : p := let ⟨a, e, q⟩ := map_some h; k a e q
theorem map2_e {α α' β : Type} {p : Prop} {x : Option (α × α')} {f : α × α' → β} {b : β} (h : x.map f = some b) (k : ∀ a a', x = some (a, a') → f (a, a') = b → p) : p := let ⟨(a, a'), e, q⟩ := map_some h; k a a' e q
theorem map3_e {α α' α'' β : Type} {p : Prop} {x : Option (α × α' × α'')} {f : α × α' × α'' → β} {b : β} (h : x.map f = some b) (k : ∀ a a' a'', x = some (a, a', a'') → f (a, a', a'') = b → p) : p := let ⟨(a, a', a''), e, q⟩ := map_some h; k a a' a'' e q
theorem snd_int (i : Int) : Snd prog w T B fn k (.int i) := by
  intro env ρ S S' v ex F as A Q E s hc he hr f p
  apply onConst_e (x := ex) hc
  intro c kd pos hc
  obtain rfl := of_decide_eq_true hc
  cases he
  rw [arm_eval_Constant]
  exact wpAny_mkInt (p _ _ _ as f.st Adv.refl (.int _ _))
theorem snd_str (x : Str) : Snd prog w T B fn k (.str x) := by
  intro env ρ S S' v ex F as A Q E s hc he hr f p
  apply onConst_e (x := ex) hc
  intro c kd pos hc
  obtain rfl := of_decide_eq_true hc
  cases he
  exact Constant_str (p _ _ _ as f.st Adv.refl (.str _ _))
theorem snd_bool (b : Bool) : Snd prog w T B fn k (.bool b) := by
  intro env ρ S S' v ex F as A Q E s hc he hr f p
  apply onConst_e (x := ex) hc
  intro c kd pos hc
  obtain rfl := of_decide_eq_true hc
  cases he
  rw [arm_eval_Constant]
  exact wpAny_pure (p _ s.toks _ as f.st Adv.refl (.bool _))
theorem snd_none : Snd prog w T B fn k .none := by
  intro env ρ S S' v ex F as A Q E s hc he hr f p
  apply onConst_e (x := ex) hc
  intro c kd pos hc
  obtain rfl := of_decide_eq_true hc
  cases he
  rw [arm_eval_Constant]
  exact wpAny_pure (p _ s.toks _ as f.st Adv.refl .none)
theorem snd_var (i : Nat) : Snd prog w T B fn k (.var i) := by
  intro env ρ S S' v ex F as A Q E s hc he hr f p
  apply onName_e (x := ex) hc
  intro x pos hc
  refine map_e he fun v' e1 e2 => ?_
  cases e2
  obtain ⟨h1, h2, h3⟩ := nmOk_inv hc
  exact name_var f e1 h1 h2 h3 fun val hv => p _ s.toks _ as f.st Adv.refl hv
theorem glob_name {x : Str} {pos : Pos} {v : Value} {s : Shared} {A : Around} {Q E : Value → Shared → Prop} (G : Gl T B mg mb) (f : Fm prog w T.nt B F as env ρ S s.heap) (hk : env.kindOf x = some .globalImplicit) (hd : (x == ("__debug__" : Str)) = false) (hv : mg x = some v ∨ (mg x = none ∧ mb x = some v)) (h : Q v s) :
    wpAny (model prog w) A (eval (.Name x pos) env) Q E s := by
  have hg : s.heap.Ns env.globals mg := by rw [f.glo]; exact Ns.at G.g fun o e => f.st.base _ o e
  have hb : s.heap.Ns env.builtins mb := by rw [f.blt]; exact Ns.at G.b fun o e => f.st.base _ o e
  refine Name_function_global f.kf hk ?_ hd
  rcases hv with hv | ⟨h1, h2⟩
  · exact loadGlobal_global hg hv h
  · exact loadGlobal_builtin hg h1 hb h2 h
theorem snd_glob (G : Gl T B mg mb) (i : Nat) (z : Int) : Snd prog w T B fn k (.glob i z) := by
  intro env ρ S S' v ex F as A Q E s hc he hr f p
  apply onName_e (x := ex) hc
  intro x pos hc
  cases he
  have hc : (T.nt[i]? == some x && env.scope.names.lookup x == some .globalImplicit && !(x == ("__debug__" : Str)) && T.ct.contains (x, z)) = true := hc
  simp only [Bool.and_eq_true, beq_iff_eq, Bool.not_eq_true', List.contains_iff_mem] at hc
  obtain ⟨t, ht⟩ := G.con x z hc.2
  exact glob_name G f hc.1.1.2 hc.1.2 (.inl ht) (p _ s.toks _ as f.st Adv.refl (.int _ _))
theorem snd_bin (G : Gl T B mg mb) {op : Bop} {a b : Ex} (ha : Snd prog w T B fn k a) (hb : Snd prog w T B fn k b) : Snd prog w T B fn k (.bin op a b) := by
  intro env ρ S S' v ex F as A Q E s hc he hr f p
  apply onBin_e (x := ex) hc
  intro l o r pos hc
  have hc : (o == op.op && chk T env.scope.names a l && chk T env.scope.names b r) = true := hc
  simp only [Bool.and_eq_true, beq_iff_eq] at hc
  obtain ⟨⟨rfl, c1⟩, c2⟩ := hc
  refine bind2_e he fun v1 S1 e1 he => ?_
  refine bind2_e he fun v2 S2 e2 he => ?_
  refine bind_e he fun x e3 he => ?_
  refine bind_e he fun y e4 he => ?_
  refine map_e he fun z e5 he => ?_
  cases he
  refine wpAny_BinOp (ha _ _ _ _ _ _ _ _ _ _ _ _ c1 e1 hr f fun h1 t1 u1 as1 x1 a1 r1 => hb _ _ _ _ _ _ _ _ _ _ _ _ c2 e2 hr (f.adv x1 a1) fun h2 t2 u2 as2 x2 a2 r2 => ?_)
  exact op_bin e5 x2.liv (x2.read G.sys (r1.adv a2) e3) (x2.read G.sys r2 e4) ((p.after (a1.trans a2)).gv x2)
end
end
end Mine
end
end
section
open PySem PySem.Calls PySem.W PyProof.Rows
set_option maxRecDepth 100000
set_option Elab.async false
set_option autoImplicit false
set_option linter.unusedVariables false
noncomputable section
namespace Mine
noncomputable def plainT : Expr → Bool
  | .UnaryOp .Not _ _ => false
  | .BoolOp .. => false
  | .IfExp .. => false
  | .Compare .. => false
  | _ => true
theorem isTrue_plain {ex : Expr} (h : plainT ex = true) (env : Env) (t : Sem Value) : isTrue ex env t = (do let v ← t; standAt ex.pos; holding [v] (truthy v)) := by
  cases ex <;> first | rfl | (exact absurd h Bool.false_ne_true) | skip
  rename_i op x pos
  cases op <;> first | rfl | exact absurd h Bool.false_ne_true
section
variable {prog : Program} {w : World} {T : Tb} {B : Heap} {F as as' : List Addr} {env : Env} {ρ : Ro} {S S' : Sto} {mg mb : Str → Option Value} {fn : Fn} {k : Nat}
theorem tru_inv {v : Va} {b : Bool} (h : tru v = some b) : v = .d (.bool b) := by
  cases v with
  | c n => cases h
  | d x => cases x <;> first | (cases h; rfl) | cases h
theorem tru_val {h : Heap} {X : List Addr} {val : Value} {v : Va} {b : Bool} (r : VaRep prog w X as h val v) (e : tru v = some b) : val = .bool b := by
  obtain rfl := tru_inv e
  exact (RdR.of r).bool_inv
theorem sndT_of {e : Ex} (hs : Snd prog w T B fn k e) (hp : ∀ ks ex, chk T ks e ex = true → plainT ex = true) : SndT prog w T B fn k e := by
  intro env ρ S S' v b ex F as A Q E s hc he ht hr f p
  rw [isTrue_plain (hp _ _ hc)]
  refine wpAny_bind (hs _ _ _ _ _ _ _ _ _ _ _ _ hc he hr f fun h1 t1 u1 as1 x1 a1 r1 => wpAny_bind (wpAny_standAt (wpAny_holding ?_)))
  rw [tru_val r1 ht]
  exact wpAny_truthy_bool (p h1 t1 as1 x1 a1)
theorem snd_neg {a : Ex} (ha : Snd prog w T B fn k a) : Snd prog w T B fn k (.neg a) := by
  intro env ρ S S' v ex F as A Q E s hc he hr f p
  apply onUn_e (x := ex) hc
  intro op l pos h00
  refine dand h00 fun hop hc => ?_
  subst hop
  refine bind2_e he fun v1 S1 e1 he => ?_
  obtain ⟨i, rfl⟩ : ∃ i, v1 = .d (.int i) := by
    cases v1 with
    | c n => cases he
    | d x => cases x <;> first | exact ⟨_, rfl⟩ | cases he
  cases he
  refine wpAny_UnaryOp (ha _ _ _ _ _ _ _ _ _ _ _ _ hc e1 hr f fun h1 t1 u1 as1 x1 a1 r1 => ?_)
  obtain ⟨t, rfl⟩ := (RdR.of r1).int_inv
  exact PyProof.Rows.neg_int (p _ _ _ as1 x1 a1 (.int _ _))
theorem snd_not {a : Ex} (ha : Snd prog w T B fn k a) : Snd prog w T B fn k (.not a) := by
  intro env ρ S S' v ex F as A Q E s hc he hr f p
  apply onUn_e (x := ex) hc
  intro op l pos h00
  refine dand h00 fun hop hc => ?_
  subst hop
  refine bind2_e he fun v1 S1 e1 he => ?_
  refine map_e he fun b e2 he => ?_
  cases he
  refine wpAny_UnaryOp (ha _ _ _ _ _ _ _ _ _ _ _ _ hc e1 hr f fun h1 t1 u1 as1 x1 a1 r1 => ?_)
  rw [tru_val r1 e2]
  exact not_value (wpAny_truthy_bool (p _ _ _ as1 x1 a1 (.bool _)))
theorem sndT_not {a : Ex} (ha : SndT prog w T B fn k a) : SndT prog w T B fn k (.not a) := by
  intro env ρ S S' v b ex F as A Q E s hc he ht hr f p
  apply onUn_e (x := ex) hc
  intro op l pos h00
  refine dand h00 fun hop hc => ?_
  subst hop
  refine bind2_e he fun v1 S1 e1 he => ?_
  refine map_e he fun b' e2 he => ?_
  cases he
  cases ht
  exact wpAny_isTrue_Not (ha _ _ _ _ _ _ _ _ _ _ _ _ _ hc e1 e2 hr f p)
theorem cmp_e {op : Cop} {a b : Ex} {ks : Ks} {P : Expr → Prop} {ex : Expr} (hc : chk T ks (.cmp op a b) ex = true) (h : ∀ l r pos, behindInMarks op.op r = false → chk T ks a l = true → chk T ks b r = true → P (.Compare l [op.op] [r] pos)) : P ex := by
  apply onCmp_e (x := ex) hc
  intro l os rs pos hc
  apply on1_e (x := os) hc
  intro o hc
  apply on1_e (x := rs) hc
  intro r hc
  have hc : (o == op.op && !behindInMarks o r && chk T ks a l && chk T ks b r) = true := hc
  simp only [Bool.and_eq_true, beq_iff_eq, Bool.not_eq_true'] at hc
  obtain ⟨⟨⟨rfl, h0⟩, c1⟩, c2⟩ := hc
  exact h l r pos h0 c1 c2
theorem snd_cmp (G : Gl T B mg mb) {op : Cop} {a b : Ex} (ha : Snd prog w T B fn k a) (hb : Snd prog w T B fn k b) : Snd prog w T B fn k (.cmp op a b) := by
  intro env ρ S S' v ex F as A Q E s hc he hr f p
  apply cmp_e (ex := ex) hc
  intro l r pos hm c1 c2
  refine bind2_e he fun v1 S1 e1 he => ?_
  refine bind2_e he fun v2 S2 e2 he => ?_
  refine bind_e he fun x e3 he => ?_
  refine bind_e he fun y e4 he => ?_
  refine map_e he fun z e5 he => ?_
  cases he
  refine wpAny_Compare1 (ha _ _ _ _ _ _ _ _ _ _ _ _ c1 e1 hr f fun h1 t1 u1 as1 x1 a1 r1 => hb _ _ _ _ _ _ _ _ _ _ _ _ c2 e2 hr (f.adv x1 a1) fun h2 t2 u2 as2 x2 a2 r2 => ?_) hm
  exact op_cmp e5 (x2.read G.sys (r1.adv a2) e3) (x2.read G.sys r2 e4) hr.u64 fun tk => p _ _ _ as2 x2 (a1.trans a2) (.bool _)
theorem sndT_cmp (G : Gl T B mg mb) {op : Cop} {a b : Ex} (ha : Snd prog w T B fn k a) (hb : Snd prog w T B fn k b) : SndT prog w T B fn k (.cmp op a b) := by
  intro env ρ S S' v c ex F as A Q E s hc he ht hr f p
  apply cmp_e (ex := ex) hc
  intro l r pos hm c1 c2
  refine bind2_e he fun v1 S1 e1 he => ?_
  refine bind2_e he fun v2 S2 e2 he => ?_
  refine bind_e he fun x e3 he => ?_
  refine bind_e he fun y e4 he => ?_
  refine map_e he fun z e5 he => ?_
  cases he
  cases ht
  refine wpAny_isTrue_Compare1 (ha _ _ _ _ _ _ _ _ _ _ _ _ c1 e1 hr f fun h1 t1 u1 as1 x1 a1 r1 => hb _ _ _ _ _ _ _ _ _ _ _ _ c2 e2 hr (f.adv x1 a1) fun h2 t2 u2 as2 x2 a2 r2 => ?_) hm
  exact op_cmp e5 (x2.read G.sys (r1.adv a2) e3) (x2.read G.sys r2 e4) hr.u64 fun tk => wpAny_truthy_bool (p _ _ as2 x2 (a1.trans a2))
theorem isN_e {a : Ex} {ks : Ks} {P : Expr → Prop} {ex : Expr} (hc : chk T ks (.isN a) ex = true) (h : ∀ l n pos pos', chk T ks a l = true → P (.Compare l [.Is] [.Constant .none n pos] pos')) : P ex := by
  apply onCmp_e (x := ex) hc
  intro l os rs pos hc
  apply on1_e (x := rs) hc
  intro r hc
  apply onConst_e (x := r) hc
  intro c n p h00
  refine dand h00 fun h1 hc => dand hc fun h2 hc => ?_
  subst h1 h2
  exact h l n p pos hc
theorem isNotN_e {a : Ex} {ks : Ks} {P : Expr → Prop} {ex : Expr} (hc : chk T ks (.isNotN a) ex = true) (h : ∀ l n pos pos', chk T ks a l = true → P (.Compare l [.IsNot] [.Constant .none n pos] pos')) : P ex := by
  apply onCmp_e (x := ex) hc
  intro l os rs pos hc
  apply on1_e (x := rs) hc
  intro r hc
  apply onConst_e (x := r) hc
  intro c n p h00
  refine dand h00 fun h1 hc => dand hc fun h2 hc => ?_
  subst h1 h2
  exact h l n p pos hc
noncomputable def isNone : Va → Bool
  | .d .none => true
  | _ => false
theorem isNone_is (v : Va) : isNone v = (match v with | .d .none => true | _ => false) := by unfold isNone; rfl
theorem isNone_not (v : Va) : (!isNone v) = (match v with | .d .none => false | _ => true) := by unfold isNone; split <;> rfl
theorem isN_fact {s : Shared} {X : List Addr} {val : Value} {v : Va} (r : VaRep prog w X as s.heap val v) : plainIs val .none = true ∧ (val == Value.none) = isNone v := by
  cases v with
  | c n => obtain ⟨a, _, rfl⟩ := r; exact ⟨rfl, rfl⟩
  | d x =>
    cases x with
    | none => have r : Rep prog w X s.heap val .none := r; cases r; exact ⟨rfl, rfl⟩
    | bool b => have r : Rep prog w X s.heap val (.bool b) := r; cases r; exact ⟨rfl, rfl⟩
    | int b => have r : Rep prog w X s.heap val (.int b) := r; cases r; exact ⟨rfl, rfl⟩
    | str b => have r : Rep prog w X s.heap val (.str b) := r; cases r; exact ⟨rfl, rfl⟩
    | list b => obtain ⟨a, vs, n, rfl, _⟩ := (RdR.of (show Rep prog w X s.heap val (.list b) from r)).list_inv; exact ⟨rfl, rfl⟩
    | tuple b => obtain ⟨a, vs, n, rfl, _⟩ := (RdR.of (show Rep prog w X s.heap val (.tuple b) from r)).tup_inv; exact ⟨rfl, rfl⟩
    | dict b => obtain ⟨a, rfl, _⟩ := (RdR.of (show Rep prog w X s.heap val (.dict b) from r)).dict_inv; exact ⟨rfl, rfl⟩
theorem snd_isN {a : Ex} (ha : Snd prog w T B fn k a) : Snd prog w T B fn k (.isN a) := by
  intro env ρ S S' v ex F as A Q E s hc he hr f p
  apply isN_e (ex := ex) hc
  intro l n pos pos' c1
  refine map2_e he fun v1 S1 e1 he => ?_
  cases he
  refine wpAny_Compare1 (ha _ _ _ _ _ _ _ _ _ _ _ _ c1 e1 hr f fun h1 t1 u1 as1 x1 a1 r1 => ?_) (by rfl)
  rw [arm_eval_Constant]
  refine wpAny_pure ?_
  obtain ⟨q1, q2⟩ := isN_fact (s := { s with heap := h1, toks := t1 }) r1
  refine wpAny_is_plain q1 ?_
  rw [q2]
  rw [isNone_is]
  exact p _ _ _ as1 x1 a1 (.bool _)
theorem sndT_isN {a : Ex} (ha : Snd prog w T B fn k a) : SndT prog w T B fn k (.isN a) := by
  intro env ρ S S' v b ex F as A Q E s hc he ht hr f p
  apply isN_e (ex := ex) hc
  intro l n pos pos' c1
  refine map2_e he fun v1 S1 e1 he => ?_
  cases he
  cases ht
  refine wpAny_isTrue_Compare1 (ha _ _ _ _ _ _ _ _ _ _ _ _ c1 e1 hr f fun h1 t1 u1 as1 x1 a1 r1 => ?_) (by rfl)
  rw [arm_eval_Constant]
  refine wpAny_pure ?_
  obtain ⟨q1, q2⟩ := isN_fact (s := { s with heap := h1, toks := t1 }) r1
  refine wpAny_is_plain q1 (wpAny_truthy_bool ?_)
  rw [q2]
  exact p _ _ as1 x1 a1
theorem snd_isNotN {a : Ex} (ha : Snd prog w T B fn k a) : Snd prog w T B fn k (.isNotN a) := by
  intro env ρ S S' v ex F as A Q E s hc he hr f p
  apply isNotN_e (ex := ex) hc
  intro l n pos pos' c1
  refine map2_e he fun v1 S1 e1 he => ?_
  cases he
  refine wpAny_Compare1 (ha _ _ _ _ _ _ _ _ _ _ _ _ c1 e1 hr f fun h1 t1 u1 as1 x1 a1 r1 => ?_) (by rfl)
  rw [arm_eval_Constant]
  refine wpAny_pure ?_
  obtain ⟨q1, q2⟩ := isN_fact (s := { s with heap := h1, toks := t1 }) r1
  refine wpAny_isNot_plain q1 ?_
  rw [q2]
  rw [isNone_not]
  exact p _ _ _ as1 x1 a1 (.bool _)
theorem sndT_isNotN {a : Ex} (ha : Snd prog w T B fn k a) : SndT prog w T B fn k (.isNotN a) := by
  intro env ρ S S' v b ex F as A Q E s hc he ht hr f p
  apply isNotN_e (ex := ex) hc
  intro l n pos pos' c1
  refine map2_e he fun v1 S1 e1 he => ?_
  cases he
  cases ht
  refine wpAny_isTrue_Compare1 (ha _ _ _ _ _ _ _ _ _ _ _ _ c1 e1 hr f fun h1 t1 u1 as1 x1 a1 r1 => ?_) (by rfl)
  rw [arm_eval_Constant]
  refine wpAny_pure ?_
  obtain ⟨q1, q2⟩ := isN_fact (s := { s with heap := h1, toks := t1 }) r1
  refine wpAny_isNot_plain q1 (wpAny_truthy_bool ?_)
  rw [q2]
  rw [isNone_not]
  exact p _ _ as1 x1 a1
theorem snd_ite {t a b : Ex} (ht : SndT prog w T B fn k t) (ha : Snd prog w T B fn k a) (hb : Snd prog w T B fn k b) : Snd prog w T B fn k (.ite t a b) := by
  intro env ρ S S' v ex F as A Q E s hc he hr f p
  apply onIfE_e (x := ex) hc
  intro x y z pos hc
  have hc : (chk T env.scope.names t x && chk T env.scope.names a y && chk T env.scope.names b z) = true := hc
  simp only [Bool.and_eq_true] at hc
  obtain ⟨⟨c1, c2⟩, c3⟩ := hc
  refine bind2_e he fun v1 S1 e1 he => ?_
  refine bind_e he fun c e2 he => ?_
  refine wpAny_IfExp (ht _ _ _ _ _ _ _ _ _ _ _ _ _ c1 e1 e2 hr f fun h1 t1 as1 x1 a1 => ?_)
  cases c
  · exact hb _ _ _ _ _ _ _ _ _ _ _ _ c3 he hr (f.adv x1 a1) (p.after a1)
  · exact ha _ _ _ _ _ _ _ _ _ _ _ _ c2 he hr (f.adv x1 a1) (p.after a1)
theorem sndT_ite {t a b : Ex} (ht : SndT prog w T B fn k t) (ha : SndT prog w T B fn k a) (hb : SndT prog w T B fn k b) : SndT prog w T B fn k (.ite t a b) := by
  intro env ρ S S' v b ex F as A Q E s hc he hv hr f p
  apply onIfE_e (x := ex) hc
  intro x y z pos hc
  have hc : (chk T env.scope.names t x && chk T env.scope.names a y && chk T env.scope.names _ z) = true := hc
  simp only [Bool.and_eq_true] at hc
  obtain ⟨⟨c1, c2⟩, c3⟩ := hc
  refine bind2_e he fun v1 S1 e1 he => ?_
  refine bind_e he fun c e2 he => ?_
  rw [arm_isTrue_IfExp]
  refine wpAny_bind (ht _ _ _ _ _ _ _ _ _ _ _ _ _ c1 e1 e2 hr f fun h1 t1 as1 x1 a1 => ?_)
  cases c
  · exact hb _ _ _ _ _ _ _ _ _ _ _ _ _ c3 he hv hr (f.adv x1 a1) (p.after a1)
  · exact ha _ _ _ _ _ _ _ _ _ _ _ _ _ c2 he hv hr (f.adv x1 a1) (p.after a1)
theorem chkL_cons {ks : Ks} {e : Ex} {es : List Ex} {xs : List Expr} (hc : chkL T ks (e :: es) xs = true) : ∃ x r, xs = x :: r ∧ chk T ks e x = true ∧ notStar x = true ∧ chkL T ks es r = true := by
  apply onU_e (x := xs) hc
  intro x r hc
  have hc := and2 hc
  have h2 := and2 hc.1
  exact ⟨x, r, rfl, h2.1, h2.2, hc.2⟩
theorem chkL_nil {ks : Ks} {xs : List Expr} (hc : chkL T ks [] xs = true) : xs = [] := by
  apply onNil_e (x := xs) hc
  intro _
  rfl
theorem and_list {A : Around} {pos : Pos} (hr : Rm A k) : ∀ (es : List Ex) (xs : List Expr) (env : Env) (ρ : Ro) (S S' : Sto) (v : Va) (F as : List Addr) (Q E : Value → Shared → Prop) (s : Shared), es ≠ [] → SndL prog w T B fn k es → chkL T env.scope.names es xs = true → evAnd fn ρ S es = some (v, S') → Fm prog w T.nt B F as env ρ S s.heap → Pv prog w B F as S' s v Q →
    wpAny (model prog w) A (boolOp pos .And (evalEach xs env)) Q E s := by
  intro es
  induction es with
  | nil => intro xs env ρ S S' v F as Q E s hn; exact absurd rfl hn
  | cons e es ih =>
    intro xs env ρ S S' v F as Q E s _ hL hc he f p
    obtain ⟨x, r, rfl, c1, _, c2⟩ := chkL_cons hc
    refine bind2_e he fun v1 S1 e1 he => ?_
    refine bind_e he fun b e2 he => ?_
    have hs := (hL e (.head _)).1
    cases es with
    | nil =>
      obtain rfl := chkL_nil c2
      have : v = v1 ∧ S' = S1 := by
        obtain rfl : v1 = .d (.bool b) := tru_inv e2
        cases b
        · cases he; exact ⟨rfl, rfl⟩
        · cases he; exact ⟨rfl, rfl⟩
      obtain ⟨rfl, rfl⟩ := this
      exact hs _ _ _ _ _ _ _ _ _ _ _ _ c1 e1 hr f p
    | cons e' es' =>
      obtain ⟨x', r', rfl, c3, _, c4⟩ := chkL_cons c2
      show wpAny _ _ (do let v ← eval x env; standAt pos; let t ← holding [v] (truthy v); match BoolOp.And, t with | .And, false | .Or, true => pure v | _, _ => boolOp pos .And (evalEach (x' :: r') env)) _ _ _
      refine wpAny_bind (hs _ _ _ _ _ _ _ _ _ _ _ _ c1 e1 hr f fun h1 t1 u1 as1 x1 a1 r1 => wpAny_bind (wpAny_standAt (wpAny_bind (wpAny_holding ?_))))
      rw [tru_val r1 e2]
      refine wpAny_truthy_bool ?_
      cases b
      · cases he
        exact wpAny_pure (p _ _ _ as1 x1 a1 (.bool _))
      · exact ih (x' :: r') env ρ S1 S' v F as1 Q E _ (by simp) (fun e he => hL e (.tail _ he)) c2 he (f.adv x1 a1) (p.after a1)
theorem or_list {A : Around} {pos : Pos} (hr : Rm A k) : ∀ (es : List Ex) (xs : List Expr) (env : Env) (ρ : Ro) (S S' : Sto) (v : Va) (F as : List Addr) (Q E : Value → Shared → Prop) (s : Shared), es ≠ [] → SndL prog w T B fn k es → chkL T env.scope.names es xs = true → evOr fn ρ S es = some (v, S') → Fm prog w T.nt B F as env ρ S s.heap → Pv prog w B F as S' s v Q →
    wpAny (model prog w) A (boolOp pos .Or (evalEach xs env)) Q E s := by
  intro es
  induction es with
  | nil => intro xs env ρ S S' v F as Q E s hn; exact absurd rfl hn
  | cons e es ih =>
    intro xs env ρ S S' v F as Q E s _ hL hc he f p
    obtain ⟨x, r, rfl, c1, _, c2⟩ := chkL_cons hc
    refine bind2_e he fun v1 S1 e1 he => ?_
    refine bind_e he fun b e2 he => ?_
    have hs := (hL e (.head _)).1
    cases es with
    | nil =>
      obtain rfl := chkL_nil c2
      have : v = v1 ∧ S' = S1 := by
        obtain rfl : v1 = .d (.bool b) := tru_inv e2
        cases b
        · cases he; exact ⟨rfl, rfl⟩
        · cases he; exact ⟨rfl, rfl⟩
      obtain ⟨rfl, rfl⟩ := this
      exact hs _ _ _ _ _ _ _ _ _ _ _ _ c1 e1 hr f p
    | cons e' es' =>
      obtain ⟨x', r', rfl, c3, _, c4⟩ := chkL_cons c2
      show wpAny _ _ (do let v ← eval x env; standAt pos; let t ← holding [v] (truthy v); match BoolOp.Or, t with | .And, false | .Or, true => pure v | _, _ => boolOp pos .Or (evalEach (x' :: r') env)) _ _ _
      refine wpAny_bind (hs _ _ _ _ _ _ _ _ _ _ _ _ c1 e1 hr f fun h1 t1 u1 as1 x1 a1 r1 => wpAny_bind (wpAny_standAt (wpAny_bind (wpAny_holding ?_))))
      rw [tru_val r1 e2]
      refine wpAny_truthy_bool ?_
      cases b
      · exact ih (x' :: r') env ρ S1 S' v F as1 Q E _ (by simp) (fun e he => hL e (.tail _ he)) c2 he (f.adv x1 a1) (p.after a1)
      · cases he
        exact wpAny_pure (p _ _ _ as1 x1 a1 (.bool _))
theorem and_test {A : Around} (hr : Rm A k) : ∀ (es : List Ex) (xs : List Expr) (env : Env) (ρ : Ro) (S S' : Sto) (v : Va) (b : Bool) (F as : List Addr) (Q : Bool → Shared → Prop) (E : Value → Shared → Prop) (s : Shared), SndL prog w T B fn k es → chkL T env.scope.names es xs = true → evAnd fn ρ S es = some (v, S') → tru v = some b → Fm prog w T.nt B F as env ρ S s.heap → Pt prog w B F as S' s b Q →
    wpAny (model prog w) A (allTrue .And xs env) Q E s := by
  intro es
  induction es with
  | nil =>
    intro xs env ρ S S' v b F as Q E s hL hc he ht f p
    obtain rfl := chkL_nil hc
    cases he; cases ht
    exact wpAny_allTrue_And_nil (p _ s.toks as f.st Adv.refl)
  | cons e es ih =>
    intro xs env ρ S S' v b F as Q E s hL hc he ht f p
    obtain ⟨x, r, rfl, c1, _, c2⟩ := chkL_cons hc
    refine bind2_e he fun v1 S1 e1 he => ?_
    refine bind_e he fun c e2 he => ?_
    refine wpAny_allTrue_And_cons ((hL e (.head _)).2 _ _ _ _ _ _ _ _ _ _ _ _ _ c1 e1 e2 hr f fun h1 t1 as1 x1 a1 => ?_)
    cases c
    · cases he; cases ht
      exact p _ _ as1 x1 a1
    · exact ih r env ρ S1 S' v b F as1 Q E _ (fun e he => hL e (.tail _ he)) c2 he ht (f.adv x1 a1) (p.after a1)
theorem or_test {A : Around} (hr : Rm A k) : ∀ (es : List Ex) (xs : List Expr) (env : Env) (ρ : Ro) (S S' : Sto) (v : Va) (b : Bool) (F as : List Addr) (Q : Bool → Shared → Prop) (E : Value → Shared → Prop) (s : Shared), SndL prog w T B fn k es → chkL T env.scope.names es xs = true → evOr fn ρ S es = some (v, S') → tru v = some b → Fm prog w T.nt B F as env ρ S s.heap → Pt prog w B F as S' s b Q →
    wpAny (model prog w) A (allTrue .Or xs env) Q E s := by
  intro es
  induction es with
  | nil =>
    intro xs env ρ S S' v b F as Q E s hL hc he ht f p
    obtain rfl := chkL_nil hc
    cases he; cases ht
    exact wpAny_allTrue_Or_nil (p _ s.toks as f.st Adv.refl)
  | cons e es ih =>
    intro xs env ρ S S' v b F as Q E s hL hc he ht f p
    obtain ⟨x, r, rfl, c1, _, c2⟩ := chkL_cons hc
    refine bind2_e he fun v1 S1 e1 he => ?_
    refine bind_e he fun c e2 he => ?_
    refine wpAny_allTrue_Or_cons ((hL e (.head _)).2 _ _ _ _ _ _ _ _ _ _ _ _ _ c1 e1 e2 hr f fun h1 t1 as1 x1 a1 => ?_)
    cases c
    · exact ih r env ρ S1 S' v b F as1 Q E _ (fun e he => hL e (.tail _ he)) c2 he ht (f.adv x1 a1) (p.after a1)
    · cases he; cases ht
      exact p _ _ as1 x1 a1
theorem and_e {es : List Ex} {ks : Ks} {P : Expr → Prop} {ex : Expr} (hc : chk T ks (.and es) ex = true) (h : ∀ vs pos, es ≠ [] → chkL T ks es vs = true → P (.BoolOp .And vs pos)) : P ex := by
  apply onBop_e (x := ex) hc
  intro op vs pos h00
  refine dand h00 fun h1 hc => ?_
  subst h1
  simp only [Bool.and_eq_true, Bool.not_eq_true', List.isEmpty_eq_false_iff] at hc
  exact h vs pos hc.1 hc.2
theorem or_e {es : List Ex} {ks : Ks} {P : Expr → Prop} {ex : Expr} (hc : chk T ks (.or es) ex = true) (h : ∀ vs pos, es ≠ [] → chkL T ks es vs = true → P (.BoolOp .Or vs pos)) : P ex := by
  apply onBop_e (x := ex) hc
  intro op vs pos h00
  refine dand h00 fun h1 hc => ?_
  subst h1
  simp only [Bool.and_eq_true, Bool.not_eq_true', List.isEmpty_eq_false_iff] at hc
  exact h vs pos hc.1 hc.2
theorem snd_and {es : List Ex} (hL : SndL prog w T B fn k es) : Snd prog w T B fn k (.and es) := by
  intro env ρ S S' v ex F as A Q E s hc he hr f p
  apply and_e (ex := ex) hc
  intro vs pos hn c
  rw [arm_eval_BoolOp]
  exact and_list hr es vs env ρ S S' v F as Q E s hn hL c he f p
theorem snd_or {es : List Ex} (hL : SndL prog w T B fn k es) : Snd prog w T B fn k (.or es) := by
  intro env ρ S S' v ex F as A Q E s hc he hr f p
  apply or_e (ex := ex) hc
  intro vs pos hn c
  rw [arm_eval_BoolOp]
  exact or_list hr es vs env ρ S S' v F as Q E s hn hL c he f p
theorem sndT_and {es : List Ex} (hL : SndL prog w T B fn k es) : SndT prog w T B fn k (.and es) := by
  intro env ρ S S' v b ex F as A Q E s hc he ht hr f p
  apply and_e (ex := ex) hc
  intro vs pos hn c
  exact wpAny_isTrue_BoolOp (and_test hr es vs env ρ S S' v b F as Q E s hL c he ht f p)
theorem sndT_or {es : List Ex} (hL : SndL prog w T B fn k es) : SndT prog w T B fn k (.or es) := by
  intro env ρ S S' v b ex F as A Q E s hc he ht hr f p
  apply or_e (ex := ex) hc
  intro vs pos hn c
  exact wpAny_isTrue_BoolOp (or_test hr es vs env ρ S S' v b F as Q E s hL c he ht f p)
theorem snd_args {A : Around} {pos : Pos} (hr : Rm A k) : ∀ (es : List Ex) (xs : List Expr) (env : Env) (ρ : Ro) (S S' : Sto) (vs : List Va) (F as : List Addr) (Q : List Value → Shared → Prop) (E : Value → Shared → Prop) (s : Shared), SndL prog w T B fn k es → chkL T env.scope.names es xs = true → evs fn ρ S es = some (vs, S') → Fm prog w T.nt B F as env ρ S s.heap → Ps prog w B F as S' s vs Q →
    wpAny (model prog w) A (spliced (backTo pos (starEach xs env))) Q E s := by
  intro es
  induction es with
  | nil =>
    intro xs env ρ S S' vs F as Q E s hL hc he f p
    obtain rfl := chkL_nil hc
    cases he
    exact Calls.spliced_nil (p _ s.toks _ as f.st Adv.refl .nil)
  | cons e es ih =>
    intro xs env ρ S S' vs F as Q E s hL hc he f p
    obtain ⟨x, r, rfl, c1, c0, c2⟩ := chkL_cons hc
    refine bind2_e he fun v1 S1 e1 he => ?_
    refine map2_e he fun vs' S2 e2 he => ?_
    cases he
    have e0 : starEach (x :: r) env = (false, eval x env) :: starEach r env := by cases x <;> first | rfl | exact absurd c0 Bool.false_ne_true
    rw [e0]
    show wpAny _ _ (spliced ((false, eval x env) :: backTo pos (starEach r env))) _ _ _
    refine Calls.spliced_cons ((hL e (.head _)).1 _ _ _ _ _ _ _ _ _ _ _ _ c1 e1 hr f fun h1 t1 u1 as1 x1 a1 r1 => ?_)
    exact ih r env ρ S1 _ vs' F as1 _ E _ (fun e he => hL e (.tail _ he)) c2 e2 (f.adv x1 a1) fun h2 t2 us as2 x2 a2 r2 => p _ _ _ as2 x2 (a1.trans a2) (.cons (r1.adv a2) r2)
theorem starEach_plain {es : List Ex} {xs : List Expr} {ks : Ks} {pos : Pos} (hc : chkL T ks es xs = true) : (backTo pos (starEach xs env)).any (·.1) = false := by
  induction es generalizing xs with
  | nil => obtain rfl := chkL_nil hc; rfl
  | cons e es ih =>
    obtain ⟨x, r, rfl, c1, c0, c2⟩ := chkL_cons hc
    have e0 : starEach (x :: r) env = (false, eval x env) :: starEach r env := by cases x <;> first | rfl | exact absurd c0 Bool.false_ne_true
    rw [e0]
    show (false || (backTo pos (starEach r env)).any (·.1)) = false
    rw [ih c2]; rfl
theorem evs_len {es : List Ex} : ∀ {S S' : Sto} {vs : List Va}, evs fn ρ S es = some (vs, S') → vs.length = es.length := by
  induction es with
  | nil => intro S S' vs he; cases he; rfl
  | cons e es ih =>
    intro S S' vs he
    refine bind2_e he fun v1 S1 e1 he => ?_
    refine map2_e he fun vs' S2 e2 he => ?_
    cases he
    simp [ih e2]
theorem snd_tup {es : List Ex} (hL : SndL prog w T B fn k es) : Snd prog w T B fn k (.tup es) := by
  intro env ρ S S' v ex F as A Q E s hc he hr f p
  apply onTup_e (x := ex) hc
  intro xs n pos hc
  have hc : (decide (es.length ≤ 100) && chkL T env.scope.names es xs) = true := hc
  simp only [Bool.and_eq_true, decide_eq_true_eq] at hc
  refine bind2_e he fun vs S1 e1 he => ?_
  refine map_e he fun ds e2 he => ?_
  cases he
  refine Tuple_ (snd_args hr es xs env ρ S _ vs F as _ E s hL hc.2 e1 f fun h1 t1 us as1 x1 a1 r1 => ?_)
  have h1 := Paired.length r1
  have h2 := evs_len e1
  exact op_tuple x1.liv (dats_rep r1 e2) (by simp [big]; lia) ((p.after a1).gv x1)
theorem snd_lst {es : List Ex} (hL : SndL prog w T B fn k es) : Snd prog w T B fn k (.lst es) := by
  intro env ρ S S' v ex F as A Q E s hc he hr f p
  apply onLst_e (x := ex) hc
  intro xs pos hc
  have hc : (decide (es.length ≤ 100) && chkL T env.scope.names es xs) = true := hc
  simp only [Bool.and_eq_true, decide_eq_true_eq] at hc
  refine bind2_e he fun vs S1 e1 he => ?_
  refine map_e he fun ds e2 he => ?_
  cases he
  refine List_ (snd_args hr es xs env ρ S _ vs F as _ E s hL hc.2 e1 f fun h1 t1 us as1 x1 a1 r1 => ?_)
  have h1 := Paired.length r1
  have h2 := evs_len e1
  exact op_list x1.liv (dats_rep r1 e2) (by simp [big]; lia) ((p.after a1).gv x1)
theorem new_cell {s : Shared} {ce : Ce} {o : Obj} {Q : Value → Shared → Prop} (x : St prog w B F as S s.heap) (hc : ∀ h', Adv as s.heap (as ++ [s.heap.objs.size]) h' → h'.get? s.heap.objs.size = some o → CeAt prog w (F ++ (as ++ [s.heap.objs.size])) (as ++ [s.heap.objs.size]) h' s.heap.objs.size ce) (ho : (s.heap.push o).get? s.heap.objs.size = some o)
    (p : Pv prog w B F as (S ++ [ce]) s (.c S.length) Q) (tk : Nat) : Q (.ref s.heap.objs.size) { s with heap := s.heap.push o, toks := tk } := by
  have hn : s.heap.get? s.heap.objs.size = none := Heap.get?_none_of_le (Nat.le_refl _)
  have a : Adv as s.heap (as ++ [s.heap.objs.size]) (s.heap.push o) := ⟨_, rfl, (Step.push (W := []) o).more (fun _ q => nomatch q), fun b hb => by rw [List.mem_singleton.mp hb]; exact hn⟩
  refine p _ tk _ _ (x.add (fun b o e => Heap.get?_push_of_some _ e) hn (hc _ a ho)) a ⟨_, ?_, rfl⟩
  rw [← x.len, List.getElem?_append_right (Nat.le_refl _)]; simp
theorem snd_lstC {es : List Ex} (hL : SndL prog w T B fn k es) : Snd prog w T B fn k (.lstC es) := by
  intro env ρ S S' v ex F as A Q E s hc he hr f p
  apply onLst_e (x := ex) hc
  intro xs pos hc
  have hc : (decide (es.length ≤ 100) && chkL T env.scope.names es xs) = true := hc
  simp only [Bool.and_eq_true, decide_eq_true_eq] at hc
  refine map2_e he fun vs S1 e1 he => ?_
  cases he
  refine List_ (snd_args hr es xs env ρ S _ vs F as _ E s hL hc.2 e1 f fun h1 t1 us as1 x1 a1 r1 => ?_)
  have h3 := Paired.length r1
  have h4 := evs_len e1
  refine wpAny_newList ?_ (by have := big_line; simp [big] at this; lia)
  refine new_cell (ce := .list vs) (s := { s with heap := h1, toks := t1 }) x1 (fun h' a' ho => ⟨us, 0, ho, Paired.adv r1 a'⟩) (Heap.get?_push_size _ rfl) (p.after a1) t1
theorem snd_dctC : Snd prog w T B fn k .dctC := by
  intro env ρ S S' v ex F as A Q E s hc he hr f p
  apply onDct_e (x := ex) hc
  intro ks vs pos hc
  apply onNil_e (x := ks) hc
  intro hc
  apply onNil_e (x := vs) hc
  intro hc
  cases he
  refine wpAny_Dict_empty ?_
  refine new_cell (ce := .dict []) f.st (fun h' a' ho => .inl ⟨[], ⟨_, #[], 0, ho, ⟨rfl, rfl, rfl⟩, rfl, fun _ he => by simp at he, Pairs.nil, List.nodup_nil⟩, .nil⟩) (Heap.get?_push_size _ rfl) p s.toks
end
end Mine
end
end
section
open PySem PySem.Calls PySem.W PyProof.Rows
set_option maxRecDepth 100000
set_option Elab.async false
set_option autoImplicit false
set_option linter.unusedVariables false
noncomputable section
namespace Mine
noncomputable def New (N : List Addr) (h h' : Heap) : Prop := ∀ c ∈ N, h.get? c = none ∧ (h'.get? c).isSome = true
section
variable {prog : Program} {w : World} {nt : List Str} {B : Heap} {F as as' N : List Addr} {env : Env} {ρ : Ro} {S S' : Sto} {h h' h'' : Heap}
theorem inWide {X : List Addr} (hN : New N h h') : ∀ b ∈ (N ++ X), b ∈ X ∨ h.get? b = none := fun b hb => (List.mem_append.mp hb).elim (fun q => .inr (hN b q).1) .inl
theorem VaRep.wide {val : Value} {v : Va} (r : VaRep prog w (F ++ as) as h val v) (k : Step [] h h') (hN : New N h h') : VaRep prog w ((N ++ F) ++ as) as h' val v := by
  have := r.step (X' := (N ++ F) ++ as) (nw := []) k (fun _ q => nomatch q) (by rw [List.append_assoc]; exact inWide hN)
  rwa [List.append_nil] at this
theorem VaRep.narrow {val : Value} {v : Va} (r : VaRep prog w ((N ++ F) ++ as) as h val v) : VaRep prog w (F ++ as) as h val v := by
  have := r.step (X' := F ++ as) (nw := []) (W := []) Step.refl (fun _ q => nomatch q) (fun b hb => .inl (by rw [List.append_assoc]; exact List.mem_append_right _ hb))
  rwa [List.append_nil] at this
theorem St.wide (x : St prog w B F as S h) (k : Step [] h h') (hN : New N h h') : St prog w B (N ++ F) as S h' := by
  refine ⟨fun b o e => k.keep b o (fun q => nomatch q) (x.base b o e), fun b hb => ?_, fun b hb => ?_, x.nd, fun b hb q => ?_, x.len, fun n a c h1 h2 => ?_⟩
  · rw [List.append_assoc] at hb
    rcases List.mem_append.mp hb with hb | hb
    · cases e : B.get? b with
      | none => rfl
      | some o => have := x.base b o e; rw [(hN b hb).1] at this; cases this
    · exact x.vol b hb
  · rcases List.mem_append.mp hb with hb | hb
    · exact (hN b hb).2
    · exact k.live b (x.live b hb)
  · rcases List.mem_append.mp q with q | q
    · have := x.clive b hb; rw [(hN b q).1] at this; cases this
    · exact x.off b hb q
  · have := (x.cells n a c h1 h2).step (X' := (N ++ F) ++ as) (nw := []) k (fun _ q => nomatch q) (by rw [List.append_assoc]; exact inWide hN) (fun o e => k.keep a o (fun q => nomatch q) e)
    rwa [List.append_nil] at this
theorem St.narrow (x : St prog w B (N ++ F) as S h) : St prog w B F as S h := by
  refine ⟨x.base, fun b hb => x.vol b (by rw [List.append_assoc]; exact List.mem_append_right _ hb), fun b hb => x.live b (List.mem_append_right _ hb), x.nd, fun b hb q => x.off b hb (List.mem_append_right _ q), x.len, fun n a c h1 h2 => ?_⟩
  have := (x.cells n a c h1 h2).step (X' := F ++ as) (nw := []) (W := []) Step.refl (fun _ q => nomatch q) (fun b hb => .inl (by rw [List.append_assoc]; exact List.mem_append_right _ hb)) (fun o e => e)
  rwa [List.append_nil] at this
theorem Fm.wide (f : Fm prog w nt B F as env ρ S h) (k : Step [] h h') (hN : New N h h') : Fm prog w nt B (N ++ F) as env ρ S h' := by
  have kk : ∀ a o, h.get? a = some o → h'.get? a = some o := fun a o e => k.keep a o (fun q => nomatch q) e
  refine ⟨f.st.wide k hN, f.kf, f.glo, f.blt, List.mem_append_right _ f.loc, ?_, fun z c hz => ?_, f.apart, f.cel, fun i v z hi hz => ?_⟩
  · obtain ⟨m, hm⟩ := f.ns; exact ⟨m, Ns.at hm (kk _)⟩
  · obtain ⟨h1, v, h2⟩ := f.cin z c hz; exact ⟨List.mem_append_right _ h1, v, IsCell.at h2 (kk _)⟩
  · obtain ⟨val, hv, h1, h2⟩ := f.vars i v z hi hz
    refine ⟨val, hv.wide k hN, fun e => ?_, fun c e1 e2 => IsCell.at (h2 c e1 e2) (kk _)⟩
    obtain ⟨m, hm, e⟩ := h1 e; exact ⟨m, Ns.at hm (kk _), e⟩
theorem Adv.narrow (hN : New N h h') (k : Step [] h h') (a : Adv as h' as' h'') : Adv as h as' h'' := (Adv.same k).trans a
theorem Adv.wrote (hN : New N h h') (a : Adv as h as' h') (k : Step N h' h'') : Adv as h as' h'' := by
  obtain ⟨nw, rfl, ka, hn⟩ := a
  exact ⟨nw, rfl, ka.trans_new (k.more fun c hc => List.mem_append_right _ hc) fun c hc => (hN c hc).1, hn⟩
theorem New.adv (hN : New N h h') (k : Step N h' h'') : New N h h'' := fun c hc => ⟨(hN c hc).1, k.live c (hN c hc).2⟩
theorem New.on (hN : New N h h') (a : Adv as h' as' h'') : New N h h'' := fun c hc => ⟨(hN c hc).1, let ⟨_, _, k, _⟩ := a; k.live c (hN c hc).2⟩
end
end Mine
end
end
section
open PySem PySem.Calls PySem.W PyProof.Rows
set_option maxRecDepth 100000
set_option Elab.async false
set_option autoImplicit false
set_option linter.unusedVariables false
noncomputable section
namespace Mine
noncomputable def FnOk (prog : Program) (w : World) (T : Tb) (B : Heap) (mg : Str → Option Value) (fn : Fn) (k : Nat) : Prop :=
  ∀ (f : Nat) (x : Str) (a : Addr) (args : List Va) (S S' : Sto) (v : Va) (A : Around) (F as : List Addr) (s : Shared) (vals : List Value) (Q E : Value → Shared → Prop),
    T.ft[f]? = some x → mg x = some (.ref a) → fn f args S = some (v, S') → Rm A k → St prog w B F as S s.heap → Paired (VaRep prog w (F ++ as) as s.heap) vals args → Pv prog w B F as S' s v Q → wpAny (model prog w) A (call (.ref a) vals) Q E s
section
variable {prog : Program} {w : World} {T : Tb} {B : Heap} {F as as' : List Addr} {env : Env} {ρ : Ro} {S S' : Sto} {mg mb : Str → Option Value} {fn : Fn} {k : Nat}
theorem dat_inv {v : Va} {x : PyData} (h : dat v = some x) : v = .d x := by cases v <;> cases h; rfl
theorem snd_idx (G : Gl T B mg mb) {a i : Ex} (ha : Snd prog w T B fn k a) (hi : Snd prog w T B fn k i) : Snd prog w T B fn k (.idx a i) := by
  intro env ρ S S' v ex F as A Q E s hc he hr f p
  apply onSub_e (x := ex) hc
  intro x y pos hc
  refine bind2_e he fun v1 S1 e1 he => ?_
  refine bind2_e he fun v2 S2 e2 he => ?_
  refine bind_e he fun d e3 he => ?_
  refine bind_e he fun y' e4 he => ?_
  refine map_e he fun z e5 he => ?_
  cases he
  obtain rfl := dat_inv e4
  have hc : (chk T env.scope.names a x && chk T env.scope.names i y) = true := hc
  simp only [Bool.and_eq_true] at hc
  refine Subscript_ (ha _ _ _ _ _ _ _ _ _ _ _ _ hc.1 e1 hr f fun h1 t1 u1 as1 x1 a1 r1 => hi _ _ _ _ _ _ _ _ _ _ _ _ hc.2 e2 hr (f.adv x1 a1) fun h2 t2 u2 as2 x2 a2 r2 => ?_)
  have rd1 := x2.read G.sys (r1.adv a2) e3
  refine sub_any rd1 ?_ (op_idx e5 rd1 r2 hr.u64 fun tk val r3 => p _ _ _ as2 x2 (a1.trans a2) r3)
  unfold idxD at e5
  split at e5
  · exact .inl ⟨_, rfl⟩
  · exact .inr (.inl ⟨_, rfl⟩)
  · exact .inr (.inr ⟨_, rfl⟩)
  · cases e5
theorem snd_part {A : Around} {Q E : Value → Shared → Prop} {s : Shared} {o : Option Ex} {x : Option Expr} {r : Option Int} (hs : ∀ e, o = some e → Snd prog w T B fn k e) (hc : chkO T env.scope.names o x = true) (he : evO fn ρ S o = some (r, S')) (hr : Rm A k) (f : Fm prog w T.nt B F as env ρ S s.heap)
    (p : ∀ h' tk val as', St prog w B F as' S' h' → Adv as s.heap as' h' → IsPart val r → Q val { s with heap := h', toks := tk }) : wpAny (model prog w) A (evalPart x env) Q E s := by
  cases o with
  | none =>
    apply onNo_e (x := x) hc
    intro hc
    · cases he; exact wpAny_pure (p _ s.toks _ as f.st Adv.refl .none)
  | some e =>
    apply onSo_e (x := x) hc
    intro y hc
    ·
      refine bind2_e he fun v1 S1 e1 he => ?_
      obtain ⟨i, rfl⟩ : ∃ i, v1 = .d (.int i) := by
        cases v1 with
        | c n => cases he
        | d x => cases x <;> first | exact ⟨_, rfl⟩ | cases he
      cases he
      refine hs e rfl _ _ _ _ _ _ _ _ _ _ _ _ hc e1 hr f fun h1 t1 u1 as1 x1 a1 r1 => ?_
      obtain ⟨t, rfl⟩ := (RdR.of r1).int_inv
      exact p _ _ _ as1 x1 a1 (.int _ _)
theorem snd_sl (G : Gl T B mg mb) {a : Ex} {lo hi : Option Ex} (ha : Snd prog w T B fn k a) (hlo : ∀ e, lo = some e → Snd prog w T B fn k e) (hhi : ∀ e, hi = some e → Snd prog w T B fn k e) : Snd prog w T B fn k (.sl a lo hi) := by
  intro env ρ S S' v ex F as A Q E s hc he hr f p
  apply onSub_e (x := ex) hc
  intro x y pos hc
  apply onSlc_e (x := y) hc
  intro l u st pos' hc
  apply onNo_e (x := st) hc
  intro hc
  have hc : (chk T env.scope.names a x && chkO T env.scope.names lo l && chkO T env.scope.names hi u) = true := hc
  simp only [Bool.and_eq_true] at hc
  refine bind2_e he fun v1 S1 e1 he => ?_
  refine bind2_e he fun o1 S2 e2 he => ?_
  refine bind2_e he fun o2 S3 e3 he => ?_
  refine bind_e he fun d e4 he => ?_
  refine Subscript_ (ha _ _ _ _ _ _ _ _ _ _ _ _ hc.1.1 e1 hr f fun h1 t1 u1 as1 x1 a1 r1 => ?_)
  refine wpAny_Slice (snd_part hlo hc.1.2 e2 hr (f.adv x1 a1) fun h2 t2 u2 as2 x2 a2 p2 => snd_part hhi hc.2 e3 hr ((f.adv x1 a1).adv x2 a2) fun h3 t3 u3 as3 x3 a3 p3 => ?_)
  refine wpAny_pure ?_
  have hst : Step [] h3 (h3.push { cls := .type "slice", data := .fields #[u2, u3, .none] }) := Step.push _
  have x4 : St prog w B F as3 S3 (h3.push { cls := .type "slice", data := .fields #[u2, u3, .none] }) := x3.step hst fun _ q => nomatch q
  have a4 : Adv as3 h3 as3 (h3.push { cls := .type "slice", data := .fields #[u2, u3, .none] }) := Adv.same hst
  have hsl : (h3.push { cls := .type "slice", data := .fields #[u2, u3, .none] }).IsSliceOf h3.objs.size u2 u3 .none := Heap.IsSliceOf.new ..
  have rd1 := x4.read G.sys (((r1.adv a2).adv a3).adv a4) e4
  have a5 := ((a1.trans a2).trans a3).trans a4
  cases d <;> first | cases he | skip
  · dsimp only at he
    split at he
    · rename_i hz
      cases he
      exact sub_any rd1 (.inl ⟨_, rfl⟩) (op_slice_list x4.liv rd1 hsl p2 p3 hz ((p.after a5).gv x4))
    · cases he
  · dsimp only at he
    split at he
    · rename_i hz
      cases he
      exact sub_any rd1 (.inr (.inl ⟨_, rfl⟩)) (op_slice_tup x4.liv rd1 hsl p2 p3 hz ((p.after a5).gv x4))
    · cases he
theorem snd_rev (G : Gl T B mg mb) {a : Ex} (ha : Snd prog w T B fn k a) : Snd prog w T B fn k (.rev a) := by
  intro env ρ S S' v ex F as A Q E s hc he hr f p
  apply onSub_e (x := ex) hc
  intro x y pos hc
  apply onSlc_e (x := y) hc
  intro l u st pos' hc
  apply onNo_e (x := l) hc
  intro hc
  apply onNo_e (x := u) hc
  intro hc
  apply onSo_e (x := st) hc
  intro st hc
  apply onUn_e (x := st) hc
  intro op t p2 hc
  apply onConst_e (x := t) hc
  intro c n p1 h00
  refine dand h00 fun g1 h01 => dand h01 fun g2 hcc => ?_
  subst g1 g2
  have hc := hcc
  refine bind2_e he fun v1 S1 e1 he => ?_
  refine bind_e he fun d e4 he => ?_
  refine Subscript_ (ha _ _ _ _ _ _ _ _ _ _ _ _ hc e1 hr f fun h1 t1 u1 as1 x1 a1 r1 => ?_)
  refine wpAny_Slice (wpAny_pure (wpAny_pure ?_))
  rw [evalPart_some]
  refine wpAny_UnaryOp ?_
  rw [arm_eval_Constant]
  refine wpAny_mkInt (PyProof.Rows.neg_int ?_)
  dsimp only
  generalize hsl0 : ({ cls := .type "slice", data := .fields #[Value.none, .none, .int (-1) (t1 + 1)] } : Obj) = sl0
  have hst : Step [] h1 (h1.push sl0) := Step.push _
  have x4 : St prog w B F as1 S1 (h1.push sl0) := x1.step hst fun _ q => nomatch q
  have a4 : Adv as1 h1 as1 (h1.push sl0) := Adv.same hst
  have hsl : (h1.push sl0).IsSliceOf h1.objs.size .none .none (.int (-1) (t1 + 1)) := by rw [← hsl0]; exact Heap.IsSliceOf.new ..
  have rd1 := x4.read G.sys (r1.adv a4) e4
  cases d <;> first | cases he | skip
  dsimp only at he
  split at he
  · rename_i hz
    cases he
    exact sub_any rd1 (.inl ⟨_, rfl⟩) (op_rev_list x4.liv rd1 hsl (.int _ _) hz ((p.after (a1.trans a4)).gv x4))
  · cases he
theorem args_shape {es : List Ex} {xs : List Expr} {ks : Ks} {pos : Pos} (hn : es ≠ []) (hc : chkL T ks es xs = true) : ∃ (x : Sem Value) (r : List (Bool × Sem Value)), backTo pos (starEach xs env) = (false, x) :: r := by
  cases es with
  | nil => exact absurd rfl hn
  | cons e es =>
    obtain ⟨x, r, rfl, c1, c0, c2⟩ := chkL_cons hc
    have e0 : starEach (x :: r) env = (false, eval x env) :: starEach r env := by cases x <;> first | rfl | exact absurd c0 Bool.false_ne_true
    rw [e0]
    exact ⟨_, _, rfl⟩
theorem snd_call (G : Gl T B mg mb) (FO : FnOk prog w T B mg fn k) {g : Nat} {es : List Ex} (hL : SndL prog w T B fn k es) : Snd prog w T B fn k (.call g es) := by
  intro env ρ S S' v ex F as A Q E s hc he hr f p
  apply onCall_e (x := ex) hc
  intro fu args kws pos hc
  apply onName_e (x := fu) hc
  intro x pos' hc
  apply onNil_e (x := kws) hc
  intro hc
  have hc : (T.ft[g]? == some x && env.scope.names.lookup x == some .globalImplicit && !(x == ("__debug__" : Str)) && !es.isEmpty && chkL T env.scope.names es args) = true := hc
  simp only [Bool.and_eq_true, beq_iff_eq, Bool.not_eq_true', List.isEmpty_eq_false_iff] at hc
  obtain ⟨⟨⟨⟨c1, c2⟩, c3⟩, c4⟩, c5⟩ := hc
  refine bind2_e he fun vs S1 e1 he => ?_
  obtain ⟨a, o, fd, m1, m2, m3⟩ := G.fns g x c1
  refine Call_ (glob_name G f c2 c3 (.inl m1) ?_)
  obtain ⟨t, r, hsh⟩ := args_shape (env := env) (pos := pos) c4 c5
  rw [hsh]
  refine Calls.callWith_function (o := o) (fd := fd) (Calls.evalArgs_plain ?_)
  rw [← hsh]
  refine snd_args hr es args env ρ S S1 vs F as _ E s hL c5 e1 f fun h1 t1 us as1 x1 a1 r1 => ⟨⟨x1.base _ _ m2, m3⟩, ?_⟩
  exact FO g x a vs S1 S' v A F as1 _ us Q E c1 m1 he hr x1 r1 (p.after a1)
theorem reads_args {h : Heap} (x : St prog w B F as S h) (hS : (B.get? sysModules).isSome = true) : ∀ {vals : List Value} {vs : List Va} {ds : List PyData}, Paired (VaRep prog w (F ++ as) as h) vals vs → rds S vs = some ds → Paired (RdR prog w (F ++ as) h) vals ds := by
  intro vals vs ds p
  induction p generalizing ds with
  | nil => intro e; cases e; exact .nil
  | cons a b ih =>
    intro e
    refine bind_e e fun d e1 e => ?_
    refine map_e e fun ds e2 e => ?_
    cases e
    exact .cons (x.read hS a e1) (ih e2)
theorem callBi {b : Bi} {A : Around} {Q E : Value → Shared → Prop} {s : Shared} {pos : Pos} {x : Sem Value} {r : List (Bool × Sem Value)} (hp : ((false, x) :: r).any (·.1) = false) (h : wpAny (model prog w) A (spliced ((false, x) :: r)) (fun vs s₁ => wpAny (model prog w) A (call b.val vs) Q E s₁) E s) :
    wpAny (model prog w) A (callWith pos b.val [] ((false, x) :: r) []) Q E s := by
  cases b <;> first | exact Calls.callWith_builtin hp (Calls.evalArgs_plain h) | exact PySem.callWith_type hp (Calls.evalArgs_plain h)
theorem bi_debug (b : Bi) : (b.nm == ("__debug__" : Str)) = false := by cases b <;> decide
theorem snd_bi (G : Gl T B mg mb) {b : Bi} {es : List Ex} (hL : SndL prog w T B fn k es) : Snd prog w T B fn k (.bi b es) := by
  intro env ρ S S' v ex F as A Q E s hc he hr f p
  apply onCall_e (x := ex) hc
  intro fu args kws pos hc
  apply onName_e (x := fu) hc
  intro x pos' hc
  apply onNil_e (x := kws) hc
  intro hc
  have hc : (x == b.nm && env.scope.names.lookup x == some .globalImplicit && !es.isEmpty && chkL T env.scope.names es args) = true := hc
  simp only [Bool.and_eq_true, beq_iff_eq, Bool.not_eq_true', List.isEmpty_eq_false_iff] at hc
  obtain ⟨⟨⟨rfl, c2⟩, c4⟩, c5⟩ := hc
  refine bind2_e he fun vs S1 e1 he => ?_
  refine bind_e he fun ds e2 he => ?_
  refine map_e he fun z e3 he => ?_
  cases he
  refine Call_ (glob_name G f c2 (bi_debug b) (.inr (G.bis b)) ?_)
  obtain ⟨t, r, hsh⟩ := args_shape (env := env) (pos := pos) c4 c5
  have hpl := starEach_plain (env := env) (pos := pos) c5
  rw [hsh] at hpl ⊢
  refine callBi hpl ?_
  rw [← hsh]
  refine snd_args hr es args env ρ S S1 vs F as _ E s hL c5 e1 f fun h1 t1 us as1 x1 a1 r1 => ?_
  exact op_bi e3 x1.liv (reads_args x1 G.sys r1 e2) hr.hh hr.u (x1.big G.sys) ((p.after a1).gv x1)
theorem attrBase {o : Expr} (h : isCall0 o = false) (name : Str) (env : Env) (whole : Sem Value) : attributeBase o name env whole = whole := by
  induction o using PySem.Expr.casesOn <;> try rfl
  rename_i fu args kws pos
  induction fu using PySem.Expr.casesOn <;> try rfl
  cases args <;> try rfl
  cases kws <;> try rfl
  exact nope (p := _) (h.symm.trans rfl)
theorem kindD_inv {h : Heap} (x : St prog w B F as S h) {val : Value} {v : Va} (r : VaRep prog w (F ++ as) as h val v) (e : kindD S v = true) : ∃ a o, val = .ref a ∧ h.get? a = some o ∧ o.ExactDict := by
  cases v with
  | d y =>
    cases y <;> first | exact absurd e Bool.false_ne_true | skip
    obtain ⟨a, rfl, _, hd⟩ := (RdR.of r).dict_inv
    rcases hd with ⟨ps, ⟨o, es, ep, ho, hx, _⟩, _⟩ | ⟨ps, ⟨o, es, ep, ho, hx, _⟩, _⟩ <;> exact ⟨a, o, rfl, ho, hx⟩
  | c n =>
    obtain ⟨a, ha, rfl⟩ := r
    obtain ⟨kvs, hx⟩ := kindD_of e
    rcases x.cells n a _ ha hx with ⟨ps, ⟨o, es, ep, ho, hx, _⟩, _⟩ | ⟨ps, ⟨o, es, ep, ho, hx, _⟩, _⟩ <;> exact ⟨a, o, rfl, ho, hx⟩
theorem kindL_inv {h : Heap} (x : St prog w B F as S h) {val : Value} {v : Va} (r : VaRep prog w (F ++ as) as h val v) (e : kindL S v = true) : ∃ a vs n, val = .ref a ∧ h.get? a = some (lstO vs n) := by
  cases v with
  | d y => cases e
  | c n =>
    obtain ⟨a, ha, rfl⟩ := r
    obtain ⟨kvs, hx⟩ := kindL_of e
    obtain ⟨vs, n, ho, _⟩ := x.cells _ a _ ha hx
    exact ⟨a, _, n, rfl, ho⟩
theorem not_none {α : Type} {b : Bool} {x : Option α} {y : α} (h : (if (!b) = true then none else x) = some y) : b = true ∧ x = some y := by
  cases b
  · cases h
  · exact ⟨rfl, h⟩
theorem star_one {x : Expr} (h : notStar x = true) (r : List Expr) : starEach (x :: r) env = (false, eval x env) :: starEach r env := by cases x <;> first | rfl | exact absurd h Bool.false_ne_true
theorem snd_get (G : Gl T B mg mb) {o e : Ex} (ho : Snd prog w T B fn k o) (hk : Snd prog w T B fn k e) : Snd prog w T B fn k (.get o e) := by
  intro env ρ S S' v ex F as A Q E s hc he hr f p
  apply onCall_e (x := ex) hc
  intro fu args kws pos hc
  apply onAttr_e (x := fu) hc
  intro x m ap hc
  apply on1_e (x := args) hc
  intro y hc
  apply onNil_e (x := kws) hc
  intro hc
  have hc : (m == ("get" : Str) && ap.endLine == pos.line && !isCall0 x && notStar y && chk T env.scope.names o x && chk T env.scope.names e y) = true := hc
  simp only [Bool.and_eq_true, beq_iff_eq, Bool.not_eq_true'] at hc
  obtain ⟨⟨⟨⟨⟨rfl, hl⟩, h0⟩, hn1⟩, c1⟩, c2⟩ := hc
  refine bind2_e he fun v1 S1 e1 he => ?_
  obtain ⟨hkd, he⟩ := not_none he
  refine bind2_e he fun v2 S2 e2 he => ?_
  refine bind_e he fun d e3 he => ?_
  refine bind_e he fun y' e4 he => ?_
  obtain rfl := dat_inv e4
  cases d <;> first | cases he | skip
  rename_i kvs
  dsimp only at he
  split at he
  case isFalse => cases he
  rename_i hok
  cases he
  have hns := star_one (env := env) hn1 []
  refine wpAny_Call_method1_late (attrBase h0 _ _ _) (by simpa using hl) (by rw [hns]; rfl) (ho _ _ _ _ _ _ _ _ _ _ _ _ c1 e1 hr f fun h1 t1 u1 as1 x1 a1 r1 => ?_)
  obtain ⟨a, ob, rfl, hob, hx⟩ := kindD_inv x1 r1 hkd
  refine ⟨"dict", "dict.get", PySem.F.plainAttrs_dict, PySem.F.slot_dict_get, PySem.F.type_dict_get, ⟨ob, hob, hx.1⟩, fun b eb => by cases eb; exact ⟨ob, hob, hx.2.1⟩, ?_⟩
  refine Calls.callWith_builtin rfl (Calls.evalArgs_plain (Calls.spliced_cons (hk _ _ _ _ _ _ _ _ _ _ _ _ c2 e2 hr (f.adv x1 a1) fun h2 t2 u2 as2 x2 a2 r2 => Calls.spliced_nil ?_)))
  exact op_get hok (x2.read G.sys (r1.adv a2) e3) r2 hr.u64 fun tk val r3 => p _ _ _ as2 x2 (a1.trans a2) r3
theorem snd_get2 (G : Gl T B mg mb) {o e d : Ex} (ho : Snd prog w T B fn k o) (hk : Snd prog w T B fn k e) (hd : Snd prog w T B fn k d) : Snd prog w T B fn k (.get2 o e d) := by
  intro env ρ S S' v ex F as A Q E s hc he hr f p
  apply onCall_e (x := ex) hc
  intro fu args kws pos hc
  apply onAttr_e (x := fu) hc
  intro x m ap hc
  apply on2_e (x := args) hc
  intro y z hc
  apply onNil_e (x := kws) hc
  intro hc
  have hc : (m == ("get" : Str) && ap.endLine == pos.line && !isCall0 x && notStar y && notStar z && chk T env.scope.names o x && chk T env.scope.names e y && chk T env.scope.names d z) = true := hc
  simp only [Bool.and_eq_true, beq_iff_eq, Bool.not_eq_true'] at hc
  obtain ⟨⟨⟨⟨⟨⟨⟨rfl, hl⟩, h0⟩, hn1⟩, hn2⟩, c1⟩, c2⟩, c3⟩ := hc
  refine bind2_e he fun v1 S1 e1 he1 => ?_
  obtain ⟨hkd, he2⟩ := not_none he1
  refine bind2_e he2 fun v2 S2 e2 he3 => ?_
  refine bind2_e he3 fun v3 S3 e3 he4 => ?_
  refine bind_e he4 fun dd e4 he5 => ?_
  refine bind_e he5 fun y' e5 he6 => ?_
  refine bind_e he6 fun z' e6 he7 => ?_
  clear he he1 he2 he3 he4 he5 he6
  have he := he7
  clear he7
  obtain rfl := dat_inv e5
  obtain rfl := dat_inv e6
  obtain ⟨kvs, rfl⟩ : ∃ kvs, dd = .dict kvs := by cases dd <;> first | exact ⟨_, rfl⟩ | cases he
  dsimp only at he
  split at he
  case isFalse => cases he
  rename_i hok
  cases he
  have hns : starEach [y, z] env = [(false, eval y env), (false, eval z env)] := by rw [star_one hn1, star_one hn2]; rfl
  refine wpAny_Call_method2_late (attrBase h0 _ _ _) (by simpa using hl) (by rw [hns]; rfl) (ho _ _ _ _ _ _ _ _ _ _ _ _ c1 e1 hr f fun h1 t1 u1 as1 x1 a1 r1 => ?_)
  obtain ⟨a, ob, rfl, hob, hx⟩ := kindD_inv x1 r1 hkd
  refine ⟨"dict", "dict.get", PySem.F.plainAttrs_dict, PySem.F.slot_dict_get, PySem.F.type_dict_get, ⟨ob, hob, hx.1⟩, fun b eb => by cases eb; exact ⟨ob, hob, hx.2.1⟩, ?_⟩
  refine Calls.callWith_builtin rfl (Calls.evalArgs_plain (Calls.spliced_cons (hk _ _ _ _ _ _ _ _ _ _ _ _ c2 e2 hr (f.adv x1 a1) fun h2 t2 u2 as2 x2 a2 r2 => Calls.spliced_cons (hd _ _ _ _ _ _ _ _ _ _ _ _ c3 e3 hr ((f.adv x1 a1).adv x2 a2) fun h3 t3 u3 as3 x3 a3 r3 => Calls.spliced_nil ?_))))
  exact op_get2 hok (x3.read G.sys ((r1.adv a2).adv a3) e4) (r2.adv a3) r3 hr.u64 fun tk val r4 => p _ _ _ as3 x3 ((a1.trans a2).trans a3) r4
theorem snd_app (G : Gl T B mg mb) {o e : Ex} (ho : Snd prog w T B fn k o) (hk : Snd prog w T B fn k e) : Snd prog w T B fn k (.app o e) := by
  intro env ρ S S' v ex F as A Q E s hc he hr f p
  apply onCall_e (x := ex) hc
  intro fu args kws pos hc
  apply onAttr_e (x := fu) hc
  intro x m ap hc
  apply on1_e (x := args) hc
  intro y hc
  apply onNil_e (x := kws) hc
  intro hc
  have hc : (m == ("append" : Str) && ap.endLine == pos.line && !isCall0 x && notStar y && chk T env.scope.names o x && chk T env.scope.names e y) = true := hc
  simp only [Bool.and_eq_true, beq_iff_eq, Bool.not_eq_true'] at hc
  obtain ⟨⟨⟨⟨⟨rfl, hl⟩, h0⟩, hn1⟩, c1⟩, c2⟩ := hc
  refine bind2_e he fun v1 S1 e1 he => ?_
  obtain ⟨hkd, he⟩ := not_none he
  refine bind2_e he fun v2 S2 e2 he => ?_
  cases v1 with
  | d _ => cases he
  | c n =>
    dsimp only at he
    split at he
    case h_2 => cases he
    rename_i xs hx
    split at he
    case isFalse => cases he
    rename_i hz
    cases he
    have hns := star_one (env := env) hn1 []
    refine wpAny_Call_method1_late (attrBase h0 _ _ _) (by simpa using hl) (by rw [hns]; rfl) (ho _ _ _ _ _ _ _ _ _ _ _ _ c1 e1 hr f fun h1 t1 u1 as1 x1 a1 r1 => ?_)
    obtain ⟨a, vs0, n0, rfl, hob⟩ := kindL_inv x1 r1 hkd
    refine ⟨"list", "list.append", PySem.F.plainAttrs_list, PySem.F.slot_list_append, PySem.F.type_list_append, ⟨_, hob, rfl⟩, fun b eb => by cases eb; exact ⟨_, hob, rfl⟩, ?_⟩
    refine Calls.callWith_builtin rfl (Calls.evalArgs_plain (Calls.spliced_cons (hk _ _ _ _ _ _ _ _ _ _ _ _ c2 e2 hr (f.adv x1 a1) fun h2 t2 u2 as2 x2 a2 r2 => Calls.spliced_nil ?_)))
    obtain ⟨b, hb, eb⟩ := r1.adv a2
    cases eb
    obtain ⟨vs, n1, hobj, hp⟩ := x2.cells n a _ hb hx
    refine op_append hobj (by have := Paired.length hp; lia) fun h3 n2 ho3 hs3 => ?_
    have ham : a ∈ as2 := List.mem_of_getElem? hb
    have k3 : Step [a] h2 h3 := Step.sameBut hs3 (List.mem_singleton.mpr rfl) (by rw [ho3]; rfl)
    have a3 : Adv as2 h2 as2 h3 := Adv.set (k3.more fun c hc => by rw [List.mem_singleton.mp hc]; exact ham)
    have x3 : St prog w B F as2 (S2.set n (.list (xs ++ [v2]))) h3 := x2.set hb hs3 ⟨_, n2, ho3, Paired.append (Paired.mono (fun _ _ q => VaRep.adv (F := F) q a3) hp) (.cons (r2.adv a3) .nil)⟩
    exact p _ _ _ as2 x3 ((a1.trans a2).trans a3) .none
theorem snd_sdf (G : Gl T B mg mb) {o e : Ex} (ho : Snd prog w T B fn k o) (hk : Snd prog w T B fn k e) : Snd prog w T B fn k (.sdf o e) := by
  intro env ρ S S' v ex F as A Q E s hc he hr f p
  apply onCall_e (x := ex) hc
  intro fu args kws pos hc
  apply onAttr_e (x := fu) hc
  intro x m ap hc
  apply on2_e (x := args) hc
  intro y z hc
  apply onLst_e (x := z) hc
  intro els lpos hc
  apply onNil_e (x := els) hc
  intro hc
  apply onNil_e (x := kws) hc
  intro hc
  have hc : (m == ("setdefault" : Str) && ap.endLine == pos.line && !isCall0 x && notStar y && chk T env.scope.names o x && chk T env.scope.names e y) = true := hc
  simp only [Bool.and_eq_true, beq_iff_eq, Bool.not_eq_true'] at hc
  obtain ⟨⟨⟨⟨⟨rfl, hl⟩, h0⟩, hn1⟩, c1⟩, c2⟩ := hc
  refine bind2_e he fun v1 S1 e1 he => ?_
  obtain ⟨hkd, he⟩ := not_none he
  refine bind2_e he fun v2 S2 e2 he => ?_
  refine bind_e he fun y' e3 he => ?_
  obtain rfl := dat_inv e3
  cases v1 with
  | d _ => cases he
  | c n =>
    dsimp only at he
    split at he
    case h_2 => cases he
    rename_i kvs hx
    split at he
    case isFalse => cases he
    rename_i hok
    simp only [Bool.and_eq_true, decide_eq_true_eq, List.all_eq_true] at hok
    obtain ⟨⟨hik, hall⟩, hz⟩ := hok
    obtain ⟨i, rfl⟩ := isIK_int hik
    have hns : starEach [y, .List [] lpos] env = [(false, eval y env), (false, eval (.List [] lpos) env)] := by rw [star_one hn1]; rfl
    refine wpAny_Call_method2_late (attrBase h0 _ _ _) (by simpa using hl) (by rw [hns]; rfl) (ho _ _ _ _ _ _ _ _ _ _ _ _ c1 e1 hr f fun h1 t1 u1 as1 x1 a1 r1 => ?_)
    obtain ⟨a, ob, rfl, hob, hxd⟩ := kindD_inv x1 r1 hkd
    refine ⟨"dict", "dict.setdefault", PySem.F.plainAttrs_dict, PySem.F.slot_dict_setdefault, PySem.F.type_dict_setdefault, ⟨ob, hob, hxd.1⟩, fun b eb => by cases eb; exact ⟨ob, hob, hxd.2.1⟩, ?_⟩
    refine Calls.callWith_builtin rfl (Calls.evalArgs_plain (Calls.spliced_cons (hk _ _ _ _ _ _ _ _ _ _ _ _ c2 e2 hr (f.adv x1 a1) fun h2 t2 u2 as2 x2 a2 r2 => Calls.spliced_cons (List_ (Calls.spliced_nil (wpAny_newList ?_ (by simp)))))))
    refine Calls.spliced_nil ?_
    obtain ⟨t, rfl⟩ := (RdR.of r2).int_inv
    have hn3 : h2.get? h2.objs.size = none := Heap.get?_none_of_le (Nat.le_refl _)
    have hk3 : ∀ b o, h2.get? b = some o → (h2.push { cls := .type "list", data := .seq ([] : List Value).toArray }).get? b = some o := fun b o e => Heap.get?_push_of_some _ e
    generalize hh3 : h2.push { cls := .type "list", data := .seq ([] : List Value).toArray } = h3 at hk3
    have hL3 : h3.get? h2.objs.size = some (lstO ([] : List Value).toArray 0) := by rw [← hh3]; exact Heap.get?_push_size _ rfl
    have a3 : Adv as2 h2 (as2 ++ [h2.objs.size]) h3 := ⟨_, rfl, (Step.of_keep (W := as2) hk3), fun b hb => by rw [List.mem_singleton.mp hb]; exact hn3⟩
    have x3 : St prog w B F (as2 ++ [h2.objs.size]) (S2 ++ [Ce.list []]) h3 := x2.add hk3 hn3 ⟨[], 0, hL3, .nil⟩
    obtain ⟨b, hb, eb⟩ := (r1.adv a2).adv a3
    cases eb
    have hlt : n < S2.length := (List.getElem?_eq_some_iff.mp hx).1
    have hx3 : (S2 ++ [Ce.list []])[n]? = some (.dict kvs) := by rw [List.getElem?_append_left hlt]; exact hx
    have hcell := x3.cells n a _ hb hx3
    have hI : ∃ ps, h3.DictOf (intKind prog w) a ps ∧ Paired (PI (VaRep prog w (F ++ (as2 ++ [h2.objs.size])) (as2 ++ [h2.objs.size]) h3)) ps kvs := by
      rcases hcell with ⟨ps, hd, hp⟩ | ⟨xs, hd, hp⟩
      · exact ⟨ps, hd, hp⟩
      · have : xs = [] ∧ kvs = [] := by
          cases hp with
          | nil => exact ⟨rfl, rfl⟩
          | @cons p kv _ _ q _ => have := hall kv (.head _); rw [q.1, isIK_tupK] at this; cases this
        obtain ⟨rfl, rfl⟩ := this
        exact ⟨[], Heap.DictOfH.emptyI hd, .nil⟩
    obtain ⟨ps, hd, hp⟩ := hI
    have hki : (intKind prog w).is i (.int i t) = true := by simp [intKind, Value.isInt]
    have hm : (a == sysModules) = false := by
      have hS := G.sys
      rw [beq_eq_false_iff_ne]
      rintro rfl
      rw [x3.vol _ (List.mem_append_right _ (List.mem_of_getElem? hb))] at hS; cases hS
    have hbl := big_line
    have a13 := (a1.trans a2).trans a3
    refine call_meetsIn PySem.F.slot_dict_setdefault (show (⟨h3, s.gens, s.drawn, t2, s.os⟩ : Shared).TypeIs (.ref a) "dict" from hd.typeIs (s := ⟨h3, s.gens, s.drawn, t2, s.os⟩)) PySem.F.entry_dict_setdefault (PySem.F.args_dict_setdefault_3 _ _ _) (kt_meets_setdefault (intKind prog w) a hki hm _) ⟨ps, hd, by have := Paired.length hp; lia, fun v' hv' => ?_, fun hn' h4 hd4 hs4 => ?_⟩
    · rcases findI (k := i) hp with ⟨q1, q2⟩ | ⟨v2, y2, q1, q2, q3⟩
      · rw [q1] at hv'; cases hv'
      · rw [q1] at hv'; cases hv'
        rw [q2] at he
        cases he
        exact p h3 _ _ _ x3 a13 q3
    · rcases findI (k := i) hp with ⟨q1, q2⟩ | ⟨v2, y2, q1, q2, q3⟩
      · rw [q2] at he
        cases he
        have hne : dput kvs (.int i) (Va.c S2.length) = kvs ++ [(.int i, .c S2.length)] := by
          unfold dget at q2
          rw [Option.map_eq_none_iff] at q2
          unfold dput
          rw [q2]; rfl
        have k4 : Step [a] h3 h4 := Step.sameBut hs4 (List.mem_singleton.mpr rfl) (by obtain ⟨o, _, _, ho, _⟩ := hd4; rw [ho]; rfl)
        have a4 : Adv (as2 ++ [h2.objs.size]) h3 (as2 ++ [h2.objs.size]) h4 := Adv.set (k4.more fun c hc => by rw [List.mem_singleton.mp hc]; exact List.mem_of_getElem? hb)
        have hvl : VaRep prog w (F ++ (as2 ++ [h2.objs.size])) (as2 ++ [h2.objs.size]) h3 (.ref h2.objs.size) (.c S2.length) := ⟨_, by rw [← x2.len, List.getElem?_append_right (Nat.le_refl _)]; simp, rfl⟩
        have x4 : St prog w B F (as2 ++ [h2.objs.size]) ((S2 ++ [Ce.list []]).set n (.dict (kvs ++ [(.int i, .c S2.length)]))) h4 := x3.set hb hs4 (.inl ⟨_, hd4, by
          have := storedI (k := i) hp hvl
          rw [hne] at this
          exact Paired.mono (fun _ _ q => ⟨q.1, VaRep.adv (F := F) q.2 a4⟩) this⟩)
        exact p h4 _ _ _ x4 (a13.trans a4) (hvl.adv a4)
      · rw [q1] at hn'; cases hn'
theorem snd_dictC (G : Gl T B mg mb) {a : Ex} (ha : Snd prog w T B fn k a) : Snd prog w T B fn k (.dictC a) := by
  intro env ρ S S' v ex F as A Q E s hc he hr f p
  apply onCall_e (x := ex) hc
  intro fu args kws pos hc
  apply onName_e (x := fu) hc
  intro x pos' hc
  apply on1_e (x := args) hc
  intro y hc
  apply onNil_e (x := kws) hc
  intro hc
  have hc : (x == Bi.dict.nm && env.scope.names.lookup x == some .globalImplicit && notStar y && chk T env.scope.names a y) = true := hc
  simp only [Bool.and_eq_true, beq_iff_eq] at hc
  obtain ⟨⟨⟨rfl, c2⟩, hn1⟩, c3⟩ := hc
  refine bind2_e he fun v1 S1 e1 he => ?_
  obtain ⟨kvs, rfl⟩ : ∃ kvs, v1 = .d (.dict kvs) := by
    cases v1 with
    | c _ => cases he
    | d yv => cases yv <;> first | exact ⟨_, rfl⟩ | cases he
  dsimp only at he
  split at he
  case isFalse => cases he
  rename_i hok
  cases he
  simp only [Bool.and_eq_true, decide_eq_true_eq, List.all_eq_true] at hok
  have hns := star_one (env := env) hn1 []
  refine Call_ (glob_name G f c2 (bi_debug .dict) (.inr (G.bis .dict)) ?_)
  rw [hns]
  refine callBi (b := .dict) rfl (Calls.spliced_cons (ha _ _ _ _ _ _ _ _ _ _ _ _ c3 e1 hr f fun h1 t1 u1 as1 x1 a1 r1 => Calls.spliced_nil ?_))
  obtain ⟨b, rfl, hm, hd⟩ := (RdR.of r1).dict_inv
  have hI : ∃ ps, h1.DictOf (intKind prog w) b ps ∧ RepI prog w (F ++ as1) h1 ps kvs := by
    rcases hd with ⟨ps, hd, hp⟩ | ⟨xs, hd, hp⟩
    · exact ⟨ps, hd, hp⟩
    · cases hp with
      | nil => exact ⟨[], Heap.DictOfH.emptyI hd, .nil⟩
      | @cons k0 a0 v0 d0 ps0 kvs0 hk hv hr0 => have := hok.1 _ (.head _); rw [isIK_tupK] at this; cases this
  obtain ⟨ps, hd, hp⟩ := hI
  have hlen := Paired.length (RepI.pair hp)
  have hbl := big_line
  refine kt_call_dict (s := ⟨h1, s.gens, s.drawn, t1, s.os⟩) hm hd (by lia) fun h' hd' hs' => ?_
  dsimp only at hd' hs'
  have hn : h1.get? h1.objs.size = none := Heap.get?_none_of_le (Nat.le_refl _)
  have hk : ∀ c o, h1.get? c = some o → h'.get? c = some o := fun c o e => (hs'.2 c (Nat.ne_of_lt (Heap.lt_size e))).trans (Heap.get?_push_of_some _ e)
  have a2 : Adv as1 h1 (as1 ++ [h1.objs.size]) h' := ⟨_, rfl, Step.of_keep hk, fun c hc => by rw [List.mem_singleton.mp hc]; exact hn⟩
  have hpair : ∀ {ps : List (Int × Value)} {kvs : List (PyData × PyData)}, RepI prog w (F ++ as1) h1 ps kvs → Paired (PI (VaRep prog w (F ++ (as1 ++ [h1.objs.size])) (as1 ++ [h1.objs.size]) h')) ps (kvs.map fun p => (p.1, Va.d p.2)) := by
    intro ps
    induction ps with
    | nil => intro kvs r; cases r; exact .nil
    | cons q ps ih =>
      intro kvs r
      cases r with
      | cons hv r => exact .cons ⟨rfl, VaRep.adv (v := .d _) hv a2⟩ (ih r)
  have x2 : St prog w B F (as1 ++ [h1.objs.size]) (S1 ++ [Ce.dict (kvs.map fun p => (p.1, Va.d p.2))]) h' := x1.add hk hn (.inl ⟨ps, hd', hpair hp⟩)
  exact p h' t1 _ _ x2 (a1.trans a2) ⟨_, by rw [← x1.len, List.getElem?_append_right (Nat.le_refl _)]; simp, rfl⟩
theorem snd_dct1 (G : Gl T B mg mb) {a b : Ex} (ha : Snd prog w T B fn k a) (hb : Snd prog w T B fn k b) : Snd prog w T B fn k (.dct1 a b) := by
  intro env ρ S S' v ex F as A Q E s hc he hr f p
  apply onDct_e (x := ex) hc
  intro kx vx pos hc
  apply on1_e (x := kx) hc
  intro ka hc
  apply onSo_e (x := ka) hc
  intro ka hc
  apply on1_e (x := vx) hc
  intro y hc
  ·
    have hc : (chk T env.scope.names a ka && chk T env.scope.names b y) = true := hc
    simp only [Bool.and_eq_true] at hc
    refine bind2_e he fun v1 S1 e1 he1 => ?_
    refine bind2_e he1 fun v2 S2 e2 he2 => ?_
    refine bind_e he2 fun x' e3 he3 => ?_
    refine bind_e he3 fun y' e4 he4 => ?_
    clear he he1 he2 he3
    have he := he4
    clear he4
    obtain rfl := dat_inv e3
    obtain rfl := dat_inv e4
    split at he
    case isFalse => cases he
    rename_i hik
    obtain ⟨i, rfl⟩ := isIK_int hik
    cases he
    refine wpAny_Dict_any rfl rfl (by simp) (by simp) ?_
    have hD : (s.heap.push { cls := .type "dict", data := .dict #[] }).DictOf (intKind prog w) s.heap.objs.size [] := Heap.DictOf.new s.heap
    generalize hh0 : s.heap.push { cls := .type "dict", data := .dict #[] } = h0 at hD
    have k0 : Step [] s.heap h0 := by rw [← hh0]; exact Step.push _
    have hn0 : s.heap.get? s.heap.objs.size = none := Heap.get?_none_of_le (Nat.le_refl _)
    have hN : New [s.heap.objs.size] s.heap h0 := fun c hc => by rw [List.mem_singleton.mp hc]; exact ⟨hn0, by obtain ⟨o, _, _, ho, _⟩ := hD; rw [ho]; rfl⟩
    have f0 : Fm prog w T.nt B ([s.heap.objs.size] ++ F) as env ρ S h0 := f.wide k0 hN
    show wpAny _ _ (evalPairs [(eval ka env, do let x ← eval y env; standAt pos; pure x)]) _ _ _
    unfold evalPairs
    refine wpAny_bind (ha _ _ _ _ _ _ _ _ _ _ _ _ hc.1 e1 hr f0 fun h1 t1 u1 as1 x1 a1 r1 => ?_)
    refine wpAny_bind (wpAny_holding (wpAny_bind (hb _ _ _ _ _ _ _ _ _ _ _ _ hc.2 e2 hr (f0.adv x1 a1) fun h2 t2 u2 as2 x2 a2 r2 => wpAny_bind (wpAny_standAt (wpAny_pure ?_)))))
    refine wpAny_bind (wpAny_holding ?_)
    unfold evalPairs
    refine wpAny_pure (wpAny_pure ?_)
    obtain ⟨t, rfl⟩ := (RdR.of (VaRep.adv r1 a2)).int_inv
    have a12 : Adv as h0 as2 h2 := a1.trans a2
    have hDas : s.heap.objs.size ∉ as2 := fun q => x2.off _ q (List.mem_append_left _ (.head _))
    have hDas0 : s.heap.objs.size ∉ as := fun q => by have := f.st.clive _ q; rw [hn0] at this; cases this
    have hD2 : h2.DictOf (intKind prog w) s.heap.objs.size [] := by
      obtain ⟨nw, rfl, k12, hf⟩ := a12
      exact dictOf_at hD fun o e => k12.keep _ o hDas0 e
    show wpAny _ _ (storeAll s.heap.objs.size [(.int i t, u2)]) _ _ _
    unfold storeAll
    simp only [List.forIn_cons, List.forIn_nil]
    refine wpAny_bind (wpAny_bind (wpAny_dictSet_pairs (k := i) (by simp [intKind, Value.isInt]) hD2 (fun h3 hd3 hs3 => wpAny_pure (wpAny_pure ?_)) (by simp)))
    have k3 : Step [s.heap.objs.size] h2 h3 := Step.sameBut hs3 (List.mem_singleton.mpr rfl) (by obtain ⟨o, _, _, ho, _⟩ := hd3; rw [ho]; rfl)
    have a03 : Adv as s.heap as2 h3 := Adv.wrote (hN.on a12) ((Adv.same k0).trans a12) k3
    have x3 : St prog w B F as2 S2 h3 := (x2.step k3 fun c hc => List.mem_append_left _ hc).narrow
    have r3 : Rep prog w (([s.heap.objs.size] ++ F) ++ as2) h3 u2 y' := Rep.keep k3 (fun c hc => List.mem_append_left _ (List.mem_append_left _ hc)) r2
    refine p h3 _ _ _ x3 a03 (.dictI hd3 (f.st.big G.sys) ?_ ?_)
    · intro q
      rcases List.mem_append.mp q with q | q
      · have := f.st.live _ q; rw [hn0] at this; cases this
      · exact hDas q
    · exact .cons (Rep.more (fun c hc => .inl (by rw [List.append_assoc]; exact List.mem_append_right _ hc)) r3) .nil
end
end Mine
end
end
section
open PySem PySem.Calls PySem.W PyProof.Rows
set_option maxRecDepth 100000
set_option Elab.async false
set_option autoImplicit false
set_option linter.unusedVariables false
noncomputable section
namespace Mine
structure Itr (prog : Program) (w : World) (X : List Addr) (h₀ : Heap) (xs : List PyData) (I : Addr) (fp : List Addr) (P : Nat → Value → Prop) (St : Nat → Heap → Prop) : Prop where
  walk : ∀ A : Around, A.handled = none → Walks prog w A I fp [I] xs.length P St
  fpo : ∀ b ∈ fp, b = I ∨ (b ∉ X ∧ (h₀.get? b).isSome = true)
  live : ∀ i h, St i h → (h.get? I).isSome = true
  go : ∀ (i : Nat) (target : Expr) (v : Value) (s : Shared) (A : Around) (Q : Unit → Shared → Prop) (E : Value → Shared → Prop), St i s.heap → Q () s → wpAny (model prog w) A (letOwnedTupleGo target (.ref I) v) Q E s
  item : ∀ i v x, P i v → xs[i]? = some x → Rep prog w X h₀ v x
section
variable {prog : Program} {w : World} {X : List Addr}
theorem iter_items {x : PyData} {xs : List PyData} {u : Value} {s : Shared} (e : items x = some xs) (hx : Rep prog w X s.heap u x) :
    ∃ (oI : Obj) (fp : List Addr) (P : Nat → Value → Prop) (St : Nat → Heap → Prop), (∀ (A : Around) (E Q : Value → Shared → Prop), Q (.ref s.heap.objs.size) { s with heap := s.heap.push oI } → wpAny (model prog w) A (pyIter u) Q E s) ∧
      Itr prog w X s.heap xs s.heap.objs.size fp P St ∧ St 0 (s.heap.push oI) := by
  cases x with
  | none => cases e
  | bool _ => cases e
  | int _ => cases e
  | str _ => cases e
  | list xs' => ?_
  | tuple xs' => ?_
  | dict kvs => ?_
  · obtain rfl := Option.some.inj e
    cases hx with
    | @list a vs n ds ho ha hl =>
      have hlen := RepL.length hl
      have hT : s.heap.IsList a vs.toArray := ⟨_, ho, rfl, _, rfl⟩
      refine ⟨_, [s.heap.objs.size, a], (fun i v => (vs.toArray)[i]? = some v), (fun i h => h.IsListIter s.heap.objs.size a i ∧ h.IsList a vs.toArray), fun A E Q h => wpAny_pyIter_list hT h, ⟨fun A hh => ?_, fun b hb => ?_, fun i h st => ?_, fun i t v s' A Q E st hq => letGo_listiter st.1 hq, fun i v x hv hx => ?_⟩, ⟨⟨_, Heap.get?_push_size _ rfl, rfl, rfl⟩, hT.at fun o e => Heap.get?_push_of_some _ e⟩⟩
      · have := Walks.list (prog := prog) (w := w) (A := A) hh s.heap.objs.size a (Nat.ne_of_lt (Heap.lt_size ho)) vs.toArray
        rw [show vs.toArray.size = xs'.length from by rw [List.size_toArray]; exact hlen] at this
        exact this
      · rcases List.mem_cons.mp hb with rfl | hb
        · exact .inl rfl
        · rw [List.mem_singleton.mp hb]; exact .inr ⟨ha, by rw [ho]; rfl⟩
      · obtain ⟨o, ho, _⟩ := st.1; rw [ho]; rfl
      · obtain ⟨v', h1, h2⟩ := RepL.item hl hx
        have hv : (vs.toArray)[i]? = some v := hv
        rw [List.getElem?_toArray, h1] at hv; cases hv; exact h2
  · obtain rfl := Option.some.inj e
    cases hx with
    | @tup a vs n ds ho ha hl =>
      have hlen := RepL.length hl
      have hT : s.heap.IsTuple a vs.toArray := ⟨_, ho, rfl, _, rfl⟩
      refine ⟨_, [s.heap.objs.size, a], (fun i v => (vs.toArray)[i]? = some v), (fun i h => h.IsTupleIter s.heap.objs.size a i ∧ h.IsTuple a vs.toArray), fun A E Q h => wpAny_pyIter_tuple hT h, ⟨fun A hh => ?_, fun b hb => ?_, fun i h st => ?_, fun i t v s' A Q E st hq => letGo_tupleiter st.1 hq, fun i v x hv hx => ?_⟩, ⟨⟨_, Heap.get?_push_size _ rfl, rfl, rfl⟩, hT.at fun o e => Heap.get?_push_of_some _ e⟩⟩
      · have := Walks.tuple (prog := prog) (w := w) (A := A) hh s.heap.objs.size a (Nat.ne_of_lt (Heap.lt_size ho)) vs.toArray
        rw [show vs.toArray.size = xs'.length from by rw [List.size_toArray]; exact hlen] at this
        exact this
      · rcases List.mem_cons.mp hb with rfl | hb
        · exact .inl rfl
        · rw [List.mem_singleton.mp hb]; exact .inr ⟨ha, by rw [ho]; rfl⟩
      · obtain ⟨o, ho, _⟩ := st.1; rw [ho]; rfl
      · obtain ⟨v', h1, h2⟩ := RepL.item hl hx
        have hv : (vs.toArray)[i]? = some v := hv
        rw [List.getElem?_toArray, h1] at hv; cases hv; exact h2
  · have e2 : kvs.map (·.1) = xs := Option.some.inj e
    have hX : ∃ a, u = .ref a ∧ a ∉ X := by cases hx <;> exact ⟨_, rfl, by assumption⟩
    obtain ⟨a, es, ep, rfl, hm, hraw, hr⟩ := raw_dict (.of hx)
    obtain ⟨a', e3, ha⟩ := hX
    cases e3
    rw [e2] at hr
    have hlen := RepL.length hr
    refine ⟨_, [s.heap.objs.size, a], (fun i v => ∃ e, es[i]? = some e ∧ v = e.key), (fun i h => h.IsKeyIter s.heap.objs.size a i es.size ep ∧ RawD h a es ep), fun A E Q h => iter_raw hm hraw h, ⟨fun A hh => ?_, fun b hb => ?_, fun i h st => ?_, fun i t v s' A Q E st hq => letGo_keyiter st.1 hq, fun i v x hv hx => ?_⟩, ⟨⟨_, Heap.get?_push_size _ rfl, rfl, rfl⟩, hraw.at fun o e => Heap.get?_push_of_some _ e⟩⟩
    · have := walks_raw (prog := prog) (w := w) (A := A) hh s.heap.objs.size a (Nat.ne_of_lt hraw.lt) es ep
      have e4 : es.size = xs.length := by simpa using hlen
      rw [e4] at this
      rw [e4]
      exact this
    · rcases List.mem_cons.mp hb with rfl | hb
      · exact .inl rfl
      · rw [List.mem_singleton.mp hb]; exact .inr ⟨ha, by obtain ⟨o, ho, _⟩ := hraw; rw [ho]; rfl⟩
    · obtain ⟨o, ho, _⟩ := st.1; rw [ho]; rfl
    · obtain ⟨e5, h5, rfl⟩ := hv
      obtain ⟨v', h1, h2⟩ := RepL.item hr hx
      rw [List.getElem?_map, Array.getElem?_toList, h5] at h1
      cases h1; exact h2
theorem letGo_rangeiter {A : Around} {E : Value → Shared → Prop} {target : Expr} {I : Addr} {a b c : Int} {v : Value} {Q' : Unit → Shared → Prop} {s' : Shared} (hit : IsRangeIter s'.heap I a b c) (h : Q' () s') :
    wpAny (model prog w) A (letOwnedTupleGo target (.ref I) v) Q' E s' := by
  have ho := hit
  unfold letOwnedTupleGo
  cases target <;> first
    | exact wpAny_pure h
    | (cases v <;> first
        | exact wpAny_pure h
        | (refine wpAny_bind (wpAny_load ho ?_)
           exact wpAny_pure h))
theorem iter_range {a b c : Int} {t u v : Tok} {r : Addr} {n : Nat} {xs : List PyData} {s : Shared} (hr : IsRange s.heap r a b c t u v) (hs : Builtin.Range.small a b c = true) (hn : Builtin.Range.rangeSize a b c = n) (hl : xs.length = n) (hx : ∀ (i : Nat) x, xs[i]? = some x → x = PyData.int (a + i * c)) :
    ∃ (oI : Obj) (fp : List Addr) (P : Nat → Value → Prop) (St : Nat → Heap → Prop), (∀ (A : Around) (E Q : Value → Shared → Prop), Q (.ref s.heap.objs.size) { s with heap := s.heap.push oI } → wpAny (model prog w) A (pyIter (.ref r)) Q E s) ∧
      Itr prog w X s.heap xs s.heap.objs.size fp P St ∧ St 0 (s.heap.push oI) := by
  refine ⟨_, [s.heap.objs.size], (fun i v => ∃ t, v = .int (a + i * c) t), (fun i h => IsRangeIter h s.heap.objs.size (a + (i : Nat) * c) ((n : Int) - (i : Nat)) c), fun A E Q h => wpAny_pyIter_range hr hs h, ⟨fun A hh => ?_, fun b hb => .inl (List.mem_singleton.mp hb), fun i h st => ?_, fun i t v s' A Q E st hq => letGo_rangeiter st hq, fun i v x hv hx' => ?_⟩, ?_⟩
  · rw [hl]
    exact Walks.range hh s.heap.objs.size a c n
  · rw [st]; rfl
  · obtain ⟨t, rfl⟩ := hv
    rw [hx i x hx']; exact .int _ _
  · rw [hn]
    refine (Heap.get?_push_size _ rfl).trans ?_
    simp
end
end Mine
end
end
section
open PySem PySem.Calls PySem.W PyProof.Rows
set_option maxRecDepth 100000
set_option Elab.async false
set_option autoImplicit false
set_option linter.unusedVariables false
noncomputable section
namespace Mine
section
variable {env : Env}
theorem closure_go (f : Str × NameKind → List (Str × Addr) → Sem (ForInStep (List (Str × Addr))))
    (hf : ∀ name kind cs, f (name, kind) cs = if kind == .free then (do let a ← cellOf env name; pure (.yield ((name, a) :: cs))) else pure (.yield cs)) (names : Ks) :
    ∀ acc : List (Str × Addr), (∀ p ∈ names, p.2 = .free → ∃ c, env.cells.lookup p.1 = some c) → (∀ x c, (x, c) ∈ acc → env.cells.lookup x = some c) →
      ∃ cl, forIn names acc f = pure cl ∧ (∀ x c, (x, c) ∈ cl → env.cells.lookup x = some c) ∧ (∀ p ∈ names, p.2 = .free → ∃ c, (p.1, c) ∈ cl) ∧ (∀ q ∈ acc, q ∈ cl) := by
  induction names with
  | nil => exact fun acc _ ha => ⟨acc, rfl, ha, (fun _ q => nomatch q), fun _ q => q⟩
  | cons p r ih =>
    intro acc hn ha
    obtain ⟨n, kd⟩ := p
    have hn := List.forall_mem_cons.mp hn
    rw [List.forIn_cons, hf]
    by_cases hk : (kd == NameKind.free) = true
    · obtain ⟨c, hc⟩ := hn.1 (beq_iff_eq.mp hk)
      obtain ⟨cl, h1, h2, h3, h4⟩ := ih ((n, c) :: acc) hn.2 (fun x d hm => by
        rcases List.mem_cons.mp hm with e | hm
        · cases e; exact hc
        · exact ha x d hm)
      refine ⟨cl, ?_, h2, List.forall_mem_cons.mpr ⟨fun _ => ⟨c, h4 _ (.head _)⟩, h3⟩, fun q hq => h4 q (.tail _ hq)⟩
      rw [if_pos hk]
      unfold cellOf
      dsimp only at hc
      rw [hc]
      exact h1
    · obtain ⟨cl, h1, h2, h3, h4⟩ := ih acc hn.2 ha
      refine ⟨cl, ?_, h2, List.forall_mem_cons.mpr ⟨fun hpf => absurd (beq_iff_eq.mpr hpf) hk, h3⟩, h4⟩
      rw [if_neg hk]; exact h1
theorem lookup_of_mem {cl : List (Str × Addr)} {x : Str} {c : Addr} (h : (x, c) ∈ cl) : ∃ d, cl.lookup x = some d := by
  induction cl with
  | nil => exact nomatch h
  | cons p r ih =>
    obtain ⟨y, d⟩ := p
    rw [List.lookup_cons]
    cases e : x == y with
    | true => exact ⟨d, rfl⟩
    | false =>
      rcases List.mem_cons.mp h with q | q
      · cases q; rw [beq_self_eq_true] at e; cases e
      · exact ih q
theorem closure_ok {sc : Scope} (h : ∀ p ∈ sc.names, p.2 = .free → ∃ c, env.cells.lookup p.1 = some c) :
    ∃ cl, closureFor sc env = pure cl ∧ (∀ x c, (x, c) ∈ cl → env.cells.lookup x = some c) ∧ (∀ p ∈ sc.names, p.2 = .free → cl.lookup p.1 = env.cells.lookup p.1) := by
  obtain ⟨cl, h1, h2, h3, _⟩ := closure_go (env := env) (fun x cs => if (x.2 == NameKind.free) = true then (do let a ← cellOf env x.1; pure (.yield ((x.1, a) :: cs))) else pure (.yield cs)) (fun _ _ _ => rfl) sc.names [] h (fun _ _ q => nomatch q)
  refine ⟨cl, ?_, h2, fun p hp hpf => ?_⟩
  · simp only [closureFor]
    rw [h1]
    rfl
  · obtain ⟨c, hc⟩ := h3 p hp hpf
    obtain ⟨d, hd⟩ := lookup_of_mem hc
    rw [hd, h2 _ _ (mem_of_lookup hd)]
end
theorem relK_lookup (ks : Ks) (x : Str) : ∀ names : Ks, (relK names ks).lookup x = match names.lookup x with
    | some .free => if ks.lookup x == some .cell then some .cell else some .free
    | o => o
  | [] => rfl
  | (n, kd) :: r => by
    have ih := relK_lookup ks x r
    unfold relK at ih ⊢
    rw [List.map_cons]
    show List.lookup x ((if (kd == NameKind.free && ks.lookup n == some NameKind.cell) = true then (n, NameKind.cell) else (n, kd)) :: _) = _
    cases e : x == n with
    | true =>
      have e' := beq_iff_eq.mp e; subst e'
      have : (List.lookup x ((x, kd) :: r)) = some kd := by rw [List.lookup_cons, e]
      rw [this]
      by_cases hk : kd = .free
      · subst hk
        by_cases hc : (ks.lookup x == some NameKind.cell) = true
        · simp [hc]
        · simp [hc]
      · have : (kd == NameKind.free && ks.lookup x == some NameKind.cell) = false := by simp [hk]
        rw [this]
        simp only [Bool.false_eq_true, if_false, List.lookup_cons, e]
        cases kd <;> first | rfl | exact absurd rfl hk
    | false =>
      have h1 : List.lookup x ((n, kd) :: r) = r.lookup x := by rw [List.lookup_cons, e]
      rw [h1, ← ih]
      split <;> simp only [List.lookup_cons, e]
noncomputable def tgIdx : Tg → List Nat
  | .nm i => [i]
  | .tup is => is
noncomputable def cut (tg : Tg) (ρ : Ro) : Ro := ρ.filter fun p => !(tgIdx tg).contains p.1
theorem cut_lookup (tg : Tg) (ρ : Ro) (i : Nat) : (cut tg ρ).lookup i = if i ∈ tgIdx tg then none else ρ.lookup i := by
  unfold cut
  induction ρ with
  | nil => simp
  | cons p r ih =>
    obtain ⟨k, v⟩ := p
    rw [List.filter_cons]
    by_cases hk : k ∈ tgIdx tg
    · have : (!(tgIdx tg).contains k) = false := by simpa using hk
      rw [this]
      simp only [Bool.false_eq_true, if_false, ih, List.lookup_cons]
      by_cases hi : i ∈ tgIdx tg
      · rw [if_pos hi, if_pos hi]
      · rw [if_neg hi, if_neg hi]
        have : (i == k) = false := by simp; rintro rfl; exact hi hk
        rw [this]
    · have : (!(tgIdx tg).contains k) = true := by simpa using hk
      rw [this]
      simp only [if_true, List.lookup_cons]
      cases e : i == k with
      | true =>
        have := beq_iff_eq.mp e; subst this
        rw [if_neg hk]
      | false => rw [ih]
theorem setAll_cut (is : List Nat) : ∀ (xs : List PyData) (ρa ρb ra : Ro), setAll ρa is xs = some ra → ∃ rb, setAll ρb is xs = some rb ∧ ∀ j, (j ∈ is ∨ ρa.lookup j = ρb.lookup j) → ra.lookup j = rb.lookup j := by
  induction is with
  | nil =>
    intro xs ρa ρb ra h
    cases xs with
    | nil => cases h; exact ⟨ρb, rfl, fun j hj => hj.elim (fun q => nomatch q) id⟩
    | cons _ _ => cases h
  | cons i is ih =>
    intro xs ρa ρb ra h
    cases xs with
    | nil => cases h
    | cons x xs => ?_
    obtain ⟨rb, h1, h2⟩ := ih xs (setV ρa i (.d x)) (setV ρb i (.d x)) ra h
    refine ⟨rb, h1, fun j hj => h2 j ?_⟩
    by_cases e : j = i
    · right; rw [lookup_setV, lookup_setV, if_pos e, if_pos e]
    · rcases hj with hj | hj
      · rcases List.mem_cons.mp hj with q | q
        · exact absurd q e
        · exact .inl q
      · right; rw [lookup_setV, lookup_setV, if_neg e, if_neg e, hj]
theorem bind_cut {tg : Tg} {v : Va} {ρ ρ' : Ro} (h : bindTg tg v ρ = some ρ') : ∃ ρ₁, bindTg tg v (cut tg ρ) = some ρ₁ ∧ ∀ j, ρ'.lookup j = ρ₁.lookup j := by
  cases tg with
  | nm i =>
    cases h
    refine ⟨_, rfl, fun j => ?_⟩
    rw [lookup_setV, lookup_setV, cut_lookup]
    by_cases e : j = i
    · rw [if_pos e, if_pos e]
    · rw [if_neg e, if_neg e, if_neg (by simpa [tgIdx] using e)]
  | tup is =>
    obtain ⟨xs, rfl⟩ : ∃ xs, v = .d (.tuple xs) := by
      cases v with
      | c n => cases h
      | d y => cases y <;> first | exact ⟨_, rfl⟩ | cases h
    have h : setAll ρ is xs = some ρ' := h
    obtain ⟨rb, h1, h2⟩ := setAll_cut is xs ρ (cut (.tup is) ρ) ρ' h
    refine ⟨rb, h1, fun j => h2 j ?_⟩
    rw [cut_lookup]
    by_cases e : j ∈ tgIdx (.tup is)
    · exact .inl e
    · rw [if_neg e]; exact .inr rfl
section
variable {prog : Program} {w : World} {T : Tb} {B : Heap} {F as as' N : List Addr} {env : Env} {ρ : Ro} {S S' : Sto} {h h' h'' : Heap} {mg mb : Str → Option Value} {fn : Fn} {k : Nat}
theorem tg_idx {ks : Ks} {tg : Tg} {t : Expr} (ht : tgOk T.nt ks tg t = true) : ∀ x ∈ tgNames t, ∃ i ∈ tgIdx tg, T.nt[i]? = some x ∧ (ks.lookup x = some .local ∨ ks.lookup x = some .cell) := by
  intro x
  apply tg_e (tg := tg) (t := t) ht
  · intro i y p ht hx
    obtain rfl := List.mem_singleton.mp hx
    obtain ⟨h1, h2, _⟩ := nmOk_inv ht
    exact ⟨i, .head _, h1, h2⟩
  · intro is ps n pos hnd hp hx
    obtain ⟨e, he, hex⟩ := List.mem_filterMap.mp (show x ∈ List.filterMap _ (ps.map fun p => Expr.Name p.1 p.2) from hx)
    obtain ⟨p, hp1, rfl⟩ := List.mem_map.mp he
    cases hex
    have go : ∀ {is : List Nat} {xs : List Str}, Paired (fun i x => nmOk T.nt ks i x = true) is xs → ∀ y ∈ xs, ∃ i ∈ is, nmOk T.nt ks i y = true := by
      intro is xs hp
      induction hp with
      | nil => intro y hy; cases hy
      | cons q _ ih =>
        intro y hy
        rcases List.mem_cons.mp hy with rfl | hy
        · exact ⟨_, .head _, q⟩
        · obtain ⟨i, h1, h2⟩ := ih y hy; exact ⟨i, .tail _ h1, h2⟩
    obtain ⟨i, h1, h2⟩ := go hp p.1 (List.mem_map.mpr ⟨p, hp1, rfl⟩)
    obtain ⟨h3, h4, _⟩ := nmOk_inv h2
    exact ⟨i, h1, h3, h4⟩
structure ScOk (ks : Ks) (t : Expr) (sc : Scope) : Prop where
  kind : sc.kind = .function
  nocell : ∀ p ∈ sc.names, p.2 ≠ .cell
  loc : ∀ p ∈ sc.names, p.2 = .local → sc.names.lookup p.1 = some .local ∧ (p.1 ∈ tgNames t ∨ p.1 = (".0" : Str))
  free : ∀ p ∈ sc.names, p.2 = .free → ks.lookup p.1 = some .cell
theorem scOk_inv {ks : Ks} {t : Expr} {sc : Scope} (h : scOk ks t sc = true) : ScOk ks t sc := by
  simp only [scOk, Bool.and_eq_true, beq_iff_eq, List.all_eq_true, bne_iff_ne, ne_eq, Bool.or_eq_true, List.contains_iff_mem] at h
  refine ⟨h.1, fun p hp => (h.2 p hp).1.1, fun p hp e => ?_, fun p hp e => ?_⟩
  · rcases (h.2 p hp).1.2 with q | q
    · exact absurd e q
    · rcases q with q | q
      · exact ⟨q.1, .inl q.2⟩
      · exact ⟨q.2, .inr q.1⟩
  · rcases (h.2 p hp).2 with q | q
    · exact absurd e q
    · exact q
theorem mem_lookup' : ∀ {l : Ks} {x : Str} {kd : NameKind}, l.lookup x = some kd → (x, kd) ∈ l := by
  intro l x kd h; exact mem_of_lookup h
theorem inner_frame {t : Expr} {tg : Tg} {sc : Scope} {cl : List (Str × Addr)} {C : Addr} {m : Str → Option Value} (hnd : T.nt.Nodup) (hdot : (".0" : Str) ∉ T.nt) (f : Fm prog w T.nt B F as env ρ S h) (k : Step [] h h') (hN : New N h h') (hC : C ∈ N) (hns : h'.Ns C m)
    (hs : ScOk env.scope.names t sc) (ht : tgOk T.nt sc.names tg t = true) (h1 : ∀ x c, (x, c) ∈ cl → env.cells.lookup x = some c) (h2 : ∀ p ∈ sc.names, p.2 = .free → cl.lookup p.1 = env.cells.lookup p.1) :
    Fm prog w T.nt B (N ++ F) as (compEnvC sc cl C env) (cut tg ρ) S h' := by
  have kk : ∀ a o, h.get? a = some o → h'.get? a = some o := fun a o e => k.keep a o (fun q => nomatch q) e
  have hkn : (relabel sc env).names = relK sc.names env.scope.names := by
    unfold relabel relK
    simp only [f.kf, Env.kindOf]
    congr 1
    funext x
    simp
  have hkind : ∀ x, (compEnvC sc cl C env).kindOf x = (relK sc.names env.scope.names).lookup x := fun x => by
    show (relabel sc env).names.lookup x = _
    rw [hkn]
  have hcell : ∀ x, (compEnvC sc cl C env).kindOf x = some .cell → sc.names.lookup x = some .free ∧ env.kindOf x = some .cell := fun x e => by
    rw [hkind, relK_lookup] at e
    split at e
    · rename_i q
      refine ⟨q, ?_⟩
      split at e
      · rename_i q2; exact beq_iff_eq.mp q2
      · cases e
    · rename_i o q
      exact absurd rfl (hs.nocell _ (mem_lookup' e))
  refine ⟨f.st.wide k hN, hs.kind, f.glo, f.blt, List.mem_append_left _ hC, ⟨m, hns⟩, fun x c hx => ?_, fun x y c hx hy => ?_, fun x hx => ?_, fun i v x hi hx => ?_⟩
  · obtain ⟨h3, u, h4⟩ := f.cin x c (mem_of_lookup (h1 x c hx))
    exact ⟨List.mem_append_right _ h3, u, IsCell.at h4 (kk _)⟩
  · exact f.apart x y c (h1 _ _ (mem_of_lookup hx)) (h1 _ _ (mem_of_lookup hy))
  · obtain ⟨e1, e2⟩ := hcell x hx
    obtain ⟨c, hc⟩ := f.cel x e2
    exact ⟨c, (h2 _ (mem_lookup' e1) rfl).trans hc⟩
  · rw [cut_lookup] at hi
    split at hi
    · cases hi
    rename_i hni
    obtain ⟨val, hv, h3, h4⟩ := f.vars i v x hi hx
    refine ⟨val, hv.wide k hN, fun e => ?_, fun c e1 e2 => ?_⟩
    · exfalso
      rw [hkind, relK_lookup] at e
      split at e
      · split at e <;> cases e
      · rename_i q
        obtain ⟨_, hl⟩ := hs.loc _ (mem_lookup' e) rfl
        rcases hl with hl | hl
        · obtain ⟨j, hj, hjx, _⟩ := tg_idx ht _ hl
          exact hni (idx_inj hnd hx hjx ▸ hj)
        · exact hdot (hl ▸ List.mem_of_getElem? hx)
    · obtain ⟨e3, e4⟩ := hcell x e1
      exact IsCell.at (h4 c e4 (h1 _ _ (mem_of_lookup e2))) (kk _)
theorem Fm.side {nt : List Str} {W : List Addr} (f : Fm prog w nt B F as env ρ S h) (k : Step W h h') (hW : ∀ a ∈ W, a ∈ F) (hL : env.locals ∉ W) (hC : ∀ x c, (x, c) ∈ env.cells → c ∉ W) : Fm prog w nt B F as env ρ S h' := by
  refine ⟨f.st.step k hW, f.kf, f.glo, f.blt, f.loc, ?_, fun z c hz => ?_, f.apart, f.cel, fun i v z hi hz => ?_⟩
  · obtain ⟨m, hm⟩ := f.ns; exact ⟨m, Ns.at hm (k.keep _ · hL)⟩
  · obtain ⟨h1, v, h2⟩ := f.cin z c hz; exact ⟨h1, v, IsCell.at h2 (k.keep _ · (hC z c hz))⟩
  · obtain ⟨val, hv, h1, h2⟩ := f.vars i v z hi hz
    refine ⟨val, ?_, fun e => ?_, fun c e1 e2 => IsCell.at (h2 c e1 e2) (k.keep _ · (hC z c (mem_of_lookup e2)))⟩
    · have := hv.step (X' := F ++ as) (nw := []) k (fun b hb => List.mem_append_left _ (hW b hb)) (fun b hb => .inl hb)
      rwa [List.append_nil] at this
    · obtain ⟨m, hm, e⟩ := h1 e; exact ⟨m, Ns.at hm (k.keep _ · hL), e⟩
theorem tests_false {cs : List Expr} : (forIn cs false fun c r => if r = true then (do let ok ← isTrue c env (eval c env); pure (ForInStep.yield ok)) else pure (ForInStep.yield r)) = (pure false : Sem Bool) := by
  induction cs with
  | nil => rfl
  | cons c cs ih => rw [List.forIn_cons]; exact ih
theorem snd_tests {A : Around} (hr : Rm A k) : ∀ (ifs : List Ex) (cs : List Expr) (env : Env) (ρ : Ro) (S S' : Sto) (b : Bool) (F as : List Addr) (Q : Bool → Shared → Prop) (E : Value → Shared → Prop) (s : Shared), SndL prog w T B fn k ifs → chkL T env.scope.names ifs cs = true → evTests fn ρ S ifs = some (b, S') → Fm prog w T.nt B F as env ρ S s.heap → Pt prog w B F as S' s b Q →
    wpAny (model prog w) A (forIn cs true fun c r => if r = true then (do let ok ← isTrue c env (eval c env); pure (ForInStep.yield ok)) else pure (ForInStep.yield r)) Q E s := by
  intro ifs
  induction ifs with
  | nil =>
    intro cs env ρ S S' b F as Q E s hL hc he f p
    obtain rfl := chkL_nil hc
    cases he
    exact wpAny_pure (p _ s.toks _ f.st Adv.refl)
  | cons e es ih =>
    intro cs env ρ S S' b F as Q E s hL hc he f p
    obtain ⟨x, r, rfl, c1, _, c2⟩ := chkL_cons hc
    refine bind2_e he fun v1 S1 e1 he => ?_
    refine bind_e he fun c e2 he => ?_
    rw [List.forIn_cons]
    simp only [if_true]
    refine wpAny_bind (wpAny_bind ((hL e (.head _)).2 _ _ _ _ _ _ _ _ _ _ _ _ _ c1 e1 e2 hr f fun h1 t1 as1 x1 a1 => wpAny_pure ?_))
    cases c
    · cases he
      show wpAny _ _ (forIn r false _) _ _ _
      rw [tests_false]
      exact wpAny_pure (p _ _ _ x1 a1)
    · exact ih r env ρ S1 S' b F as1 Q E _ (fun e he => hL e (.tail _ he)) c2 he (f.adv x1 a1) (p.after a1)
theorem VaRep.advWide {val : Value} {v : Va} (r : VaRep prog w (F ++ as) as h val v) (a : Adv as h as' h') (hN : ∀ c ∈ N, h.get? c = none) : VaRep prog w ((N ++ F) ++ as') as' h' val v := by
  obtain ⟨nw, rfl, k, hn⟩ := a
  refine r.step k (fun b hb => List.mem_append_right _ hb) fun b hb => ?_
  rw [List.append_assoc, ← List.append_assoc F] at hb
  rcases List.mem_append.mp hb with hb | hb
  · exact .inr (hN b hb)
  · exact (List.mem_append.mp hb).elim .inl fun q => .inr (hn b q)
theorem Adv.old {b : Addr} {o : Obj} (a : Adv as h as' h') (hb : b ∉ as) (e : h.get? b = some o) : h'.get? b = some o := by
  obtain ⟨nw, rfl, k, hn⟩ := a
  exact k.keep b o hb e
theorem Adv.oldNot {b : Addr} (a : Adv as h as' h') (hb : b ∉ as) (e : (h.get? b).isSome = true) : b ∉ as' := by
  obtain ⟨nw, rfl, k, hn⟩ := a
  intro q
  rcases List.mem_append.mp q with q | q
  · exact hb q
  · rw [hn b q] at e; cases e
end
end Mine
end
end
section
open PySem PySem.Calls PySem.W PyProof.Rows
set_option maxRecDepth 100000
set_option Elab.async false
set_option autoImplicit false
set_option linter.unusedVariables false
noncomputable section
namespace Mine
section
variable {prog : Program} {w : World} {T : Tb} {B : Heap} {F as as' N : List Addr} {env : Env} {ρ : Ro} {S S' : Sto} {h h' h'' : Heap} {mg mb : Str → Option Value} {fn : Fn} {k : Nat}
structure Lp (prog : Program) (w : World) (F as₁ : List Addr) (h₁ : Heap) (N : List Addr) (I D : Addr) (fp : List Addr) (St : Nat → Heap → Prop) (ds : List PyData) (len j : Nat) (as : List Addr) (h : Heap) : Prop where
  adv : Adv as₁ h₁ as h
  new : New N h₁ h
  st : St j h
  acc : ∃ vs n, h.get? D = some (lstO (List.toArray vs) n) ∧ RepL prog w ((N ++ F) ++ as) h vs ds ∧ vs.length ≤ len
theorem RepL.advs {vs : List Value} {ds : List PyData} (r : RepL prog w (F ++ as) h vs ds) (a : Adv as h as' h') : RepL prog w (F ++ as') h' vs ds := by
  induction vs generalizing ds with
  | nil => cases r; exact .nil
  | cons v vs ih =>
    cases r with
    | cons q r => exact .cons (VaRep.adv (v := .d _) q a) (ih r)
section
variable {as₁ : List Addr} {h₁ : Heap} {I D C : Addr} {fp : List Addr} {P : Nat → Value → Prop} {St : Nat → Heap → Prop} {xs : List PyData}
theorem fp_keep (it : Itr prog w (F ++ as₁) h₁ xs I fp P St) (a : Adv as₁ h₁ as h) {W : List Addr} (hW : ∀ c ∈ W, c ∈ as ∨ c ∈ N) (hN : ∀ c ∈ N, h₁.get? c = none) (hI : I ∉ W) (k : Step W h h') : ∀ b ∈ fp, ∀ o, h.get? b = some o → h'.get? b = some o := fun b hb o e => by
  rcases it.fpo b hb with rfl | ⟨h1, h2⟩
  · exact k.keep _ o hI e
  · refine k.keep b o (fun q => ?_) e
    rcases hW b q with q | q
    · exact a.oldNot (fun q => h1 (List.mem_append_right _ q)) h2 q
    · rw [hN b q] at h2; cases h2
theorem Lp.eval {A : Around} {ds : List PyData} {len j : Nat} (x : Lp prog w F as₁ h₁ N I D fp St ds len j as h) (hh : A.handled = none) (it : Itr prog w (F ++ as₁) h₁ xs I fp P St) (y : Mine.St prog w B (N ++ F) as S h) (hI : I ∈ N) (hD : D ∈ N) (a : Adv as h as' h') : Lp prog w F as₁ h₁ N I D fp St ds len j as' h' := by
  have off : ∀ c ∈ N, c ∉ as := fun c hc q => y.off c q (List.mem_append_left _ hc)
  obtain ⟨vs, n, h1, h2, h3⟩ := x.acc
  have a0 := a
  obtain ⟨nw, rfl, k, hn⟩ := a
  exact ⟨x.adv.trans a0, x.new.on a0, (it.walk A hh).frame _ _ _ x.st (fp_keep (N := N) it x.adv (fun c hc => .inl hc) (fun c hc => (x.new c hc).1) (off I hI) k), vs, n, a0.old (off D hD) h1, h2.advs a0, h3⟩
theorem Lp.own {A : Around} {ds : List PyData} {len j : Nat} {W : List Addr} (x : Lp prog w F as₁ h₁ N I D fp St ds len j as h) (hh : A.handled = none) (it : Itr prog w (F ++ as₁) h₁ xs I fp P St) (hW : ∀ c ∈ W, c ∈ N) (hI : I ∉ W) (hD : D ∉ W) (k : Step W h h') : Lp prog w F as₁ h₁ N I D fp St ds len j as h' := by
  obtain ⟨vs, n, h1, h2, h3⟩ := x.acc
  exact ⟨Adv.wrote x.new x.adv (k.more hW), x.new.adv (k.more hW), (it.walk A hh).frame _ _ _ x.st (fp_keep (N := N) it x.adv (fun c hc => .inr (hW c hc)) (fun c hc => (x.new c hc).1) hI k), vs, n, k.keep _ _ hD h1, RepL.keep k (fun b hb => List.mem_append_left _ (List.mem_append_left _ (hW b hb))) h2, h3⟩
theorem bind_keep {tg : Tg} {v : Va} {ρ ρ' : Ro} (h : bindTg tg v ρ = some ρ') {j : Nat} (hj : j ∉ tgIdx tg) : ρ'.lookup j = ρ.lookup j := by
  cases tg with
  | nm i =>
    cases h
    rw [lookup_setV, if_neg (by simpa [tgIdx] using hj)]
  | tup is =>
    obtain ⟨xs, rfl⟩ : ∃ xs, v = .d (.tuple xs) := by
      cases v with
      | c n => cases h
      | d y => cases y <;> first | exact ⟨_, rfl⟩ | cases h
    replace h : setAll ρ is xs = some ρ' := h
    replace hj : j ∉ is := hj
    induction is generalizing xs ρ with
    | nil => cases xs with
      | nil => cases h; rfl
      | cons _ _ => cases h
    | cons i is ih => cases xs with
      | nil => cases h
      | cons x xs =>
        rw [ih (ρ := setV ρ i (.d x)) xs h (fun q => hj (.tail _ q)), lookup_setV, if_neg (fun q => hj (by rw [q]; exact .head _))]
theorem cut_of {tg : Tg} {v : Va} {ρ ρ' : Ro} (h : bindTg tg v ρ = some ρ') : ∀ j u, (cut tg ρ).lookup j = some u → ρ'.lookup j = some u := by
  intro j u q
  rw [cut_lookup] at q
  split at q
  · cases q
  · rename_i hj
    rw [bind_keep h hj]; exact q
theorem St.done {N2 : List Addr} (x : Mine.St prog w B (I :: N2 ++ F) as S h) (hk : Kp [I] h h') (h1 : I ∉ N2) (h2 : I ∉ F) : Mine.St prog w B (N2 ++ F) as S h' := by
  have hne : ∀ c, c ∈ N2 ++ F → c ∉ [I] := fun c hc q => by
    rw [List.mem_singleton.mp q] at hc
    exact (List.mem_append.mp hc).elim h1 h2
  have hsub : ∀ c, c ∈ N2 ++ F → c ∈ I :: N2 ++ F := fun c hc => List.mem_cons_of_mem _ hc
  have hIas : I ∉ as := fun q => x.off _ q (.head _)
  refine ⟨fun b o e => hk b o (fun q => ?_) (x.base b o e), fun b hb => x.vol b ?_, fun b hb => ?_, x.nd, fun b hb q => x.off b hb (hsub b q), x.len, fun n a c e1 e2 => ?_⟩
  · rw [List.mem_singleton.mp q, x.vol I (.head _)] at e; cases e
  · exact (List.mem_append.mp hb).elim (fun q => List.mem_append_left _ (hsub b q)) (fun q => List.mem_append_right _ q)
  · obtain ⟨o, ho⟩ := Option.isSome_iff_exists.mp (x.live b (hsub b hb))
    rw [hk b o (hne b hb) ho]; rfl
  · have hna : a ∉ [I] := fun q => hIas (by rw [← List.mem_singleton.mp q]; exact List.mem_of_getElem? e1)
    have := (x.cells n a c e1 e2).stepK (X' := (N2 ++ F) ++ as) (nw := []) hk (fun b hb => by rw [List.mem_singleton.mp hb]; exact .head _) (fun b hb => .inl ((List.mem_append.mp hb).elim (fun q => List.mem_append_left _ (hsub b q)) (fun q => List.mem_append_right _ q))) (fun o e => hk a o hna e)
    rwa [List.append_nil] at this
theorem comp_loop {A : Around} {R : Result → Shared → Prop} (G : Gl T B mg mb) (hr : Rm A k) {N2 : List Addr} {elt : Ex} {ifs : List Ex} {tg : Tg} {e t i : Expr} {cs : List Expr} {sc : Scope} {pos : Pos} {cenv : Env} (hE : Snd prog w T B fn k elt) (hL : SndL prog w T B fn k ifs)
    (c1 : chkL T cenv.scope.names ifs cs = true) (c2 : chk T cenv.scope.names elt e = true) (c3 : tgOk T.nt cenv.scope.names tg t = true) (hloc : ∀ x ∈ tgNames t, cenv.kindOf x ≠ some .cell) (hC : cenv.locals = C) (hcN : ∀ x c, (x, c) ∈ cenv.cells → c ∉ I :: N2)
    (it : Itr prog w (F ++ as₁) h₁ xs I fp P St) (hDN2 : D ∈ N2) (hCN2 : C ∈ N2) (hI2 : I ∉ N2) (hIF : I ∉ F) (hDC : D ≠ C) (hz : xs.length ≤ big) :
    ∀ (m j : Nat) (S : Sto) (rest ds : List PyData) (s : Shared) (as : List Addr), xs.length = j + m →
      cloop (fun y S₁ => (bindTg tg (.d y) ρ).bind fun ρ' => (evTests fn ρ' S₁ ifs).bind fun t => if t.1 then (ev fn ρ' t.2 elt).bind fun u => (dat u.1).map fun z => (some z, u.2) else some (none, t.2)) (xs.drop j) S = some (rest, S') →
      Fm prog w T.nt B (I :: N2 ++ F) as cenv (cut tg ρ) S s.heap → Lp prog w F as₁ h₁ (I :: N2) I D fp St ds j j as s.heap →
      (∀ h' tk as' m, Mine.St prog w B (N2 ++ F) as' S' h' → Adv as₁ h₁ as' h' → New N2 h₁ h' → h'.Ns C m → (∃ vs n, h'.get? D = some (lstO (List.toArray vs) n) ∧ RepL prog w ((N2 ++ F) ++ as') h' vs (ds ++ rest)) → R (.ok .next) { s with heap := h', toks := tk }) →
      codeAny (model prog w) A (.compLoop (.ListComp e [⟨t, i, cs, 0⟩] sc pos) 0 (.ref I) (.ref D) cenv) R s := by
  have hIN : I ∈ I :: N2 := .head _
  have hDN : D ∈ I :: N2 := .tail _ hDN2
  have hCN : C ∈ I :: N2 := .tail _ hCN2
  have hID : I ≠ D := fun q => hI2 (q ▸ hDN2)
  have hIC : I ≠ C := fun q => hI2 (q ▸ hCN2)
  intro m
  induction m with
  | zero =>
    intro j S rest ds s as hj hc f x hR
    have hjn : j = xs.length := by lia
    rw [List.drop_eq_nil_of_le (by lia)] at hc
    cases hc
    refine codeAny_of_tree ?_
    show wpAny _ A ((compTurn (.ListComp e [⟨t, i, cs, 0⟩] sc pos) 0 (.ref I) (.ref D) cenv).onRaise (fun x => do noteFrame x cenv; theTreesLotGoes x)) _ _ s
    refine wpAny_noted ?_
    rw [compTurn_list]
    refine wpAny_bind (wpAny_standAt (wpAny_bind ((it.walk A hr.hh).done s _ _ (by rw [← hjn]; exact x.st) fun h' tk hk => wpAny_pure ?_)))
    obtain ⟨vs, n, h1, h2, h3⟩ := x.acc
    have hI1 : h₁.get? I = none := (x.new I hIN).1
    have hIas : I ∉ as := fun q => f.st.off _ q (.head _)
    obtain ⟨mm, hns⟩ := f.ns
    rw [hC] at hns
    refine hR h' tk as mm (f.st.done hk hI2 hIF) ?_ (fun c hc => ⟨(x.new c (.tail _ hc)).1, ?_⟩) (Ns.at hns fun o e => hk _ o (by simpa using Ne.symm hIC) e) ⟨vs, n, hk _ _ (by simpa using Ne.symm hID) h1, ?_⟩
    · obtain ⟨nw, rfl, k0, hn⟩ := x.adv
      refine ⟨nw, rfl, ⟨fun b o hb e => hk b o (fun q => by rw [List.mem_singleton.mp q, hI1] at e; cases e) (k0.keep b o hb e), fun b hb => ?_⟩, hn⟩
      obtain ⟨o, ho⟩ := Option.isSome_iff_exists.mp (k0.live b hb)
      rw [hk b o (fun q => by rw [List.mem_singleton.mp q, hI1] at hb; cases hb) ho]; rfl
    · obtain ⟨o, ho⟩ := Option.isSome_iff_exists.mp (x.new c (.tail _ hc)).2
      rw [hk c o (fun q => hI2 (by rw [← List.mem_singleton.mp q]; exact hc)) ho]; rfl
    · rw [List.append_nil]
      have := RepL.keepK hk (fun b hb => by rw [List.mem_singleton.mp hb]; exact .head _) h2
      exact RepL.more (fun b hb => .inl (List.mem_cons_of_mem _ hb)) this
  | succ m ih =>
    intro j S rest ds s as hj hc f x hR
    have hlt : j < xs.length := by lia
    rw [List.drop_eq_getElem_cons hlt] at hc
    generalize hxd : xs[j] = d at hc
    have hxj : xs[j]? = some d := by rw [List.getElem?_eq_getElem hlt, hxd]
    refine bind2_e hc fun r1 S2 hb hc => ?_
    refine map2_e hc fun rest' S3 hc2 hc => ?_
    cases hc
    refine bind_e hb fun ρ' e1 hb => ?_
    refine bind2_e hb fun b S4 e2 hb => ?_
    obtain ⟨ρ₁, e3, e4⟩ := bind_cut e1
    have hI1 : ∀ c ∈ [I], c ∈ I :: N2 := fun c hc => by rw [List.mem_singleton.mp hc]; exact hIN
    have hC1 : ∀ c ∈ [C], c ∈ I :: N2 := fun c hc => by rw [List.mem_singleton.mp hc]; exact hCN
    have hD1 : ∀ c ∈ [D], c ∈ I :: N2 := fun c hc => by rw [List.mem_singleton.mp hc]; exact hDN
    refine codeAny_of_tree ?_
    show wpAny _ A ((compTurn (.ListComp e [⟨t, i, cs, 0⟩] sc pos) 0 (.ref I) (.ref D) cenv).onRaise (fun x => do noteFrame x cenv; theTreesLotGoes x)) _ _ s
    refine wpAny_noted ?_
    rw [compTurn_list]
    refine wpAny_bind (wpAny_standAt (wpAny_bind ((it.walk A hr.hh).item j s _ _ hlt x.st fun v h5 t5 hP st5 hk => ?_)))
    have k5 : Step [I] s.heap h5 := ⟨fun b o hb e => hk b o hb e, fun b hb => by
      by_cases q : b = I
      · subst q; exact it.live _ _ st5
      · obtain ⟨o, ho⟩ := Option.isSome_iff_exists.mp hb
        rw [hk b o (by simpa using q) ho]; rfl⟩
    have f5 := f.side k5 (fun c hc => List.mem_append_left _ (hI1 c hc)) (by rw [hC]; simpa using Ne.symm hIC) (fun y c hy q => hcN y c hy (hI1 c q))
    obtain ⟨vs, n, h1, h2, h3⟩ := x.acc
    have x5 : Lp prog w F as₁ h₁ (I :: N2) I D fp St ds j (j + 1) as h5 := ⟨Adv.wrote x.new x.adv (k5.more hI1), x.new.adv (k5.more hI1), st5, vs, n, hk _ _ (by simpa using Ne.symm hID) h1, RepL.keep k5 (fun b hb => List.mem_append_left _ (List.mem_append_left _ (hI1 b hb))) h2, h3⟩
    have rv : VaRep prog w ((I :: N2 ++ F) ++ as) as h5 v (.d d) := VaRep.advWide (v := .d d) (it.item j v d hP hxj) x5.adv (fun c hc => (x5.new c hc).1)
    refine wpAny_bind (it.go (j + 1) t v _ A _ _ st5 ?_)
    refine wpAny_bind (assign_tg (W := [C]) (ρ' := ρ₁) (fun c hc => List.mem_append_left _ (hC1 c hc)) (by rw [hC]; exact .head _) (fun y hy c q => absurd q (hloc y hy)) G.nd hr.hh c3 e3 f5 rv fun h6 t6 f6 k6 => ?_)
    have f6' : Fm prog w T.nt B (I :: N2 ++ F) as cenv ρ' S h6 := f6.ro fun j v q => by rw [← e4]; exact q
    have x6 := x5.own hr.hh it hC1 (by simpa using hIC) (by simpa using hDC) k6
    refine wpAny_bind (snd_tests hr ifs cs cenv ρ' S S4 b (I :: N2 ++ F) as _ _ _ hL c1 e2 f6' fun h7 t7 as7 y7 a7 => ?_)
    have x7 := x6.eval hr.hh it f6.st hIN hDN a7
    have f7 := f6'.adv y7 a7
    have hbl := big_line
    cases b with
    | false =>
      cases hb
      refine wpAny_pure ⟨rfl, ?_⟩
      obtain ⟨vs7, n7, q1, q2, q3⟩ := x7.acc
      exact ih (j + 1) S4 rest' ds _ as7 (by lia) hc2 (f7.ro (cut_of e1)) ⟨x7.adv, x7.new, x7.st, vs7, n7, q1, q2, by lia⟩ fun h' tk as' m => hR h' tk as' m
    | true =>
      refine bind2_e hb fun u S5 e5 hb => ?_
      refine map_e hb fun z e6 hb => ?_
      cases hb
      obtain rfl := dat_inv e6
      refine wpAny_bind (wpAny_bind (hE _ _ _ _ _ _ _ _ _ _ _ _ c2 e5 hr f7 fun h8 t8 u8 as8 y8 a8 r8 => wpAny_bind ?_))
      have x8 := x7.eval hr.hh it f7.st hIN hDN a8
      have f8 := f7.adv y8 a8
      obtain ⟨vs8, n8, q1, q2, q3⟩ := x8.acc
      refine op_append q1 (by lia) fun h9 n9 q9 s9 => wpAny_pure (wpAny_pure ⟨rfl, ?_⟩)
      have k9 : Step [D] h8 h9 := Step.sameBut s9 (List.mem_singleton.mpr rfl) (by rw [q9]; rfl)
      have f9 := f8.side k9 (fun c hc => List.mem_append_left _ (hD1 c hc)) (by rw [hC]; simpa using Ne.symm hDC) (fun y c hy q => hcN y c hy (hD1 c q))
      have hsub : ∀ b ∈ [D], b ∈ (I :: N2 ++ F) ++ as8 := fun b hb => List.mem_append_left _ (List.mem_append_left _ (hD1 b hb))
      refine ih (j + 1) S5 rest' (ds ++ [z]) _ as8 (by lia) hc2 (f9.ro (cut_of e1)) ⟨Adv.wrote x8.new x8.adv (k9.more hD1), x8.new.adv (k9.more hD1), ?_, _, n9, q9, RepL.append (RepL.keep k9 hsub q2) (.cons (Rep.keep k9 hsub r8) .nil), by simp; lia⟩ fun h' tk as' m y1 y2 y3 y4 y5 => hR h' tk as' m y1 y2 y3 y4 (by
        rw [show ds ++ [z] ++ rest' = ds ++ z :: rest' by simp] at y5; exact y5)
      exact (it.walk A hr.hh).frame _ _ _ x8.st (fp_keep (N := I :: N2) it x8.adv (fun c hc => .inr (hD1 c hc)) (fun c hc => (x8.new c hc).1) (by simpa using hID) k9)
end
end
end Mine
end
end
section
open PySem PySem.Calls PySem.W PyProof.Rows
set_option maxRecDepth 100000
set_option Elab.async false
set_option autoImplicit false
set_option linter.unusedVariables false
noncomputable section
namespace Mine
section
variable {prog : Program} {w : World} {T : Tb} {B : Heap} {F as as' N : List Addr} {env : Env} {ρ : Ro} {S S' : Sto} {h h' h'' : Heap} {mg mb : Str → Option Value} {fn : Fn} {k : Nat}
theorem tgOk_mono {nt : List Str} {ks ks' : Ks} {tg : Tg} {t : Expr} (h : ∀ x ∈ tgNames t, (ks.lookup x = some .local ∨ ks.lookup x = some .cell) → (ks'.lookup x = some .local ∨ ks'.lookup x = some .cell)) (ht : tgOk nt ks tg t = true) : tgOk nt ks' tg t = true := by
  have mono : ∀ {i : Nat} {x : Str}, x ∈ tgNames t → nmOk nt ks i x = true → nmOk nt ks' i x = true := fun hx q => by
    obtain ⟨h1, h2, h3⟩ := nmOk_inv q
    have h4 := h _ hx h2
    simp only [nmOk, Bool.and_eq_true, Bool.or_eq_true, beq_iff_eq, Bool.not_eq_true']
    exact ⟨⟨h1, h4⟩, h3⟩
  cases tg with
  | nm i =>
    induction t using PySem.Expr.casesOn <;> first | exact nope ht | skip
    exact mono (.head _) ht
  | tup is =>
    induction t using PySem.Expr.casesOn <;> first | exact nope ht | skip
    rename_i ts n pos
    have ht := Bool.and_eq_true_iff.mp ht
    refine Bool.and_eq_true_iff.mpr ⟨ht.1, List.all_eq_true.mpr fun p hp => ?_⟩
    have := List.all_eq_true.mp ht.2 p hp
    obtain ⟨i, e⟩ := p
    have hz := (List.of_mem_zip hp).2
    clear hp
    induction e using PySem.Expr.casesOn <;> first | exact nope this | skip
    rename_i x pos'
    exact mono (List.mem_filterMap.mpr ⟨_, hz, rfl⟩) this
theorem relabel_names {sc : Scope} (hk : env.scope.kind = .function) : (relabel sc env).names = relK sc.names env.scope.names := by
  unfold relabel relK
  simp only [hk, Env.kindOf]
  congr 1
  funext x
  simp
theorem tg_local {t : Expr} {tg : Tg} {sc : Scope} {ks : Ks} (hs : ScOk ks t sc) (ht : tgOk T.nt sc.names tg t = true) : ∀ x ∈ tgNames t, (relK sc.names ks).lookup x = some .local := fun x hx => by
  obtain ⟨i, _, _, hl⟩ := tg_idx ht x hx
  rcases hl with hl | hl
  · rw [relK_lookup, hl]
  · exact absurd rfl (hs.nocell _ (mem_lookup' hl))
theorem comp_core {use : Option (Value → Sem Unit)} {A : Around} {Q E : Value → Shared → Prop} {s : Shared} {v : Va} (G : Gl T B mg mb) (hdot : (".0" : Str) ∉ T.nt) (hr : Rm A k) {elt itx : Ex} {ifs : List Ex} {tg : Tg} {e t i : Expr} {cs : List Expr} {sc : Scope} {pos pos' : Pos} (hI : Snd prog w T B fn k itx) (hE : Snd prog w T B fn k elt) (hL : SndL prog w T B fn k ifs)
    (hset : notSet i = true) (hsc : scOk env.scope.names t sc = true) (ht : tgOk T.nt sc.names tg t = true) (ci : chk T env.scope.names itx i = true) (c1 : chkL T (relK sc.names env.scope.names) ifs cs = true) (c2 : chk T (relK sc.names env.scope.names) elt e = true)
    (he : ev fn ρ S (.comp elt tg itx ifs) = some (v, S')) (f : Fm prog w T.nt B F as env ρ S s.heap)
    (hend : ∀ (C D : Addr) (N2 : List Addr) h' tk as' m ds, v = .d (.list ds) → Mine.St prog w B (N2 ++ F) as' S' h' → Adv as s.heap as' h' → New N2 s.heap h' → C ∈ N2 → D ∈ N2 → D ≠ C → h'.Ns C m → (∃ vs n, h'.get? D = some (lstO (List.toArray vs) n) ∧ RepL prog w ((N2 ++ F) ++ as') h' vs ds) → compPost (model prog w) A E use Q (.ref D) C (.ok .next) { s with heap := h', toks := tk }) :
    wpAny (model prog w) A (comprehension (.ListComp e [⟨t, i, cs, 0⟩] sc pos) sc env pos' (newList []) false (eval i env) use) Q E s := by
  have hs := scOk_inv hsc
  refine bind2_e he fun v1 S1 e1 he => ?_
  cases v1 with
  | c _ => cases he
  | d x =>
    refine bind_e he fun xs e2 he => ?_
    split at he
    case isFalse => cases he
    rename_i hz
    refine map2_e he fun rest S2 e3 he => ?_
    cases he
    obtain ⟨cl, hcl, hcl1, hcl2⟩ := closure_ok (env := env) (sc := sc) fun p hp hpf => f.cel _ (hs.free p hp hpf)
    refine wpAny_comprehension_free (use := use) (g := ⟨t, i, cs, 0⟩) (gs := []) rfl (fun x => by cases i <;> first | rfl | exact absurd hset Bool.false_ne_true) hcl hs.kind (fun x hx hl => (hs.loc x hx hl).1) ?_
    refine hI _ _ _ _ _ _ _ _ _ _ _ _ ci e1 hr f fun h1 t1 u1 as1 x1 a1 r1 => ?_
    have f1 := f.adv x1 a1
    obtain ⟨oI, fp, P, St, hiter, itr, st0⟩ := iter_items (s := ⟨h1, s.gens, s.drawn, t1, s.os⟩) e2 r1
    refine hiter A _ _ ?_
    dsimp only at itr st0 ⊢
    have hoI : (h1.push oI).get? h1.objs.size ≠ none := fun q => by
      have := itr.live 0 _ st0
      rw [q] at this; cases this
    generalize hh2 : h1.push oI = h2 at st0 hoI ⊢
    have s2 : h2.objs.size = h1.objs.size + 1 := by rw [← hh2, Heap.size_push]
    refine wpAny_newList ?_ (by simp)
    dsimp only
    generalize hh3 : h2.push { cls := .type "list", data := .seq ([] : List Value).toArray } = h3
    have s3 : h3.objs.size = h2.objs.size + 1 := by rw [← hh3, Heap.size_push]
    refine wpAny_newFunctionEnv hs.nocell (fun x hx => nomatch hx) (fun h4 hns hsb => ?_) hs.kind
    dsimp only at hns hsb ⊢
    show codeAny _ _ (.compStart (.ListComp e [⟨t, i, cs, 0⟩] sc pos) 0 (.ref h1.objs.size) (.ref h2.objs.size) (compEnvC sc cl h3.objs.size env)) _ _
    have k23 : ∀ b o, h2.get? b = some o → h4.get? b = some o := fun b o e => by
      have hlt : @LT.lt Nat _ b h2.objs.size := Heap.lt_size e
      refine (hsb.2 b (show @Ne Nat b h3.objs.size by lia)).trans (Heap.get?_push_of_some _ ?_)
      rw [← hh3]; exact Heap.get?_push_of_some _ e
    have k14 : ∀ b o, h1.get? b = some o → h4.get? b = some o := fun b o e => k23 b o (by rw [← hh2]; exact Heap.get?_push_of_some _ e)
    have hD4 : h4.get? h2.objs.size = some (lstO ([] : List Value).toArray 0) := by
      refine (hsb.2 _ (show @Ne Nat h2.objs.size h3.objs.size by lia)).trans (Heap.get?_push_of_some _ ?_)
      rw [← hh3]; exact Heap.get?_push_size _ rfl
    have none1 : ∀ b, h1.objs.size ≤ b → h1.get? b = none := fun b hb => Heap.get?_none_of_le hb
    have hN : New (h1.objs.size :: [h2.objs.size, h3.objs.size]) h1 h4 := fun c hc => by
      rcases List.mem_cons.mp hc with rfl | hc
      · refine ⟨none1 _ (Nat.le_refl _), ?_⟩
        cases q : h2.get? h1.objs.size with
        | none => exact absurd q hoI
        | some o => rw [k23 _ o q]; rfl
      rcases List.mem_cons.mp hc with rfl | hc
      · exact ⟨none1 _ (by lia), by rw [hD4]; rfl⟩
      · rw [List.mem_singleton.mp hc]
        exact ⟨none1 _ (by lia), by obtain ⟨o, _, _, ho, _⟩ := hns; rw [ho]; rfl⟩
    have hkp : Step [] h1 h4 := Step.of_keep k14
    have hgo : ∀ b, b ∈ F → b < h1.objs.size := fun b hb => by
      obtain ⟨o, ho⟩ := Option.isSome_iff_exists.mp (x1.live b hb)
      exact Heap.lt_size ho
    have fin := inner_frame (T := T) (N := h1.objs.size :: [h2.objs.size, h3.objs.size]) G.nd hdot f1 hkp hN (by simp) hns hs ht hcl1 hcl2
    have hnm : (compEnvC sc cl h3.objs.size env).scope.names = relK sc.names env.scope.names := relabel_names f.kf
    have loop : ∀ tk, codeAny (model prog w) A (.compLoop (.ListComp e [⟨t, i, cs, 0⟩] sc pos) 0 (.ref h1.objs.size) (.ref h2.objs.size) (compEnvC sc cl h3.objs.size env)) (compPost (model prog w) A E use Q (.ref h2.objs.size) h3.objs.size) { s with heap := h4, toks := tk } := fun tk => by
      refine comp_loop (N2 := [h2.objs.size, h3.objs.size]) (C := h3.objs.size) (ρ := ρ) (tg := tg) G hr hE hL (by rw [hnm]; exact c1) (by rw [hnm]; exact c2) (by rw [hnm]; exact tgOk_mono (fun x hx _ => .inl (tg_local hs ht x hx)) ht)
        (fun x hx q => by
          have := tg_local hs ht x hx
          have q : (compEnvC sc cl h3.objs.size env).scope.names.lookup x = some .cell := q
          rw [hnm, this] at q; cases q) rfl (fun x c hx q => by
          obtain ⟨_, u, hu⟩ := f1.cin x c (mem_of_lookup (hcl1 x c hx))
          obtain ⟨o, ho, _⟩ := hu
          rw [(hN c q).1] at ho; cases ho) itr (by simp) (by simp) (fun q => by
          rcases List.mem_cons.mp q with q | q
          · have q : @Eq Nat h1.objs.size h2.objs.size := q
            lia
          · have q : @Eq Nat h1.objs.size h3.objs.size := List.mem_singleton.mp q
            lia) (fun q => Nat.lt_irrefl _ (hgo _ q)) (show @Ne Nat h2.objs.size h3.objs.size by lia) hz xs.length 0 S1 rest [] _ as1 (by lia) (by simpa using e3) fin
        ⟨Adv.same hkp, hN, (itr.walk A hr.hh).frame 0 _ _ st0 (fun b _ o e => k23 b o e), [], 0, hD4, .nil, by simp⟩ fun h' tk' as' m y1 y2 y3 y4 y5 => ?_
      refine hend h3.objs.size h2.objs.size [h2.objs.size, h3.objs.size] h' tk' as' m rest rfl y1 (a1.trans y2) (fun c hc => ⟨?_, (y3 c hc).2⟩) (by simp) (by simp) (show @Ne Nat h2.objs.size h3.objs.size by lia) y4 (by simpa using y5)
      cases q : s.heap.get? c with
      | none => rfl
      | some o =>
        obtain ⟨nw, _, k0, _⟩ := a1
        have := k0.live c (by rw [q]; rfl)
        rw [(y3 c hc).1] at this; cases this
    exact codeAny_compStart_list (loop _) ((itr.walk A hr.hh).self 0 _ _ _ ((itr.walk A hr.hh).frame 0 _ _ st0 (fun b _ o e => k23 b o e)) (loop _))
theorem comp_inv {elt itx : Ex} {ifs : List Ex} {tg : Tg} {ks : Ks} {ex : Expr} (hc : chk T ks (.comp elt tg itx ifs) ex = true) : ∃ e t i cs sc pos, ex = .ListComp e [⟨t, i, cs, 0⟩] sc pos ∧ notSet i = true ∧ scOk ks t sc = true ∧ tgOk T.nt sc.names tg t = true ∧ chk T ks itx i = true ∧ chkL T (relK sc.names ks) ifs cs = true ∧ chk T (relK sc.names ks) elt e = true := by
  apply onLcp_e (x := ex) hc
  intro e gs sc pos hc
  apply on1_e (x := gs) hc
  intro g h00
  obtain ⟨t, i, cs, z⟩ := g
  refine dand h00 fun hz hc => ?_
  have hz : z = 0 := hz
  subst hz
  have hc : (notSet i && scOk ks t sc && tgOk T.nt sc.names tg t && chk T ks itx i && chkL T (relK sc.names ks) ifs cs && chk T (relK sc.names ks) elt e) = true := hc
  simp only [Bool.and_eq_true] at hc
  obtain ⟨⟨⟨⟨⟨h1, h2⟩, h3⟩, h4⟩, h5⟩, h6⟩ := hc
  exact ⟨e, t, i, cs, sc, pos, rfl, h1, h2, h3, h4, h5, h6⟩
theorem St.sub {F' : List Addr} (x : Mine.St prog w B F as S h) (hs : ∀ b ∈ F', b ∈ F) : Mine.St prog w B F' as S h := by
  have hs2 : ∀ b ∈ F' ++ as, b ∈ F ++ as := fun b hb => (List.mem_append.mp hb).elim (fun q => List.mem_append_left _ (hs b q)) (fun q => List.mem_append_right _ q)
  refine ⟨x.base, fun b hb => x.vol b (hs2 b hb), fun b hb => x.live b (hs b hb), x.nd, fun b hb q => x.off b hb (hs b q), x.len, fun n a c h1 h2 => ?_⟩
  have := (x.cells n a c h1 h2).step (X' := F' ++ as) (nw := []) (W := []) Step.refl (fun _ q => nomatch q) (fun b hb => .inl (hs2 b hb)) (fun o e => e)
  rwa [List.append_nil] at this
theorem Adv.drop {C : Addr} (a : Adv as h as' h') (hk : Kp [C] h' h'') (hC : h.get? C = none) : Adv as h as' h'' := by
  obtain ⟨nw, rfl, k0, hn⟩ := a
  refine ⟨nw, rfl, ⟨fun b o hb e => hk b o (fun q => by rw [List.mem_singleton.mp q, hC] at e; cases e) (k0.keep b o hb e), fun b hb => ?_⟩, hn⟩
  obtain ⟨o, ho⟩ := Option.isSome_iff_exists.mp (k0.live b hb)
  rw [hk b o (fun q => by rw [List.mem_singleton.mp q, hC] at hb; cases hb) ho]; rfl
theorem snd_comp (G : Gl T B mg mb) (hdot : (".0" : Str) ∉ T.nt) {elt itx : Ex} {ifs : List Ex} {tg : Tg} (hI : Snd prog w T B fn k itx) (hE : Snd prog w T B fn k elt) (hL : SndL prog w T B fn k ifs) : Snd prog w T B fn k (.comp elt tg itx ifs) := by
  intro env ρ S S' v ex F as A Q E s hc he hr f p
  obtain ⟨e, t, i, cs, sc, pos, rfl, h1, h2, h3, h4, h5, h6⟩ := comp_inv hc
  rw [eval_ListComp]
  refine comp_core (use := none) G hdot hr hI hE hL h1 h2 h3 h4 h5 h6 he f fun C D N2 h' tk as' m ds hv x a hN hC hD hDC hns hacc => ⟨m, hns, fun h'' hs => ?_⟩
  subst hv
  obtain ⟨vs, n, hob, hl⟩ := hacc
  have hk : Kp [C] h' h'' := fun b o hb e => (hs.2 b (fun q => hb (by rw [q]; exact .head _))).trans e
  have hCF : C ∉ F := fun q => by have := f.st.live _ q; rw [(hN C hC).1] at this; cases this
  have x2 : Mine.St prog w B F as' S' h'' := (St.sub (F' := C :: [] ++ F) x fun b hb => by
    rcases List.mem_cons.mp hb with rfl | hb
    · exact List.mem_append_left _ hC
    · exact List.mem_append_right _ hb).done hk (fun q => nomatch q) hCF
  refine p h'' tk _ as' x2 (Adv.drop a hk (hN C hC).1) (.list (n := n) ((hs.2 D hDC).trans hob) (fun q => ?_) ?_)
  · rcases List.mem_append.mp q with q | q
    · have := f.st.live _ q
      rw [(hN D hD).1] at this; cases this
    · exact x.off _ q (List.mem_append_left _ hD)
  · exact RepL.more (fun b hb => .inl (by rw [List.append_assoc]; exact List.mem_append_right _ hb)) (RepL.keepK hk (fun b hb => List.mem_append_left _ (List.mem_append_left _ (by rw [List.mem_singleton.mp hb]; exact hC))) hl)
end
end Mine
end
end
section
open PySem PySem.Calls PySem.W PyProof.Rows
set_option maxRecDepth 100000
set_option Elab.async false
set_option autoImplicit false
set_option linter.unusedVariables false
noncomputable section
namespace Mine
theorem pl_onConst {ex : Expr} {f : _} (h : onConst ex f = true) : plainT ex = true := by
  apply onConst_e (x := ex) h
  intros
  rfl
theorem pl_onName {ex : Expr} {f : _} (h : onName ex f = true) : plainT ex = true := by
  apply onName_e (x := ex) h
  intros
  rfl
theorem pl_onBin {ex : Expr} {f : _} (h : onBin ex f = true) : plainT ex = true := by
  apply onBin_e (x := ex) h
  intros
  rfl
theorem pl_onTup {ex : Expr} {f : _} (h : onTup ex f = true) : plainT ex = true := by
  apply onTup_e (x := ex) h
  intros
  rfl
theorem pl_onLst {ex : Expr} {f : _} (h : onLst ex f = true) : plainT ex = true := by
  apply onLst_e (x := ex) h
  intros
  rfl
theorem pl_onDct {ex : Expr} {f : _} (h : onDct ex f = true) : plainT ex = true := by
  apply onDct_e (x := ex) h
  intros
  rfl
theorem pl_onSub {ex : Expr} {f : _} (h : onSub ex f = true) : plainT ex = true := by
  apply onSub_e (x := ex) h
  intros
  rfl
theorem pl_onCall {ex : Expr} {f : _} (h : onCall ex f = true) : plainT ex = true := by
  apply onCall_e (x := ex) h
  intros
  rfl
theorem pl_onLcp {ex : Expr} {f : _} (h : onLcp ex f = true) : plainT ex = true := by
  apply onLcp_e (x := ex) h
  intros
  rfl
theorem pl_neg {T : Tb} {ks : Ks} {a : Ex} {ex : Expr} (h : chk T ks (.neg a) ex = true) : plainT ex = true := by
  apply onUn_e (x := ex) h
  intro o y p h00
  refine dand h00 fun h1 _ => ?_
  subst h1
  rfl
section
variable {prog : Program} {w : World} {T : Tb} {B : Heap} {mg mb : Str → Option Value} {fn : Fn} {k : Nat}
theorem snd_bad : Snd prog w T B fn k .bad := by
  intro env ρ S S' v ex F as A Q E s hc he
  cases he
theorem sndT_bad : SndT prog w T B fn k .bad := by
  intro env ρ S S' v b ex F as A Q E s hc he
  cases he
mutual
theorem snd_all (G : Gl T B mg mb) (hdot : (".0" : Str) ∉ T.nt) (FO : FnOk prog w T B mg fn k) : ∀ e : Ex, Snd prog w T B fn k e ∧ SndT prog w T B fn k e
  | .int i => ⟨snd_int i, sndT_of (snd_int i) (fun ks ex hc => pl_onConst hc)⟩
  | .str x => ⟨snd_str x, sndT_of (snd_str x) (fun ks ex hc => pl_onConst hc)⟩
  | .bool b => ⟨snd_bool b, sndT_of (snd_bool b) (fun ks ex hc => pl_onConst hc)⟩
  | .none => ⟨snd_none, sndT_of snd_none (fun ks ex hc => pl_onConst hc)⟩
  | .var i => ⟨snd_var i, sndT_of (snd_var i) (fun ks ex hc => pl_onName hc)⟩
  | .glob i v => ⟨snd_glob G i v, sndT_of (snd_glob G i v) (fun ks ex hc => pl_onName hc)⟩
  | .bin op a b => let q := snd_bin G (snd_all G hdot FO a).1 (snd_all G hdot FO b).1; ⟨q, sndT_of q (fun ks ex hc => pl_onBin hc)⟩
  | .neg a => let q := snd_neg (snd_all G hdot FO a).1; ⟨q, sndT_of q (fun ks ex hc => pl_neg hc)⟩
  | .not a => ⟨snd_not (snd_all G hdot FO a).1, sndT_not (snd_all G hdot FO a).2⟩
  | .cmp op a b => ⟨snd_cmp G (snd_all G hdot FO a).1 (snd_all G hdot FO b).1, sndT_cmp G (snd_all G hdot FO a).1 (snd_all G hdot FO b).1⟩
  | .isN a => ⟨snd_isN (snd_all G hdot FO a).1, sndT_isN (snd_all G hdot FO a).1⟩
  | .isNotN a => ⟨snd_isNotN (snd_all G hdot FO a).1, sndT_isNotN (snd_all G hdot FO a).1⟩
  | .and es => ⟨snd_and (snd_allL G hdot FO es), sndT_and (snd_allL G hdot FO es)⟩
  | .or es => ⟨snd_or (snd_allL G hdot FO es), sndT_or (snd_allL G hdot FO es)⟩
  | .ite t a b => ⟨snd_ite (snd_all G hdot FO t).2 (snd_all G hdot FO a).1 (snd_all G hdot FO b).1, sndT_ite (snd_all G hdot FO t).2 (snd_all G hdot FO a).2 (snd_all G hdot FO b).2⟩
  | .tup es => let q := snd_tup (snd_allL G hdot FO es); ⟨q, sndT_of q (fun ks ex hc => pl_onTup hc)⟩
  | .lst es => let q := snd_lst (snd_allL G hdot FO es); ⟨q, sndT_of q (fun ks ex hc => pl_onLst hc)⟩
  | .lstC es => let q := snd_lstC (snd_allL G hdot FO es); ⟨q, sndT_of q (fun ks ex hc => pl_onLst hc)⟩
  | .dctC => ⟨snd_dctC, sndT_of snd_dctC (fun ks ex hc => pl_onDct hc)⟩
  | .dct1 a b => let q := snd_dct1 G (snd_all G hdot FO a).1 (snd_all G hdot FO b).1; ⟨q, sndT_of q (fun ks ex hc => pl_onDct hc)⟩
  | .idx a i => let q := snd_idx G (snd_all G hdot FO a).1 (snd_all G hdot FO i).1; ⟨q, sndT_of q (fun ks ex hc => pl_onSub hc)⟩
  | .sl a lo hi => let q := snd_sl G (snd_all G hdot FO a).1 (snd_allO G hdot FO lo) (snd_allO G hdot FO hi); ⟨q, sndT_of q (fun ks ex hc => pl_onSub hc)⟩
  | .rev a => let q := snd_rev G (snd_all G hdot FO a).1; ⟨q, sndT_of q (fun ks ex hc => pl_onSub hc)⟩
  | .call f es => let q := snd_call G FO (snd_allL G hdot FO es); ⟨q, sndT_of q (fun ks ex hc => pl_onCall hc)⟩
  | .bi b es => let q := snd_bi G (snd_allL G hdot FO es); ⟨q, sndT_of q (fun ks ex hc => pl_onCall hc)⟩
  | .dictC a => let q := snd_dictC G (snd_all G hdot FO a).1; ⟨q, sndT_of q (fun ks ex hc => pl_onCall hc)⟩
  | .get o e => let q := snd_get G (snd_all G hdot FO o).1 (snd_all G hdot FO e).1; ⟨q, sndT_of q (fun ks ex hc => pl_onCall hc)⟩
  | .get2 o e d => let q := snd_get2 G (snd_all G hdot FO o).1 (snd_all G hdot FO e).1 (snd_all G hdot FO d).1; ⟨q, sndT_of q (fun ks ex hc => pl_onCall hc)⟩
  | .app o e => let q := snd_app G (snd_all G hdot FO o).1 (snd_all G hdot FO e).1; ⟨q, sndT_of q (fun ks ex hc => pl_onCall hc)⟩
  | .sdf o e => let q := snd_sdf G (snd_all G hdot FO o).1 (snd_all G hdot FO e).1; ⟨q, sndT_of q (fun ks ex hc => pl_onCall hc)⟩
  | .comp elt tg it ifs => let q := snd_comp G hdot (tg := tg) (snd_all G hdot FO it).1 (snd_all G hdot FO elt).1 (snd_allL G hdot FO ifs); ⟨q, sndT_of q (fun ks ex hc => pl_onLcp hc)⟩
  | .bad => ⟨snd_bad, sndT_bad⟩
theorem snd_allL (G : Gl T B mg mb) (hdot : (".0" : Str) ∉ T.nt) (FO : FnOk prog w T B mg fn k) : ∀ es : List Ex, SndL prog w T B fn k es
  | [] => fun _ q => nomatch q
  | e :: es => fun x hx => (List.mem_cons.mp hx).elim (fun q => q ▸ snd_all G hdot FO e) (snd_allL G hdot FO es x)
theorem snd_allO (G : Gl T B mg mb) (hdot : (".0" : Str) ∉ T.nt) (FO : FnOk prog w T B mg fn k) : ∀ (o : Option Ex) (e : Ex), o = some e → Snd prog w T B fn k e
  | none => fun _ q => nomatch q
  | some x => fun e q => Option.some.inj q ▸ (snd_all G hdot FO x).1
end
end
end Mine
end
end
section
open PySem PySem.Calls PySem.W PyProof.Rows
set_option maxRecDepth 100000
set_option Elab.async false
set_option autoImplicit false
set_option linter.unusedVariables false
noncomputable section
namespace Mine
noncomputable def AdvS (O as : List Addr) (h : Heap) (as' : List Addr) (h' : Heap) : Prop := ∃ nw, as' = as ++ nw ∧ Step (O ++ as) h h' ∧ ∀ a ∈ nw, h.get? a = none
section
variable {prog : Program} {w : World} {nt : List Str} {B : Heap} {F as as' as'' O : List Addr} {env : Env} {ρ : Ro} {S S' : Sto} {h h' h'' : Heap}
theorem AdvS.of (a : Adv as h as' h') : AdvS O as h as' h' := let ⟨nw, e, k, hn⟩ := a; ⟨nw, e, k.more fun _ q => List.mem_append_right _ q, hn⟩
theorem AdvS.own (k : Step O h h') : AdvS O as h as h' := ⟨[], by simp, k.more (fun _ q => List.mem_append_left _ q), fun _ q => nomatch q⟩
theorem AdvS.refl : AdvS O as h as h := AdvS.of Adv.refl
theorem AdvS.trans (a : AdvS O as h as' h') (b : AdvS O as' h' as'' h'') : AdvS O as h as'' h'' := by
  obtain ⟨nw, rfl, k, hn⟩ := a
  obtain ⟨nw', rfl, k', hn'⟩ := b
  refine ⟨nw ++ nw', by simp, k.trans_new (nw := nw) (k'.more fun c hc => by rw [List.append_assoc]; exact hc) hn, fun x hx => ?_⟩
  rcases List.mem_append.mp hx with hx | hx
  · exact hn x hx
  · cases e : h.get? x with
    | none => rfl
    | some o =>
      have := k.live x (by rw [e]; rfl)
      rw [hn' x hx] at this; cases this
theorem VaRep.advS {val : Value} {v : Va} (r : VaRep prog w (F ++ as) as h val v) (hO : ∀ c ∈ O, c ∈ F) (a : AdvS O as h as' h') : VaRep prog w (F ++ as') as' h' val v := by
  obtain ⟨nw, rfl, k, hn⟩ := a
  refine r.step k (fun b hb => (List.mem_append.mp hb).elim (fun q => List.mem_append_left _ (hO b q)) (fun q => List.mem_append_right _ q)) fun b hb => ?_
  rw [← List.append_assoc] at hb
  exact (List.mem_append.mp hb).elim .inl fun q => .inr (hn b q)
theorem AdvS.drop {C : Addr} (a : AdvS O as h as' h') (hk : Kp [C] h' h'') (hC : h.get? C = none) : AdvS O as h as' h'' := by
  obtain ⟨nw, rfl, k0, hn⟩ := a
  refine ⟨nw, rfl, ⟨fun b o hb e => hk b o (fun q => by rw [List.mem_singleton.mp q, hC] at e; cases e) (k0.keep b o hb e), fun b hb => ?_⟩, hn⟩
  obtain ⟨o, ho⟩ := Option.isSome_iff_exists.mp (k0.live b hb)
  rw [hk b o (fun q => by rw [List.mem_singleton.mp q, hC] at hb; cases hb) ho]; rfl
theorem AdvS.oldNot {b : Addr} (a : AdvS O as h as' h') (hb : b ∉ as) (e : (h.get? b).isSome = true) : b ∉ as' := by
  obtain ⟨nw, rfl, k, hn⟩ := a
  intro q
  rcases List.mem_append.mp q with q | q
  · exact hb q
  · rw [hn b q] at e; cases e
theorem VaRep.sub {F' : List Addr} {val : Value} {v : Va} (r : VaRep prog w (F ++ as) as h val v) (hs : ∀ b ∈ F', b ∈ F) : VaRep prog w (F' ++ as) as h val v := by
  have := r.step (X' := F' ++ as) (nw := []) (W := []) Step.refl (fun _ q => nomatch q) (fun b hb => .inl ((List.mem_append.mp hb).elim (fun q => List.mem_append_left _ (hs b q)) (fun q => List.mem_append_right _ q)))
  rwa [List.append_nil] at this
theorem Fm.sub {F' : List Addr} (f : Fm prog w nt B F as env ρ S h) (hs : ∀ b ∈ F', b ∈ F) (hl : env.locals ∈ F') (hc : ∀ x c, (x, c) ∈ env.cells → c ∈ F') : Fm prog w nt B F' as env ρ S h :=
  ⟨St.sub f.st hs, f.kf, f.glo, f.blt, hl, f.ns, fun x c hx => ⟨hc x c hx, (f.cin x c hx).2⟩, f.apart, f.cel, fun i v x hi hx => let ⟨val, hv, r⟩ := f.vars i v x hi hx; ⟨val, hv.sub hs, r⟩⟩
theorem Fm.done {I : Addr} (f : Fm prog w nt B (I :: F) as env ρ S h) (hk : Kp [I] h h') (hI : I ∉ F) (hl : env.locals ∈ F) (hc : ∀ x c, (x, c) ∈ env.cells → c ∈ F) : Fm prog w nt B F as env ρ S h' := by
  have ne : ∀ c, c ∈ F → c ∉ [I] := fun c hc q => hI (by rw [← List.mem_singleton.mp q]; exact hc)
  refine ⟨St.done (N2 := []) f.st hk (fun q => nomatch q) hI, f.kf, f.glo, f.blt, hl, ?_, fun x c hx => ?_, f.apart, f.cel, fun i v x hi hx => ?_⟩
  · obtain ⟨m, hm⟩ := f.ns; exact ⟨m, Ns.at hm fun o e => hk _ o (ne _ hl) e⟩
  · obtain ⟨_, u, h2⟩ := f.cin x c hx; exact ⟨hc x c hx, u, IsCell.at h2 fun o e => hk _ o (ne _ (hc x c hx)) e⟩
  · obtain ⟨val, hv, h1, h2⟩ := f.vars i v x hi hx
    refine ⟨val, ?_, fun e => ?_, fun c e1 e2 => IsCell.at (h2 c e1 e2) fun o e => hk _ o (ne _ (hc x c (mem_of_lookup e2))) e⟩
    · have := hv.stepK (X' := F ++ as) (nw := []) hk (fun b hb => by rw [List.mem_singleton.mp hb]; exact .head _) (fun b hb => .inl (List.mem_cons_of_mem _ hb))
      rwa [List.append_nil] at this
    · obtain ⟨m, hm, e⟩ := h1 e; exact ⟨m, Ns.at hm fun o e => hk _ o (ne _ hl) e, e⟩
theorem Fm.advWide {N : List Addr} (f : Fm prog w nt B F as env ρ S h) (x : Mine.St prog w B (N ++ F) as' S' h') (a : Adv as h as' h') (hN : ∀ c ∈ N, h.get? c = none) : Fm prog w nt B (N ++ F) as' env ρ S' h' := by
  have keep : ∀ c ∈ F, ∀ o, h.get? c = some o → h'.get? c = some o := fun c hc o e => a.old (fun q => f.st.off c q hc) e
  refine ⟨x, f.kf, f.glo, f.blt, List.mem_append_right _ f.loc, ?_, fun z c hz => ?_, f.apart, f.cel, fun i v z hi hz => ?_⟩
  · obtain ⟨m, hm⟩ := f.ns; exact ⟨m, Ns.at hm (keep _ f.loc)⟩
  · obtain ⟨h1, u, h2⟩ := f.cin z c hz; exact ⟨List.mem_append_right _ h1, u, IsCell.at h2 (keep _ h1)⟩
  · obtain ⟨val, hv, h1, h2⟩ := f.vars i v z hi hz
    refine ⟨val, hv.advWide a hN, fun e => ?_, fun c e1 e2 => IsCell.at (h2 c e1 e2) (keep _ (f.cin z c (mem_of_lookup e2)).1)⟩
    obtain ⟨m, hm, e⟩ := h1 e; exact ⟨m, Ns.at hm (keep _ f.loc), e⟩
theorem Own.cells {x : Str} {c : Addr} (h : env.cells.lookup x = some c) : c ∈ Own env := List.mem_cons_of_mem _ (List.mem_map.mpr ⟨(x, c), mem_of_lookup h, rfl⟩)
end
noncomputable def FlR (prog : Program) (w : World) (X as : List Addr) (h : Heap) (fv : Flow) : Fl → Prop
  | .next => fv = .next
  | .cont => fv = .cont
  | .ret v => ∃ val, fv = .ret val ∧ VaRep prog w X as h val v
noncomputable def Pf (prog : Program) (w : World) (nt : List Str) (B : Heap) (F as : List Addr) (env : Env) (fl : Fl) (ρ' : Ro) (S' : Sto) (s : Shared) (Q : Flow → Shared → Prop) : Prop :=
  ∀ h' tk as' fv, Fm prog w nt B F as' env ρ' S' h' → AdvS (Own env) as s.heap as' h' → FlR prog w (F ++ as') as' h' fv fl → Q fv { s with heap := h', toks := tk }
noncomputable def SndS (prog : Program) (w : World) (T : Tb) (B : Heap) (fn : Fn) (k : Nat) (sm : Sm) : Prop :=
  ∀ (env : Env) (ρ ρ' : Ro) (S S' : Sto) (fl : Fl) (st : Stmt) (F as : List Addr) (A : Around) (Q : Flow → Shared → Prop) (E : Value → Shared → Prop) (s : Shared),
    chkS T env.scope.names sm st = true → ex1 fn ρ S sm = some (fl, ρ', S') → Rm A k → Fm prog w T.nt B F as env ρ S s.heap → Pf prog w T.nt B F as env fl ρ' S' s Q → wpAny (model prog w) A (exec st env) Q E s
noncomputable def SndSs (prog : Program) (w : World) (T : Tb) (B : Heap) (fn : Fn) (k : Nat) (sms : List Sm) : Prop :=
  ∀ (env : Env) (ρ ρ' : Ro) (S S' : Sto) (fl : Fl) (sts : List Stmt) (F as : List Addr) (A : Around) (Q : Flow → Shared → Prop) (E : Value → Shared → Prop) (s : Shared),
    chkSs T env.scope.names sms sts = true → exs fn ρ S sms = some (fl, ρ', S') → Rm A k → Fm prog w T.nt B F as env ρ S s.heap → Pf prog w T.nt B F as env fl ρ' S' s Q → wpAny (model prog w) A (execs sts env) Q E s
section
variable {prog : Program} {w : World} {T : Tb} {B : Heap} {F as as' N : List Addr} {env : Env} {ρ ρ' : Ro} {S S' : Sto} {h h' h'' : Heap} {mg mb : Str → Option Value} {fn : Fn} {k : Nat}
theorem Pf.after {s : Shared} {fl : Fl} {Q : Flow → Shared → Prop} {h₁ : Heap} {tk : Nat} (p : Pf prog w T.nt B F as env fl ρ' S' s Q) (a : AdvS (Own env) as s.heap as' h₁) : Pf prog w T.nt B F as' env fl ρ' S' { s with heap := h₁, toks := tk } Q := fun h' tk' as'' fv x b r => p h' tk' as'' fv x (a.trans b) r
theorem bad_none {S : Sto} {sm : Sm} (h : isBadS sm = true) : ex1 fn ρ S sm = none := by
  cases sm <;> first | exact nope h | skip
  rename_i e
  cases e <;> first | exact nope h | rfl
theorem sms_cons {sm : Sm} {sms : List Sm} (h1 : SndS prog w T B fn k sm) (h2 : SndSs prog w T B fn k sms) : SndSs prog w T B fn k (sm :: sms) := by
  intro env ρ ρ' S S' fl sts F as A Q E s hc he hr f p
  refine bind3_e he fun fl1 ρ1 S1 e1 he => ?_
  have hc : onU sts (fun x y => chkS T env.scope.names sm x && chkSs T env.scope.names sms y) = true := by
    rcases Bool.or_eq_true_iff.mp hc with q | q
    · rw [bad_none (and2 q).1] at e1; cases e1
    · exact q
  apply onU_e (x := sts) hc
  intro x xs hc
  have c2 := (and2 hc).2
  refine wpAny_execs_cons (h1 _ _ _ _ _ _ _ _ _ _ _ _ _ (and2 hc).1 e1 hr f fun h' tk as' fv f' a r => ?_)
  cases fl1 with
  | next =>
    have r : fv = .next := r
    subst r
    exact h2 _ _ _ _ _ _ _ _ _ _ _ _ _ c2 he hr f' (p.after a)
  | cont =>
    have r : fv = .cont := r
    subst r
    cases he
    exact p _ _ _ _ f' a rfl
  | ret v =>
    obtain ⟨val, rfl, r⟩ := r
    cases he
    exact p _ _ _ _ f' a ⟨val, rfl, r⟩
theorem sms_nil : SndSs prog w T B fn k [] := by
  intro env ρ ρ' S S' fl sts F as A Q E s hc he hr f p
  apply onNil_e (x := sts) hc
  intro _
  cases he
  exact wpAny_execs_nil (p _ s.toks _ _ f AdvS.refl rfl)
theorem sm_ret {e : Ex} (he' : Snd prog w T B fn k e) : SndS prog w T B fn k (.ret e) := by
  intro env ρ ρ' S S' fl st F as A Q E s hc he hr f p
  apply onRet_e (x := st) hc
  intro x pos hc
  apply onSo_e (x := x) hc
  intro x hc
  refine map2_e he fun v1 S1 e1 he => ?_
  cases he
  rw [arm_exec_Return]
  refine wpAny_bind (wpAny_standAt ?_)
  rw [arm_evalOpt_some]
  exact wpAny_bind (he' _ _ _ _ _ _ _ _ _ _ _ _ hc e1 hr f fun h1 t1 u1 as1 x1 a1 r1 => wpAny_pure (p _ _ _ _ (f.adv x1 a1) (AdvS.of a1) ⟨u1, rfl, r1⟩))
theorem sm_cont : SndS prog w T B fn k .cont := by
  intro env ρ ρ' S S' fl st F as A Q E s hc he hr f p
  apply onCnt_e (x := st) hc
  intro pos hc
  cases he
  exact wpAny_Continue (p _ s.toks _ _ f AdvS.refl rfl)
theorem sm_exp {e : Ex} (he' : Snd prog w T B fn k e) : SndS prog w T B fn k (.exp e) := by
  intro env ρ ρ' S S' fl st F as A Q E s hc he hr f p
  apply onExS_e (x := st) hc
  intro x pos hc
  have hc : (chk T env.scope.names e x && isCallE x) = true := hc
  simp only [Bool.and_eq_true] at hc
  refine bind2_e he fun v1 S1 e1 he => ?_
  obtain rfl : v1 = .d .none := by
    cases v1 with
    | c n => cases he
    | d x => cases x <;> first | rfl | cases he
  cases he
  have c1 := hc.1
  have c2 : isCallE x = true := hc.2
  clear hc
  revert c1
  apply onCall_e (x := x) c2
  intro g1 g2 g3 g4 _ c1
  rw [arm_exec_Expr]
  refine wpAny_bind (wpAny_standAt ?_)
  have hint : interactive env = false := by unfold interactive; rw [f.kf]; rfl
  rw [hint]
  simp only [Bool.false_eq_true, if_false]
  refine wpAny_bind (wpAny_pure ?_)
  simp only [Bool.false_eq_true, if_false]
  refine wpAny_bind (he' _ _ _ _ _ _ _ _ _ _ _ _ c1 e1 hr f fun h1 t1 u1 as1 x1 a1 r1 => ?_)
  have r1 : Rep prog w (F ++ as1) h1 u1 .none := r1
  cases r1
  exact wpAny_pure (p _ _ _ _ (f.adv x1 a1) (AdvS.of a1) rfl)
theorem sm_ife {t : Ex} {a b : List Sm} (ht : SndT prog w T B fn k t) (ha : SndSs prog w T B fn k a) (hb : SndSs prog w T B fn k b) : SndS prog w T B fn k (.ife t a b) := by
  intro env ρ ρ' S S' fl st F as A Q E s hc he hr f p
  apply onIf_e (x := st) hc
  intro x ys zs pos hc
  have hc : (chk T env.scope.names t x && chkSs T env.scope.names a ys && chkSs T env.scope.names b zs) = true := hc
  simp only [Bool.and_eq_true] at hc
  refine bind2_e he fun v1 S1 e1 he => ?_
  refine bind_e he fun c e2 he => ?_
  refine wpAny_If (ht _ _ _ _ _ _ _ _ _ _ _ _ _ hc.1.1 e1 e2 hr f fun h1 t1 as1 x1 a1 => ?_)
  cases c
  · exact hb _ _ _ _ _ _ _ _ _ _ _ _ _ hc.2 he hr (f.adv x1 a1) (p.after (AdvS.of a1))
  · exact ha _ _ _ _ _ _ _ _ _ _ _ _ _ hc.1.2 he hr (f.adv x1 a1) (p.after (AdvS.of a1))
end
end Mine
end
end
section
open PySem PySem.Calls PySem.W PyProof.Rows
set_option maxRecDepth 100000
set_option Elab.async false
set_option autoImplicit false
set_option linter.unusedVariables false
noncomputable section
namespace Mine
section
variable {prog : Program} {w : World} {T : Tb} {B : Heap} {F as as' N : List Addr} {env : Env} {ρ ρ' : Ro} {S S' : Sto} {h h' h'' : Heap} {mg mb : Str → Option Value} {fn : Fn} {k : Nat}
theorem swaps_sub {v o i : Expr} {p : Pos} {line : Nat} : swapsWith v (some (.Subscript o i p)) line env = pure false := by
  cases v <;> rfl
theorem paired_set {α β : Type} {R : α → β → Prop} : ∀ {l : List α} {m : List β} (n : Nat) {a : α} {b : β}, Paired R l m → R a b → Paired R (l.set n a) (m.set n b)
  | _, _, _, _, _, .nil, _ => .nil
  | _, _, 0, _, _, .cons _ q, r => .cons r q
  | _, _, n + 1, _, _, .cons p q, r => .cons p (paired_set n q r)
theorem sm_setI (G : Gl T B mg mb) {o i e : Ex} (ho : Snd prog w T B fn k o) (hi : Snd prog w T B fn k i) (hv : Snd prog w T B fn k e) : SndS prog w T B fn k (.setI o i e) := by
  intro env ρ ρ' S S' fl st F as A Q E s hc he hr f p
  apply onAsg_e (x := st) hc
  intro ts v pos hc
  apply on1_e (x := ts) hc
  intro t hc
  apply onSub_e (x := t) hc
  intro x y pos' hc
  · have hc : (chk T env.scope.names e v && chk T env.scope.names o x && chk T env.scope.names i y) = true := hc
    simp only [Bool.and_eq_true] at hc
    obtain ⟨⟨c1, c2⟩, c3⟩ := hc
    refine bind2_e he fun v1 S1 e1 he1 => ?_
    refine bind2_e he1 fun v2 S2 e2 he2 => ?_
    refine bind2_e he2 fun v3 S3 e3 he3 => ?_
    refine bind_e he3 fun kd e4 he4 => ?_
    clear he he1 he2 he3
    have he := he4
    clear he4
    obtain rfl := dat_inv e4
    cases v2 with
    | d _ => cases he
    | c n =>
      refine wpAny_Assign_Subscript (hv _ _ _ _ _ _ _ _ _ _ _ _ c1 e1 hr f fun h1 t1 u1 as1 x1 a1 r1 => ho _ _ _ _ _ _ _ _ _ _ _ _ c2 e2 hr (f.adv x1 a1) fun h2 t2 u2 as2 x2 a2 r2 => hi _ _ _ _ _ _ _ _ _ _ _ _ c3 e3 hr ((f.adv x1 a1).adv x2 a2) fun h3 t3 u3 as3 x3 a3 r3 => ?_) swaps_sub
      have f3 := ((f.adv x1 a1).adv x2 a2).adv x3 a3
      have a13 := (a1.trans a2).trans a3
      obtain ⟨a, ha, rfl⟩ := VaRep.adv r2 a3
      have rv := (r1.adv a2).adv a3
      have ham : a ∈ as3 := List.mem_of_getElem? ha
      dsimp only at he
      split at he
      · rename_i xs hx
        cases kd <;> first | cases he | skip
        rename_i j
        refine map_e he fun ys e5 he => ?_
        cases he
        simp only [setLs] at e5
        split at e5
        case isFalse => cases e5
        rename_i hj
        cases e5
        obtain ⟨vs, n0, hob, hp⟩ := x3.cells n a _ ha hx
        obtain ⟨t, rfl⟩ := (RdR.of r3).int_inv
        have hlen := Paired.length hp
        refine op_setList hob hj.1 (by have := hj.2.1; lia) hj.2.2 fun h4 n4 ho4 hs4 => ?_
        have k4 : Step [a] h3 h4 := Step.sameBut hs4 (List.mem_singleton.mpr rfl) (by rw [ho4]; rfl)
        have a4 : Adv as3 h3 as3 h4 := Adv.set (k4.more fun c hc => by rw [List.mem_singleton.mp hc]; exact ham)
        have x4 : Mine.St prog w B F as3 (S3.set n (.list (xs.set j.toNat v1))) h4 := x3.set ha hs4 ⟨_, n4, ho4, paired_set _ (Paired.mono (fun _ _ q => VaRep.adv (F := F) q a4) hp) (rv.adv a4)⟩
        exact p h4 _ _ _ (f3.adv x4 a4) (AdvS.of (a13.trans a4)) rfl
      · rename_i kvs hx
        split at he
        case isFalse => cases he
        rename_i hok
        cases he
        simp only [Bool.and_eq_true, decide_eq_true_eq] at hok
        have hcell : DAt prog w (Rep prog w (F ++ as3) h3) (VaRep prog w (F ++ as3) as3 h3) h3 a kvs := x3.cells n a _ ha hx
        refine op_setItem (X := F ++ as3) (R := VaRep prog w (F ++ as3) as3 h3) (K := Rep prog w (F ++ as3) h3) hok.1 hcell r3 r3 rv hok.2 hr.u64 fun h4 t4 hs4 hd4 => ?_
        have k4 : Step [a] h3 h4 := Step.sameBut hs4 (List.mem_singleton.mpr rfl) (by obtain ⟨o, ho⟩ := hd4.there; rw [ho]; rfl)
        have a4 : Adv as3 h3 as3 h4 := Adv.set (k4.more fun c hc => by rw [List.mem_singleton.mp hc]; exact ham)
        have x4 : Mine.St prog w B F as3 (S3.set n (.dict (dput kvs kd v1))) h4 := x3.set ha hs4 (DAt.imp (fun v d q => VaRep.adv (v := .d d) (F := F) q a4) (fun v d q => VaRep.adv (F := F) q a4) hd4)
        exact p h4 _ _ _ (f3.adv x4 a4) (AdvS.of (a13.trans a4)) rfl
      · cases he
theorem asg_go {t v : Expr} {pos : Pos} {A : Around} {Q : Flow → Shared → Prop} {E : Value → Shared → Prop} {s : Shared} {r : Option (List Str)} (hsw : swapsWithSole [t] v pos.line env = pure false) (hst : swappedStores [t] v env = pure r)
    (h : wpAny (model prog w) A (eval v env) (fun u s₁ => wpAny (model prog w) A (assignStores env u r ((assignEach [t] env).map (·.2))) Q E s₁) E s) : wpAny (model prog w) A (exec (.Assign [t] v pos) env) Q E s := by
  rw [arm_exec_Assign]
  refine wpAny_bind (wpAny_standAt ?_)
  rw [hsw]
  refine wpAny_bind (wpAny_pure ?_)
  rw [if_neg Bool.false_ne_true]
  refine wpAny_bind (wpAny_mono h (fun u s₁ h₁ => ?_) fun _ _ x => x)
  rw [hst]
  exact wpAny_bind (wpAny_pure h₁)
theorem swaps_cases {v t : Expr} {line : Nat} {ks : Ks} {e : Ex} (hc : chk T ks e v = true) (hb : e ≠ .bad) : (∃ b, swapsWithSole [t] v line env = pure b ∧ (b = true → ∃ elt gs sc pos x p, v = .ListComp elt gs sc pos ∧ t = .Name x p ∧ env.kindOf x = some .local)) := by
  show ∃ b, swapsWith v (some t) line env = pure b ∧ _
  cases hq : onLcp v fun _ _ _ _ => true with
  | true =>
    apply onLcp_e (x := v) hq
    intro elt gs sc pos _
    cases hn : onName t fun _ _ => true with
    | true =>
      apply onName_e (x := t) hn
      intro x p _
      refine ⟨_, rfl, fun q => ⟨elt, gs, sc, pos, x, p, rfl, rfl, ?_⟩⟩
      simp only [Bool.and_eq_true, beq_iff_eq] at q
      exact q.1.1.2
    | false => exact ⟨false, by induction t using PySem.Expr.casesOn <;> first | rfl | exact nope hn.symm, fun q => absurd q Bool.false_ne_true⟩
  | false =>
    refine ⟨false, ?_, fun q => absurd q Bool.false_ne_true⟩
    induction v using PySem.Expr.casesOn <;> first
      | rfl
      | exact nope hq.symm
      | (exfalso; cases e <;> first | exact nope hc | exact hb rfl)
theorem filter_full {c : Str → Pos → Bool} : ∀ (ps : List (Str × Pos)), ((ps.map fun p => Expr.Name p.1 p.2).filterMap fun | .Name id pos => if c id pos = true then some id else none | _ => none).length = ps.length →
    ((ps.map fun p => Expr.Name p.1 p.2).filterMap fun | .Name id pos => if c id pos = true then some id else none | _ => none) = ps.map (·.1)
  | [], _ => rfl
  | p :: r, h => by
    have hle : ∀ ps : List (Str × Pos), ((ps.map fun p => Expr.Name p.1 p.2).filterMap fun | .Name id pos => if c id pos = true then some id else none | _ => none).length ≤ ps.length := fun ps => by
      have := List.length_filterMap_le (fun | Expr.Name id pos => if c id pos = true then some id else none | _ => none) (ps.map fun p => Expr.Name p.1 p.2)
      simpa using this
    rw [List.map_cons, List.filterMap_cons] at h ⊢
    by_cases q : c p.1 p.2 = true
    · simp only [q, if_true, List.length_cons] at h ⊢
      rw [filter_full r (by lia)]; rfl
    · simp only [q] at h
      have := hle r
      simp only [List.length_cons] at h
      have h2 : (List.filterMap (fun | Expr.Name id pos => if c id pos = true then some id else none | _ => none) (List.map (fun p => Expr.Name p.1 p.2) r)).length = r.length + 1 := h
      lia
theorem swapped_cases {tg : Tg} {t v : Expr} (ht : tgOk T.nt env.scope.names tg t = true) (hok : asgOk tg v = true) :
    ∃ r, swappedStores [t] v env = pure r ∧ (r = none ∨ ∃ (is : List Nat) (ps : List (Str × Pos)) (n : Nat) (p : Pos), tg = .tup is ∧ t = .Tuple (ps.map fun q => Expr.Name q.1 q.2) n p ∧ r = some (ps.map (·.1))) := by
  revert hok
  apply tg_e (tg := tg) (t := t) ht
  · intro i x p _ _
    exact ⟨none, by induction v using PySem.Expr.casesOn <;> rfl, .inl rfl⟩
  · intro is ps n p hnd hp hok
    cases hq : onTup v fun _ _ _ => true with
    | false => exact ⟨none, by induction v using PySem.Expr.casesOn <;> first | rfl | exact nope hq.symm, .inl rfl⟩
    | true =>
    revert hok
    apply onTup_e (x := v) hq
    intro vs n' p' _ hok
    have hca : vs.all (constantsAlone 8) = false := by
      have : (!(vs.all (constantsAlone 8))) = true := hok
      simpa using this
    unfold swappedStores
    dsimp only
    split
    · exact ⟨none, rfl, .inl rfl⟩
    split
    · exact ⟨none, rfl, .inl rfl⟩
    split
    · exact ⟨none, rfl, .inl rfl⟩
    rename_i h1 h2 h3
    split
    · exact ⟨none, rfl, .inl rfl⟩
    split
    · rename_i h5; rw [hca] at h5; cases h5
    · refine ⟨_, rfl, .inr ⟨is, ps, n, p, rfl, rfl, ?_⟩⟩
      congr 1
      refine filter_full ps ?_
      simp only [bne_iff_ne, ne_eq, Bool.or_eq_true, not_or, Decidable.not_not, List.length_map] at h3
      exact h3.1
theorem evalThenUse_comp (e t i : Expr) (cs : List Expr) (sc : Scope) (p : Pos) (env : Env) (use : Value → Sem Unit) : evalThenUse (.ListComp e [⟨t, i, cs, 0⟩] sc p) env use = (comprehension (.ListComp e [⟨t, i, cs, 0⟩] sc p) sc env i.pos (newList []) false (eval i env) (some use) >>= fun _ => pure ()) := by
  rw [arm_evalThenUse_ListComp, arm_firstIter_cons]
  rfl
theorem setAll_app : ∀ (is : List Nat) (xs : List PyData) (js : List Nat) (ys : List PyData) (ρ ρ' : Ro), setAll ρ is xs = some ρ' → setAll ρ (is ++ js) (xs ++ ys) = setAll ρ' js ys
  | [], [], _, _, _, _, h => by cases h; rfl
  | [], _ :: _, _, _, _, _, h => by cases h
  | _ :: _, [], _, _, _, _, h => by cases h
  | i :: is, x :: xs, js, ys, ρ, ρ', h => setAll_app is xs js ys (setV ρ i (.d x)) ρ' h
theorem setAll_rev {is : List Nat} : ∀ {xs : List PyData} {ρ ρ1 : Ro}, is.Nodup → setAll ρ is xs = some ρ1 → ∃ ρ2, setAll ρ is.reverse xs.reverse = some ρ2 ∧ ∀ j, ρ1.lookup j = ρ2.lookup j := by
  induction is with
  | nil =>
    intro xs ρ ρ1 _ h
    cases xs with
    | nil => cases h; exact ⟨ρ, rfl, fun _ => rfl⟩
    | cons _ _ => cases h
  | cons i is ih =>
    intro xs ρ ρ1 hn h
    cases xs with
    | nil => cases h
    | cons x xs => ?_
    have hn := List.nodup_cons.mp hn
    have h : setAll (setV ρ i (.d x)) is xs = some ρ1 := h
    obtain ⟨ra, h1, h2⟩ := ih hn.2 h
    obtain ⟨rb, h3, h4⟩ := setAll_cut is.reverse xs.reverse (setV ρ i (.d x)) ρ ra h1
    refine ⟨setV rb i (.d x), ?_, fun j => ?_⟩
    · rw [List.reverse_cons, List.reverse_cons, setAll_app _ _ _ _ _ _ h3]; rfl
    · rw [lookup_setV]
      by_cases e : j = i
      · subst e
        rw [if_pos rfl]
        have : ρ1.lookup j = (setV ρ j (.d x)).lookup j := bind_keep (tg := .tup is) (v := .d (.tuple xs)) h hn.1
        rw [this, lookup_setV, if_pos rfl]
      · rw [if_neg e, h2 j]
        exact h4 j (.inr (by rw [lookup_setV, if_neg e]))
theorem asg_use {A : Around} {Q : Flow → Shared → Prop} {E : Value → Shared → Prop} {s : Shared} {v1 : Va} (G : Gl T B mg mb) (hdot : (".0" : Str) ∉ T.nt) (hr : Rm A k) {elx itx : Ex} {ifs : List Ex} {tgx tg : Tg} {elt : Expr} {gs : List Comprehension} {sc : Scope} {pos pos' px : Pos} {x : Str}
    (hI : Snd prog w T B fn k itx) (hE : Snd prog w T B fn k elx) (hL : SndL prog w T B fn k ifs)
    (c1 : tgOk T.nt env.scope.names tg (.Name x px) = true) (c2 : chk T env.scope.names (.comp elx tgx itx ifs) (.ListComp elt gs sc pos') = true) (hb1 : swapsWith (.ListComp elt gs sc pos') (some (.Name x px)) pos.line env = pure true)
    (e1 : ev fn ρ S (.comp elx tgx itx ifs) = some (v1, S')) (e2 : bindTg tg v1 ρ = some ρ') (f : Fm prog w T.nt B F as env ρ S s.heap) (p : Pf prog w T.nt B F as env .next ρ' S' s Q) :
    wpAny (model prog w) A (exec (.Assign [.Name x px] (.ListComp elt gs sc pos') pos) env) Q E s := by
  have hown : ∀ a ∈ Own env, a ∈ F := f.own
  obtain ⟨e', t', i', cs, sc', pos'', heq, h1, h2, h3, h4, h5, h6⟩ := comp_inv c2
  cases heq
  rw [exec_Assign_Name_used _ _ _ _ hb1]
  refine wpAny_bind (wpAny_standAt ?_)
  rw [evalThenUse_comp]
  refine wpAny_bind (wpAny_bind ?_)
  refine wpAny_mono (Q := fun _ s' => Q Flow.next s') ?_ (fun _ s' hq => wpAny_pure (wpAny_pure hq)) fun _ _ x => x
  refine comp_core (use := some (assign (.Name x px) env)) (Q := fun _ s' => Q Flow.next s') G hdot hr hI hE hL h1 h2 h3 h4 h5 h6 e1 f ?_
  intro C D N2 h' tk as' m ds hv xS a hN hC hD hDC hns hacc
  subst hv
  obtain ⟨vs, n, hob, hl⟩ := hacc
  have hCF : C ∉ F := fun q => by have := f.st.live _ q; rw [(hN C hC).1] at this; cases this
  have hDF : D ∉ F := fun q => by have := f.st.live _ q; rw [(hN D hD).1] at this; cases this
  have hsub : ∀ b ∈ C :: F, b ∈ N2 ++ F := fun b hb => (List.mem_cons.mp hb).elim (fun q => List.mem_append_left _ (q ▸ hC)) (fun q => List.mem_append_right _ q)
  have xC : Mine.St prog w B ([C] ++ F) as' S' h' := St.sub xS hsub
  have fC : Fm prog w T.nt B ([C] ++ F) as' env ρ S' h' := f.advWide xC a fun c hc => by rw [List.mem_singleton.mp hc]; exact (hN C hC).1
  have rv : VaRep prog w (([C] ++ F) ++ as') as' h' (.ref D) (.d (.list ds)) := by
    refine Rep.list hob (fun q => ?_) (RepL.more (fun b hb => .inl ?_) hl)
    · rcases List.mem_append.mp q with q | q
      · rcases List.mem_cons.mp q with q | q
        · exact hDC q
        · exact hDF q
      · exact xS.off _ q (List.mem_append_left _ hD)
    · rcases List.mem_append.mp hb with hb | hb
      · exact List.mem_append_left _ (hsub b hb)
      · exact List.mem_append_right _ hb
  show wpAny (model prog w) A (assign (.Name x px) env (.ref D)) _ _ _
  refine assign_tg (W := Own env) (fun c hc => List.mem_append_right _ (hown c hc)) (.head _) (fun y _ c _ q => Own.cells q) G.nd hr.hh c1 e2 fC rv fun h2 t2 f2 k2 => ⟨m, Ns.at hns fun o e => k2.keep _ o (fun q => hCF (hown _ q)) e, fun h3 hs3 => ?_⟩
  have hk : Kp [C] h2 h3 := fun b o hb e => (hs3.2 b (fun q => hb (by rw [q]; exact .head _))).trans e
  have f3 : Fm prog w T.nt B F as' env ρ' S' h3 := f2.done hk hCF f.loc (fun x c hx => (f.cin x c hx).1)
  exact p h3 _ _ _ f3 (((AdvS.of a).trans (AdvS.own k2)).drop hk (hN C hC).1) rfl
theorem sm_asg (G : Gl T B mg mb) (hdot : (".0" : Str) ∉ T.nt) (FO : FnOk prog w T B mg fn k) {tg : Tg} {e : Ex} : SndS prog w T B fn k (.asg tg e) := by
  intro env ρ ρ' S S' fl st F as A Q E s hc he hr f p
  apply onAsg_e (x := st) hc
  intro ts v pos hc
  apply on1_e (x := ts) hc
  intro t hc
  have hc : (tgOk T.nt env.scope.names tg t && chk T env.scope.names e v && asgOk tg v) = true := hc
  simp only [Bool.and_eq_true] at hc
  obtain ⟨⟨c1, c2⟩, c3⟩ := hc
  refine bind2_e he fun v1 S1 e1 he => ?_
  refine map_e he fun ρ1 e2 he => ?_
  cases he
  have hbad : e ≠ .bad := fun q => by rw [q] at e1; cases e1
  obtain ⟨b, hb1, hb2⟩ := swaps_cases (t := t) (line := pos.line) c2 hbad
  have hown : ∀ a ∈ Own env, a ∈ F := f.own
  cases b with
  | true =>
    obtain ⟨elt, gs, sc, pos', x, px, rfl, rfl, hkl⟩ := hb2 rfl
    cases e <;> first | exact absurd c2 Bool.false_ne_true | exact absurd rfl hbad | skip
    rename_i elx tgx itx ifs q1 q2
    exact asg_use G hdot hr (snd_all G hdot FO itx).1 (snd_all G hdot FO elx).1 (snd_allL G hdot FO ifs) c1 c2 hb1 e1 e2 f p
  | false =>
    obtain ⟨r, hr1, hr2⟩ := swapped_cases c1 c3
    refine asg_go hb1 hr1 ((snd_all G hdot FO e).1 _ _ _ _ _ _ _ _ _ _ _ _ c2 e1 hr f fun h1 t1 u1 as1 x1 a1 r1 => ?_)
    have f1 := f.adv x1 a1
    rcases hr2 with rfl | ⟨is, ps, n, pp, rfl, rfl, rfl⟩
    · have e0 : (assignEach [t] env).map (·.2) = [fun v => assign t env v] := by
        cases tg with
        | nm i => induction t using PySem.Expr.casesOn <;> first | exact nope c1 | rfl
        | tup is => induction t using PySem.Expr.casesOn <;> first | exact nope c1 | rfl
      rw [e0]
      refine wpAny_bind (assign_tg (W := Own env) hown (.head _) (fun y _ c _ q => Own.cells q) G.nd hr.hh c1 e2 f1 r1 fun h2 t2 f2 k2 => wpAny_pure ?_)
      exact p h2 _ _ _ f2 ((AdvS.of a1).trans (AdvS.own k2)) rfl
    · obtain ⟨xs, rfl⟩ : ∃ xs, v1 = .d (.tuple xs) := by
        cases v1 with
        | c n => cases e2
        | d y => cases y <;> first | exact ⟨_, rfl⟩ | cases e2
      obtain ⟨a, vs, n, rfl, ho, ha, hl⟩ := (RdR.of r1).tup_inv
      have e2 : setAll ρ is xs = some ρ' := e2
      have hl2 := setAll_len _ _ _ _ e2
      have hlen := RepL.length hl
      have c1 := Bool.and_eq_true_iff.mp c1
      have c3 := Bool.and_eq_true_iff.mp c1.1
      obtain ⟨ps', hps, hp'⟩ := tg_names (eq_of_beq c3.2) c1.2
      have hpe : ps.map (·.1) = ps'.map (·.1) := by
        have : ∀ {a b : List (Str × Pos)}, a.map (fun q => Expr.Name q.1 q.2) = b.map (fun q => Expr.Name q.1 q.2) → a.map (·.1) = b.map (·.1) := by
          intro a
          induction a with
          | nil => intro b h; cases b with
            | nil => rfl
            | cons _ _ => cases h
          | cons x a ih => intro b h; cases b with
            | nil => cases h
            | cons y b =>
              rw [List.map_cons, List.map_cons] at h
              injection h with h1 h2
              injection h1 with h3 h4
              rw [List.map_cons, List.map_cons, h3, ih h2]
        exact this hps
      rw [← hpe] at hp'
      have hl3 := Paired.length hp'
      have hrev : ∀ {l : List Nat} {m : List Str}, Paired (fun i x => nmOk T.nt env.scope.names i x = true) l m → Paired (fun i x => nmOk T.nt env.scope.names i x = true) l.reverse m.reverse := by
        intro l m q
        induction q with
        | nil => exact .nil
        | cons q _ ih => rw [List.reverse_cons, List.reverse_cons]; exact Paired.append ih (.cons q .nil)
      have hset : ∃ ρ2, setAll ρ is.reverse xs.reverse = some ρ2 ∧ ∀ j, ρ'.lookup j = ρ2.lookup j := setAll_rev (of_decide_eq_true c3.1) e2
      obtain ⟨ρ2, e3, e4⟩ := hset
      simp only [assignStores]
      refine wpAny_bind (wpAny_rule ?_)
      have hsz : (ps.map (·.1)).length = vs.toArray.size := by rw [List.size_toArray]; lia
      rw [hsz]
      refine wpAny_bind (unpackItems_tuple (items := vs.toArray) hr.hh ⟨_, ho, rfl, _, rfl⟩ fun h2 hk2 => ?_)
      have k2 : Step [] h1 h2 := Step.of_keep fun b o e => hk2 b o (Nat.ne_of_lt (Heap.lt_size e)) e
      have f2 := f1.same k2
      refine wpAny_bind (stores (W := Own env) (go := fun n => bindName env n) hown (.head _) (fun x c _ q => Own.cells q) G.nd (fun x val Q s h => wpAny_bindName h) is.reverse _ _ xs.reverse ρ ρ2 _ _ (hrev hp') e3 f2 (RepL.rev (by simpa using RepL.keep k2 (fun _ q => nomatch q) hl)) fun h3 t3 f3 k3 => wpAny_pure ?_)
      have f3' : Fm prog w T.nt B F as1 env ρ' S1 h3 := f3.ro fun j v q => by rw [← e4]; exact q
      exact p h3 _ _ _ f3' ((AdvS.of (a1.trans (Adv.same k2))).trans (AdvS.own k3)) rfl
end
end Mine
end
end
section
open PySem PySem.Calls PySem.W PyProof.Rows
set_option maxRecDepth 100000
set_option Elab.async false
set_option autoImplicit false
set_option linter.unusedVariables false
noncomputable section
namespace Mine
section
variable {prog : Program} {w : World} {T : Tb} {B : Heap} {F as as' N : List Addr} {env : Env} {ρ ρ' : Ro} {S S' : Sto} {h h' h'' : Heap} {mg mb : Str → Option Value} {fn : Fn} {k : Nat}
theorem fp_keepS {as₁ : List Addr} {h₁ : Heap} {I : Addr} {fp : List Addr} {P : Nat → Value → Prop} {St : Nat → Heap → Prop} {xs : List PyData} {O : List Addr} (it : Itr prog w (F ++ as₁) h₁ xs I fp P St) (hO : ∀ c ∈ O, c ∈ F) (a : AdvS O as₁ h₁ as h) {W : List Addr} (hW : ∀ c ∈ W, c ∈ O ++ as) (hI : I ∉ W) (k : Step W h h') : ∀ b ∈ fp, ∀ o, h.get? b = some o → h'.get? b = some o := fun b hb o e => by
  rcases it.fpo b hb with rfl | ⟨h1, h2⟩
  · exact k.keep _ o hI e
  · refine k.keep b o (fun q => ?_) e
    rcases List.mem_append.mp (hW b q) with q | q
    · exact h1 (List.mem_append_left _ (hO b q))
    · exact a.oldNot (fun q => h1 (List.mem_append_right _ q)) h2 q
theorem loop_go {A : Around} {R : Result → Shared → Prop} (G : Gl T B mg mb) (hr : Rm A k) {tg : Tg} {t : Expr} {body : List Sm} {ys : List Stmt} (hB : SndSs prog w T B fn k body) (c1 : tgOk T.nt env.scope.names tg t = true) (c2 : chkSs T env.scope.names body ys = true)
    {as₁ : List Addr} {h₁ : Heap} {I : Addr} {fp : List Addr} {P : Nat → Value → Prop} {St : Nat → Heap → Prop} {xs : List PyData} (it : Itr prog w (F ++ as₁) h₁ xs I fp P St) (hIF : I ∉ F) (hI1 : h₁.get? I = none) {fl : Fl} {s : Shared}
    (hl : env.locals ∈ F) (hcF : ∀ x c, (x, c) ∈ env.cells → c ∈ F) {m : Nat} {j : Nat} (hj : xs.length = j + m) (hc : floop (fun x ρ' S' => (bindTg tg (.d x) ρ').bind fun ρ'' => exs fn ρ'' S' body) (xs.drop j) ρ S = some (fl, ρ', S'))
    (f : Fm prog w T.nt B (I :: F) as env ρ S s.heap) (a : AdvS (Own env) as₁ h₁ as s.heap) (st : St j s.heap)
    (hR : ∀ h' tk as' fv, Fm prog w T.nt B F as' env ρ' S' h' → AdvS (Own env) as₁ h₁ as' h' → FlR prog w (F ++ as') as' h' fv fl → R (.ok fv) { s with heap := h', toks := tk }) :
    codeAny (model prog w) A (.forLoop t (.ref I) ys [] env) R s := by
  have hO : ∀ c ∈ Own env, c ∈ F := fun c hc => by
    rcases List.mem_cons.mp hc with rfl | hc
    · exact hl
    · obtain ⟨⟨y, d⟩, hp, rfl⟩ := List.mem_map.mp hc
      exact hcF y d hp
  have hIO : I ∉ Own env := fun q => hIF (hO I q)
  refine codeAny_forLoop_any (fun n s' => ∃ (j : Nat) (ρ₀ : Ro) (S₀ : Sto) (as₀ : List Addr) (h₀ : Heap) (tk : Nat), s' = { s with heap := h₀, toks := tk } ∧ xs.length = j + n ∧
      floop (fun x ρ' S' => (bindTg tg (.d x) ρ').bind fun ρ'' => exs fn ρ'' S' body) (xs.drop j) ρ₀ S₀ = some (fl, ρ', S') ∧ Fm prog w T.nt B (I :: F) as₀ env ρ₀ S₀ h₀ ∧ AdvS (Own env) as₁ h₁ as₀ h₀ ∧ St j h₀) (fun n s' hinv => ?_) m ⟨j, ρ, S, as, s.heap, s.toks, rfl, hj, hc, f, a, st⟩
  obtain ⟨j, ρ₀, S₀, as₀, h₀, tk, rfl, hj, hc, f, a, st⟩ := hinv
  cases n with
  | zero =>
    have hjn : j = xs.length := by lia
    rw [List.drop_eq_nil_of_le (by lia)] at hc
    cases hc
    refine (it.walk A hr.hh).done _ _ _ (by rw [← hjn]; exact st) fun h' tk' hk => ?_
    exact wpAny_execs_nil (hR h' tk' as₀ .next (f.done hk hIF hl hcF) (a.drop hk hI1) rfl)
  | succ n =>
    have hlt : j < xs.length := by lia
    rw [List.drop_eq_getElem_cons hlt] at hc
    generalize hxd : xs[j] = d at hc
    have hxj : xs[j]? = some d := by rw [List.getElem?_eq_getElem hlt, hxd]
    refine bind3_e hc fun fl1 ρ1 S1 hb hc => ?_
    refine bind_e hb fun ρ2 e1 hb => ?_
    refine (it.walk A hr.hh).item j _ _ _ hlt st fun v h5 t5 hP st5 hk => ?_
    have k5 : Step [I] h₀ h5 := ⟨fun b o hb e => hk b o hb e, fun b hb => by
      by_cases q : b = I
      · subst q; exact it.live _ _ st5
      · obtain ⟨o, ho⟩ := Option.isSome_iff_exists.mp hb
        rw [hk b o (by simpa using q) ho]; rfl⟩
    have f5 : Fm prog w T.nt B (I :: F) as₀ env ρ₀ S₀ h5 := f.side k5 (fun c hc => by rw [List.mem_singleton.mp hc]; exact .head _) (fun q => hIF (by rw [← List.mem_singleton.mp q]; exact hl)) (fun y c hy q => hIF (by rw [← List.mem_singleton.mp q]; exact hcF y c hy))
    have a5 : AdvS (Own env) as₁ h₁ as₀ h5 := a.drop k5.keep hI1
    have rv : VaRep prog w ((I :: F) ++ as₀) as₀ h5 v (.d d) := by
      obtain ⟨nw, rfl, k0, hn⟩ := a5
      have r0 : VaRep prog w (F ++ as₁) as₁ h₁ v (.d d) := it.item j v d hP hxj
      refine r0.step k0 (fun b hb => (List.mem_append.mp hb).elim (fun q => List.mem_append_left _ (hO b q)) (fun q => List.mem_append_right _ q)) fun b hb => ?_
      rcases List.mem_cons.mp hb with rfl | hb
      · exact .inr hI1
      · have hb : b ∈ F ++ (as₁ ++ nw) := hb
        rw [← List.append_assoc] at hb
        exact (List.mem_append.mp hb).elim .inl fun q => .inr (hn b q)
    refine it.go (j + 1) t v _ A _ _ st5 ?_
    refine assign_tg (W := Own env) (fun c hc => List.mem_cons_of_mem _ (hO c hc)) (.head _) (fun y _ c _ q => Own.cells q) G.nd hr.hh c1 e1 f5 rv fun h6 t6 f6 k6 => ?_
    have a6 := a5.trans (AdvS.own k6)
    have st6 : St (j + 1) h6 := (it.walk A hr.hh).frame _ _ _ st5 (fp_keepS it hO a5 (fun c hc => List.mem_append_left _ hc) hIO k6)
    refine hB _ _ _ _ _ _ _ _ _ _ _ _ _ c2 hb hr f6 fun h7 t7 as7 fv f7 a7 r7 => ?_
    have st7 : St (j + 1) h7 := by
      obtain ⟨nw, _, k7, _⟩ := a7
      refine (it.walk A hr.hh).frame _ _ _ st6 (fp_keepS it hO a6 (fun c hc => hc) (fun q => ?_) k7)
      rcases List.mem_append.mp q with q | q
      · exact hIO q
      · exact f6.st.off _ q (.head _)
    cases fl1 with
    | next =>
      have r7 : fv = .next := r7
      subst r7
      exact ⟨n, Nat.lt_succ_self _, j + 1, ρ1, S1, as7, h7, t7, rfl, by lia, hc, f7, a6.trans a7, st7⟩
    | cont =>
      have r7 : fv = .cont := r7
      subst r7
      exact ⟨n, Nat.lt_succ_self _, j + 1, ρ1, S1, as7, h7, t7, rfl, by lia, hc, f7, a6.trans a7, st7⟩
    | ret v1 =>
      obtain ⟨val, rfl, r7⟩ := r7
      cases hc
      exact hR h7 t7 as7 _ (f7.sub (fun b hb => List.mem_cons_of_mem _ hb) hl hcF) (a6.trans a7) ⟨val, rfl, VaRep.sub (F := I :: F) r7 fun b hb => List.mem_cons_of_mem _ hb⟩
theorem loop_from {A : Around} {Q : Flow → Shared → Prop} {E : Value → Shared → Prop} {s : Shared} (G : Gl T B mg mb) (hr : Rm A k) {tg : Tg} {t : Expr} {body : List Sm} {ys : List Stmt} (hB : SndSs prog w T B fn k body) (c1 : tgOk T.nt env.scope.names tg t = true) (c2 : chkSs T env.scope.names body ys = true)
    {h₁ : Heap} {tk : Nat} {as₁ : List Addr} {oI : Obj} {fp : List Addr} {P : Nat → Value → Prop} {St : Nat → Heap → Prop} {xs : List PyData} (it : Itr prog w (F ++ as₁) h₁ xs h₁.objs.size fp P St) (st : St 0 (h₁.push oI)) {fl : Fl}
    (hc : floop (fun x ρ' S' => (bindTg tg (.d x) ρ').bind fun ρ'' => exs fn ρ'' S' body) xs ρ S = some (fl, ρ', S')) (f : Fm prog w T.nt B F as₁ env ρ S h₁) (p : Pf prog w T.nt B F as₁ env fl ρ' S' { s with heap := h₁, toks := tk } Q) :
    codeAny (model prog w) A (.forLoop t (.ref h₁.objs.size) ys [] env) (fun r s' => match r with | .ok f => Q f s' | .error e => cameBackBy (model prog w) A env E e s') { s with heap := h₁.push oI, toks := tk } := by
  have hI1 : h₁.get? h₁.objs.size = none := Heap.get?_none_of_le (Nat.le_refl _)
  have hIF : h₁.objs.size ∉ F := fun q => by have := f.st.live _ q; rw [hI1] at this; cases this
  have kp : Step [] h₁ (h₁.push oI) := Step.push _
  have hN : New [h₁.objs.size] h₁ (h₁.push oI) := fun c hc => by rw [List.mem_singleton.mp hc]; exact ⟨hI1, it.live 0 _ st⟩
  exact loop_go (j := 0) (m := xs.length) G hr hB c1 c2 it hIF hI1 f.loc (fun x c hx => (f.cin x c hx).1) (by lia) (by simpa using hc) (f.wide kp hN) (AdvS.of (Adv.same kp)) st fun h' tk' as' fv f' a' r' => p h' tk' as' fv f' a' r'
theorem sm_loop_ex (G : Gl T B mg mb) {tg : Tg} {e : Ex} {body : List Sm} (he' : Snd prog w T B fn k e) (hB : SndSs prog w T B fn k body) : SndS prog w T B fn k (.loop tg (.ex e) body) := by
  intro env ρ ρ' S S' fl st F as A Q E s hc he hr f p
  apply onFor_e (x := st) hc
  intro t x ys zs pos hc
  apply onNil_e (x := zs) hc
  intro hc
  have hc : (notSet x && tgOk T.nt env.scope.names tg t && chk T env.scope.names e x && chkSs T env.scope.names body ys) = true := hc
  simp only [Bool.and_eq_true] at hc
  obtain ⟨⟨⟨c0, c1⟩, c2⟩, c3⟩ := hc
  refine bind2_e he fun xs S1 e1 he => ?_
  refine bind2_e e1 fun v1 S2 e2 e1 => ?_
  cases v1 with
  | c _ => cases e1
  | d y =>
    refine bind_e e1 fun ys' e3 e1 => ?_
    split at e1
    case isFalse => cases e1
    cases e1
    refine wpAny_For (he' _ _ _ _ _ _ _ _ _ _ _ _ c2 e2 hr f fun h1 t1 u1 as1 x1 a1 r1 => ?_) (fun u => by cases x <;> first | rfl | exact absurd c0 Bool.false_ne_true)
    obtain ⟨oI, fp, P, St, hiter, itr, st0⟩ := iter_items (s := ⟨h1, s.gens, s.drawn, t1, s.os⟩) e3 r1
    refine hiter A _ _ ?_
    exact loop_from G hr hB c1 c3 itr st0 he (f.adv x1 a1) (p.after (AdvS.of a1))
end
end Mine
end
end
section
open PySem PySem.Calls PySem.W PyProof.Rows
set_option maxRecDepth 100000
set_option Elab.async false
set_option autoImplicit false
set_option linter.unusedVariables false
noncomputable section
namespace Mine
theorem small_any {a b c : Int} (ha : -100000 ≤ a ∧ a ≤ 100000) (hb : -100000 ≤ b ∧ b ≤ 100000) (hc : c = 1 ∨ c = -1) : Builtin.Range.small a b c = true := by
  unfold Builtin.Range.small Builtin.Range.rangeFitsLong Builtin.Range.rangeSize
  rcases hc with rfl | rfl
  · simp only [Bool.and_eq_true, Bool.or_eq_true, decide_eq_true_eq, beq_iff_eq, Int.ediv_one]
    have h1 : (1 : Int) > 0 := by lia
    simp only [h1, if_true, decide_eq_true_eq, Bool.and_eq_true]
    refine ⟨⟨⟨⟨?_, ?_⟩, ?_⟩, ?_⟩, .inr ?_⟩ <;> (try constructor) <;> (try split) <;> lia
  · simp only [Bool.and_eq_true, Bool.or_eq_true, decide_eq_true_eq, beq_iff_eq]
    have h1 : ¬ ((-1 : Int) > 0) := by lia
    have h2 : (-(-1) : Int) = 1 := by lia
    simp only [h1, if_false, decide_eq_true_eq, Bool.and_eq_true, h2, Int.ediv_one]
    refine ⟨⟨⟨⟨?_, ?_⟩, ?_⟩, ?_⟩, .inr ?_⟩ <;> (try constructor) <;> (try split) <;> lia
theorem size_up (n : Int) : Builtin.Range.rangeSize 0 n 1 = (n.toNat : Int) := by
  unfold Builtin.Range.rangeSize
  have h1 : (1 : Int) > 0 := by lia
  simp only [h1, if_true, Int.ediv_one]
  split <;> lia
theorem size_down (n : Int) : Builtin.Range.rangeSize n (-1) (-1) = ((n + 1).toNat : Int) := by
  unfold Builtin.Range.rangeSize
  have h1 : ¬ ((-1 : Int) > 0) := by lia
  have h2 : (-(-1) : Int) = 1 := by lia
  simp only [h1, if_false, h2, Int.ediv_one]
  split <;> lia
section
variable {prog : Program} {w : World} {T : Tb} {B : Heap} {F as as' N : List Addr} {env : Env} {ρ ρ' : Ro} {S S' : Sto} {h h' h'' : Heap} {mg mb : Str → Option Value} {fn : Fn} {k : Nat}
theorem rng_debug : (Str.ofString "range" == ("__debug__" : Str)) = false := by decide
theorem sm_loop_range (G : Gl T B mg mb) {tg : Tg} {e : Ex} {body : List Sm} (he' : Snd prog w T B fn k e) (hB : SndSs prog w T B fn k body) : SndS prog w T B fn k (.loop tg (.range e) body) := by
  intro env ρ ρ' S S' fl st F as A Q E s hc he hr f p
  apply onFor_e (x := st) hc
  intro t it ys zs pos hc
  apply onNil_e (x := zs) hc
  intro hc
  apply onCall_e (x := it) hc
  intro fu args kws pos' hc
  apply onName_e (x := fu) hc
  intro r rpos hc
  apply onNil_e (x := kws) hc
  intro hc
  apply on1_e (x := args) hc
  intro x hc
  have hc : (notStar x && tgOk T.nt env.scope.names tg t && r == ("range" : Str) && env.scope.names.lookup r == some .globalImplicit && chk T env.scope.names e x && chkSs T env.scope.names body ys) = true := hc
  simp only [Bool.and_eq_true, beq_iff_eq] at hc
  obtain ⟨⟨⟨⟨⟨c0, c1⟩, rfl⟩, ck⟩, c2⟩, c3⟩ := hc
  refine bind2_e he fun xs S1 e1 he => ?_
  refine bind2_e e1 fun v1 S2 e2 e1 => ?_
  obtain ⟨n, rfl⟩ : ∃ n, v1 = .d (.int n) := by
    cases v1 with
    | c n => cases e1
    | d x => cases x <;> first | exact ⟨_, rfl⟩ | cases e1
  dsimp only at e1
  split at e1
  case isFalse => cases e1
  rename_i hn
  cases e1
  have hns := star_one (env := env) c0 []
  refine wpAny_For (Call_ (glob_name G f ck rng_debug (.inr G.rng) ?_)) (fun u => rfl)
  rw [hns]
  refine PySem.callWith_type rfl (Calls.evalArgs_plain (Calls.spliced_cons (he' _ _ _ _ _ _ _ _ _ _ _ _ c2 e2 hr f fun h1 t1 u1 as1 x1 a1 r1 => Calls.spliced_nil ?_)))
  obtain ⟨tk, rfl⟩ := (RdR.of r1).int_inv
  refine call_range_1 ?_
  dsimp only
  generalize hh2 : h1.push { cls := .type "range", data := .fields #[.int 0 t1, .int n tk, .int 1 (t1 + 1)] } = h2
  have k2 : Step [] h1 h2 := by rw [← hh2]; exact Step.push _
  have hrg : IsRange h2 h1.objs.size 0 n 1 t1 tk (t1 + 1) := by rw [← hh2]; exact Heap.get?_push_size _ rfl
  obtain ⟨oI, fp, P, St, hiter, itr, st0⟩ := iter_range (prog := prog) (w := w) (X := F ++ as1) (s := ⟨h2, s.gens, s.drawn, t1 + 1 + 1, s.os⟩) (xs := upTo n) hrg (small_any (by lia) (by lia) (.inl rfl)) (size_up n) (by simp [upTo]) (fun i x hx => by
    simp only [upTo, List.getElem?_map, Option.map_eq_some_iff] at hx
    obtain ⟨j, hj, rfl⟩ := hx
    rw [List.getElem?_eq_some_iff] at hj
    obtain ⟨_, hj⟩ := hj
    simp at hj
    subst hj
    simp)
  refine hiter A _ _ ?_
  have f1 := f.adv x1 a1
  exact loop_from G hr hB c1 c3 itr st0 he (f1.same k2) (p.after ((AdvS.of a1).trans (AdvS.of (Adv.same k2))))
theorem sm_loop_down (G : Gl T B mg mb) {tg : Tg} {e : Ex} {body : List Sm} (he' : Snd prog w T B fn k e) (hB : SndSs prog w T B fn k body) : SndS prog w T B fn k (.loop tg (.down e) body) := by
  intro env ρ ρ' S S' fl st F as A Q E s hc he hr f p
  apply onFor_e (x := st) hc
  intro t it ys zs pos hc
  apply onNil_e (x := zs) hc
  intro hc
  apply onCall_e (x := it) hc
  intro fu args kws pos' hc
  apply onName_e (x := fu) hc
  intro r rpos hc
  apply onNil_e (x := kws) hc
  intro hc
  apply on3_e (x := args) hc
  intro x y z hc
  apply onUn_e (x := y) hc
  intro op1 l1 p1 hc
  apply onConst_e (x := l1) hc
  intro k1 n1 q1 hc
  apply onUn_e (x := z) hc
  intro op2 l2 p2 hc
  apply onConst_e (x := l2) hc
  intro k2 n2 q2 h00
  refine dand h00 fun g1 h01 => dand h01 fun g2 h02 => dand h02 fun g3 h03 => dand h03 fun g4 hcc => ?_
  subst g1 g2 g3 g4
  have hc : (notStar x && tgOk T.nt env.scope.names tg t && r == ("range" : Str) && env.scope.names.lookup r == some .globalImplicit && chk T env.scope.names e x && chkSs T env.scope.names body ys) = true := hcc
  clear hcc h00 h01 h02 h03
  simp only [Bool.and_eq_true, beq_iff_eq] at hc
  obtain ⟨⟨⟨⟨⟨c0, c1⟩, rfl⟩, ck⟩, c2⟩, c3⟩ := hc
  refine bind2_e he fun xs S1 e1 he => ?_
  refine bind2_e e1 fun v1 S2 e2 e1 => ?_
  obtain ⟨n, rfl⟩ : ∃ n, v1 = .d (.int n) := by
    cases v1 with
    | c n => cases e1
    | d x => cases x <;> first | exact ⟨_, rfl⟩ | cases e1
  dsimp only at e1
  split at e1
  case isFalse => cases e1
  rename_i hn
  cases e1
  refine wpAny_For (Call_ (glob_name G f ck rng_debug (.inr G.rng) ?_)) (fun u => rfl)
  rw [star_one (env := env) c0]
  refine PySem.callWith_type rfl (Calls.evalArgs_plain (Calls.spliced_cons (he' _ _ _ _ _ _ _ _ _ _ _ _ c2 e2 hr f fun h1 t1 u1 as1 x1 a1 r1 => ?_)))
  obtain ⟨tk, rfl⟩ := (RdR.of r1).int_inv
  refine Calls.spliced_cons (wpAny_UnaryOp ?_)
  rw [arm_eval_Constant]
  refine wpAny_mkInt (PyProof.Rows.neg_int ?_)
  refine Calls.spliced_cons (wpAny_UnaryOp ?_)
  rw [arm_eval_Constant]
  refine wpAny_mkInt (PyProof.Rows.neg_int ?_)
  refine Calls.spliced_nil ?_
  dsimp only
  refine PySem.call_range_3 (by decide) ?_ (.inl (noPylong _ _ (by decide)))
  dsimp only
  generalize hh2 : h1.push { cls := .type "range", data := .fields #[.int n tk, .int (-1) (t1 + 1), .int (-1) (t1 + 1 + 1 + 1)] } = h2
  have k2 : Step [] h1 h2 := by rw [← hh2]; exact Step.push _
  have hrg : IsRange h2 h1.objs.size n (-1) (-1) tk (t1 + 1) (t1 + 1 + 1 + 1) := by rw [← hh2]; exact Heap.get?_push_size _ rfl
  obtain ⟨oI, fp, P, St, hiter, itr, st0⟩ := iter_range (prog := prog) (w := w) (X := F ++ as1) (s := ⟨h2, s.gens, s.drawn, t1 + 1 + 1 + 1 + 1, s.os⟩) (xs := downFrom n) hrg (small_any (by lia) (by lia) (.inr rfl)) (size_down n) (by simp [downFrom]) (fun i x hx => by
    simp only [downFrom, List.getElem?_map, Option.map_eq_some_iff] at hx
    obtain ⟨j, hj, rfl⟩ := hx
    rw [List.getElem?_eq_some_iff] at hj
    obtain ⟨_, hj⟩ := hj
    simp at hj
    subst hj
    congr 1
    lia)
  refine hiter A _ _ ?_
  have f1 := f.adv x1 a1
  exact loop_from G hr hB c1 c3 itr st0 he (f1.same k2) (p.after ((AdvS.of a1).trans (AdvS.of (Adv.same k2))))
mutual
theorem stm_all (G : Gl T B mg mb) (hdot : (".0" : Str) ∉ T.nt) (FO : FnOk prog w T B mg fn k) : ∀ sm : Sm, SndS prog w T B fn k sm
  | .asg tg e => sm_asg G hdot FO
  | .setI o i e => sm_setI G (snd_all G hdot FO o).1 (snd_all G hdot FO i).1 (snd_all G hdot FO e).1
  | .ife t a b => sm_ife (snd_all G hdot FO t).2 (stms_all G hdot FO a) (stms_all G hdot FO b)
  | .loop tg (.ex e) body => sm_loop_ex G (snd_all G hdot FO e).1 (stms_all G hdot FO body)
  | .loop tg (.range e) body => sm_loop_range G (snd_all G hdot FO e).1 (stms_all G hdot FO body)
  | .loop tg (.down e) body => sm_loop_down G (snd_all G hdot FO e).1 (stms_all G hdot FO body)
  | .ret e => sm_ret (snd_all G hdot FO e).1
  | .cont => sm_cont
  | .exp e => sm_exp (snd_all G hdot FO e).1
theorem stms_all (G : Gl T B mg mb) (hdot : (".0" : Str) ∉ T.nt) (FO : FnOk prog w T B mg fn k) : ∀ sms : List Sm, SndSs prog w T B fn k sms
  | [] => sms_nil
  | s :: r => sms_cons (stm_all G hdot FO s) (stms_all G hdot FO r)
end
end
end Mine
end
end
section
open PySem PySem.Calls PySem.W PyProof.Rows
set_option maxRecDepth 100000
set_option Elab.async false
set_option autoImplicit false
set_option linter.unusedVariables false
noncomputable section
namespace Mine
theorem lookup_zip_mem {as : List Arg} {vals : List Value} (hl : as.length = vals.length) : ∀ n ∈ as.map (·.arg), ∃ v, ((as.map (·.arg)).zip vals).lookup n = some v := by
  induction as generalizing vals with
  | nil => intro n hn; cases hn
  | cons a as ih =>
    intro n hn
    cases vals with
    | nil => simp at hl
    | cons v vals =>
      rw [List.map_cons, List.zip_cons_cons, List.lookup_cons]
      cases e : n == a.arg with
      | true => exact ⟨v, rfl⟩
      | false =>
        rcases List.mem_cons.mp hn with q | q
        · subst q; simp at e
        · exact ih (by simpa using hl) n q
theorem fm_congr {α β : Type} {f g : α → Option β} : ∀ {l : List α}, (∀ x ∈ l, f x = g x) → l.filterMap f = l.filterMap g
  | [], _ => rfl
  | x :: r, h => by rw [List.filterMap_cons, List.filterMap_cons, h x (.head _), fm_congr fun y hy => h y (.tail _ hy)]
theorem zip_filterMap {as : List Arg} {vals : List Value} (hn : (as.map (·.arg)).Nodup) (hl : as.length = vals.length) : (as.map (·.arg)).filterMap (fun n => (((as.map (·.arg)).zip vals).lookup n).map (n, ·)) = (as.map (·.arg)).zip vals := by
  induction as generalizing vals with
  | nil => rfl
  | cons a as ih =>
    cases vals with
    | nil => simp at hl
    | cons v vals =>
      rw [List.map_cons, List.nodup_cons] at hn
      rw [List.map_cons, List.zip_cons_cons, List.filterMap_cons]
      have e1 : List.lookup a.arg ((a.arg, v) :: (as.map (·.arg)).zip vals) = some v := by simp [List.lookup_cons]
      rw [e1]
      simp only [Option.map_some]
      congr 1
      refine Eq.trans ?_ (ih hn.2 (by simpa using hl))
      have : ∀ n ∈ as.map (·.arg), List.lookup n ((a.arg, v) :: (as.map (·.arg)).zip vals) = List.lookup n ((as.map (·.arg)).zip vals) := fun n hm => by
        rw [List.lookup_cons]
        have : (n == a.arg) = false := by
          rw [beq_eq_false_iff_ne]; rintro rfl; exact hn.1 hm
        rw [this]
      exact fm_congr fun n hm => by rw [this n hm]
theorem bind_plain {fd : FuncData} {as : List Arg} {kd : List (Option Expr)} {ds : List Expr} {vals : List Value} (hp : fd.params = ⟨[], as, none, [], kd, none, ds⟩) (hd : fd.defaults = .none) (hn : (as.map (·.arg)).Nodup) (hl : as.length = vals.length) :
    bindArgs fd ⟨vals, []⟩ = pure ((as.map (·.arg)).zip vals) := by
  have hm : ((as.map (·.arg)).take ((as.map (·.arg)).length - 0)).filter (fun n => (((as.map (·.arg)).zip vals).lookup n).isNone) = [] := by
    rw [Nat.sub_zero, List.take_length, List.filter_eq_nil_iff]
    intro n hn
    obtain ⟨v, hv⟩ := lookup_zip_mem hl n hn
    rw [hv]; simp
  unfold bindArgs
  rw [hp, hd]
  dsimp only
  simp only [List.map_nil, List.nil_append, List.forIn_nil, pure_bind, List.append_nil]
  have hs : seqItems? Value.none = pure none := rfl
  rw [hs, pure_bind]
  have e0 : ((none : Option (Array Value)).getD #[]).toList = [] := rfl
  have e1 : (decide (vals.length > (as.map (·.arg)).length) && (none : Option Arg).isNone) = false := by
    have : ¬ (vals.length > (as.map (·.arg)).length) := by rw [List.length_map]; lia
    rw [decide_eq_false this]; rfl
  rw [e1]
  simp only [e0, List.drop_nil, List.length_nil, List.zip_nil_right, List.forIn_nil, pure_bind, Bool.false_eq_true, if_false, hm, List.isEmpty_nil, Bool.not_true]
  rw [zip_filterMap hn hl]
end Mine
end
end
section
open PySem PySem.Calls PySem.W PyProof.Rows
set_option maxRecDepth 100000
set_option Elab.async false
set_option autoImplicit false
set_option linter.unusedVariables false
noncomputable section
namespace Mine
section
variable {prog : Program} {w : World} {T : Tb} {B : Heap} {F F' as nw N : List Addr} {env : Env} {ρ ρ' : Ro} {S S' : Sto} {h h' h'' : Heap} {mg mb : Str → Option Value} {fn : Fn} {k : Nat}
theorem frz_rep (x : Mine.St prog w B F' (as ++ nw) S h) (hS : (B.get? sysModules).isSome = true) (hF : ∀ b ∈ F, b ∈ F') : ∀ (k : Nat) (v : Va) (val : Value) (d : PyData), frz as.length S k v = some d → VaRep prog w (F' ++ (as ++ nw)) (as ++ nw) h val v → Rep prog w (F ++ as) h val d := by
  have sub : ∀ b ∈ F ++ as, b ∈ F' ++ (as ++ nw) := fun b hb => (List.mem_append.mp hb).elim (fun q => List.mem_append_left _ (hF b q)) (fun q => List.mem_append_right _ (List.mem_append_left _ q))
  intro k
  induction k with
  | zero =>
    intro v val d e r
    cases v with
    | d y => cases e; exact Rep.more (fun b hb => .inl (sub b hb)) r
    | c n => cases e
  | succ k ih =>
    intro v val d e r
    cases v with
    | d y => cases e; exact Rep.more (fun b hb => .inl (sub b hb)) r
    | c n =>
      obtain ⟨a, ha, rfl⟩ := r
      have hlo := (ifN e).1
      replace e := (ifN e).2
      have haX : a ∉ F ++ as := by
        intro q
        have ham := List.mem_of_getElem? ha
        rcases List.mem_append.mp q with q | q
        · exact x.off a ham (hF a q)
        · have hnd := x.nd
          rw [List.getElem?_append_right (by lia)] at ha
          rw [List.nodup_append] at hnd
          exact hnd.2.2 a q a (List.mem_of_getElem? ha) rfl
      have hm : (a == sysModules) = false := by
        rw [beq_eq_false_iff_ne]
        rintro rfl
        rw [x.vol _ (List.mem_append_right _ (List.mem_of_getElem? ha))] at hS; cases hS
      split at e
      · rename_i xs hx
        simp only [Option.map_eq_some_iff] at e
        obtain ⟨ds, e, rfl⟩ := e
        obtain ⟨vs, n', hob, hp⟩ := x.cells n a _ ha hx
        refine .list hob haX ?_
        have go : ∀ {vs : List Value} {xs : List Va} {ds : List PyData}, Paired (VaRep prog w (F' ++ (as ++ nw)) (as ++ nw) h) vs xs → mapO (frz as.length S k) xs = some ds → RepL prog w (F ++ as) h vs ds := by
          intro vs xs ds hp
          induction hp generalizing ds with
          | nil => intro e; cases e; exact .nil
          | cons q _ ih2 =>
            intro e
            refine bind_e e fun y e1 e => ?_
            refine map_e e fun ys e2 e => ?_
            cases e
            exact .cons (ih _ _ _ e1 q) (ih2 e2)
        exact go hp e
      · rename_i kvs hx
        simp only [Option.map_eq_some_iff] at e
        obtain ⟨ds, e, rfl⟩ := e
        rcases x.cells n a _ ha hx with ⟨ps, hd, hp⟩ | ⟨xs, hd, hp⟩
        · refine .dictI hd hm haX ?_
          have go : ∀ {ps : List (Int × Value)} {kvs : List (PyData × Va)} {ds : List (PyData × PyData)}, Paired (PI (VaRep prog w (F' ++ (as ++ nw)) (as ++ nw) h)) ps kvs → mapO (fun p => (frz as.length S k p.2).map fun y => (p.1, y)) kvs = some ds → RepI prog w (F ++ as) h ps ds := by
            intro ps kvs ds hp
            induction hp generalizing ds with
            | nil => intro e; cases e; exact .nil
            | @cons p kv ps kvs q _ ih2 =>
              intro e
              obtain ⟨i, v⟩ := p
              obtain ⟨kk, vv⟩ := kv
              obtain ⟨q1, q2⟩ := q
              simp only at q1; subst q1
              refine bind_e e fun y e1 e => ?_
              refine map_e e fun ys e2 e => ?_
              refine map_e e1 fun z e3 e1 => ?_
              cases e; cases e1
              exact .cons (ih _ _ _ e3 q2) (ih2 e2)
          exact go hp e
        · refine .dictT hd hm haX ?_
          have go : ∀ {ps : List (List Int × Addr × Value)} {kvs : List (PyData × Va)} {ds : List (PyData × PyData)}, Paired (PT (Rep prog w (F' ++ (as ++ nw)) h) (VaRep prog w (F' ++ (as ++ nw)) (as ++ nw) h)) ps kvs → mapO (fun p => (frz as.length S k p.2).map fun y => (p.1, y)) kvs = some ds → RepT prog w (F ++ as) h ps ds := by
            intro ps kvs ds hp
            induction hp generalizing ds with
            | nil => intro e; cases e; exact .nil
            | @cons p kv ps kvs q _ ih2 =>
              intro e
              obtain ⟨i, ad, v⟩ := p
              obtain ⟨kk, vv⟩ := kv
              obtain ⟨q1, q3, q2⟩ := q
              simp only at q1; subst q1
              refine bind_e e fun y e1 e => ?_
              refine map_e e fun ys e2 e => ?_
              refine map_e e1 fun z e3 e1 => ?_
              cases e; cases e1
              exact .cons (Rep.more (fun b hb => .inl (sub b hb)) q3) (ih _ _ _ e3 q2) (ih2 e2)
          exact go hp e
      · cases e
theorem St.cut (x : Mine.St prog w B F' (as ++ nw) S h) (hF : ∀ b ∈ F, b ∈ F') (hle : as.length ≤ S.length) (hok : (S.take as.length).all (okCe as.length) = true) : Mine.St prog w B F as (S.take as.length) h := by
  have sub : ∀ b ∈ F ++ as, b ∈ F' ++ (as ++ nw) := fun b hb => (List.mem_append.mp hb).elim (fun q => List.mem_append_left _ (hF b q)) (fun q => List.mem_append_right _ (List.mem_append_left _ q))
  have hnd := x.nd
  rw [List.nodup_append] at hnd
  have va : ∀ {val : Value} {v : Va}, okVa as.length v = true → VaRep prog w (F' ++ (as ++ nw)) (as ++ nw) h val v → VaRep prog w (F ++ as) as h val v := by
    intro val v hv r
    cases v with
    | d y => exact Rep.more (fun b hb => .inl (sub b hb)) r
    | c n =>
      obtain ⟨a, ha, rfl⟩ := r
      have hlt : n < as.length := of_decide_eq_true hv
      rw [List.getElem?_append_left hlt] at ha
      exact ⟨a, ha, rfl⟩
  refine ⟨x.base, fun b hb => x.vol b (sub b hb), fun b hb => x.live b (hF b hb), hnd.1, fun b hb q => x.off b (List.mem_append_left _ hb) (hF b q), by rw [List.length_take]; lia, fun n a c h1 h2 => ?_⟩
  have hlt : n < as.length := (List.getElem?_eq_some_iff.mp h1).1
  have h3 : S[n]? = some c := by rw [List.getElem?_take, if_pos hlt] at h2; exact h2
  have hcell := x.cells n a c (by rw [List.getElem?_append_left hlt]; exact h1) h3
  have hokc : okCe as.length c = true := List.all_eq_true.mp hok c (List.mem_of_getElem? h2)
  cases c with
  | list xs =>
    obtain ⟨vs, n', hob, hp⟩ := hcell
    refine ⟨vs, n', hob, ?_⟩
    have hall : ∀ v ∈ xs, okVa as.length v = true := fun v hv => List.all_eq_true.mp hokc v hv
    clear hob h2 h3 hokc
    induction hp with
    | nil => exact .nil
    | cons q _ ih => exact .cons (va (hall _ (.head _)) q) (ih fun v hv => hall v (.tail _ hv))
  | dict kvs =>
    have hall : ∀ p ∈ kvs, okVa as.length p.2 = true := fun p hp => List.all_eq_true.mp hokc p hp
    rcases hcell with ⟨ps, hd, hp⟩ | ⟨xs, hd, hp⟩
    · refine .inl ⟨ps, hd, ?_⟩
      clear hd h2 h3 hokc
      induction hp with
      | nil => exact .nil
      | cons q _ ih => exact .cons ⟨q.1, va (hall _ (.head _)) q.2⟩ (ih fun v hv => hall v (.tail _ hv))
    · refine .inr ⟨xs, hd, ?_⟩
      clear hd h2 h3 hokc
      induction hp with
      | nil => exact .nil
      | cons q _ ih => exact .cons ⟨q.1, Rep.more (fun b hb => .inl (sub b hb)) q.2.1, va (hall _ (.head _)) q.2.2⟩ (ih fun v hv => hall v (.tail _ hv))
theorem bindL_keep {kindOf : Str → Option NameKind} (bs : List (Str × Value)) : ∀ (m : Str → Option Value) (x : Str), x ∉ bs.map (·.1) → bindL kindOf bs m x = m x := by
  induction bs with
  | nil => exact fun _ _ _ => rfl
  | cons p r ih =>
    intro m x h
    obtain ⟨n, v⟩ := p
    unfold bindL
    rw [ih _ x fun q => h (.tail _ q)]
    by_cases c : kindOf n = some .local
    · rw [if_pos c]; exact if_neg fun q => h (by rw [q]; exact .head _)
    · rw [if_neg c]
theorem bindC_keep {kindOf : Str → Option NameKind} (bs : List (Str × Value)) : ∀ (m : Str → Option Value) (x : Str), x ∉ bs.map (·.1) → bindC kindOf bs m x = m x := by
  induction bs with
  | nil => exact fun _ _ _ => rfl
  | cons p r ih =>
    intro m x h
    obtain ⟨n, v⟩ := p
    unfold bindC
    rw [ih _ x fun q => h (.tail _ q)]
    by_cases c : kindOf n = some .local
    · rw [if_pos c]
    · rw [if_neg c]; exact if_neg fun q => h (by rw [q]; exact .head _)
theorem bindL_get {kindOf : Str → Option NameKind} (bs : List (Str × Value)) : ∀ (m : Str → Option Value) (x : Str) (v : Value), (bs.map (·.1)).Nodup → (x, v) ∈ bs → kindOf x = some .local → bindL kindOf bs m x = some v := by
  induction bs with
  | nil => exact fun _ _ _ _ h => nomatch h
  | cons p r ih =>
    intro m x v hn h hk
    obtain ⟨n, u⟩ := p
    have hn := List.nodup_cons.mp hn
    rcases List.mem_cons.mp h with q | q
    · cases q
      unfold bindL
      rw [bindL_keep r _ _ hn.1, if_pos hk]
      exact if_pos rfl
    · exact ih _ x v hn.2 q hk
theorem bindC_get {kindOf : Str → Option NameKind} (bs : List (Str × Value)) : ∀ (m : Str → Option Value) (x : Str) (v : Value), (bs.map (·.1)).Nodup → (x, v) ∈ bs → kindOf x = some .cell → bindC kindOf bs m x = some v := by
  induction bs with
  | nil => exact fun _ _ _ _ h => nomatch h
  | cons p r ih =>
    intro m x v hn h hk
    obtain ⟨n, u⟩ := p
    have hn := List.nodup_cons.mp hn
    rcases List.mem_cons.mp h with q | q
    · cases q
      unfold bindC
      rw [bindC_keep r _ _ hn.1, if_neg (by rw [hk]; exact fun q => nomatch q)]
      exact if_pos rfl
    · exact ih _ x v hn.2 q hk
theorem cells_keys : ∀ (names : Ks) (n : Nat) (acc : List (Str × Addr)), (cellsFrom n names acc).map (·.1) = ((names.filter fun p => p.2 == .cell).map (·.1)).reverse ++ acc.map (·.1)
  | [], n, acc => rfl
  | (x, kd) :: r, n, acc => by
    unfold cellsFrom
    rw [List.filter_cons]
    split
    · rename_i hk
      rw [cells_keys r]
      simp
    · rename_i hk
      rw [cells_keys r]
theorem lookup_nodup {l : List (Str × Addr)} {x : Str} {c : Addr} (hn : (l.map (·.1)).Nodup) (h : (x, c) ∈ l) : l.lookup x = some c := by
  induction l with
  | nil => exact nomatch h
  | cons p r ih =>
    obtain ⟨y, d⟩ := p
    have hn := List.nodup_cons.mp hn
    rw [List.lookup_cons]
    rcases List.mem_cons.mp h with q | q
    · cases q; rw [beq_self_eq_true]
    · cases e : x == y with
      | true => exact absurd (List.mem_map.mpr ⟨_, q, beq_iff_eq.mp e⟩) hn.1
      | false => exact ih hn.2 q
theorem mem_lookupN {α : Type} {l : List (Nat × α)} {i : Nat} {v : α} (h : l.lookup i = some v) : (i, v) ∈ l := by
  induction l with
  | nil => cases h
  | cons p r ih =>
    obtain ⟨j, u⟩ := p
    rw [List.lookup_cons] at h
    cases e : i == j with
    | true => rw [e] at h; cases h; rw [beq_iff_eq.mp e]; exact .head _
    | false => rw [e] at h; exact .tail _ (ih h)
theorem param_get {X : List Addr} {ks : Ks} {is : List Nat} {xs : List Str} {vals : List Value} {args : List Va} (p : Paired (fun i x => nmOk T.nt ks i x = true) is xs) (q : Paired (VaRep prog w X as h) vals args) : ∀ i v x, (i, v) ∈ is.zip args → T.nt[i]? = some x → ∃ val, (x, val) ∈ xs.zip vals ∧ VaRep prog w X as h val v := by
  induction p generalizing vals args with
  | nil => exact fun _ _ _ hm => absurd hm List.not_mem_nil
  | cons a b ih =>
    cases q with
    | nil => exact fun _ _ _ hm => absurd hm List.not_mem_nil
    | cons c d =>
      intro i v x hm hx
      rcases List.mem_cons.mp hm with e | e
      · cases e
        have h1 := (nmOk_inv a).1
        rw [hx] at h1; cases h1
        exact ⟨_, .head _, c⟩
      · obtain ⟨val, h1, h2⟩ := ih d i v x e hx
        exact ⟨val, .tail _ h1, h2⟩
end
end Mine
end
end
section
open PySem PySem.Calls PySem.W PyProof.Rows
set_option maxRecDepth 100000
set_option Elab.async false
set_option autoImplicit false
set_option linter.unusedVariables false
noncomputable section
namespace Mine
noncomputable def chkFn (T : Tb) (d : DefItem) (fd : FnD) : Bool :=
  d.params.posonlyargs.isEmpty && d.params.vararg.isNone && d.params.kwonlyargs.isEmpty && d.params.kwarg.isNone && (fd.params.length == d.params.args.length) && ((fd.params.zip d.params.args).all fun p => nmOk T.nt d.scope.names p.1 p.2.arg) &&
  decide ((d.params.args.map (·.arg)).Nodup) && decide (((d.scope.names.filter fun p => p.2 == .cell).map (·.1)).Nodup) && d.scope.kind == .function && !d.scope.isCoroutine && !d.scope.isGenerator && chkSs T d.scope.names fd.body d.body
noncomputable def PrgOk (T : Tb) (B : Heap) (mg : Str → Option Value) (prg : List FnD) : Prop :=
  ∀ (f : Nat) (x : Str) (fd : FnD), T.ft[f]? = some x → prg[f]? = some fd → ∃ (d : DefItem) (a : Addr) (o : Obj) (c' : Addr) (pm doc : Value), mg x = some (.ref a) ∧ B.get? a = some o ∧ o.data = .func (docDef d.name d.params d.body d.scope pm (.ref c') doc) ∧ B.CodeRec (.ref c') d.name ∧ chkFn T d fd = true
section
variable {prog : Program} {w : World} {T : Tb} {B : Heap} {mg mb : Str → Option Value}
theorem params_paired {nt : List Str} {ks : Ks} : ∀ {is : List Nat} {as : List Arg}, is.length = as.length → ((is.zip as).all fun p => nmOk nt ks p.1 p.2.arg) = true → Paired (fun i x => nmOk nt ks i x = true) is (as.map (·.arg))
  | [], [], _, _ => .nil
  | [], _ :: _, h, _ => by simp at h
  | _ :: _, [], h, _ => by simp at h
  | i :: is, a :: as, h, q => by
    simp only [List.zip_cons_cons, List.all_cons, Bool.and_eq_true] at q
    exact .cons q.1 (params_paired (by simpa using h) q.2)
theorem run_ok (G : Gl T B mg mb) (hdot : (".0" : Str) ∉ T.nt) (hlim : B.NoLimit) {prg : List FnD} (PO : PrgOk T B mg prg) : ∀ k, FnOk prog w T B mg (run prg k) k := by
  intro k
  induction k with
  | zero => intro f x a args S S' v A F as s vals Q E _ _ he; cases he
  | succ k ih =>
    intro f x a args S S' v A F as s vals Q E hx hm he hr x0 r0 p
    refine bind_e he fun fd e1 he => ?_
    split at he
    case isFalse => cases he
    rename_i hlen
    refine bind3_e he fun fl ρ' S2 e2 he => ?_
    dsimp only at he
    split at he
    case isFalse => cases he
    rename_i hok
    refine map_e he fun d e3 he => ?_
    cases he
    simp only [Bool.and_eq_true, decide_eq_true_eq] at hok
    obtain ⟨dd, a', o, c', pm, doc, m1, m2, m3, m4, m5⟩ := PO f x fd hx e1
    rw [hm] at m1; cases m1
    simp only [chkFn, Bool.and_eq_true, decide_eq_true_eq, beq_iff_eq, Bool.not_eq_true', List.isEmpty_iff, Option.isNone_iff_eq_none] at m5
    obtain ⟨⟨⟨⟨⟨⟨⟨⟨⟨⟨⟨q1, q2⟩, q3⟩, q4⟩, q5⟩, q6⟩, q7⟩, q8⟩, q9⟩, q10⟩, q11⟩, q12⟩ := m5
    have hpp := params_paired q5 q6
    have hkeep0 := x0.base
    have hl1 := Paired.length r0
    have hl2 : dd.params.args.length = vals.length := by lia
    have hdef : dd.params = ⟨[], dd.params.args, none, [], dd.params.kw_defaults, none, dd.params.defaults⟩ := by
      cases hd : dd.params
      rw [hd] at q1 q2 q3 q4
      simp only at q1 q2 q3 q4
      subst q1; subst q2; subst q3; subst q4; rfl
    have hnz : (((dd.params.args.map (·.arg)).zip vals).map (·.1)) = dd.params.args.map (·.arg) := by
      rw [List.map_fst_zip]; simp; lia
    refine wpAny_call (codeAny_call_cells (by have := hr.dep; lia) (hkeep0 _ _ m2) m3 (hlim.keeps hkeep0) (m4.keeps hkeep0) rfl (bind_plain hdef rfl q7 hl2) rfl (fun y hy => ?_) (fun s₁ hin => ?_) q10 q11 q9)
    · have hy1 : y.1 ∈ dd.params.args.map (·.arg) := (List.of_mem_zip hy).1
      have hnm : ∀ {is : List Nat} {xs : List Str}, Paired (fun i x => nmOk T.nt dd.scope.names i x = true) is xs → ∀ z ∈ xs, dd.scope.names.lookup z = some .local ∨ dd.scope.names.lookup z = some .cell := by
        intro is xs hp
        induction hp with
        | nil => intro z hz; cases hz
        | cons q _ ih2 =>
          intro z hz
          rcases List.mem_cons.mp hz with rfl | hz
          · exact (nmOk_inv q).2.1
          · exact ih2 z hz
      rcases hnm hpp _ hy1 with q | q
      · exact .inl q
      · exact .inr ⟨q, cellsFrom_some _ _ _ (.inl q)⟩
    · generalize henv : callEnvC (docDef dd.name dd.params dd.body dd.scope pm (.ref c') doc) s.heap.objs.size a = env at hin ⊢
      have hsc : env.scope = dd.scope := by rw [← henv]; rfl
      have hcells : env.cells = cellsFrom (s.heap.objs.size + 1) dd.scope.names [] := by rw [← henv]; rfl
      have hloc : env.locals = s.heap.objs.size := by rw [← henv]; rfl
      obtain ⟨h1, tk, rfl⟩ := hin.toInCall.same
      have hkeep : ∀ b o, s.heap.get? b = some o → h1.get? b = some o := hin.toInCall.keep
      have hns := hin.toInCall.ns
      dsimp only at hns
      have hkn : (env.cells.map (·.1)).Nodup := by
        rw [hcells, cells_keys]
        simp only [List.map_nil, List.append_nil]
        exact (List.reverse_perm _).nodup_iff.mpr q8
      have hlk : ∀ y c, (y, c) ∈ env.cells → env.cells.lookup y = some c := fun y c hy => lookup_nodup hkn hy
      have hcell : ∀ y c, (y, c) ∈ env.cells → h1.IsCell c (bindC env.kindOf ((dd.params.args.map (·.arg)).zip vals) (fun _ => none) y) := fun y c hy => hin.cell y c (hlk y c hy)
      have fresh : ∀ b, s.heap.objs.size ≤ b → s.heap.get? b = none := fun b hb => Heap.get?_none_of_le hb
      have hN : New (Own env) s.heap h1 := fun c hc => by
        rcases List.mem_cons.mp hc with rfl | hc
        · exact ⟨fresh _ (Nat.le_of_eq hloc.symm), by obtain ⟨o, _, _, ho, _⟩ := hns; rw [ho]; rfl⟩
        · obtain ⟨⟨y, d⟩, hp, rfl⟩ := List.mem_map.mp hc
          have hgt : env.locals < d := hin.above y d hp
          rw [hloc] at hgt
          exact ⟨fresh _ (Nat.le_of_lt hgt), by obtain ⟨o, ho, _⟩ := hcell y d hp; rw [ho]; rfl⟩
      have k1 : Step [] s.heap h1 := Step.of_keep hkeep
      have x1 : Mine.St prog w B (Own env ++ F) as S h1 := x0.wide k1 hN
      have f1 : Fm prog w T.nt B (Own env ++ F) as env (fd.params.zip args).reverse S h1 := by
        refine ⟨x1, by rw [hsc]; exact q9, by rw [← henv]; rfl, by rw [← henv]; rfl, .head _, ⟨_, hns⟩, fun y c hy => ⟨List.mem_append_left _ (List.mem_cons_of_mem _ (List.mem_map.mpr ⟨_, hy, rfl⟩)), _, hcell y c hy⟩, fun y z c hy hz => name_of_addr hin.apart (mem_of_lookup hy) (mem_of_lookup hz), fun y hy => ?_, fun i u y hi hy => ?_⟩
        · have hy : dd.scope.names.lookup y = some .cell := by rw [← hsc]; exact hy
          have := cellsFrom_some (x := y) dd.scope.names (s.heap.objs.size + 1) [] (.inl hy)
          rw [hcells]
          exact Option.isSome_iff_exists.mp this
        · have hmem : (i, u) ∈ fd.params.zip args := List.mem_reverse.mp (mem_lookupN hi)
          obtain ⟨val, h2, h3⟩ := param_get hpp r0 i u y hmem hy
          refine ⟨val, h3.wide k1 hN, fun e => ⟨_, hns, bindL_get _ _ _ _ (by rw [hnz]; exact q7) h2 e⟩, fun c e1 e2 => ?_⟩
          have := hin.cell y c e2
          rw [bindC_get _ _ _ _ (by rw [hnz]; exact q7) h2 e1] at this
          exact this
      have hr' : Rm (A.deeper env) k := ⟨hr.hh, by have := hr.dep; show A.depth + 1 + k < _; lia, by have := hr.un; show A.units + 3 + 100 + 10 * k < _; lia⟩
      have hFsub : ∀ b ∈ F, b ∈ Own env ++ F := fun b hb => List.mem_append_right _ hb
      refine stms_all G hdot ih fd.body _ _ _ _ _ _ _ _ _ _ _ _ _ (by rw [hsc]; exact q12) e2 hr' f1 fun h2 tk2 as2 fv f2 a2 r2 => ?_
      obtain ⟨nw, rfl, k2, hn2⟩ := a2
      have hasl := x0.len
      have hnew2 : ∀ c ∈ nw, s.heap.get? c = none := fun c hc => by
        cases e : s.heap.get? c with
        | none => rfl
        | some o => have := hn2 c hc; rw [hkeep c o e] at this; cases this
      have k3 : Step as s.heap h2 := (k1.more fun _ q => nomatch q).trans_new (nw := []) (by rw [List.append_nil]; exact Step.refl) (fun _ q => nomatch q) |>.trans_new (nw := Own env) (k2.more fun c hc => (List.mem_append.mp hc).elim (fun q => List.mem_append_right _ q) (fun q => List.mem_append_left _ q)) fun c hc => (hN c hc).1
      have x3 : Mine.St prog w B F as (S2.take S.length) h2 := by
        rw [← hasl]
        exact St.cut f2.st hFsub (by rw [hasl]; exact hok.2) (by rw [hasl]; exact hok.1)
      have hval : ∀ val, VaRep prog w ((Own env ++ F) ++ (as ++ nw)) (as ++ nw) h2 val (flV fl) → VaRep prog w (F ++ as) as h2 val (.d d) := fun val rv => by
        rw [← hasl] at e3
        exact frz_rep f2.st G.sys hFsub 3 _ _ _ e3 rv
      have fin : ∀ val, VaRep prog w (F ++ as) as h2 val (.d d) → Q val { s with heap := h2, toks := tk2 } := fun val rv => p h2 tk2 val as x3 (Adv.set k3) rv
      cases fl with
      | next => obtain rfl : fv = .next := r2; exact fin _ (hval _ Rep.none)
      | cont => obtain rfl : fv = .cont := r2; exact fin _ (hval _ Rep.none)
      | ret u => obtain ⟨val, rfl, rv⟩ := r2; exact fin _ (hval _ rv)
end
end Mine
end
end
section
open PySem PySem.Calls PySem.W PyProof.Rows
set_option maxRecDepth 100000
set_option Elab.async false
set_option autoImplicit false
set_option linter.unusedVariables false
noncomputable section
namespace Mine
noncomputable def ftTab : List Str := [Str.ofString "mask_of", Str.ofString "prefix_at", Str.ofString "take_route", Str.ofString "table_of", Str.ofString "looked_up", Str.ofString "rank_of", Str.ofString "preferred_way", Str.ofString "way_out", Str.ofString "external_worth", Str.ofString "external_routes", Str.ofString "route_told", Str.ofString "_law_drawn", Str.ofString "_law_ways", Str.ofString "_law_rows", Str.ofString "_law_moved_rows", Str.ofString "_law_moved", Str.ofString "_law_is_joined", Str.ofString "_law_no_worse", Str.ofString "_law_by_net", Str.ofString "law"]
noncomputable def ctTab : List (Str × Int) := [(Str.ofString "LS_INFINITY", 16777215), (Str.ofString "MAX_AGE", 3600), (Str.ofString "EXTERNAL", 5), (Str.ofString "BACKBONE", 0)]
noncomputable def tb : Tb := ⟨nmTab, ftTab, ctTab⟩
noncomputable def defsOk (defs : List DefItem) : Bool := (List.range 20).all fun f => match ftTab[f]?, prg[f]? with
  | some x, some fd => defs.any fun d => d.name == x && d.params.defaults.isEmpty && chkFn tb d fd
  | _, _ => false
noncomputable def constsOk (consts : List (Str × PyData)) : Bool := ctTab.all fun p => consts.any fun q => q.1 == p.1 && match q.2 with
  | .int i => i == p.2
  | _ => false
noncomputable def biNames : List Str := [Bi.abs, .len, .dict, .list, .tuple, .sorted, .min].map Bi.nm ++ [Str.ofString "range"]
noncomputable def namesNo (names : List Str) : Bool := biNames.all fun x => !names.contains x && !bootMainNames.contains x && x != (Str.ofString "__name__")
theorem boot_bi (b : Bi) : bootBuiltins b.nm = some b.val := by cases b <;> decide +kernel
theorem boot_range : bootBuiltins (Str.ofString "range") = some (.type "range") := by decide +kernel
theorem nm_nodup : nmTab.Nodup := by decide +kernel
theorem nm_dot : (".0" : Str) ∉ tb.nt := by decide +kernel
theorem glue {mg mb : Str → Option Value} {h : Heap} {defs : List DefItem} {consts : List (Str × PyData)} {names : List Str} (GL : Glob 0 mg mb defs consts [] names h) (h1 : defsOk defs = true) (h2 : constsOk consts = true) (h3 : namesNo names = true) : Gl tb h mg mb ∧ PrgOk tb h mg prg := by
  have hno : ∀ x ∈ biNames, mg x = none ∧ x ≠ Str.ofString "__name__" := fun x hx => by
    have := List.all_eq_true.mp h3 x hx
    simp only [Bool.and_eq_true, Bool.not_eq_true', bne_iff_ne, ne_eq] at this
    refine ⟨GL.free x (fun q => ?_) (fun q => ?_), this.2⟩
    · have := this.1.1; simp [q] at this
    · have := this.1.2; simp [q] at this
  have hP : PrgOk tb h mg prg := by
    intro f x fd hf hp
    have hlt : f < 20 := (List.getElem?_eq_some_iff.mp hf).1
    have := List.all_eq_true.mp h1 f (List.mem_range.mpr hlt)
    have hf : ftTab[f]? = some x := hf
    rw [hf, hp] at this
    obtain ⟨d, hd, hq⟩ := List.any_eq_true.mp this
    simp only [Bool.and_eq_true, beq_iff_eq, List.isEmpty_iff] at hq
    obtain ⟨⟨q1, q2⟩, q3⟩ := hq
    obtain ⟨a, c', o, pm, doc, _, _, m1, m2, m3, m4⟩ := (GL.made d hd).plain q2
    exact ⟨d, a, o, c', pm, doc, by rw [← q1]; exact m1, m2, m3, m4, q3⟩
  refine ⟨⟨nm_nodup, GL.g, GL.b, ?_, fun x i hm => ?_, fun b => ?_, ?_, fun f x hf => ?_⟩, hP⟩
  · obtain ⟨mm, hm, _⟩ := GL.seer.mods
    obtain ⟨o, _, _, ho, _⟩ := hm
    rw [ho]; rfl
  · have hm : (x, i) ∈ ctTab := hm
    have := List.all_eq_true.mp h2 _ hm
    obtain ⟨⟨y, d⟩, hq, hqq⟩ := List.any_eq_true.mp this
    simp only [Bool.and_eq_true, beq_iff_eq] at hqq
    obtain ⟨rfl, e⟩ := hqq
    obtain ⟨v, hv, hd⟩ := GL.bound _ hq
    cases d <;> first | exact absurd e Bool.false_ne_true | skip
    have e := eq_of_beq e
    subst e
    have hd := hd h
    dsimp only at hd hv
    cases hd
    exact ⟨_, hv⟩
  · have hm : b.nm ∈ biNames := List.mem_append_left _ (List.mem_map.mpr ⟨b, by cases b <;> simp, rfl⟩)
    exact ⟨(hno _ hm).1, (GL.builtins _ (hno _ hm).2).trans (boot_bi b)⟩
  · have hm : Str.ofString "range" ∈ biNames := List.mem_append_right _ (.head _)
    exact ⟨(hno _ hm).1, (GL.builtins _ (hno _ hm).2).trans boot_range⟩
  · have hlt : f < 20 := (List.getElem?_eq_some_iff.mp hf).1
    have hp : ∃ fd, prg[f]? = some fd := ⟨prg[f]'(by exact hlt), List.getElem?_eq_getElem _⟩
    obtain ⟨fd, hp⟩ := hp
    obtain ⟨d, a, o, c', pm, doc, m1, m2, m3, _, _⟩ := hP f x fd hf hp
    exact ⟨a, o, _, m1, m2, m3⟩
theorem ints_rep {prog : Program} {w : World} {X : List Addr} {P : Params} {h : Heap} : ∀ {vs : List Value} {ns : List Int}, WellAll P h vs (ofPys (ns.map .int)) → RepL prog w X h vs (ns.map .int) := by
  intro vs ns x
  induction ns generalizing vs with
  | nil => cases x; exact .nil
  | cons n ns ih => cases x with
    | cons a b => cases a with | int i t => exact .cons (.int _ _) (ih b)
theorem post_true (l : OpenLaw) (args : List WData) : l.row.claim.post args (.bool true) args = true := by
  refine postW_of (X := true) rfl ?_ rfl
  show WTm.value _ (.eq .res (.lit (.bool true))) _ = _
  simp [WTm.value, same_self]
theorem good_true (l : OpenLaw) {cl : Str → Option Addr} {mean : ExcName → Option Value} {args : List WData} {s₁ : Shared} {h' : Heap} {tk : Nat} (hk : ∀ b o, s₁.heap.get? b = some o → h'.get? b = some o) (hg : s₁.gens = #[]) :
    GoodWG l.row.claim cl mean args s₁ (.ok (.ret (.bool true))) { s₁ with heap := h', toks := tk } :=
  GoodW.toG ⟨.inl ⟨_, .bool true, [], rfl, raisesW_false (fun ct hct => nomatch hct), .bool _, post_true l args, fun _ => ⟨List.nodup_nil, fun _ q => nomatch q⟩⟩, hk, rfl, hg⟩
end Mine
end
end
section
open PySem
set_option maxRecDepth 100000
set_option Elab.async false
set_option autoImplicit false
set_option linter.unusedVariables false
noncomputable section
namespace Mine
noncomputable def T {α : Type} (x : Option α) (P : α → Prop) : Prop := ∃ a, x = some a ∧ P a
noncomputable def V {α β : Type} (x : Option (α × β)) (P : α → β → Prop) : Prop := ∃ a b, x = some (a, b) ∧ P a b
noncomputable def X (x : Option (Fl × Ro × Sto)) (P : Fl → Ro → Sto → Prop) : Prop := ∃ a b c, x = some (a, b, c) ∧ P a b c
section
variable {α β γ : Type}
theorem T.of {x : Option α} {a : α} {P : α → Prop} (e : x = Option.some a) (h : P a) : T x P := ⟨a, e, h⟩
theorem T.pos {c : Prop} [Decidable c] {x y : Option α} {P : α → Prop} (hc : c) (h : T x P) : T (if c then x else y) P := by rw [if_pos hc]; exact h
theorem T.get {x : Option α} {a : α} (h : T x fun b => b = a) : x = Option.some a := by obtain ⟨b, e, rfl⟩ := h; exact e
theorem V.of {x : Option (α × β)} {a : α} {b : β} {P : α → β → Prop} (e : x = some (a, b)) (h : P a b) : V x P := ⟨a, b, e, h⟩
theorem V.get {x : Option (α × β)} {a : α} {b : β} (h : V x fun c d => c = a ∧ d = b) : x = some (a, b) := by obtain ⟨c, d, e, rfl, rfl⟩ := h; exact e
theorem V.imp {x : Option (α × β)} {P Q : α → β → Prop} (h : V x P) (k : ∀ a b, P a b → Q a b) : V x Q := let ⟨a, b, e, p⟩ := h; ⟨a, b, e, k a b p⟩
theorem X.of {x : Option (Fl × Ro × Sto)} {a : Fl} {b : Ro} {c : Sto} {P : Fl → Ro → Sto → Prop} (e : x = some (a, b, c)) (h : P a b c) : X x P := ⟨a, b, c, e, h⟩
theorem X.imp {x : Option (Fl × Ro × Sto)} {P Q : Fl → Ro → Sto → Prop} (h : X x P) (k : ∀ a b c, P a b c → Q a b c) : X x Q := let ⟨a, b, c, e, p⟩ := h; ⟨a, b, c, e, k a b c p⟩
end
theorem bnd {α β : Type} {x : Option α} {f : α → Option β} {a : α} {r : Option β} (e : x = some a) (h : f a = r) : x.bind f = r := by rw [e]; exact h
theorem kif {α : Type} {c : Bool} {x r : Option α} (h : c = true) (e : x = r) : (if (!c) = true then none else x) = r := by rw [h]; exact e
theorem mpd {α β : Type} {x : Option α} {f : α → β} {a : α} (e : x = some a) : x.map f = some (f a) := by rw [e]; rfl
section
variable {fn : Fn} {ρ : Ro} {S : Sto} {P : Va → Sto → Prop}
theorem t_int {i : Int} (h : P (.d (.int i)) S) : V (ev fn ρ S (.int i)) P := ⟨_, _, rfl, h⟩
theorem t_str {i : Str} (h : P (.d (.str i)) S) : V (ev fn ρ S (.str i)) P := ⟨_, _, rfl, h⟩
theorem t_bool {i : Bool} (h : P (.d (.bool i)) S) : V (ev fn ρ S (.bool i)) P := ⟨_, _, rfl, h⟩
theorem t_none (h : P (.d .none) S) : V (ev fn ρ S .none) P := ⟨_, _, rfl, h⟩
theorem t_var {i : Nat} {v : Va} (e : ρ.lookup i = some v) (h : P v S) : V (ev fn ρ S (.var i)) P := ⟨v, S, mpd e, h⟩
theorem t_glob {i : Nat} {v : Int} (h : P (.d (.int v)) S) : V (ev fn ρ S (.glob i v)) P := ⟨_, _, rfl, h⟩
theorem t_bin {op : Bop} {a b : Ex} (h : V (ev fn ρ S a) fun u S1 => V (ev fn ρ S1 b) fun v S2 => T (rd S2 u) fun x => T (rd S2 v) fun y => T (binD op x y) fun z => P (.d z) S2) : V (ev fn ρ S (.bin op a b)) P := by
  obtain ⟨u, S1, e1, v, S2, e2, x, e3, y, e4, z, e5, h⟩ := h
  exact ⟨.d z, S2, bnd e1 (bnd e2 (bnd e3 (bnd e4 (mpd e5)))), h⟩
theorem t_neg {a : Ex} (h : V (ev fn ρ S a) fun u S1 => ∃ i, u = .d (.int i) ∧ P (.d (.int (-i))) S1) : V (ev fn ρ S (.neg a)) P := by
  obtain ⟨u, S1, e1, i, rfl, h⟩ := h
  exact ⟨.d (.int (-i)), S1, bnd e1 rfl, h⟩
theorem t_not {a : Ex} (h : V (ev fn ρ S a) fun u S1 => ∃ b, u = .d (.bool b) ∧ P (.d (.bool (!b))) S1) : V (ev fn ρ S (.not a)) P := by
  obtain ⟨u, S1, e1, b, rfl, h⟩ := h
  exact ⟨.d (.bool (!b)), S1, bnd e1 rfl, h⟩
theorem t_cmp {op : Cop} {a b : Ex} (h : V (ev fn ρ S a) fun u S1 => V (ev fn ρ S1 b) fun v S2 => T (rd S2 u) fun x => T (rd S2 v) fun y => T (cmpD op x y) fun z => P (.d (.bool z)) S2) : V (ev fn ρ S (.cmp op a b)) P := by
  obtain ⟨u, S1, e1, v, S2, e2, x, e3, y, e4, z, e5, h⟩ := h
  exact ⟨.d (.bool z), S2, bnd e1 (bnd e2 (bnd e3 (bnd e4 (mpd e5)))), h⟩
noncomputable def noneV : Va → Bool
  | .d .none => true
  | _ => false
theorem noneV_is (u : Va) : noneV u = (match u with | .d .none => true | _ => false) := by unfold noneV; rfl
theorem noneV_not (u : Va) : (!noneV u) = (match u with | .d .none => false | _ => true) := by unfold noneV; split <;> rfl
theorem t_isN {a : Ex} (h : V (ev fn ρ S a) fun u S1 => P (.d (.bool (noneV u))) S1) : V (ev fn ρ S (.isN a)) P := by
  obtain ⟨u, S1, e1, h⟩ := h
  exact ⟨.d (.bool (noneV u)), S1, (mpd e1).trans (by rw [noneV_is]; try rfl), h⟩
theorem t_isNotN {a : Ex} (h : V (ev fn ρ S a) fun u S1 => P (.d (.bool (!noneV u))) S1) : V (ev fn ρ S (.isNotN a)) P := by
  obtain ⟨u, S1, e1, h⟩ := h
  exact ⟨.d (.bool (!noneV u)), S1, (mpd e1).trans (by rw [noneV_not]; try rfl), h⟩
theorem t_ite {t a b : Ex} (h : V (ev fn ρ S t) fun u S1 => ∃ c, u = .d (.bool c) ∧ (c = true → V (ev fn ρ S1 a) P) ∧ (c = false → V (ev fn ρ S1 b) P)) : V (ev fn ρ S (.ite t a b)) P := by
  obtain ⟨u, S1, e1, c, rfl, h1, h2⟩ := h
  cases c
  · obtain ⟨v, S2, e, h⟩ := h2 rfl; exact ⟨v, S2, bnd e1 e, h⟩
  · obtain ⟨v, S2, e, h⟩ := h1 rfl; exact ⟨v, S2, bnd e1 e, h⟩
theorem t_and {es : List Ex} (h : V (evAnd fn ρ S es) P) : V (ev fn ρ S (.and es)) P := h
theorem t_or {es : List Ex} (h : V (evOr fn ρ S es) P) : V (ev fn ρ S (.or es)) P := h
theorem ta_nil (h : P (.d (.bool true)) S) : V (evAnd fn ρ S []) P := ⟨_, _, rfl, h⟩
theorem ta_cons {e : Ex} {es : List Ex} (h : V (ev fn ρ S e) fun u S1 => ∃ c, u = .d (.bool c) ∧ (c = true → V (evAnd fn ρ S1 es) P) ∧ (c = false → P (.d (.bool false)) S1)) : V (evAnd fn ρ S (e :: es)) P := by
  obtain ⟨u, S1, e1, c, rfl, h1, h2⟩ := h
  cases c
  · exact ⟨.d (.bool false), S1, bnd e1 rfl, h2 rfl⟩
  · obtain ⟨v, S2, e, h⟩ := h1 rfl; exact ⟨v, S2, bnd e1 e, h⟩
theorem to_nil (h : P (.d (.bool false)) S) : V (evOr fn ρ S []) P := ⟨_, _, rfl, h⟩
theorem to_cons {e : Ex} {es : List Ex} (h : V (ev fn ρ S e) fun u S1 => ∃ c, u = .d (.bool c) ∧ (c = false → V (evOr fn ρ S1 es) P) ∧ (c = true → P (.d (.bool true)) S1)) : V (evOr fn ρ S (e :: es)) P := by
  obtain ⟨u, S1, e1, c, rfl, h1, h2⟩ := h
  cases c
  · obtain ⟨v, S2, e, h⟩ := h1 rfl; exact ⟨v, S2, bnd e1 e, h⟩
  · exact ⟨.d (.bool true), S1, bnd e1 rfl, h2 rfl⟩
theorem t_tup {es : List Ex} (h : V (evs fn ρ S es) fun us S1 => T (dats us) fun xs => P (.d (.tuple xs)) S1) : V (ev fn ρ S (.tup es)) P := by
  obtain ⟨us, S1, e1, xs, e2, h⟩ := h
  exact ⟨.d (.tuple xs), S1, bnd e1 (mpd e2), h⟩
theorem t_lst {es : List Ex} (h : V (evs fn ρ S es) fun us S1 => T (dats us) fun xs => P (.d (.list xs)) S1) : V (ev fn ρ S (.lst es)) P := by
  obtain ⟨us, S1, e1, xs, e2, h⟩ := h
  exact ⟨.d (.list xs), S1, bnd e1 (mpd e2), h⟩
theorem t_lstC {es : List Ex} (h : V (evs fn ρ S es) fun us S1 => P (.c S1.length) (S1 ++ [Ce.list us])) : V (ev fn ρ S (.lstC es)) P := by
  obtain ⟨us, S1, e1, h⟩ := h
  exact ⟨.c S1.length, S1 ++ [Ce.list us], mpd e1, h⟩
theorem t_dctC (h : P (.c S.length) (S ++ [Ce.dict []])) : V (ev fn ρ S .dctC) P := ⟨_, _, rfl, h⟩
theorem t_idx {a i : Ex} (h : V (ev fn ρ S a) fun u S1 => V (ev fn ρ S1 i) fun v S2 => T (rd S2 u) fun x => T (dat v) fun y => T (idxD x y) fun z => P (.d z) S2) : V (ev fn ρ S (.idx a i)) P := by
  obtain ⟨u, S1, e1, v, S2, e2, x, e3, y, e4, z, e5, h⟩ := h
  exact ⟨.d z, S2, bnd e1 (bnd e2 (bnd e3 (bnd e4 (mpd e5)))), h⟩
theorem t_call {f : Nat} {es : List Ex} (h : V (evs fn ρ S es) fun us S1 => V (fn f us S1) P) : V (ev fn ρ S (.call f es)) P := by
  obtain ⟨us, S1, e1, v, S2, e2, h⟩ := h
  exact ⟨v, S2, bnd e1 e2, h⟩
theorem t_bi {b : Bi} {es : List Ex} (h : V (evs fn ρ S es) fun us S1 => T (rds S1 us) fun xs => T (biD b xs) fun z => P (.d z) S1) : V (ev fn ρ S (.bi b es)) P := by
  obtain ⟨us, S1, e1, xs, e2, z, e3, h⟩ := h
  exact ⟨.d z, S1, bnd e1 (bnd e2 (mpd e3)), h⟩
theorem ts_nil {P : List Va → Sto → Prop} (h : P [] S) : V (evs fn ρ S []) P := ⟨_, _, rfl, h⟩
theorem ts_cons {e : Ex} {es : List Ex} {P : List Va → Sto → Prop} (h : V (ev fn ρ S e) fun u S1 => V (evs fn ρ S1 es) fun us S2 => P (u :: us) S2) : V (evs fn ρ S (e :: es)) P := by
  obtain ⟨u, S1, e1, us, S2, e2, h⟩ := h
  exact ⟨u :: us, S2, bnd e1 (mpd e2), h⟩
end
section
variable {fn : Fn} {ρ : Ro} {S : Sto} {P : Va → Sto → Prop}
theorem t_vi {i : Nat} {j : Int} {v : Va} {x z : PyData} (e : ρ.lookup i = some v) (e1 : rd S v = some x) (e2 : idxD x (.int j) = some z) (h : P (.d z) S) : V (ev fn ρ S (.idx (.var i) (.int j))) P := t_idx (t_var e (t_int (T.of e1 (T.of rfl (T.of e2 h)))))
theorem t_vv {i j : Nat} {v : Va} {k x z : PyData} (e : ρ.lookup i = some v) (e' : ρ.lookup j = some (.d k)) (e1 : rd S v = some x) (e2 : idxD x k = some z) (h : P (.d z) S) : V (ev fn ρ S (.idx (.var i) (.var j))) P := t_idx (t_var e (t_var e' (T.of e1 (T.of rfl (T.of e2 h)))))
theorem t_bvv {op : Bop} {i j : Nat} {u v : Va} {x y z : PyData} (e : ρ.lookup i = some u) (e' : ρ.lookup j = some v) (e1 : rd S u = some x) (e2 : rd S v = some y) (e3 : binD op x y = some z) (h : P (.d z) S) : V (ev fn ρ S (.bin op (.var i) (.var j))) P := t_bin (t_var e (t_var e' (T.of e1 (T.of e2 (T.of e3 h)))))
theorem t_cvv {op : Cop} {i j : Nat} {u v : Va} {x y : PyData} {z : Bool} (e : ρ.lookup i = some u) (e' : ρ.lookup j = some v) (e1 : rd S u = some x) (e2 : rd S v = some y) (e3 : cmpD op x y = some z) (h : P (.d (.bool z)) S) : V (ev fn ρ S (.cmp op (.var i) (.var j))) P := t_cmp (t_var e (t_var e' (T.of e1 (T.of e2 (T.of e3 h)))))
theorem t_cvi {op : Cop} {i : Nat} {j : Int} {u : Va} {x : PyData} {z : Bool} (e : ρ.lookup i = some u) (e1 : rd S u = some x) (e3 : cmpD op x (.int j) = some z) (h : P (.d (.bool z)) S) : V (ev fn ρ S (.cmp op (.var i) (.int j))) P := t_cmp (t_var e (t_int (T.of e1 (T.of rfl (T.of e3 h)))))
theorem t_cvg {op : Cop} {i g : Nat} {j : Int} {u : Va} {x : PyData} {z : Bool} (e : ρ.lookup i = some u) (e1 : rd S u = some x) (e3 : cmpD op x (.int j) = some z) (h : P (.d (.bool z)) S) : V (ev fn ρ S (.cmp op (.var i) (.glob g j))) P := t_cmp (t_var e (t_glob (T.of e1 (T.of rfl (T.of e3 h)))))
theorem ts_int {i : Int} {es : List Ex} {P : List Va → Sto → Prop} (h : V (evs fn ρ S es) fun us S2 => P (.d (.int i) :: us) S2) : V (evs fn ρ S (.int i :: es)) P := ts_cons (t_int h)
theorem ts_str {i : Str} {es : List Ex} {P : List Va → Sto → Prop} (h : V (evs fn ρ S es) fun us S2 => P (.d (.str i) :: us) S2) : V (evs fn ρ S (.str i :: es)) P := ts_cons (t_str h)
theorem ts_var {i : Nat} {v : Va} {es : List Ex} {P : List Va → Sto → Prop} (e : ρ.lookup i = some v) (h : V (evs fn ρ S es) fun us S2 => P (v :: us) S2) : V (evs fn ρ S (.var i :: es)) P := ts_cons (t_var e h)
theorem ts_vi {i : Nat} {j : Int} {v : Va} {x z : PyData} {es : List Ex} {P : List Va → Sto → Prop} (e : ρ.lookup i = some v) (e1 : rd S v = some x) (e2 : idxD x (.int j) = some z) (h : V (evs fn ρ S es) fun us S2 => P (.d z :: us) S2) : V (evs fn ρ S (.idx (.var i) (.int j) :: es)) P := ts_cons (t_vi e e1 e2 h)
end
section
variable {fn : Fn} {ρ : Ro} {S : Sto} {P : Fl → Ro → Sto → Prop}
theorem tx_nil (h : P .next ρ S) : X (exs fn ρ S []) P := ⟨_, _, _, rfl, h⟩
theorem tx_next {s : Sm} {r : List Sm} (h : X (ex1 fn ρ S s) fun fl ρ1 S1 => fl = .next ∧ X (exs fn ρ1 S1 r) P) : X (exs fn ρ S (s :: r)) P := by
  obtain ⟨fl, ρ1, S1, e1, rfl, a, b, c, e2, h⟩ := h
  exact ⟨a, b, c, bnd e1 e2, h⟩
theorem tx_cons {s : Sm} {r : List Sm} (h : X (ex1 fn ρ S s) fun fl ρ1 S1 => (fl = .next → X (exs fn ρ1 S1 r) P) ∧ (fl ≠ .next → P fl ρ1 S1)) : X (exs fn ρ S (s :: r)) P := by
  obtain ⟨fl, ρ1, S1, e1, h1, h2⟩ := h
  cases fl with
  | next => obtain ⟨a, b, c, e2, h⟩ := h1 rfl; exact ⟨a, b, c, bnd e1 e2, h⟩
  | cont => exact ⟨.cont, ρ1, S1, bnd e1 rfl, h2 (fun q => nomatch q)⟩
  | ret v => exact ⟨.ret v, ρ1, S1, bnd e1 rfl, h2 (fun q => nomatch q)⟩
theorem tx_asg {tg : Tg} {e : Ex} (h : V (ev fn ρ S e) fun u S1 => T (bindTg tg u ρ) fun ρ' => P .next ρ' S1) : X (ex1 fn ρ S (.asg tg e)) P := by
  obtain ⟨u, S1, e1, ρ', e2, h⟩ := h
  exact ⟨.next, ρ', S1, bnd e1 (mpd e2), h⟩
theorem tx_ret {e : Ex} (h : V (ev fn ρ S e) fun u S1 => P (.ret u) ρ S1) : X (ex1 fn ρ S (.ret e)) P := by
  obtain ⟨u, S1, e1, h⟩ := h
  exact ⟨.ret u, ρ, S1, mpd e1, h⟩
theorem tx_ret1 {e : Ex} {r : List Sm} (h : V (ev fn ρ S e) fun u S1 => P (.ret u) ρ S1) : X (exs fn ρ S (.ret e :: r)) P := by
  obtain ⟨u, S1, e1, h⟩ := h
  exact ⟨.ret u, ρ, S1, bnd (mpd e1) rfl, h⟩
theorem tx_cont (h : P .cont ρ S) : X (ex1 fn ρ S .cont) P := ⟨_, _, _, rfl, h⟩
theorem tx_exp {e : Ex} (h : V (ev fn ρ S e) fun u S1 => u = .d .none ∧ P .next ρ S1) : X (ex1 fn ρ S (.exp e)) P := by
  obtain ⟨u, S1, e1, rfl, h⟩ := h
  exact ⟨.next, ρ, S1, bnd e1 rfl, h⟩
theorem tx_ife {t : Ex} {a b : List Sm} (h : V (ev fn ρ S t) fun u S1 => ∃ c, u = .d (.bool c) ∧ (c = true → X (exs fn ρ S1 a) P) ∧ (c = false → X (exs fn ρ S1 b) P)) : X (ex1 fn ρ S (.ife t a b)) P := by
  obtain ⟨u, S1, e1, c, rfl, h1, h2⟩ := h
  cases c
  · obtain ⟨x, y, z, e, h⟩ := h2 rfl; exact ⟨x, y, z, bnd e1 e, h⟩
  · obtain ⟨x, y, z, e, h⟩ := h1 rfl; exact ⟨x, y, z, bnd e1 e, h⟩
theorem tx_loop {tg : Tg} {it : It} {body : List Sm} (h : V (evIt fn ρ S it) fun xs S1 => X (floop (fun x ρ' S' => (bindTg tg (.d x) ρ').bind fun ρ'' => exs fn ρ'' S' body) xs ρ S1) P) : X (ex1 fn ρ S (.loop tg it body)) P := by
  obtain ⟨xs, S1, e1, a, b, c, e2, h⟩ := h
  exact ⟨a, b, c, bnd e1 e2, h⟩
theorem tx_setI_list {o i e : Ex} (h : V (ev fn ρ S e) fun v S1 => V (ev fn ρ S1 o) fun u S2 => V (ev fn ρ S2 i) fun w S3 => ∃ n xs j, u = .c n ∧ S3[n]? = some (.list xs) ∧ w = .d (.int j) ∧ 0 ≤ j ∧ j < xs.length ∧ j < 1000000 ∧ P .next ρ (S3.set n (.list (xs.set j.toNat v)))) : X (ex1 fn ρ S (.setI o i e)) P := by
  obtain ⟨v, S1, e1, u, S2, e2, w, S3, e3, n, xs, j, rfl, e4, rfl, h1, h2, h3, h⟩ := h
  refine ⟨_, _, _, ?_, h⟩
  refine bnd e1 (bnd e2 (bnd e3 (bnd (a := .int j) rfl ?_)))
  dsimp only
  rw [e4]
  exact mpd (if_pos ⟨h1, h2, h3⟩)
theorem tx_setI_dict {o i e : Ex} (h : V (ev fn ρ S e) fun v S1 => V (ev fn ρ S1 o) fun u S2 => V (ev fn ρ S2 i) fun w S3 => ∃ n kvs k, u = .c n ∧ S3[n]? = some (.dict kvs) ∧ w = .d k ∧ okK kvs k = true ∧ kvs.length ≤ big ∧ P .next ρ (S3.set n (.dict (dput kvs k v)))) : X (ex1 fn ρ S (.setI o i e)) P := by
  obtain ⟨v, S1, e1, u, S2, e2, w, S3, e3, n, kvs, k, rfl, e4, rfl, h1, h2, h⟩ := h
  refine ⟨_, _, _, ?_, h⟩
  refine bnd e1 (bnd e2 (bnd e3 (bnd (a := k) rfl ?_)))
  dsimp only
  rw [e4]
  exact if_pos (Bool.and_eq_true_iff.mpr ⟨h1, decide_eq_true h2⟩)
end
section
variable {fn : Fn} {ρ : Ro} {S : Sto} {P : Fl → Ro → Sto → Prop} {r : List Sm}
theorem X.gen {x : Option (Fl × Ro × Sto)} {Q : Fl → Ro → Sto → Prop} (h : ∀ P : Fl → Ro → Sto → Prop, (∀ a b c, Q a b c → P a b c) → X x P) : X x Q := h Q fun _ _ _ q => q
theorem V.gen {α β : Type} {x : Option (α × β)} {Q : α → β → Prop} (h : ∀ P : α → β → Prop, (∀ a b, Q a b → P a b) → V x P) : V x Q := h Q fun _ _ q => q
theorem x_asg {i : Nat} {e : Ex} (h : V (ev fn ρ S e) fun u S1 => X (exs fn (setV ρ i u) S1 r) P) : X (exs fn ρ S (.asg (.nm i) e :: r)) P := tx_next (tx_asg (h.imp fun _ _ q => T.of rfl ⟨rfl, q⟩))
theorem x_asgT {tg : Tg} {e : Ex} (h : V (ev fn ρ S e) fun u S1 => T (bindTg tg u ρ) fun ρ' => X (exs fn ρ' S1 r) P) : X (exs fn ρ S (.asg tg e :: r)) P := tx_next (tx_asg (h.imp fun _ _ ⟨a, e, q⟩ => T.of e ⟨rfl, q⟩))
theorem x_exp {e : Ex} (h : V (ev fn ρ S e) fun u S1 => u = .d .none ∧ X (exs fn ρ S1 r) P) : X (exs fn ρ S (.exp e :: r)) P := tx_next (tx_exp (h.imp fun _ _ ⟨a, q⟩ => ⟨a, rfl, q⟩))
theorem exs_app : ∀ {a : List Sm} {ρ : Ro} {S : Sto}, X (exs fn ρ S (a ++ r)) P → X (exs fn ρ S a) fun fl ρ1 S1 => (fl = .next → X (exs fn ρ1 S1 r) P) ∧ (fl ≠ .next → P fl ρ1 S1)
  | [], _, _, h => tx_nil ⟨fun _ => h, fun q => absurd rfl q⟩
  | s :: a, ρ, S, h => by
    obtain ⟨x, y, z, e, h⟩ := h
    have e : (ex1 fn ρ S s).bind _ = some (x, y, z) := e
    cases e1 : ex1 fn ρ S s with
    | none => rw [e1] at e; cases e
    | some w =>
      obtain ⟨fl, ρ1, S1⟩ := w
      rw [e1] at e
      cases fl with
      | next =>
        obtain ⟨u, v, t, e2, k⟩ := exs_app ⟨x, y, z, e, h⟩
        exact ⟨u, v, t, bnd e1 e2, k⟩
      | cont => cases e; exact ⟨_, _, _, bnd e1 rfl, (fun q => nomatch q), fun _ => h⟩
      | ret v => cases e; exact ⟨_, _, _, bnd e1 rfl, (fun q => nomatch q), fun _ => h⟩
theorem x_if {t : Ex} {a b : List Sm} (h : V (ev fn ρ S t) fun u S1 => ∃ c, u = .d (.bool c) ∧ (c = true → X (exs fn ρ S1 (a ++ r)) P) ∧ (c = false → X (exs fn ρ S1 (b ++ r)) P)) : X (exs fn ρ S (.ife t a b :: r)) P :=
  tx_cons (tx_ife (h.imp fun _ _ ⟨c, e, h1, h2⟩ => ⟨c, e, fun q => exs_app (h1 q), fun q => exs_app (h2 q)⟩))
theorem x_if1 {t : Ex} {a b : List Sm} (h : V (ev fn ρ S t) fun u S1 => u = .d (.bool true) ∧ X (exs fn ρ S1 (a ++ r)) P) : X (exs fn ρ S (.ife t a b :: r)) P := x_if (h.imp fun _ _ ⟨e, q⟩ => ⟨true, e, fun _ => q, fun z => nomatch z⟩)
theorem x_if0 {t : Ex} {a b : List Sm} (h : V (ev fn ρ S t) fun u S1 => u = .d (.bool false) ∧ X (exs fn ρ S1 (b ++ r)) P) : X (exs fn ρ S (.ife t a b :: r)) P := x_if (h.imp fun _ _ ⟨e, q⟩ => ⟨false, e, (fun z => nomatch z), fun _ => q⟩)
end
section
variable {fn : Fn} {ρ : Ro} {S : Sto} {P : Va → Sto → Prop}
theorem t_ite1 {t a b : Ex} (h : V (ev fn ρ S t) fun u S1 => u = .d (.bool true) ∧ V (ev fn ρ S1 a) P) : V (ev fn ρ S (.ite t a b)) P := t_ite (h.imp fun _ _ ⟨e, q⟩ => ⟨true, e, fun _ => q, fun z => nomatch z⟩)
theorem t_ite0 {t a b : Ex} (h : V (ev fn ρ S t) fun u S1 => u = .d (.bool false) ∧ V (ev fn ρ S1 b) P) : V (ev fn ρ S (.ite t a b)) P := t_ite (h.imp fun _ _ ⟨e, q⟩ => ⟨false, e, (fun z => nomatch z), fun _ => q⟩)
theorem to_1 {e : Ex} {es : List Ex} (h : V (ev fn ρ S e) fun u S1 => u = .d (.bool true) ∧ P (.d (.bool true)) S1) : V (evOr fn ρ S (e :: es)) P := to_cons (h.imp fun _ _ ⟨e, q⟩ => ⟨true, e, (fun z => nomatch z), fun _ => q⟩)
theorem to_0 {e : Ex} {es : List Ex} (h : V (ev fn ρ S e) fun u S1 => u = .d (.bool false) ∧ V (evOr fn ρ S1 es) P) : V (evOr fn ρ S (e :: es)) P := to_cons (h.imp fun _ _ ⟨e, q⟩ => ⟨false, e, (fun _ => q), fun z => nomatch z⟩)
theorem ta_1 {e : Ex} {es : List Ex} (h : V (ev fn ρ S e) fun u S1 => u = .d (.bool true) ∧ V (evAnd fn ρ S1 es) P) : V (evAnd fn ρ S (e :: es)) P := ta_cons (h.imp fun _ _ ⟨e, q⟩ => ⟨true, e, (fun _ => q), fun z => nomatch z⟩)
theorem ta_0 {e : Ex} {es : List Ex} (h : V (ev fn ρ S e) fun u S1 => u = .d (.bool false) ∧ P (.d (.bool false)) S1) : V (evAnd fn ρ S (e :: es)) P := ta_cons (h.imp fun _ _ ⟨e, q⟩ => ⟨false, e, (fun z => nomatch z), fun _ => q⟩)
end
noncomputable def OkS (S : Sto) : Prop := S.all (okCe S.length) = true
noncomputable def Post (S : Sto) (P : Va → Sto → Prop) (fl : Fl) (_ : Ro) (S2 : Sto) : Prop := (S2.take S.length).all (okCe S.length) = true ∧ S.length ≤ S2.length ∧ T (frz S.length S2 3 (flV fl)) fun x => P (.d x) (S2.take S.length)
theorem t_run {prg : List FnD} {k f : Nat} {args : List Va} {S : Sto} {fd : FnD} {P : Va → Sto → Prop} (e : prg[f]? = some fd) (hl : args.length = fd.params.length)
    (h : X (exs (run prg k) (fd.params.zip args).reverse S fd.body) (Post S P)) : V (run prg (k + 1) f args S) P := by
  obtain ⟨fl, ρ, S2, e2, h1, h2, x, e3, h⟩ := h
  refine ⟨_, _, ?_, h⟩
  show ((prg[f]?).bind _) = _
  rw [e]
  simp only [Option.bind_some, hl, if_true, e2, h1, h2, decide_true, Bool.and_self, e3, Option.map_some]
end Mine
end
end
section
open PySem
set_option maxRecDepth 100000
set_option Elab.async false
set_option autoImplicit false
set_option linter.unusedVariables false
noncomputable section
namespace Mine
noncomputable def poolC (xs : List Int) (n : Nat) : Ce := .list [.d (.list (xs.map .int)), .d (.int (n : Int))]
theorem fmod_range (a : Int) {m : Int} (hm : 0 < m) : 0 ≤ Int.fmod a m ∧ Int.fmod a m < m := by
  rw [Int.fmod_eq_emod_of_nonneg a (by lia)]
  exact ⟨Int.emod_nonneg _ (by lia), Int.emod_lt_of_pos _ hm⟩
theorem rd_c {S : Sto} {i : Nat} {xs : List Va} {ds : List PyData} {P : PyData → Prop} (e : S[i]? = some (.list xs)) (e2 : dats xs = some ds) (h : P (.list ds)) : T (rd S (.c i)) P := ⟨_, by simp [rd, e, e2], h⟩
theorem bi_len {xs : List PyData} (h : xs.length ≤ big) : biD .len [.list xs] = some (.int xs.length) := if_pos h
theorem pool_get {S : Sto} {xs : List Int} {n : Nat} (h : S[0]? = some (poolC xs n)) : 0 < S.length := (List.getElem?_eq_some_iff.mp h).1
theorem t_draw {k : Nat} {S : Sto} {xs : List Int} {n : Nat} {m : Int} {P : Va → Sto → Prop} (h0 : S[0]? = some (poolC xs n)) (hok : OkS S) (hx : xs.length ≤ 1000) (hm : 0 < m) (h : ∀ v, 0 ≤ v → v < m → P (.d (.int v)) (S.set 0 (poolC xs (n + 1)))) :
    V (run prg (k + 1) 11 [.c 0, .d (.int m)] S) P := by
  have hS1 : (S.set 0 (poolC xs (n + 1)))[0]? = some (poolC xs (n + 1)) := by rw [List.getElem?_set]; simp [pool_get h0]
  have hdat : ∀ n : Nat, dats [.d (.list (xs.map .int)), .d (.int (n : Int))] = some [.list (xs.map .int), .int (n : Int)] := fun n => rfl
  have hset : [Va.d (.list (xs.map .int)), .d (.int (n : Int))].set (Int.toNat 1) (.d (.int ((n : Int) + 1))) = [.d (.list (xs.map .int)), .d (.int ((n + 1 : Nat) : Int))] := by simp
  have hn1 : ((n : Int) + 1) = ((n + 1 : Nat) : Int) := by lia
  have hpos : m ≠ 0 := by lia
  have fin : ∀ v ρ, 0 ≤ v → v < m → Post S P (.ret (.d (.int v))) ρ (S.set 0 (poolC xs (n + 1))) := by
    intro v ρ h1 h2
    have e : (S.set 0 (poolC xs (n + 1))).take S.length = S.set 0 (poolC xs (n + 1)) := List.take_of_length_le (Nat.le_of_eq List.length_set)
    unfold Post
    rw [e]
    refine ⟨?_, Nat.le_of_eq List.length_set.symm, ⟨_, rfl, h v h1 h2⟩⟩
    rw [List.all_eq_true]
    intro c hc
    rcases List.mem_or_eq_of_mem_set hc with q | q
    · exact List.all_eq_true.mp hok c q
    · rw [q]; rfl
  refine t_run (fd := c_law_drawn) rfl rfl ?_
  refine tx_next (tx_setI_list ?_)
  repeat (first | refine ts_vi rfl rfl rfl ?_ | refine t_vi rfl rfl rfl ?_ | refine ts_int ?_ | refine ts_var rfl ?_ | refine t_bin ?_ | refine t_idx ?_ | refine t_var rfl ?_ | refine t_int ?_ | refine t_bi ?_ | refine ts_cons ?_ | refine ts_nil ?_ | refine rd_c h0 (hdat _) ?_ | refine T.of rfl ?_)
  refine ⟨0, _, 1, rfl, h0, rfl, by lia, by simp, by lia, rfl, ?_⟩
  rw [hset]
  refine x_if ?_
  repeat (first | refine ts_vi rfl rfl rfl ?_ | refine t_vi rfl rfl rfl ?_ | refine ts_int ?_ | refine ts_var rfl ?_ | refine t_cmp ?_ | refine t_idx ?_ | refine t_var rfl ?_ | refine t_int ?_ | refine t_bi ?_ | refine ts_cons ?_ | refine ts_nil ?_ | refine rd_c hS1 (hdat _) ?_ | refine T.of rfl ?_)
  refine T.of (bi_len (by simp [big]; lia)) ?_
  refine T.of rfl (T.of rfl (T.of rfl ⟨_, rfl, fun hc => ?_, fun hc => ?_⟩))
  · have hle : n < xs.length := by have := of_decide_eq_true hc; simp at this; lia
    refine tx_ret1 ?_
    repeat (first | refine ts_vi rfl rfl rfl ?_ | refine t_vi rfl rfl rfl ?_ | refine ts_int ?_ | refine ts_var rfl ?_ | refine t_bin ?_ | refine t_cmp ?_ | refine t_idx ?_ | refine t_var rfl ?_ | refine t_int ?_ | refine t_bi ?_ | refine ts_cons ?_ | refine ts_nil ?_ | refine rd_c hS1 (hdat _) ?_ | refine T.of rfl ?_)
    have hlt : n < xs.length := hle
    have e1 : (xs.map PyData.int)[n]? = some (.int xs[n]) := by simp [hlt]
    generalize xs[n] = x at e1
    refine T.of (a := .int x) ?_ ?_
    · show (if 0 ≤ (((n + 1 : Nat) : Int) - 1) ∧ (((n + 1 : Nat) : Int) - 1) < 1000000 then (xs.map PyData.int)[(((n + 1 : Nat) : Int) - 1).toNat]? else none) = _
      rw [if_pos ⟨by lia, by lia⟩]
      rw [show (((n + 1 : Nat) : Int) - 1).toNat = n by lia]
      exact e1
    repeat (first | refine ts_vi rfl rfl rfl ?_ | refine t_vi rfl rfl rfl ?_ | refine ts_int ?_ | refine ts_var rfl ?_ | refine ts_nil ?_ | refine t_var rfl ?_ | refine T.of rfl ?_)
    refine T.of (if_pos hpos) (fin _ _ (fmod_range _ hm).1 (fmod_range _ hm).2)
  · refine tx_ret1 ?_
    repeat (first | refine ts_vi rfl rfl rfl ?_ | refine t_vi rfl rfl rfl ?_ | refine ts_int ?_ | refine ts_var rfl ?_ | refine t_bin ?_ | refine t_cmp ?_ | refine t_idx ?_ | refine t_var rfl ?_ | refine t_int ?_ | refine t_bi ?_ | refine ts_cons ?_ | refine ts_nil ?_ | refine rd_c hS1 (hdat _) ?_ | refine T.of rfl ?_)
    exact T.of (if_pos hpos) (fin _ _ (fmod_range _ hm).1 (fmod_range _ hm).2)
end Mine
end
end
section
open PySem
set_option maxRecDepth 100000
set_option Elab.async false
set_option autoImplicit false
set_option linter.unusedVariables false
noncomputable section
namespace Mine
theorem lk_eq {ρ : Ro} {i : Nat} {w : Va} : (setV ρ i w).lookup i = some w := by rw [lookup_setV, if_pos rfl]
theorem lk_ne {ρ : Ro} {i j : Nat} {w v : Va} (hij : Nat.beq j i = false) (h : ρ.lookup j = some v) : (setV ρ i w).lookup j = some v := by rw [lookup_setV, if_neg (Nat.ne_of_beq_eq_false hij)]; exact h
theorem fin0 {S : Sto} {ρ : Ro} {x : PyData} {P : Va → Sto → Prop} (hok : OkS S) (h : P (.d x) S) : Post S P (.ret (.d x)) ρ S := by
  unfold Post
  rw [List.take_length]
  exact ⟨hok, Nat.le_refl _, _, rfl, h⟩
theorem fin1 {S N : Sto} {ρ : Ro} {v : Va} {x : PyData} {P : Va → Sto → Prop} (hok : OkS S) (e : frz S.length (S ++ N) 3 v = some x) (h : P (.d x) S) : Post S P (.ret v) ρ (S ++ N) := by
  unfold Post
  rw [List.take_left]
  exact ⟨hok, by simp, _, e, h⟩
noncomputable def rkV (a : Int) (b : Bool) : Int := if b = true ∧ a ≠ 0 then 0 else 1
theorem t_rank {k : Nat} {S : Sto} {a : Int} {b : Bool} {P : Va → Sto → Prop} (hok : OkS S) (h : P (.d (.int (rkV a b))) S) : V (run prg (k + 1) 5 [.d (.int a), .d (.bool b)] S) P := by
  refine t_run (fd := c_rank_of) rfl rfl ?_
  cases b with
  | true =>
    refine tx_ret1 (t_ite (t_and (ta_1 (t_var rfl ⟨rfl, ta_cons (t_cvg rfl rfl rfl ⟨_, rfl, fun hc => ?_, fun hc => ?_⟩)⟩))))
    · refine ta_nil ⟨true, rfl, fun _ => t_int (fin0 hok ?_), fun q => nomatch q⟩
      have : a ≠ 0 := by simpa [PyData.eqv] using hc
      have e : rkV a true = 0 := if_pos ⟨rfl, this⟩
      rw [← e]; exact h
    · refine ⟨false, rfl, (fun q => nomatch q), fun _ => t_int (fin0 hok ?_)⟩
      have : a = 0 := by simpa [PyData.eqv] using hc
      have e : rkV a true = 1 := if_neg (fun q => q.2 this)
      rw [← e]; exact h
  | false => exact tx_ret1 (t_ite0 (t_and (ta_0 (t_var rfl ⟨rfl, rfl, t_int (fin0 hok h)⟩))))
section
variable {fn : Fn} {ρ : Ro} {S : Sto}
theorem x_p {P : Fl → Ro → Sto → Prop} {s : Sm} {r : List Sm} {ρ' : Ro} {S' : Sto} (h : ex1 fn ρ S s = some (.next, ρ', S')) (k : X (exs fn ρ' S' r) P) : X (exs fn ρ S (s :: r)) P := tx_next (X.of h ⟨rfl, k⟩)
theorem x_q {P : Fl → Ro → Sto → Prop} {s : Sm} {r : List Sm} (h : ex1 fn ρ S s = some (.next, ρ, S)) (k : X (exs fn ρ S r) P) : X (exs fn ρ S (s :: r)) P := tx_next (X.of h ⟨rfl, k⟩)
theorem x_call {P : Fl → Ro → Sto → Prop} {f i : Nat} {es : List Ex} {us : List Va} {r : List Sm} (h : evs fn ρ S es = some (us, S)) (k : V (fn f us S) fun u S1 => X (exs fn (setV ρ i u) S1 r) P) : X (exs fn ρ S (.asg (.nm i) (.call f es) :: r)) P := tx_next (tx_asg (t_call (V.of h (k.imp fun _ _ q => T.of rfl ⟨rfl, q⟩))))
theorem t_fn {k f : Nat} {args : List Va} {fd : FnD} {P : Va → Sto → Prop} (hok : OkS S) (e : prg[f]? = some fd) (hl : args.length = fd.params.length)
    (h : X (exs (run prg k) (fd.params.zip args).reverse S fd.body) fun fl _ S2 => ∃ x, fl = .ret (.d x) ∧ S2 = S ∧ P (.d x) S) : V (run prg (k + 1) f args S) P :=
  t_run e hl (h.imp fun _ _ _ ⟨_, e1, e2, q⟩ => by rw [e1, e2]; exact fin0 hok q)
end
structure Way where
  cost : Int
  hops : List (Int × Int)
  area : Int
  intra : Bool
noncomputable def hopsD (hs : List (Int × Int)) : PyData := .tuple (hs.map pairD)
noncomputable def wayD (x : Way) : PyData := .tuple [.int x.cost, hopsD x.hops, .int x.area, .bool x.intra]
noncomputable def wkey (x : Way) : Int × Int × Int := (rkV x.area x.intra, x.cost, -x.area)
noncomputable def klt (p q : Int × Int × Int) : Bool := decide (p.1 < q.1) || (p.1 == q.1 && (decide (p.2.1 < q.2.1) || (p.2.1 == q.2.1 && decide (p.2.2 < q.2.2))))
noncomputable def keyD (p : Int × Int × Int) : PyData := .tuple [.int p.1, .int p.2.1, .int p.2.2]
noncomputable def better : Option Way → Way → Option Way
  | none, y => some y
  | some x, y => if klt (wkey y) (wkey x) then some y else some x
noncomputable def bestW (ws : List Way) : Option Way := ws.foldl better none
noncomputable def optD (f : Way → PyData) : Option Way → PyData
  | none => .none
  | some x => f x
theorem eqv_int (a b : Int) : PyData.eqv (.int a) (.int b) = (a == b) := by simp [PyData.eqv]
theorem cmp_eq_int (a b : Int) : cmpD .eq (.int a) (.int b) = some (decide (a = b)) := by
  show some (PyData.eqv (.int a) (.int b)) = _
  rw [eqv_int]; rfl
theorem lx_any {f : PyData → PyData → Option Bool} {x y : PyData} {xs ys : List PyData} {e l r : Bool} (he : PyData.eqv x y = e) (hl : f x y = some l) (hle : e = true → l = false) (h : lexT f xs ys = some r) : lexT f (x :: xs) (y :: ys) = some (l || (e && r)) := by
  show (if PyData.eqv x y = true then lexT f xs ys else f x y) = _
  rw [he, h, hl]
  cases e with
  | true => rw [hle rfl]; rfl
  | false => rw [if_neg Bool.false_ne_true, Bool.false_and, Bool.or_false]
theorem lx_end {f : PyData → PyData → Option Bool} {x y : PyData} {e l : Bool} (he : PyData.eqv x y = e) (hl : f x y = some l) (hle : e = true → l = false) : lexT f [x] [y] = some l := by
  rw [lx_any he hl hle (show lexT f [] [] = some false from rfl), Bool.and_false, Bool.or_false]
theorem lt_self {a b : Int} (h : (a == b) = true) : decide (a < b) = false := decide_eq_false fun q => Int.lt_irrefl _ (beq_iff_eq.mp h ▸ q)
theorem gt_self {a b : Int} (h : (a == b) = true) : decide (b < a) = false := decide_eq_false fun q => Int.lt_irrefl _ (beq_iff_eq.mp h ▸ q)
theorem lx_int {a b : Int} {xs ys : List PyData} {r : Bool} (h : lexT lt1 xs ys = some r) : lexT lt1 (.int a :: xs) (.int b :: ys) = some (decide (a < b) || (a == b && r)) := lx_any (eqv_int a b) rfl lt_self h
theorem lx_last {a b : Int} : lexT lt1 [.int a] [.int b] = some (decide (a < b)) := lx_end (eqv_int a b) rfl lt_self
theorem cmp_key (p q : Int × Int × Int) : cmpD .lt (keyD p) (keyD q) = some (klt p q) := lx_int (lx_int lx_last)
theorem loop_inv {f : PyData → Ro → Sto → Option (Fl × Ro × Sto)} {P : Fl → Ro → Sto → Prop} (I : List PyData → Ro → Sto → Prop) (turn : ∀ x rest ρ S, I (x :: rest) ρ S → X (f x ρ S) fun fl ρ' S' => (∀ v, fl = .ret v → P (.ret v) ρ' S') ∧ ((∀ v, fl ≠ .ret v) → I rest ρ' S')) (done : ∀ ρ S, I [] ρ S → P .next ρ S) :
    ∀ (xs : List PyData) (ρ : Ro) (S : Sto), I xs ρ S → X (floop f xs ρ S) P
  | [], ρ, S, h => ⟨_, _, _, rfl, done ρ S h⟩
  | x :: xs, ρ, S, h => by
    obtain ⟨fl, ρ1, S1, e, h1, h2⟩ := turn x xs ρ S h
    cases fl with
    | ret v => exact ⟨_, _, _, bnd e rfl, h1 v rfl⟩
    | next =>
      obtain ⟨a, b, c, e2, h3⟩ := loop_inv I turn done xs ρ1 S1 (h2 fun v q => nomatch q)
      exact ⟨_, _, _, bnd e e2, h3⟩
    | cont =>
      obtain ⟨a, b, c, e2, h3⟩ := loop_inv I turn done xs ρ1 S1 (h2 fun v q => nomatch q)
      exact ⟨_, _, _, bnd e e2, h3⟩
theorem ti_list {fn : Fn} {ρ : Ro} {S : Sto} {e : Ex} {P : List PyData → Sto → Prop} (h : V (ev fn ρ S e) fun u S1 => ∃ xs, u = .d (.list xs) ∧ xs.length ≤ big ∧ P xs S1) : V (evIt fn ρ S (.ex e)) P := by
  obtain ⟨u, S1, e1, xs, rfl, hz, h⟩ := h
  exact ⟨_, _, bnd e1 (bnd rfl (if_pos hz)), h⟩
theorem X.bindT {x : Option Ro} {f : Ro → Option (Fl × Ro × Sto)} {P : Fl → Ro → Sto → Prop} (h : T x fun a => X (f a) P) : X (x.bind f) P := by
  obtain ⟨a, e, b, c, d, e2, h⟩ := h
  exact ⟨_, _, _, by rw [e]; exact e2, h⟩
noncomputable def bwD (x : Way) : PyData := .tuple [keyD (wkey x), wayD x]
noncomputable def PrefI (S : Sto) (ws : List Way) (rest : List PyData) (ρ : Ro) (S' : Sto) : Prop := S' = S ∧ ∃ (rem : List Way) (b : Option Way), rest = rem.map wayD ∧ ρ.lookup 12 = some (.d (optD bwD b)) ∧ rem.foldl better b = bestW ws
theorem pref_turn {fn : Fn} {ρ2 : Ro} {S : Sto} {y : Way} {b : Option Way} {P : Fl → Ro → Sto → Prop} (m12 : ρ2.lookup 12 = some (.d (optD bwD b))) (m13 : ρ2.lookup 13 = some (.d (wayD y))) (m14 : ρ2.lookup 14 = some (.d (keyD (wkey y))))
    (h : ∀ ρ : Ro, ρ.lookup 12 = some (.d (optD bwD (better b y))) → P .next ρ S) : X (exs fn ρ2 S [.ife (.or [.isN (.var 12), .cmp .lt (.var 14) (.idx (.var 12) (.int 0))]) [.asg (.nm 12) (.tup [.var 14, .var 13])] []]) P := by
  have take : better b y = some y → X (exs fn ρ2 S [.asg (.nm 12) (.tup [.var 14, .var 13])]) P := fun hb =>
    x_asg (t_tup (ts_var m14 (ts_var m13 (ts_nil (T.of rfl (tx_nil (h _ (lk_eq.trans (by rw [hb]; rfl)))))))))
  cases b with
  | none => exact x_if1 (t_or (to_1 (t_isN (t_var m12 ⟨rfl, rfl, take rfl⟩))))
  | some x0 =>
    refine x_if (t_or (to_0 (t_isN (t_var m12 ⟨rfl, to_cons (t_cmp (t_var m14 (t_vi m12 rfl rfl (T.of rfl (T.of rfl (T.of (cmp_key _ _) ⟨_, rfl, fun hc => ?_, fun hc => ?_⟩))))))⟩))))
    · exact to_nil ⟨false, rfl, (fun q => nomatch q), fun _ => tx_nil (h _ (m12.trans (by rw [better, hc]; rfl)))⟩
    · exact ⟨true, rfl, (fun _ => take (by rw [better, hc]; rfl)), fun q => nomatch q⟩
theorem t_pref {k : Nat} {S : Sto} {ws : List Way} {P : Va → Sto → Prop} (hok : OkS S) (hz : ws.length ≤ big) (h : P (.d (optD wayD (bestW ws))) S) : V (run prg (k + 2) 6 [.d (.list (ws.map wayD))] S) P := by
  refine t_run (fd := c_preferred_way) rfl rfl ?_
  refine x_asg (t_none ?_)
  refine tx_next (tx_loop (ti_list (t_var rfl ⟨_, rfl, Nat.le_trans (Nat.le_of_eq (List.length_map _)) hz, ?_⟩)))
  refine loop_inv (PrefI S ws) ?_ ?_ _ _ _ ⟨rfl, ws, none, rfl, rfl, rfl⟩
  · rintro x rest ρ S' ⟨rfl, rem, b, e1, e2, e3⟩
    cases rem with
    | nil => cases e1
    | cons y rem =>
      cases e1
      refine X.bindT (T.of rfl ?_)
      have l12 := lk_ne (i := 13) (w := .d (wayD y)) rfl e2
      have l13 : (setV ρ 13 (.d (wayD y))).lookup 13 = some (.d (wayD y)) := lk_eq
      generalize setV ρ 13 (.d (wayD y)) = ρ1 at l12 l13
      refine x_asg (t_tup (ts_cons (t_call (ts_vi l13 rfl rfl (ts_vi l13 rfl rfl (ts_nil (t_rank hok ?_)))))))
      refine ts_vi l13 rfl rfl (ts_cons (t_neg (t_vi l13 rfl rfl ⟨_, rfl, ts_nil (T.of rfl ?_)⟩)))
      exact pref_turn (lk_ne rfl l12) (lk_ne rfl l13) lk_eq fun ρ3 hl => ⟨fun v q => (nomatch q), fun _ => ⟨rfl, rem, better b y, rfl, hl, e3⟩⟩
  · rintro ρ S' ⟨rfl, rem, b, e1, e2, e3⟩
    cases rem with
    | cons _ _ => cases e1
    | nil =>
      have e3 : b = bestW ws := e3
      rw [← e3] at h
      cases b with
      | none => exact ⟨rfl, tx_ret1 (t_ite1 (t_isN (t_var e2 ⟨rfl, t_none (fin0 hok h)⟩)))⟩
      | some x0 => exact ⟨rfl, tx_ret1 (t_ite0 (t_isN (t_var e2 ⟨rfl, t_vi e2 rfl rfl (fin0 hok h)⟩)))⟩
end Mine
end
end
section
open PySem
set_option maxRecDepth 100000
set_option Elab.async false
set_option autoImplicit false
set_option linter.unusedVariables false
noncomputable section
namespace Mine
theorem tl_cons {f : PyData → Ro → Sto → Option (Fl × Ro × Sto)} {P : Fl → Ro → Sto → Prop} {x : PyData} {xs : List PyData} {ρ : Ro} {S : Sto} (h : X (f x ρ S) fun fl ρ' S' => (∀ v, fl = .ret v → P (.ret v) ρ' S') ∧ ((∀ v, fl ≠ .ret v) → X (floop f xs ρ' S') P)) : X (floop f (x :: xs) ρ S) P := by
  obtain ⟨fl, ρ1, S1, e, h1, h2⟩ := h
  cases fl with
  | ret v => exact ⟨_, _, _, bnd e rfl, h1 v rfl⟩
  | next => obtain ⟨a, b, c, e2, h3⟩ := h2 (fun v q => nomatch q); exact ⟨_, _, _, bnd e e2, h3⟩
  | cont => obtain ⟨a, b, c, e2, h3⟩ := h2 (fun v q => nomatch q); exact ⟨_, _, _, bnd e e2, h3⟩
theorem t_get {fn : Fn} {ρ : Ro} {S : Sto} {P : Va → Sto → Prop} {o k : Ex} (h : V (ev fn ρ S o) fun u S1 => kindD S1 u = true ∧ V (ev fn ρ S1 k) fun v S2 => ∃ kvs y, rd S2 u = some (.dict kvs) ∧ v = .d y ∧ okK kvs y = true ∧ P (.d ((dget kvs y).getD .none)) S2) : V (ev fn ρ S (.get o k)) P := by
  obtain ⟨u, S1, e1, h1, v, S2, e2, kvs, y, e3, rfl, e4, h⟩ := h
  exact ⟨_, S2, bnd e1 (kif h1 (bnd e2 (bnd e3 (bnd rfl (if_pos e4))))), h⟩
theorem bin_shl {a b c : Int} (h : 0 ≤ b ∧ b ≤ 1000 ∧ a.natAbs < 2 ^ 60) (e : a * 2 ^ b.toNat = c) : binD .shl (.int a) (.int b) = some (.int c) := by subst e; exact if_pos h
theorem t_mask5 {k : Nat} {S : Sto} {l a w : Int} {P : Va → Sto → Prop} (hok : OkS S) (e1 : binD .shl (.int 1) (.int l) = some (.int a)) (e2 : binD .shl (.int (a - 1)) (.int (5 - l)) = some (.int w)) (h : P (.d (.int w)) S) : V (run prg (k + 1) 0 [.d (.int l), .d (.int 5)] S) P :=
  t_run (fd := c_mask_of) rfl rfl <| tx_ret1 <| t_bin <| t_bin <| t_bin <| t_int <| t_var rfl <| T.of rfl <| T.of rfl <| T.of e1 <| t_int <| T.of rfl <| T.of rfl <| T.of rfl <| t_bvv rfl rfl rfl rfl rfl <| T.of rfl <| T.of rfl <| T.of e2 <| fin0 hok h
theorem t_pfx {k : Nat} {S : Sto} {a l b w : Int} {P : Va → Sto → Prop} (hok : OkS S) (e1 : binD .shl (.int 1) (.int l) = some (.int b)) (e2 : binD .shl (.int (b - 1)) (.int (5 - l)) = some (.int w)) (h : P (.d (tupK [Builtin.bitAnd a w, l])) S) : V (run prg (k + 2) 1 [.d (.int a), .d (.int l), .d (.int 5)] S) P :=
  t_run (fd := c_prefix_at) rfl rfl <| tx_ret1 <| t_tup <| ts_cons <| t_bin <| t_var rfl <| t_call <| ts_var rfl <| ts_var rfl <| ts_nil <| t_mask5 hok e1 e2 <| T.of rfl <| T.of rfl <| T.of rfl <| ts_var rfl <| ts_nil <| T.of rfl <| fin0 hok h
noncomputable def tabD (near far : PyData) : PyData := .dict [(tupK [16, 2], near), (tupK [8, 2], far)]
theorem ti_down {fn : Fn} {ρ : Ro} {S : Sto} {e : Ex} {P : List PyData → Sto → Prop} (h : V (ev fn ρ S e) fun u S1 => ∃ n, u = .d (.int n) ∧ n ≤ 1000 ∧ -1000 ≤ n ∧ P (downFrom n) S1) : V (evIt fn ρ S (.down e)) P := by
  obtain ⟨u, S1, e1, n, rfl, h1, h2, h⟩ := h
  exact ⟨_, S1, bnd e1 (if_pos ⟨h1, h2⟩), h⟩
noncomputable def LookAt (tab : PyData) (a : Int) (ρ : Ro) : Prop := ρ.lookup 3 = some (.d tab) ∧ ρ.lookup 2 = some (.d (.int a)) ∧ ρ.lookup 1 = some (.d (.int 5))
theorem LookAt.set {tab : PyData} {a : Int} {ρ : Ro} {i : Nat} {v : Va} (h : LookAt tab a ρ) (h3 : Nat.beq 3 i = false) (h2 : Nat.beq 2 i = false) (h1 : Nat.beq 1 i = false) : LookAt tab a (setV ρ i v) := ⟨lk_ne h3 h.1, lk_ne h2 h.2.1, lk_ne h1 h.2.2⟩
theorem look_turn {k : Nat} {S : Sto} {ρ : Ro} {kvs : List (PyData × PyData)} {a l b w : Int} {d : PyData} {P : Fl → Ro → Sto → Prop} (hok : OkS S) (e1 : binD .shl (.int 1) (.int l) = some (.int b)) (e2 : binD .shl (.int (b - 1)) (.int (5 - l)) = some (.int w)) (hkk : okK kvs (tupK [Builtin.bitAnd a w, l]) = true) (hg : (dget kvs (tupK [Builtin.bitAnd a w, l])).getD .none = d) (hl : LookAt (.dict kvs) a ρ)
    (hn : noneV (.d d) = true → ∀ ρ', LookAt (.dict kvs) a ρ' → P .next ρ' S) (hs : noneV (.d d) = false → ∀ ρ', P (.ret (.d d)) ρ' S) :
    X ((bindTg (.nm 0) (.d (.int l)) ρ).bind fun ρ'' => exs (run prg (k + 2)) ρ'' S [.asg (.nm 7) (.get (.var 3) (.call 1 [(.var 2), (.var 0), (.var 1)])), .ife (.isNotN (.var 7)) [.ret (.var 7)] []]) P := by
  subst hg
  refine X.bindT (T.of rfl ?_)
  have l0 : (setV ρ 0 (.d (.int l))).lookup 0 = some (.d (.int l)) := lk_eq
  have hl := hl.set (i := 0) (v := .d (.int l)) rfl rfl rfl
  generalize setV ρ 0 (.d (.int l)) = ρ1 at l0 hl
  refine x_asg (t_get (t_var hl.1 ⟨rfl, t_call (ts_var hl.2.1 (ts_var l0 (ts_var hl.2.2 (ts_nil (t_pfx hok e1 e2 ⟨kvs, _, rfl, rfl, hkk, ?_⟩)))))⟩))
  refine x_if (t_isNotN (t_var lk_eq ⟨_, rfl, fun hc => ?_, fun hc => ?_⟩))
  · exact tx_ret1 (t_var lk_eq (hs (by simpa using hc) _))
  · exact tx_nil (hn (by simpa using hc) _ (hl.set rfl rfl rfl))
theorem t_look {k : Nat} {S : Sto} {a : Int} {kvs : List (PyData × PyData)} {d : PyData} {P : Va → Sto → Prop} (hok : OkS S) (hkk : ∀ x l : Int, okK kvs (tupK [x, l]) = true) (g5 : dget kvs (tupK [Builtin.bitAnd a 31, 5]) = none) (g4 : dget kvs (tupK [Builtin.bitAnd a 30, 4]) = none) (g3 : dget kvs (tupK [Builtin.bitAnd a 28, 3]) = none) (g2 : dget kvs (tupK [Builtin.bitAnd a 24, 2]) = some d) (hn : noneV (.d d) = false) (h : P (.d d) S) : V (run prg (k + 3) 4 [.d (.dict kvs), .d (.int a), .d (.int 5)] S) P := by
  refine t_run (fd := c_looked_up) rfl rfl (tx_cons (tx_loop (ti_down (t_var rfl ⟨5, rfl, by decide, by decide, ?_⟩))))
  show X (floop _ [.int 5, .int 4, .int 3, .int 2, .int 1, .int 0] _ S) _
  refine X.gen fun Q hQ => ?_
  refine tl_cons (look_turn (a := a) (l := 5) (b := 32) (w := 31) (d := .none) hok (bin_shl (by decide) rfl) (bin_shl (by decide) rfl) (hkk _ _) (by rw [g5]; try rfl) ⟨rfl, rfl, rfl⟩ (fun _ ρ1 L => ⟨fun v q => (nomatch q), fun _ => ?_⟩) (fun q => (nomatch q)))
  refine tl_cons (look_turn (l := 4) (b := 16) (w := 30) (d := .none) hok (bin_shl (by decide) rfl) (bin_shl (by decide) rfl) (hkk _ _) (by rw [g4]; try rfl) L (fun _ ρ1 L => ⟨fun v q => (nomatch q), fun _ => ?_⟩) (fun q => (nomatch q)))
  refine tl_cons (look_turn (l := 3) (b := 8) (w := 28) (d := .none) hok (bin_shl (by decide) rfl) (bin_shl (by decide) rfl) (hkk _ _) (by rw [g3]; try rfl) L (fun _ ρ1 L => ⟨fun v q => (nomatch q), fun _ => ?_⟩) (fun q => (nomatch q)))
  refine tl_cons (look_turn (l := 2) (b := 4) (w := 24) hok (bin_shl (by decide) rfl) (bin_shl (by decide) rfl) (hkk _ _) (by rw [g2]; try rfl) L (fun q => Bool.noConfusion (q.symm.trans hn)) (fun _ ρ1 => ⟨fun v e => ?_, fun q => absurd rfl (q _)⟩))
  cases e
  exact hQ _ _ _ ⟨fun q => (nomatch q), fun _ => fin0 hok h⟩
theorem t_look17 {k : Nat} {S : Sto} {near far : PyData} {P : Va → Sto → Prop} (hok : OkS S) (hn : noneV (.d near) = false) (h : P (.d near) S) : V (run prg (k + 3) 4 [.d (tabD near far), .d (.int 17), .d (.int 5)] S) P := t_look hok (fun x l => rfl) rfl rfl rfl rfl hn h
theorem t_look9 {k : Nat} {S : Sto} {near far : PyData} {P : Va → Sto → Prop} (hok : OkS S) (hn : noneV (.d far) = false) (h : P (.d far) S) : V (run prg (k + 3) 4 [.d (tabD near far), .d (.int 9), .d (.int 5)] S) P := t_look hok (fun x l => rfl) rfl rfl rfl rfl hn h
end Mine
end
end
section
open PySem
set_option maxRecDepth 100000
set_option Elab.async false
set_option autoImplicit false
set_option linter.unusedVariables false
noncomputable section
namespace Mine
section
variable {fn : Fn} {ρ : Ro} {S : Sto}
theorem o_none {P : Option Int → Sto → Prop} (h : P none S) : V (evO fn ρ S none) P := ⟨_, _, rfl, h⟩
theorem o_some {e : Ex} {P : Option Int → Sto → Prop} (h : V (ev fn ρ S e) fun u S1 => ∃ i, u = .d (.int i) ∧ P (some i) S1) : V (evO fn ρ S (some e)) P := by
  obtain ⟨u, S1, e1, i, rfl, h⟩ := h
  exact ⟨_, S1, bnd e1 rfl, h⟩
theorem t_sl_tup {a : Ex} {lo hi : Option Ex} {P : Va → Sto → Prop} (h : V (ev fn ρ S a) fun u S1 => V (evO fn ρ S1 lo) fun o1 S2 => V (evO fn ρ S2 hi) fun o2 S3 => ∃ xs, rd S3 u = some (.tuple xs) ∧ xs.length ≤ big ∧ P (.d (.tuple (pickL xs o1 o2))) S3) : V (ev fn ρ S (.sl a lo hi)) P := by
  obtain ⟨u, S1, e1, o1, S2, e2, o2, S3, e3, xs, e4, h1, h⟩ := h
  exact ⟨_, S3, bnd e1 (bnd e2 (bnd e3 (bnd e4 (if_pos h1)))), h⟩
theorem t_sl_list {a : Ex} {lo hi : Option Ex} {P : Va → Sto → Prop} (h : V (ev fn ρ S a) fun u S1 => V (evO fn ρ S1 lo) fun o1 S2 => V (evO fn ρ S2 hi) fun o2 S3 => ∃ xs, rd S3 u = some (.list xs) ∧ xs.length ≤ big ∧ P (.d (.list (pickL xs o1 o2))) S3) : V (ev fn ρ S (.sl a lo hi)) P := by
  obtain ⟨u, S1, e1, o1, S2, e2, o2, S3, e3, xs, e4, h1, h⟩ := h
  exact ⟨_, S3, bnd e1 (bnd e2 (bnd e3 (bnd e4 (if_pos h1)))), h⟩
theorem t_rev {a : Ex} {P : Va → Sto → Prop} (h : V (ev fn ρ S a) fun u S1 => ∃ xs, rd S1 u = some (.list xs) ∧ xs.length ≤ big ∧ P (.d (.list xs.reverse)) S1) : V (ev fn ρ S (.rev a)) P := by
  obtain ⟨u, S1, e1, xs, e4, h1, h⟩ := h
  exact ⟨_, S1, bnd e1 (bnd e4 (if_pos h1)), h⟩
end
structure Row where
  net : Int
  sender : Int
  q : Int
  sec : Bool
  met : Int
  fwd : Int
noncomputable def headD (r : Row) : PyData := .tuple [.int 1, .int 2, .int 5, .int r.net, .int r.sender, .int r.q, .int 0]
noncomputable def bodyD (r : Row) : PyData := .tuple [.str (Str.ofString "external"), .int 2, .bool r.sec, .int r.met, .int r.fwd, .int 0]
noncomputable def rowD (r : Row) : PyData := .tuple [headD r, bodyD r]
noncomputable def nearD (c a : Int) : PyData := .tuple [tupK [16, 2], .str (Str.ofString "intra"), .int c, .int 0, .int a, hopsD [(4, 0)]]
noncomputable def farD (c : Int) : PyData := .tuple [tupK [8, 2], .str (Str.ofString "inter"), .int c, .int 0, .int 0, hopsD [(5, 6), (6, 6)]]
noncomputable def outD (o : Int × List (Int × Int) × Int) : PyData := .tuple [.int o.1, hopsD o.2.1, .int o.2.2]
noncomputable def ownOut (ws : List Way) : Option (Int × List (Int × Int) × Int) := (bestW ws).map fun x => (x.cost, x.hops, rkV x.area x.intra)
theorem t_out0 {k : Nat} {S : Sto} {r : Row} {ws : List Way} {near far : PyData} {P : Va → Sto → Prop} (hok : OkS S) (hz : ws.length ≤ big) (hf : r.fwd = 0) (h : P (.d (match ownOut ws with | none => .none | some o => outD o)) S) :
    V (run prg (k + 3) 7 [.d (bodyD r), .d (.list (ws.map wayD)), .d (tabD near far), .d (.int 5)] S) P := by
  refine t_run (fd := c_way_out) rfl rfl ?_
  refine x_p rfl ?_
  refine x_if1 <| t_cmp <| t_var rfl <| t_int <| T.of rfl <| T.of rfl <| T.of (a := true) (by rw [hf]; rfl) ⟨rfl, ?_⟩
  refine x_asg <| t_call <| ts_var rfl <| ts_nil <| t_pref hok hz ?_
  unfold ownOut at h
  cases hb : bestW ws with
  | none =>
    rw [hb] at h
    exact tx_ret1 <| t_ite1 <| t_isN <| t_var rfl ⟨rfl, t_none (fin0 hok h)⟩
  | some x =>
    rw [hb] at h
    exact tx_ret1 <| t_ite0 <| t_isN <| t_var rfl ⟨rfl, t_tup <| ts_vi rfl rfl rfl <| ts_vi rfl rfl rfl <| ts_cons <| t_call <| ts_vi rfl rfl rfl <| ts_vi rfl rfl rfl <| ts_nil <| t_rank hok <| ts_nil <| T.of rfl (fin0 hok h)⟩
end Mine
end
end
section
open PySem
set_option maxRecDepth 100000
set_option Elab.async false
set_option autoImplicit false
set_option linter.unusedVariables false
noncomputable section
namespace Mine
section
variable {fn : Fn} {ρ : Ro} {S : Sto}
noncomputable def cbody (fn : Fn) (ρ : Ro) (elt : Ex) (tg : Tg) (ifs : List Ex) (y : PyData) (S₁ : Sto) : Option (Option PyData × Sto) := (bindTg tg (.d y) ρ).bind fun ρ' => (evTests fn ρ' S₁ ifs).bind fun t => if t.1 then (ev fn ρ' t.2 elt).bind fun u => (dat u.1).map fun z => (some z, u.2) else some (none, t.2)
theorem t_comp {elt it : Ex} {tg : Tg} {ifs : List Ex} {P : Va → Sto → Prop} (h : V (ev fn ρ S it) fun u S1 => ∃ x xs, u = .d x ∧ items x = some xs ∧ xs.length ≤ big ∧ V (cloop (cbody fn ρ elt tg ifs) xs S1) fun ys S2 => P (.d (.list ys)) S2) : V (ev fn ρ S (.comp elt tg it ifs)) P := by
  obtain ⟨u, S1, e1, x, xs, rfl, e2, hz, ys, S2, e3, h⟩ := h
  exact ⟨_, S2, bnd e1 (bnd e2 ((if_pos hz).trans (mpd e3))), h⟩
theorem c_nil {f : PyData → Sto → Option (Option PyData × Sto)} {P : List PyData → Sto → Prop} (h : P [] S) : V (cloop f [] S) P := ⟨_, _, rfl, h⟩
noncomputable def optCons (o : Option PyData) (ys : List PyData) : List PyData := match o with
  | some y => y :: ys
  | none => ys
theorem c_cons {f : PyData → Sto → Option (Option PyData × Sto)} {x : PyData} {xs : List PyData} {P : List PyData → Sto → Prop} (h : V (f x S) fun o S1 => V (cloop f xs S1) fun ys S2 => P (optCons o ys) S2) : V (cloop f (x :: xs) S) P := by
  obtain ⟨o, S1, e1, ys, S2, e2, h⟩ := h
  exact ⟨optCons o ys, S2, bnd e1 (mpd e2), h⟩
theorem c_body {elt : Ex} {tg : Tg} {ifs : List Ex} {y : PyData} {P : Option PyData → Sto → Prop} (h : T (bindTg tg (.d y) ρ) fun ρ' => V (evTests fn ρ' S ifs) fun b S1 => (b = true → V (ev fn ρ' S1 elt) fun u S2 => ∃ z, u = .d z ∧ P (some z) S2) ∧ (b = false → P none S1)) : V (cbody fn ρ elt tg ifs y S) P := by
  obtain ⟨ρ', e1, b, S1, e2, h1, h2⟩ := h
  unfold cbody
  cases b with
  | true =>
    obtain ⟨u, S2, e3, z, rfl, h⟩ := h1 rfl
    exact ⟨some z, S2, bnd e1 (bnd e2 (bnd e3 rfl)), h⟩
  | false => exact ⟨none, S1, bnd e1 (bnd e2 rfl), h2 rfl⟩
theorem tt_nil {P : Bool → Sto → Prop} (h : P true S) : V (evTests fn ρ S []) P := ⟨_, _, rfl, h⟩
theorem tt_cons {e : Ex} {es : List Ex} {P : Bool → Sto → Prop} (h : V (ev fn ρ S e) fun u S1 => ∃ c, u = .d (.bool c) ∧ (c = true → V (evTests fn ρ S1 es) P) ∧ (c = false → P false S1)) : V (evTests fn ρ S (e :: es)) P := by
  obtain ⟨u, S1, e1, c, rfl, h1, h2⟩ := h
  cases c
  · exact ⟨false, S1, bnd e1 rfl, h2 rfl⟩
  · obtain ⟨v, S2, e, h⟩ := h1 rfl; exact ⟨v, S2, bnd e1 e, h⟩
end
end Mine
end
end
section
open PySem
set_option maxRecDepth 100000
set_option Elab.async false
set_option autoImplicit false
set_option linter.unusedVariables false
noncomputable section
namespace Mine
theorem t_out17 {k : Nat} {S : Sto} {r : Row} {wd : PyData} {c a : Int} {far : PyData} {P : Va → Sto → Prop} (hok : OkS S) (hf : r.fwd = 17) (h : P (.d (outD (c, [(4, 17)], rkV a true))) S) :
    V (run prg (k + 4) 7 [.d (bodyD r), .d wd, .d (tabD (nearD c a) far), .d (.int 5)] S) P := by
  obtain ⟨net, sender, q, sec, met, fwd⟩ := r
  cases hf
  refine t_fn hok (fd := c_way_out) rfl rfl ?_
  refine x_p rfl <| x_q rfl <| x_call rfl <| t_look17 hok rfl ?_
  refine x_q (by kernel_rfl) ?_
  refine x_p rfl ?_
  refine tx_ret1 <| t_tup <| ts_vi rfl rfl rfl <| ts_cons <| V.of (a := .d (hopsD [(4, 17)])) rfl ?_
  exact ts_cons <| t_call <| V.of (a := [.d (.int a), .d (.bool true)]) (by kernel_rfl) <| t_rank hok <| ts_nil <| T.of rfl ⟨_, rfl, rfl, h⟩
theorem t_out9 {k : Nat} {S : Sto} {r : Row} {wd : PyData} {c : Int} {near : PyData} {P : Va → Sto → Prop} (hok : OkS S) (hf : r.fwd = 9) (h : P (.d (outD (c, [(5, 6), (6, 6)], 1))) S) :
    V (run prg (k + 4) 7 [.d (bodyD r), .d wd, .d (tabD near (farD c)), .d (.int 5)] S) P := by
  obtain ⟨net, sender, q, sec, met, fwd⟩ := r
  cases hf
  refine t_fn hok (fd := c_way_out) rfl rfl ?_
  refine x_p rfl <| x_q rfl <| x_call rfl <| t_look9 hok rfl ?_
  refine x_q (by kernel_rfl) ?_
  refine x_p rfl ?_
  refine tx_ret1 <| t_tup <| ts_vi rfl rfl rfl <| ts_cons <| V.of (a := .d (hopsD [(5, 6), (6, 6)])) rfl ?_
  exact ts_cons <| t_call <| V.of (a := [.d (.int 0), .d (.bool false)]) (by kernel_rfl) <| t_rank hok <| ts_nil <| T.of rfl ⟨_, rfl, rfl, h⟩
end Mine
end
end
section
open PySem
set_option maxRecDepth 100000
set_option Elab.async false
set_option autoImplicit false
set_option linter.unusedVariables false
noncomputable section
namespace Mine
abbrev Place := Int × Int × Int × Int
noncomputable def placeD (p : Place) : PyData := .tuple [.int p.1, .int p.2.1, .int p.2.2.1, .int p.2.2.2]
abbrev Out := Int × List (Int × Int) × Int
noncomputable def worth (r : Row) (o : Out) : Place := if r.sec then (1, r.met, o.2.2, o.1) else (0, 0, o.2.2, o.1 + r.met)
theorem t_worth {k : Nat} {S : Sto} {r : Row} {o : Out} {P : Va → Sto → Prop} (hok : OkS S) (h : P (.d (placeD (worth r o))) S) : V (run prg (k + 1) 8 [.d (bodyD r), .d (outD o)] S) P := by
  obtain ⟨net, sender, q, sec, met, fwd⟩ := r
  cases sec with
  | true => exact t_fn hok (fd := c_external_worth) rfl rfl (x_if1 (t_vi rfl rfl rfl ⟨rfl, tx_ret1 (V.of (a := .d (placeD (1, met, o.2.2, o.1))) (by kernel_rfl) ⟨_, rfl, rfl, h⟩)⟩))
  | false => exact t_fn hok (fd := c_external_worth) rfl rfl (x_if0 (t_vi rfl rfl rfl ⟨rfl, tx_ret1 (V.of (a := .d (placeD (0, 0, o.2.2, o.1 + met))) (by kernel_rfl) ⟨_, rfl, rfl, h⟩)⟩))
end Mine
end
end
section
open PySem
set_option maxRecDepth 100000
set_option Elab.async false
set_option autoImplicit false
set_option linter.unusedVariables false
noncomputable section
namespace Mine
theorem pairsOf_pairD : ∀ hs : List (Int × Int), pairsOf (hs.map pairD) = some hs
  | [] => rfl
  | (a, b) :: r => by show (pairsOf (r.map pairD)).map ((a, b) :: ·) = _; rw [pairsOf_pairD r]; rfl
theorem sortL_pairs {hs : List (Int × Int)} (hn : hs.Nodup) (hl : hs.length < 64) : sortL (hs.map pairD) = some (.list ((psort hs).map pairD)) := by
  unfold sortL
  rw [pairsOf_pairD]
  simp only [Option.bind_some]
  rw [if_pos (by rw [nodup_distinct hn]; simpa using hl)]
theorem psort_len (hs : List (Int × Int)) : (psort hs).length = hs.length := (psort_perm hs).length_eq
noncomputable def toldD (n : Int) (p : Place) (hs : List (Int × Int)) : PyData :=
  if p.1 = 1 then .tuple [tupK [n, 2], .str (Str.ofString "ext2"), .int p.2.2.2, .int p.2.1, .int 0, hopsD (psort hs)]
  else .tuple [tupK [n, 2], .str (Str.ofString "ext1"), .int p.2.2.2, .int 0, .int 0, hopsD (psort hs)]
theorem told_rest {fn : Fn} {ρ : Ro} {S : Sto} {u w x : PyData} {a b d : Int} {xs ys ps : List PyData} {Q : Fl → Ro → Sto → Prop} (l35 : ρ.lookup 35 = some (.d u)) (l14 : ρ.lookup 14 = some (.d (.tuple (.int a :: .int b :: x :: .int d :: ps)))) (l21 : ρ.lookup 21 = some (.d (.list xs))) (hs : biD .sorted [.list xs] = some (.list ys)) (ht : biD .tuple [.list ys] = some w)
    (h1 : a = 1 → Q (.ret (.d (.tuple [u, .str (Str.ofString "ext2"), .int d, .int b, .int 0, w]))) ρ S) (h0 : ¬ a = 1 → Q (.ret (.d (.tuple [u, .str (Str.ofString "ext1"), .int d, .int 0, .int 0, w]))) ρ S) : X (exs fn ρ S c_route_told.body.tail) Q := by
  refine x_if <| t_cmp <| t_vi l14 rfl rfl <| t_int <| T.of rfl <| T.of rfl <| T.of (cmp_eq_int _ _) ⟨_, rfl, fun hc => ?_, fun hc => ?_⟩
  · exact tx_ret1 <| t_tup <| ts_var l35 <| ts_str <| ts_vi l14 rfl rfl <| ts_vi l14 rfl rfl <| ts_cons <| t_glob <| ts_cons <| t_bi <| ts_cons <| t_bi <| ts_var l21 <| ts_nil <| T.of rfl <| T.of hs <| ts_nil <| T.of rfl <| T.of ht <| ts_nil <| T.of rfl (h1 (of_decide_eq_true hc))
  · exact tx_ret1 <| t_tup <| ts_var l35 <| ts_str <| ts_vi l14 rfl rfl <| ts_int <| ts_cons <| t_glob <| ts_cons <| t_bi <| ts_cons <| t_bi <| ts_var l21 <| ts_nil <| T.of rfl <| T.of hs <| ts_nil <| T.of rfl <| T.of ht <| ts_nil <| T.of rfl (h0 (of_decide_eq_false hc))
theorem t_told {k : Nat} {S : Sto} {n : Int} {p : Place} {hs : List (Int × Int)} {P : Va → Sto → Prop} (hok : OkS S) (hn : hs.Nodup) (hl : hs.length < 64) (h : P (.d (toldD n p hs)) S) : V (run prg (k + 1) 10 [.d (tupK [n, 2]), .d (.tuple [placeD p, .list (hs.map pairD)])] S) P := by
  have hsort := sortL_pairs hn hl
  have htup : biD .tuple [.list ((psort hs).map pairD)] = some (hopsD (psort hs)) := if_pos (by rw [List.length_map, psort_len]; simp [big]; lia)
  exact t_run (fd := c_route_told) rfl rfl <| x_p rfl <| told_rest rfl rfl rfl hsort htup (fun q => fin0 hok (by rw [toldD, if_pos q] at h; exact h)) (fun q => fin0 hok (by rw [toldD, if_neg q] at h; exact h))
end Mine
end
end
section
open PySem
set_option maxRecDepth 100000
set_option Elab.async false
set_option autoImplicit false
set_option linter.unusedVariables false
noncomputable section
namespace Mine
abbrev Lead := List (Int × List Way)
noncomputable def leadD (W : Lead) : PyData := .dict (W.map fun p => (.int p.1, .list (p.2.map wayD)))
structure Tab where
  c1 : Int
  a1 : Int
  c2 : Int
noncomputable def tabOf (t : Tab) : PyData := tabD (nearD t.c1 t.a1) (farD t.c2)
noncomputable def outOf (t : Tab) (r : Row) (ws : List Way) : Option Out := if r.fwd = 0 then ownOut ws else if r.fwd = 17 then some (t.c1, [(4, 17)], rkV t.a1 true) else some (t.c2, [(5, 6), (6, 6)], 1)
abbrev Cand := Int × Place × List (Int × Int)
noncomputable def cand (W : Lead) (t : Tab) (r : Row) : Option Cand := (W.lookup r.sender).bind fun ws => (outOf t r ws).map fun o => (r.net, worth r o, o.2.1)
noncomputable def p4lt (p q : Place) : Bool := decide (p.1 < q.1) || (p.1 == q.1 && (decide (p.2.1 < q.2.1) || (p.2.1 == q.2.1 && (decide (p.2.2.1 < q.2.2.1) || (p.2.2.1 == q.2.2.1 && decide (p.2.2.2 < q.2.2.2))))))
noncomputable def foundD (c : Cand) : PyData := .tuple [placeD c.2.1, .list (c.2.2.map pairD)]
noncomputable def upd (old new : Cand) : Cand := if p4lt new.2.1 old.2.1 then new else if new.2.1 = old.2.1 then (old.1, old.2.1, old.2.2 ++ new.2.2.filter fun h => !old.2.2.contains h) else old
noncomputable def mergeB : List Cand → Cand → List Cand
  | [], c => [c]
  | d :: r, c => if d.1 = c.1 then upd d c :: r else d :: mergeB r c
theorem mergeB_cons (d : Cand) (r : List Cand) (c : Cand) : mergeB (d :: r) c = if d.1 = c.1 then upd d c :: r else d :: mergeB r c := rfl
noncomputable def bestD (Bs : List Cand) : List (PyData × Va) := Bs.map fun c => (tupK [c.1, 2], .d (foundD c))
theorem cmp_place (p q : Place) : cmpD .lt (placeD p) (placeD q) = some (p4lt p q) := lx_int (lx_int (lx_int lx_last))
end Mine
end
end
section
open PySem
set_option maxRecDepth 100000
set_option Elab.async false
set_option autoImplicit false
set_option linter.unusedVariables false
noncomputable section
namespace Mine
noncomputable def findB (Bs : List Cand) (n : Int) : Option Cand := Bs.find? fun c => decide (c.1 = n)
theorem keq_net (a b : Int) : keq (tupK [a, 2]) (tupK [b, 2]) = decide (a = b) := by rw [keq_tup]; simp
theorem dget_best (n : Int) : ∀ Bs : List Cand, dget (bestD Bs) (tupK [n, 2]) = (findB Bs n).map fun c => Va.d (foundD c)
  | [] => rfl
  | c :: r => by
    have ih := dget_best n r
    simp only [bestD, List.map_cons, dget, List.find?_cons, keq_net, findB] at ih ⊢
    by_cases e : c.1 = n
    · simp [e]
    · simp only [e, decide_false]; exact ih
theorem ok_best (Bs : List Cand) (n : Int) : okK (bestD Bs) (tupK [n, 2]) = true := by
  unfold okK
  rw [isTK_tupK]
  have : (bestD Bs).all (fun p => isTK p.1) = true := by
    unfold bestD
    rw [List.all_map]
    exact List.all_eq_true.mpr fun c _ => isTK_tupK _
  rw [this]; simp
end Mine
end
end
section
open PySem
set_option maxRecDepth 100000
set_option Elab.async false
set_option autoImplicit false
set_option linter.unusedVariables false
noncomputable section
namespace Mine
theorem dput_best (new : Cand) : ∀ Bs : List Cand, (Bs.map (·.1)).Nodup → dput (bestD Bs) (tupK [new.1, 2]) (Va.d (foundD new)) = bestD (if (findB Bs new.1).isSome then Bs.map (fun c => if c.1 = new.1 then new else c) else Bs ++ [new]) := by
  intro Bs hn
  have hf : ((bestD Bs).find? fun p => keq p.1 (tupK [new.1, 2])).isSome = (findB Bs new.1).isSome := by
    have := dget_best new.1 Bs
    unfold dget at this
    have e := congrArg Option.isSome this
    simpa using e
  unfold dput
  rw [hf]
  by_cases q : (findB Bs new.1).isSome = true
  · rw [if_pos q, if_pos q]
    unfold bestD
    rw [List.map_map, List.map_map]
    refine List.map_congr_left fun c _ => ?_
    simp only [Function.comp, keq_net]
    by_cases e : c.1 = new.1
    · simp [e]
    · simp [e]
  · rw [if_neg q, if_neg q]
    unfold bestD
    simp
end Mine
end
end
section
open PySem
set_option maxRecDepth 100000
set_option Elab.async false
set_option autoImplicit false
set_option linter.unusedVariables false
noncomputable section
namespace Mine
theorem merge_none {new : Cand} : ∀ {Bs : List Cand}, findB Bs new.1 = none → mergeB Bs new = Bs ++ [new]
  | [], _ => rfl
  | c :: r, h => by
    simp only [findB, List.find?_cons] at h
    by_cases e : c.1 = new.1
    · simp [e] at h
    · simp only [e, decide_false] at h
      simp only [mergeB_cons, e, if_false, List.cons_append]
      rw [merge_none h]
theorem map_out {new x : Cand} : ∀ {Bs : List Cand}, new.1 ∉ Bs.map (·.1) → Bs.map (fun c => if c.1 = new.1 then x else c) = Bs
  | [], _ => rfl
  | c :: r, h => by
    have h1 : c.1 ≠ new.1 := fun q => h (by rw [List.map_cons, q]; exact .head _)
    rw [List.map_cons, if_neg h1, map_out fun q => h (.tail _ q)]
theorem merge_some {new old : Cand} : ∀ {Bs : List Cand}, (Bs.map (·.1)).Nodup → findB Bs new.1 = some old → mergeB Bs new = Bs.map fun c => if c.1 = new.1 then upd old new else c
  | [], _, h => by cases h
  | c :: r, hn, h => by
    rw [List.map_cons, List.nodup_cons] at hn
    simp only [findB, List.find?_cons] at h
    by_cases e : c.1 = new.1
    · simp only [e, decide_true] at h
      cases h
      rw [List.map_cons, if_pos e, map_out (by rw [← e]; exact hn.1)]
      simp [mergeB_cons, e]
    · simp only [e, decide_false] at h
      rw [List.map_cons, if_neg e]
      simp only [mergeB_cons, e, if_false]
      rw [merge_some hn.2 h]
end Mine
end
end
section
open PySem
set_option maxRecDepth 100000
set_option Elab.async false
set_option autoImplicit false
set_option linter.unusedVariables false
noncomputable section
namespace Mine
theorem p4_iff (p q : Place) : p4lt p q = true ↔ p.1 < q.1 ∨ p.1 = q.1 ∧ (p.2.1 < q.2.1 ∨ p.2.1 = q.2.1 ∧ (p.2.2.1 < q.2.2.1 ∨ p.2.2.1 = q.2.2.1 ∧ p.2.2.2 < q.2.2.2)) := by
  simp only [p4lt, Bool.or_eq_true, Bool.and_eq_true, decide_eq_true_eq, beq_iff_eq]
theorem p4_not (p q : Place) : p4lt p q = false ↔ ¬ (p.1 < q.1 ∨ p.1 = q.1 ∧ (p.2.1 < q.2.1 ∨ p.2.1 = q.2.1 ∧ (p.2.2.1 < q.2.2.1 ∨ p.2.2.1 = q.2.2.1 ∧ p.2.2.2 < q.2.2.2))) := by
  rw [← p4_iff]; simp
theorem place_ext {p q : Place} (h1 : p.1 = q.1) (h2 : p.2.1 = q.2.1) (h3 : p.2.2.1 = q.2.2.1) (h4 : p.2.2.2 = q.2.2.2) : p = q := by
  obtain ⟨a, b, c, d⟩ := p
  obtain ⟨e, f, g, i⟩ := q
  simp only at h1 h2 h3 h4
  rw [h1, h2, h3, h4]
section
variable {a b c : Int} {r1 r2 r3 : Prop}
theorem lx_low (h1 : ¬(a < b ∨ a = b ∧ r1)) (h2 : ¬(b < c ∨ b = c ∧ r2)) (h : ¬r1 → ¬r2 → ¬r3) : ¬(a < c ∨ a = c ∧ r3) := by
  have l1 : b ≤ a := Int.not_lt.mp fun x => h1 (.inl x)
  have l2 : c ≤ b := Int.not_lt.mp fun x => h2 (.inl x)
  rintro (q | ⟨q, r⟩)
  · exact Int.not_lt.mpr (Int.le_trans l2 l1) q
  · have e : a = b := Int.le_antisymm (by rw [q]; exact l2) l1
    exact h (fun x => h1 (.inr ⟨e, x⟩)) (fun x => h2 (.inr ⟨e.symm.trans q, x⟩)) r
theorem lx_asym (h1 : a < b ∨ a = b ∧ r1) (h : r1 → ¬r2) : ¬(b < a ∨ b = a ∧ r2) := by
  rintro (q | ⟨q, r⟩)
  · rcases h1 with p | ⟨p, _⟩
    · exact Int.lt_irrefl _ (Int.lt_trans p q)
    · rw [p] at q; exact Int.lt_irrefl _ q
  · rcases h1 with p | ⟨p, x⟩
    · rw [q] at p; exact Int.lt_irrefl _ p
    · exact h x r
theorem lx_tri (h1 : ¬(a < b ∨ a = b ∧ r1)) (h2 : ¬(b < a ∨ b = a ∧ r2)) : a = b ∧ ¬r1 ∧ ¬r2 := by
  have e : a = b := Int.le_antisymm (Int.not_lt.mp fun x => h2 (.inl x)) (Int.not_lt.mp fun x => h1 (.inl x))
  exact ⟨e, fun x => h1 (.inr ⟨e, x⟩), fun x => h2 (.inr ⟨e.symm, x⟩)⟩
theorem lx_trans (h1 : a < b ∨ a = b ∧ r1) (h2 : ¬(c < b ∨ c = b ∧ r2)) (h : r1 → ¬r2 → r3) : a < c ∨ a = c ∧ r3 := by
  have l2 : b ≤ c := Int.not_lt.mp fun x => h2 (.inl x)
  rcases h1 with p | ⟨p, x⟩
  · exact .inl (Int.lt_of_lt_of_le p l2)
  · rcases Int.lt_or_eq_of_le l2 with q | q
    · exact .inl (by rw [p]; exact q)
    · exact .inr ⟨p.trans q, h x fun y => h2 (.inr ⟨q.symm, y⟩)⟩
theorem lt_low (h1 : ¬a < b) (h2 : ¬b < c) : ¬a < c := Int.not_lt.mpr (Int.le_trans (Int.not_lt.mp h2) (Int.not_lt.mp h1))
theorem lt_as (h : a < b) : ¬b < a := fun q => Int.lt_irrefl _ (Int.lt_trans h q)
end
theorem p4_tri {p q : Place} (h1 : p4lt p q = false) (h2 : p4lt q p = false) : p = q := by
  rw [p4_not] at h1 h2
  obtain ⟨e1, h1, h2⟩ := lx_tri h1 h2
  obtain ⟨e2, h1, h2⟩ := lx_tri h1 h2
  obtain ⟨e3, h1, h2⟩ := lx_tri h1 h2
  exact place_ext e1 e2 e3 (Int.le_antisymm (Int.not_lt.mp h2) (Int.not_lt.mp h1))
theorem p4_asym {p q : Place} (h : p4lt p q = true) : p4lt q p = false := by
  rw [p4_iff] at h; rw [p4_not]
  exact lx_asym h fun h => lx_asym h fun h => lx_asym h lt_as
theorem p4_irr (p : Place) : p4lt p p = false := by
  cases h : p4lt p p with
  | false => rfl
  | true => rw [p4_asym h] at h; cases h
theorem p4_low {p q r : Place} (h1 : p4lt p q = false) (h2 : p4lt q r = false) : p4lt p r = false := by
  rw [p4_not] at *
  exact lx_low h1 h2 fun h1 h2 => lx_low h1 h2 fun h1 h2 => lx_low h1 h2 lt_low
theorem lt_tr {a b c : Int} (h1 : a < b) (h2 : ¬c < b) : a < c := Int.lt_of_lt_of_le h1 (Int.not_lt.mp h2)
theorem p4_trans {p q r : Place} (h : p4lt p q = true) (h2 : p4lt r q = false) : p4lt p r = true := by
  rw [p4_iff] at *; rw [p4_not] at h2
  exact lx_trans h h2 fun h h2 => lx_trans h h2 fun h h2 => lx_trans h h2 lt_tr
structure Bst (cs : List Cand) (n : Int) (b : Cand) : Prop where
  net : b.1 = n
  has : ∃ c ∈ cs, c.1 = n ∧ c.2.1 = b.2.1
  low : ∀ c ∈ cs, c.1 = n → p4lt c.2.1 b.2.1 = false
  nd : b.2.2.Nodup
  hops : ∀ h, h ∈ b.2.2 ↔ ∃ c ∈ cs, c.1 = n ∧ c.2.1 = b.2.1 ∧ h ∈ c.2.2
structure FI (cs Bs : List Cand) : Prop where
  nd : (Bs.map (·.1)).Nodup
  bst : ∀ b ∈ Bs, Bst cs b.1 b
  all : ∀ c ∈ cs, ∃ b ∈ Bs, b.1 = c.1
theorem Bst.skip {cs : List Cand} {n : Int} {b c : Cand} (h : Bst cs n b) (hc : c.1 ≠ n) : Bst (cs ++ [c]) n b := by
  refine ⟨h.net, ?_, ?_, h.nd, ?_⟩
  · obtain ⟨d, hd, e⟩ := h.has; exact ⟨d, List.mem_append_left _ hd, e⟩
  · intro d hd e
    rcases List.mem_append.mp hd with hd | hd
    · exact h.low d hd e
    · rw [List.mem_singleton.mp hd] at e; exact absurd e hc
  · intro x
    rw [h.hops x]
    constructor
    · rintro ⟨d, hd, e⟩; exact ⟨d, List.mem_append_left _ hd, e⟩
    · rintro ⟨d, hd, e, e2⟩
      rcases List.mem_append.mp hd with hd | hd
      · exact ⟨d, hd, e, e2⟩
      · rw [List.mem_singleton.mp hd] at e; exact absurd e hc
theorem Bst.upd {cs : List Cand} {n : Int} {b c : Cand} (h : Bst cs n b) (hc : c.1 = n) (hn : c.2.2.Nodup) : Bst (cs ++ [c]) n (upd b c) := by
  unfold Mine.upd
  by_cases h1 : p4lt c.2.1 b.2.1 = true
  · rw [if_pos h1]
    refine ⟨hc, ⟨c, by simp, hc, rfl⟩, ?_, hn, ?_⟩
    · intro d hd e
      rcases List.mem_append.mp hd with hd | hd
      · exact p4_low (h.low d hd e) (p4_asym h1)
      · rw [List.mem_singleton.mp hd]; exact p4_irr _
    · intro x
      constructor
      · intro hx; exact ⟨c, by simp, hc, rfl, hx⟩
      · rintro ⟨d, hd, e, e2, hx⟩
        rcases List.mem_append.mp hd with hd | hd
        · have := h.low d hd e; rw [e2, h1] at this; cases this
        · rw [List.mem_singleton.mp hd] at hx; exact hx
  · rw [if_neg h1]
    have h1 : p4lt c.2.1 b.2.1 = false := by simpa using h1
    by_cases h2 : c.2.1 = b.2.1
    · rw [if_pos h2]
      refine ⟨h.net, ⟨c, by simp, hc, h2⟩, ?_, ?_, ?_⟩
      · intro d hd e
        rcases List.mem_append.mp hd with hd | hd
        · exact h.low d hd e
        · rw [List.mem_singleton.mp hd]; exact h1
      · refine List.nodup_append.mpr ⟨h.nd, hn.filter _, ?_⟩
        intro x hx y hy e
        subst e
        have := (List.mem_filter.mp hy).2
        simp at this
        exact this hx
      · intro x
        show x ∈ b.2.2 ++ _ ↔ _
        rw [List.mem_append, List.mem_filter, h.hops x]
        constructor
        · rintro (⟨d, hd, e⟩ | ⟨hx, _⟩)
          · exact ⟨d, List.mem_append_left _ hd, e⟩
          · exact ⟨c, by simp, hc, h2, hx⟩
        · rintro ⟨d, hd, e, e2, hx⟩
          rcases List.mem_append.mp hd with hd | hd
          · exact .inl ⟨d, hd, e, e2, hx⟩
          · rw [List.mem_singleton.mp hd] at hx
            by_cases q : x ∈ b.2.2
            · exact .inl ((h.hops x).mp q)
            · exact .inr ⟨hx, by simpa using q⟩
    · rw [if_neg h2]
      refine ⟨h.net, ?_, ?_, h.nd, ?_⟩
      · obtain ⟨d, hd, e⟩ := h.has; exact ⟨d, List.mem_append_left _ hd, e⟩
      · intro d hd e
        rcases List.mem_append.mp hd with hd | hd
        · exact h.low d hd e
        · rw [List.mem_singleton.mp hd]; exact h1
      · intro x
        rw [h.hops x]
        constructor
        · rintro ⟨d, hd, e⟩; exact ⟨d, List.mem_append_left _ hd, e⟩
        · rintro ⟨d, hd, e, e2, hx⟩
          rcases List.mem_append.mp hd with hd | hd
          · exact ⟨d, hd, e, e2, hx⟩
          · rw [List.mem_singleton.mp hd] at e2; exact absurd e2 h2
theorem find_mem {n : Int} {c : Cand} : ∀ {Bs : List Cand}, findB Bs n = some c → c ∈ Bs ∧ c.1 = n := fun {Bs} h => by
  unfold findB at h
  exact ⟨List.mem_of_find?_eq_some h, by simpa using List.find?_some h⟩
theorem find_none {n : Int} {Bs : List Cand} (h : findB Bs n = none) : ∀ b ∈ Bs, b.1 ≠ n := fun b hb => by
  unfold findB at h
  simpa using List.find?_eq_none.mp h b hb
theorem upd_net (old new : Cand) (h : old.1 = new.1) : (upd old new).1 = new.1 := by
  unfold upd; split
  · rfl
  · split <;> exact h
theorem FI.step {cs Bs : List Cand} {c : Cand} (h : FI cs Bs) (hn : c.2.2.Nodup) : FI (cs ++ [c]) (mergeB Bs c) := by
  cases hf : findB Bs c.1 with
  | none =>
    have hno := find_none hf
    rw [merge_none hf]
    refine ⟨?_, ?_, ?_⟩
    · rw [List.map_append]
      refine List.nodup_append.mpr ⟨h.nd, by simp, ?_⟩
      intro x hx y hy e
      obtain ⟨b, hb, rfl⟩ := List.mem_map.mp hx
      rw [List.map_singleton, List.mem_singleton] at hy
      exact hno b hb (e.trans hy)
    · intro b hb
      rcases List.mem_append.mp hb with hb | hb
      · exact (h.bst b hb).skip fun e => hno b hb e.symm
      · rw [List.mem_singleton.mp hb]
        have none : ∀ d ∈ cs, d.1 ≠ c.1 := fun d hd e => by
          obtain ⟨b, hb, e2⟩ := h.all d hd
          exact hno b hb (e2.trans e)
        refine ⟨rfl, ⟨c, by simp, rfl, rfl⟩, ?_, hn, ?_⟩
        · intro d hd e
          rcases List.mem_append.mp hd with hd | hd
          · exact absurd e (none d hd)
          · rw [List.mem_singleton.mp hd]; exact p4_irr _
        · intro x
          constructor
          · intro hx; exact ⟨c, by simp, rfl, rfl, hx⟩
          · rintro ⟨d, hd, e, e2, hx⟩
            rcases List.mem_append.mp hd with hd | hd
            · exact absurd e (none d hd)
            · rw [List.mem_singleton.mp hd] at hx; exact hx
    · intro d hd
      rcases List.mem_append.mp hd with hd | hd
      · obtain ⟨b, hb, e⟩ := h.all d hd
        exact ⟨b, List.mem_append_left _ hb, e⟩
      · rw [List.mem_singleton.mp hd]; exact ⟨c, by simp, rfl⟩
  | some old =>
    have hm := find_mem hf
    rw [merge_some h.nd hf]
    have hkeys : (Bs.map fun b => if b.1 = c.1 then upd old c else b).map (·.1) = Bs.map (·.1) := by
      rw [List.map_map]
      refine List.map_congr_left fun b _ => ?_
      simp only [Function.comp]
      by_cases e : b.1 = c.1
      · rw [if_pos e, upd_net old c hm.2, e]
      · rw [if_neg e]
    refine ⟨by rw [hkeys]; exact h.nd, ?_, ?_⟩
    · intro b hb
      obtain ⟨d, hd, rfl⟩ := List.mem_map.mp hb
      by_cases e : d.1 = c.1
      · simp only [e, if_true]
        rw [upd_net old c hm.2]
        have := (h.bst old hm.1).upd hm.2.symm hn
        rw [hm.2] at this
        exact this
      · simp only [e, if_false]
        exact (h.bst d hd).skip fun q => e q.symm
    · intro d hd
      have : ∃ b ∈ Bs, b.1 = d.1 := by
        rcases List.mem_append.mp hd with hd | hd
        · exact h.all d hd
        · rw [List.mem_singleton.mp hd]; exact ⟨old, hm.1, hm.2⟩
      obtain ⟨b, hb, e⟩ := this
      refine ⟨_, List.mem_map.mpr ⟨b, hb, rfl⟩, ?_⟩
      by_cases q : b.1 = c.1
      · rw [if_pos q, upd_net old c hm.2, ← q, e]
      · rw [if_neg q, e]
theorem FI.fold : ∀ (cs2 cs Bs : List Cand), FI cs Bs → (∀ c ∈ cs2, c.2.2.Nodup) → FI (cs ++ cs2) (cs2.foldl mergeB Bs)
  | [], cs, Bs, h, _ => by rw [List.append_nil]; exact h
  | c :: r, cs, Bs, h, hn => by
    have := FI.fold r (cs ++ [c]) (mergeB Bs c) (h.step (hn c (.head _))) fun d hd => hn d (.tail _ hd)
    rw [List.append_assoc] at this
    exact this
theorem FI.nil : FI [] [] := ⟨by simp, (fun _ h => nomatch h), (fun _ h => nomatch h)⟩
noncomputable def Nd (cs : List Cand) : Prop := ∀ c ∈ cs, c.2.2.Nodup
theorem fi_of {cs : List Cand} (h : Nd cs) : FI cs (cs.foldl mergeB []) := by
  have := FI.fold cs [] [] FI.nil h
  rwa [List.nil_append] at this
abbrev PH := Place × List (Int × Int)
noncomputable def erOf (cs : List Cand) (n : Int) : Option Cand := findB (cs.foldl mergeB []) n
noncomputable def resO (cs : List Cand) (n : Int) : Option PH := (erOf cs n).map fun b => (b.2.1, psort b.2.2)
structure Rs (cs : List Cand) (n : Int) (x : PH) : Prop where
  has : ∃ c ∈ cs, c.1 = n ∧ c.2.1 = x.1
  low : ∀ c ∈ cs, c.1 = n → p4lt c.2.1 x.1 = false
  srt : PSorted x.2
  hops : ∀ h, h ∈ x.2 ↔ ∃ c ∈ cs, c.1 = n ∧ c.2.1 = x.1 ∧ h ∈ c.2.2
theorem PSorted.nd {l : List (Int × Int)} (h : PSorted l) : l.Nodup := by
  refine h.imp fun {a b} q e => ?_
  rw [e] at q
  have := plt_asym q
  rw [q] at this; cases this
theorem sorted_ext {l k : List (Int × Int)} (hl : PSorted l) (hk : PSorted k) (h : ∀ x, x ∈ l ↔ x ∈ k) : l = k :=
  sorted_unique hl hk ((List.perm_ext_iff_of_nodup hl.nd hk.nd).mpr h)
theorem Rs.eq {cs : List Cand} {n : Int} {x y : PH} (a : Rs cs n x) (b : Rs cs n y) : x = y := by
  have e : x.1 = y.1 := by
    obtain ⟨c, hc, e1, e2⟩ := a.has
    obtain ⟨d, hd, e3, e4⟩ := b.has
    have h1 := b.low c hc e1
    have h2 := a.low d hd e3
    rw [e2] at h1
    rw [e4] at h2
    exact p4_tri h1 h2
  obtain ⟨x1, x2⟩ := x
  obtain ⟨y1, y2⟩ := y
  simp only at e
  subst e
  have : x2 = y2 := sorted_ext a.srt b.srt fun h => (a.hops h).trans (b.hops h).symm
  rw [this]
theorem res_some {cs : List Cand} (hn : Nd cs) {n : Int} {x : PH} (h : resO cs n = some x) : Rs cs n x := by
  unfold resO at h
  cases hb : erOf cs n with
  | none => rw [hb] at h; cases h
  | some b =>
    rw [hb] at h
    cases h
    have hm := find_mem hb
    have B := (fi_of hn).bst b hm.1
    rw [hm.2] at B
    refine ⟨B.has, B.low, psort_sorted B.nd, fun h => ?_⟩
    rw [← B.hops h]
    exact (psort_perm _).mem_iff
theorem res_none {cs : List Cand} (hn : Nd cs) {n : Int} : resO cs n = none ↔ ∀ c ∈ cs, c.1 ≠ n := by
  constructor
  · intro h c hc e
    have h : erOf cs n = none := by simpa [resO] using h
    obtain ⟨b, hb, e2⟩ := (fi_of hn).all c hc
    exact find_none h b hb (e2.trans e)
  · intro h
    cases hr : resO cs n with
    | none => rfl
    | some x =>
      obtain ⟨c, hc, e, _⟩ := (res_some hn hr).has
      exact absurd e (h c hc)
theorem res_of {cs : List Cand} (hn : Nd cs) {n : Int} {x : PH} (h : Rs cs n x) : resO cs n = some x := by
  cases hr : resO cs n with
  | none =>
    obtain ⟨c, hc, e, _⟩ := h.has
    exact absurd e ((res_none hn).mp hr c hc)
  | some y => rw [(res_some hn hr).eq h]
theorem res_same {cs ds : List Cand} (hn : Nd cs) (h : ∀ c, c ∈ cs ↔ c ∈ ds) (n : Int) : resO ds n = resO cs n := by
  have hd : Nd ds := fun c hc => hn c ((h c).mpr hc)
  cases hr : resO cs n with
  | none => exact (res_none hd).mpr fun c hc => (res_none hn).mp hr c ((h c).mpr hc)
  | some x =>
    have R := res_some hn hr
    refine res_of hd ⟨?_, ?_, R.srt, ?_⟩
    · obtain ⟨c, hc, e⟩ := R.has; exact ⟨c, (h c).mp hc, e⟩
    · intro c hc; exact R.low c ((h c).mpr hc)
    · intro x'
      rw [R.hops x']
      constructor
      · rintro ⟨c, hc, e⟩; exact ⟨c, (h c).mp hc, e⟩
      · rintro ⟨c, hc, e⟩; exact ⟨c, (h c).mpr hc, e⟩
end Mine
end
end
section
open PySem
set_option maxRecDepth 100000
set_option Elab.async false
set_option autoImplicit false
set_option linter.unusedVariables false
noncomputable section
namespace Mine
theorem lead_get (n : Int) : ∀ W : Lead, dget (W.map fun p => (PyData.int p.1, PyData.list (p.2.map wayD))) (.int n) = (W.lookup n).map fun ws => .list (ws.map wayD)
  | [] => rfl
  | (m, ws) :: r => by
    have ih := lead_get n r
    simp only [List.map_cons, dget, List.find?_cons, keq_int, List.lookup_cons] at ih ⊢
    by_cases e : m = n
    · subst e; simp
    · have : (n == m) = false := by simpa using fun q => e q.symm
      simp only [e, decide_false, this]; exact ih
theorem lead_ok (W : Lead) (n : Int) : okK (W.map fun p => (PyData.int p.1, PyData.list (p.2.map wayD))) (.int n) = true := by
  simp [okK, isIK]
end Mine
end
end
section
open PySem
set_option maxRecDepth 100000
set_option Elab.async false
set_option autoImplicit false
set_option linter.unusedVariables false
noncomputable section
namespace Mine
noncomputable def RowOk (r : Row) : Prop := r.sender ≠ 1 ∧ r.met < 16777215 ∧ (r.net = 0 ∨ r.net = 8) ∧ (r.fwd = 0 ∨ r.fwd = 17 ∨ r.fwd = 9)
theorem cmp_ne_int (a b : Int) : cmpD .ne (.int a) (.int b) = some (!decide (a = b)) := by
  show some (!PyData.eqv (.int a) (.int b)) = _
  rw [eqv_int]; rfl
theorem cmp_lead_notIn (W : Lead) (n : Int) : cmpD .notIn (.int n) (leadD W) = some (!(W.lookup n).isSome) := by
  show (if okK _ _ = true then some (!(dget _ _).isSome) else none) = _
  rw [if_pos (lead_ok W n), lead_get]
  simp
noncomputable def outO : Option Out → PyData
  | none => .none
  | some o => outD o
theorem t_out {k : Nat} {S : Sto} {r : Row} {ws : List Way} {t : Tab} {P : Va → Sto → Prop} (hok : OkS S) (hr : RowOk r) (hz : ws.length ≤ big) (h : P (.d (outO (outOf t r ws))) S) :
    V (run prg (k + 4) 7 [.d (bodyD r), .d (.list (ws.map wayD)), .d (tabOf t), .d (.int 5)] S) P := by
  rcases hr.2.2.2 with hf | hf | hf
  · have e : outOf t r ws = ownOut ws := if_pos hf
    rw [e] at h
    refine t_out0 (k := k + 1) hok hz hf ?_
    cases hb : ownOut ws with
    | none => rw [hb] at h; exact h
    | some o => rw [hb] at h; exact h
  · have e : outOf t r ws = some (t.c1, [(4, 17)], rkV t.a1 true) := by simp [outOf, hf]
    rw [e] at h
    exact t_out17 hok hf h
  · have e : outOf t r ws = some (t.c2, [(5, 6), (6, 6)], 1) := by simp [outOf, hf]
    rw [e] at h
    exact t_out9 hok hf h
end Mine
end
end
section
open PySem
set_option maxRecDepth 100000
set_option Elab.async false
set_option autoImplicit false
set_option linter.unusedVariables false
noncomputable section
namespace Mine
structure ErEnv (ρ : Ro) (lv : Va) (W : Lead) (t : Tab) (n : Nat) : Prop where
  v24 : ρ.lookup 24 = some (.d (.int 1))
  v25 : ρ.lookup 25 = some lv
  v3 : ρ.lookup 3 = some (.d (tabOf t))
  v1 : ρ.lookup 1 = some (.d (.int 5))
  v12 : ρ.lookup 12 = some (.c n)
theorem ErEnv.set {ρ : Ro} {lv : Va} {W : Lead} {t : Tab} {n : Nat} (h : ErEnv ρ lv W t n) {i : Nat} (v : Va) (hi : Nat.beq 24 i = false ∧ Nat.beq 25 i = false ∧ Nat.beq 3 i = false ∧ Nat.beq 1 i = false ∧ Nat.beq 12 i = false) : ErEnv (setV ρ i v) lv W t n := ⟨lk_ne hi.1 h.v24, lk_ne hi.2.1 h.v25, lk_ne hi.2.2.1 h.v3, lk_ne hi.2.2.2.1 h.v1, lk_ne hi.2.2.2.2 h.v12⟩
end Mine
end
end
section
open PySem
set_option maxRecDepth 100000
set_option Elab.async false
set_option autoImplicit false
set_option linter.unusedVariables false
noncomputable section
namespace Mine
theorem okVa_mono {a b : Nat} (h : a ≤ b) {v : Va} (e : okVa a v = true) : okVa b v = true := by
  cases v with
  | d _ => rfl
  | c n => simp only [okVa, decide_eq_true_eq] at e ⊢; lia
theorem okCe_mono {a b : Nat} (h : a ≤ b) {c : Ce} (e : okCe a c = true) : okCe b c = true := by
  cases c with
  | list xs => exact List.all_eq_true.mpr fun v hv => okVa_mono h (List.all_eq_true.mp e v hv)
  | dict kvs => exact List.all_eq_true.mpr fun p hp => okVa_mono h (List.all_eq_true.mp e p hp)
theorem okS_add {S : Sto} {c : Ce} (hok : OkS S) (hc : okCe (S.length + 1) c = true) : OkS (S ++ [c]) := by
  unfold OkS at hok ⊢
  rw [List.length_append]
  rw [List.all_append, Bool.and_eq_true]
  exact ⟨List.all_eq_true.mpr fun x hx => okCe_mono (by simp) (List.all_eq_true.mp hok x hx), by simpa using hc⟩
theorem okCe_best (k : Nat) (Bs : List Cand) : okCe k (.dict (bestD Bs)) = true := by
  simp [okCe, bestD, okVa]
abbrev stB (S : Sto) (Bs : List Cand) : Sto := S ++ [Ce.dict (bestD Bs)]
theorem okS_best {S : Sto} (hok : OkS S) (Bs : List Cand) : OkS (stB S Bs) := okS_add hok (okCe_best _ Bs)
theorem get_best (S : Sto) (Bs : List Cand) : (stB S Bs)[S.length]? = some (.dict (bestD Bs)) := by simp [stB]
theorem set_best (S : Sto) (Bs Cs : List Cand) : (stB S Bs).set S.length (.dict (bestD Cs)) = stB S Cs := by simp [stB]
theorem datKv_best : ∀ Bs : List Cand, datKv (bestD Bs) = some (Bs.map fun c => (tupK [c.1, 2], foundD c))
  | [] => rfl
  | c :: r => by
    show (datKv (bestD r)).map _ = _
    rw [datKv_best r]; rfl
theorem rd_best (S : Sto) (Bs : List Cand) : rd (stB S Bs) (.c S.length) = some (.dict (Bs.map fun c => (tupK [c.1, 2], foundD c))) := by
  simp only [rd]
  rw [get_best]
  simp only [datKv_best, Option.map_some]
theorem dget_found (n : Int) : ∀ Bs : List Cand, dget (Bs.map fun c => (tupK [c.1, 2], foundD c)) (tupK [n, 2]) = (findB Bs n).map foundD
  | [] => rfl
  | c :: r => by
    have ih := dget_found n r
    simp only [List.map_cons, dget, List.find?_cons, keq_net, findB] at ih ⊢
    by_cases e : c.1 = n
    · simp [e]
    · simp only [e, decide_false]; exact ih
theorem ok_found (Bs : List Cand) (n : Int) : okK (Bs.map fun c => (tupK [c.1, 2], foundD c)) (tupK [n, 2]) = true := by
  unfold okK
  rw [isTK_tupK]
  have : (Bs.map fun c => (tupK [c.1, 2], foundD c)).all (fun p => isTK p.1) = true := by
    rw [List.all_map]
    exact List.all_eq_true.mpr fun c _ => isTK_tupK _
  rw [this]; simp
theorem idx_best {Bs : List Cand} {n : Int} {c : Cand} (h : findB Bs n = some c) : idxD (.dict (Bs.map fun c => (tupK [c.1, 2], foundD c))) (tupK [n, 2]) = some (foundD c) := by
  show (if okK _ _ = true then dget _ _ else none) = _
  rw [if_pos (ok_found Bs n), dget_found, h]; rfl
theorem notIn_best (Bs : List Cand) (n : Int) : cmpD .notIn (tupK [n, 2]) (.dict (Bs.map fun c => (tupK [c.1, 2], foundD c))) = some (!(findB Bs n).isSome) := by
  show (if okK _ _ = true then some (!(dget _ _).isSome) else none) = _
  rw [if_pos (ok_found Bs n), dget_found]
  simp
end Mine
end
end
section
open PySem
set_option maxRecDepth 100000
set_option Elab.async false
set_option autoImplicit false
set_option linter.unusedVariables false
noncomputable section
namespace Mine
theorem flat_pairs : ∀ hs : List (Int × Int), flatL 7 (hs.map pairD) = true
  | [] => rfl
  | p :: r => by show (flatD 7 (pairD p) && flatL 7 (r.map pairD)) = true; rw [flat_pairs r]; rfl
theorem eqv_pair (p q : Int × Int) : PyData.eqv (pairD p) (pairD q) = decide (p = q) := by
  obtain ⟨a, b⟩ := p
  obtain ⟨c, d⟩ := q
  by_cases h1 : a = c <;> by_cases h2 : b = d <;> simp [pairD, PyData.eqv, PyData.eqvAll, h1, h2]
theorem any_pair (h : Int × Int) : ∀ hs : List (Int × Int), ((hs.map pairD).any fun y => PyData.eqv y (pairD h)) = hs.contains h
  | [] => rfl
  | p :: r => by
    rw [List.map_cons, List.any_cons, any_pair h r, eqv_pair, List.contains_cons]
    by_cases e : p = h
    · simp [e]
    · have : (h == p) = false := by simpa using fun q => e q.symm
      simp [e, this]
theorem notIn_pairs (h : Int × Int) (hs : List (Int × Int)) : cmpD .notIn (pairD h) (.list (hs.map pairD)) = some (!hs.contains h) := by
  show (if (flatD 8 (pairD h) && flatL 7 (hs.map pairD)) = true then some (!(hs.map pairD).any fun y => PyData.eqv y (pairD h)) else none) = _
  rw [flat_pairs, any_pair]
  rfl
theorem cmp_place_eq (p q : Place) : cmpD .eq (placeD p) (placeD q) = some (decide (p = q)) := by
  obtain ⟨a, b, c, d⟩ := p
  obtain ⟨e, f, g, i⟩ := q
  show some (PyData.eqv (.tuple [.int a, .int b, .int c, .int d]) (.tuple [.int e, .int f, .int g, .int i])) = _
  rw [Option.some_inj, Bool.eq_iff_iff]
  simp [PyData.eqv, PyData.eqvAll]
theorem bi_list {xs : List PyData} (h : xs.length ≤ big) : biD .list [.list xs] = some (.list xs) := if_pos h
theorem bi_listT {xs : List PyData} (h : xs.length ≤ big) : biD .list [.tuple xs] = some (.list xs) := if_pos h
theorem bin_addL {xs ys : List PyData} (h : xs.length + ys.length ≤ big) : binD .add (.list xs) (.list ys) = some (.list (xs ++ ys)) := if_pos h
theorem bin_addT {xs ys : List PyData} (h : xs.length + ys.length ≤ big) : binD .add (.tuple xs) (.tuple ys) = some (.tuple (xs ++ ys)) := if_pos h
theorem c_notin {fn : Fn} {ρ : Ro} {S : Sto} {e : Ex} {old : List (Int × Int)} {P : List PyData → Sto → Prop} (he : ∀ (x : Va) (Q : Va → Sto → Prop), Q (.d (.list (old.map pairD))) S → V (ev fn (setV ρ 36 x) S e) Q) :
    ∀ {new : List (Int × Int)}, P ((new.filter fun h => !old.contains h).map pairD) S → V (cloop (cbody fn ρ (.var 36) (.nm 36) [.cmp .notIn (.var 36) e]) (new.map pairD) S) P := by
  intro new
  induction new generalizing P with
  | nil => exact fun h => c_nil h
  | cons h new ih =>
    intro hP
    have l36 : (setV ρ 36 (.d (pairD h))).lookup 36 = some (.d (pairD h)) := by rw [lookup_setV]; rfl
    refine c_cons (c_body (T.of rfl (tt_cons (t_cmp (t_var l36 (he _ _ (T.of rfl (T.of rfl (T.of (notIn_pairs _ _) ⟨_, rfl, fun hc => ?_, fun hc => ?_⟩)))))))))
    · refine tt_nil ⟨fun _ => t_var l36 ⟨_, rfl, ih ?_⟩, fun q => nomatch q⟩
      rw [List.filter_cons, if_pos hc] at hP
      exact hP
    · refine ⟨fun q => (nomatch q), fun _ => ih ?_⟩
      rw [List.filter_cons, if_neg (by rw [hc]; exact Bool.false_ne_true)] at hP
      exact hP
noncomputable def erStore : Sm := .ife (.or [(.cmp .notIn (.var 35) (.var 12)), (.cmp .lt (.var 14) (.idx (.idx (.var 12) (.var 35)) (.int 0)))]) [.setI (.var 12) (.var 35) (.tup [(.var 14), (.bi .list [(.idx (.var 13) (.int 1))])])] [.ife (.cmp .eq (.var 14) (.idx (.idx (.var 12) (.var 35)) (.int 0))) [.setI (.var 12) (.var 35) (.tup [(.var 14), (.bin .add (.idx (.idx (.var 12) (.var 35)) (.int 1)) (.comp (.var 36) (.nm 36) (.idx (.var 13) (.int 1)) [(.cmp .notIn (.var 36) (.idx (.idx (.var 12) (.var 35)) (.int 1)))]))])] []]
theorem key_inj {a b : Cand} : ∀ {Bs : List Cand}, (Bs.map (·.1)).Nodup → a ∈ Bs → b ∈ Bs → a.1 = b.1 → a = b
  | [], _, h, _, _ => nomatch h
  | c :: r, hn, ha, hb, e => by
    rw [List.map_cons, List.nodup_cons] at hn
    rcases List.mem_cons.mp ha with h1 | h1
    · rcases List.mem_cons.mp hb with h2 | h2
      · rw [h1, h2]
      · exact absurd (List.mem_map.mpr ⟨b, h2, by rw [← e, h1]⟩) hn.1
    · rcases List.mem_cons.mp hb with h2 | h2
      · exact absurd (List.mem_map.mpr ⟨a, h1, by rw [e, h2]⟩) hn.1
      · exact key_inj hn.2 h1 h2 e
theorem er_store {fn : Fn} {ρ : Ro} {S : Sto} {Bs : List Cand} {n : Int} {p : Place} {o : Out} (l12 : ρ.lookup 12 = some (.c S.length)) (l13 : ρ.lookup 13 = some (.d (outD o))) (l14 : ρ.lookup 14 = some (.d (placeD p))) (l35 : ρ.lookup 35 = some (.d (tupK [n, 2])))
    (hn : (Bs.map (·.1)).Nodup) (hl : Bs.length ≤ 1000) (ho : o.2.1.length ≤ 1000) (hb : ∀ c ∈ Bs, c.2.2.length ≤ 1000) :
    X (ex1 fn ρ (stB S Bs) erStore) fun fl ρ' S' => fl = .next ∧ ρ' = ρ ∧ S' = stB S (mergeB Bs (n, p, o.2.1)) := by
  have hlen : (bestD Bs).length ≤ big := by simp [bestD, big]; lia
  have hcp : (o.2.1.map pairD).length ≤ big := by simp [big]; lia
  have put : ∀ c : Cand, c.1 = n → (findB Bs n = none → c = (n, p, o.2.1)) → (∀ old, findB Bs n = some old → c = upd old (n, p, o.2.1)) → dput (bestD Bs) (tupK [n, 2]) (.d (foundD c)) = bestD (mergeB Bs (n, p, o.2.1)) := by
    rintro c rfl h1 h2
    rw [dput_best c Bs hn]
    cases hf : findB Bs c.1 with
    | none => rw [← h1 hf, merge_none hf]; rfl
    | some old => rw [merge_some (new := (c.1, p, o.2.1)) hn hf, ← h2 old hf]; rfl
  have fresh : ((findB Bs n = none) ∨ ∃ old, findB Bs n = some old ∧ p4lt p old.2.1 = true) → X (exs fn ρ (stB S Bs) [.setI (.var 12) (.var 35) (.tup [(.var 14), (.bi .list [(.idx (.var 13) (.int 1))])])]) fun fl ρ' S' => fl = .next ∧ ρ' = ρ ∧ S' = stB S (mergeB Bs (n, p, o.2.1)) := by
    intro hf
    refine tx_next <| tx_setI_dict <| t_tup <| ts_var l14 <| ts_cons <| t_bi <| ts_vi l13 rfl rfl <| ts_nil <| T.of rfl <| T.of (bi_listT hcp) <| ts_nil <| T.of rfl <| t_var l12 <| t_var l35 ?_
    refine ⟨S.length, _, _, rfl, get_best S Bs, rfl, ok_best Bs n, hlen, rfl, tx_nil ⟨rfl, rfl, ?_⟩⟩
    have e := put (n, p, o.2.1) rfl (fun _ => rfl) (fun old h => by
      rcases hf with hf | ⟨old', hf, hlt⟩
      · rw [hf] at h; cases h
      · rw [hf] at h; cases h
        simp [upd, hlt])
    show (stB S Bs).set S.length (.dict (dput (bestD Bs) (tupK [n, 2]) (.d (foundD (n, p, o.2.1))))) = _
    rw [e, set_best]
  unfold erStore
  refine tx_ife <| t_or <| to_cons <| t_cvv l35 l12 rfl (rd_best S Bs) (notIn_best Bs n) ⟨_, rfl, fun hc => ?_, fun hc => ?_⟩
  · obtain ⟨old, hf⟩ : ∃ old, findB Bs n = some old := Option.isSome_iff_exists.mp (by simpa using hc)
    have hold := hb old (find_mem hf).1
    refine to_cons <| t_cmp <| t_var l14 <| t_idx <| t_vv l12 l35 (rd_best S Bs) (idx_best hf) <| t_int <| T.of rfl <| T.of rfl <| T.of rfl <| T.of rfl <| T.of rfl <| T.of (cmp_place _ _) ⟨_, rfl, fun hc => ?_, fun hc => ?_⟩
    · refine to_nil ⟨_, rfl, fun q => (nomatch q), fun _ => ?_⟩
      refine tx_next <| tx_ife <| t_cmp <| t_var l14 <| t_idx <| t_vv l12 l35 (rd_best S Bs) (idx_best hf) <| t_int <| T.of rfl <| T.of rfl <| T.of rfl <| T.of rfl <| T.of rfl <| T.of (cmp_place_eq _ _) ⟨_, rfl, fun he => ?_, fun he => ?_⟩
      · have he : p = old.2.1 := of_decide_eq_true he
        have hadd : (old.2.2.map pairD).length + ((o.2.1.filter fun h => !old.2.2.contains h).map pairD).length ≤ big := by
          have := List.length_filter_le (fun h => !old.2.2.contains h) o.2.1
          simp only [List.length_map, big]; lia
        refine tx_next <| tx_setI_dict <| t_tup <| ts_var l14 <| ts_cons <| t_bin <| t_idx <| t_vv l12 l35 (rd_best S Bs) (idx_best hf) <| t_int <| T.of rfl <| T.of rfl <| T.of rfl <| t_comp <| t_vi l13 rfl rfl ?_
        refine ⟨_, _, rfl, rfl, hcp, c_notin (old := old.2.2) (fun x Q hQ => ?_) ?_⟩
        rotate_left
        refine T.of rfl <| T.of rfl <| T.of (bin_addL hadd) <| ts_nil <| T.of rfl <| t_var l12 <| t_var l35 ?_
        refine ⟨S.length, _, _, rfl, get_best S Bs, rfl, ok_best Bs n, hlen, rfl, tx_nil ⟨rfl, tx_nil ⟨rfl, rfl, ?_⟩⟩⟩
        rotate_left
        · have m12 : (setV ρ 36 x).lookup 12 = some (.c S.length) := by rw [lookup_setV]; exact l12
          have m35 : (setV ρ 36 x).lookup 35 = some (.d (tupK [n, 2])) := by rw [lookup_setV]; exact l35
          exact t_idx <| t_vv m12 m35 (rd_best S Bs) (idx_best hf) <| t_int <| T.of rfl <| T.of rfl <| T.of rfl hQ
        · have e := put (n, p, old.2.2 ++ o.2.1.filter fun h => !old.2.2.contains h) rfl (fun h => by rw [hf] at h; cases h) (fun old' h => by
            rw [hf] at h; cases h
            have hlt : p4lt p old.2.1 = false := hc
            simp only [upd, hlt]
            simp [he, (find_mem hf).2])
          have hm : foundD (n, p, old.2.2 ++ o.2.1.filter fun h => !old.2.2.contains h) = .tuple [placeD p, .list (old.2.2.map pairD ++ (o.2.1.filter fun h => !old.2.2.contains h).map pairD)] := by
            show PyData.tuple [placeD p, .list ((old.2.2 ++ o.2.1.filter fun h => !old.2.2.contains h).map pairD)] = _
            rw [List.map_append]
          rw [hm] at e
          show (stB S Bs).set S.length (.dict (dput (bestD Bs) (tupK [n, 2]) _)) = _
          rw [e, set_best]
      · have he : ¬ p = old.2.1 := of_decide_eq_false he
        refine tx_nil ⟨rfl, tx_nil ⟨rfl, rfl, ?_⟩⟩
        have hlt : p4lt p old.2.1 = false := hc
        have e : upd old (n, p, o.2.1) = old := by simp [upd, hlt, he]
        have : mergeB Bs (n, p, o.2.1) = Bs := by
          rw [merge_some (new := (n, p, o.2.1)) hn hf, e]
          have : ∀ c ∈ Bs, (if c.1 = n then old else c) = c := fun c hm => by
            by_cases q : c.1 = n
            · rw [if_pos q]
              have h1 := find_mem hf
              have := key_inj hn hm h1.1 (q.trans h1.2.symm)
              exact this.symm
            · rw [if_neg q]
          exact (List.map_congr_left this).trans (List.map_id Bs)
        rw [this]
    · exact ⟨_, rfl, fun _ => fresh (.inr ⟨old, hf, hc⟩), fun q => nomatch q⟩
  · exact ⟨_, rfl, fun _ => fresh (.inl (by simpa using hc)), fun q => nomatch q⟩
end Mine
end
end
section
open PySem
set_option maxRecDepth 100000
set_option Elab.async false
set_option autoImplicit false
set_option linter.unusedVariables false
noncomputable section
namespace Mine
noncomputable def WOk (W : Lead) : Prop := ∀ s ws, W.lookup s = some ws → ws.length ≤ 1000 ∧ ∀ y ∈ ws, y.hops.Nodup ∧ y.hops.length ≤ 2
theorem better_mem {b : Option Way} {y x : Way} (h : better b y = some x) : x = y ∨ b = some x := by
  cases b with
  | none => cases h; exact .inl rfl
  | some z =>
    simp only [better] at h
    split at h
    · cases h; exact .inl rfl
    · exact .inr h
theorem fold_mem {x : Way} : ∀ {ws : List Way} {b : Option Way}, ws.foldl better b = some x → x ∈ ws ∨ b = some x
  | [], b, h => .inr h
  | y :: ws, b, h => by
    rcases fold_mem (ws := ws) (b := better b y) h with q | q
    · exact .inl (.tail _ q)
    · rcases better_mem q with q | q
      · rw [q]; exact .inl (.head _)
      · exact .inr q
theorem bestW_mem {ws : List Way} {x : Way} (h : bestW ws = some x) : x ∈ ws := (fold_mem h).resolve_right fun q => nomatch q
theorem out_hops {t : Tab} {r : Row} {ws : List Way} {o : Out} (h : outOf t r ws = some o) (hw : ∀ y ∈ ws, y.hops.Nodup ∧ y.hops.length ≤ 2) : o.2.1.Nodup ∧ o.2.1.length ≤ 2 := by
  unfold outOf at h
  split at h
  · unfold ownOut at h
    cases hb : bestW ws with
    | none => rw [hb] at h; cases h
    | some x => rw [hb] at h; cases h; exact hw x (bestW_mem hb)
  · split at h
    · cases h; exact ⟨by simp, by simp⟩
    · cases h; exact ⟨by simp, by simp⟩
theorem cand_ok {W : Lead} {t : Tab} {r : Row} {c : Cand} (hW : WOk W) (h : cand W t r = some c) : c.2.2.Nodup ∧ c.2.2.length ≤ 2 := by
  unfold cand at h
  cases hl : W.lookup r.sender with
  | none => rw [hl] at h; cases h
  | some ws =>
    rw [hl] at h
    simp only [Option.bind_some] at h
    cases ho : outOf t r ws with
    | none => rw [ho] at h; cases h
    | some o => rw [ho] at h; cases h; exact out_hops ho (hW _ _ hl).2
noncomputable def stepB (W : Lead) (t : Tab) (Bs : List Cand) (r : Row) : List Cand := match cand W t r with
  | none => Bs
  | some c => mergeB Bs c
theorem idx_lead {W : Lead} {n : Int} {ws : List Way} (h : W.lookup n = some ws) : idxD (leadD W) (.int n) = some (.list (ws.map wayD)) := by
  show (if okK _ _ = true then dget _ _ else none) = _
  rw [if_pos (lead_ok W n), lead_get, h]; rfl
theorem pfx_net {a : Int} (h : a = 0 ∨ a = 8) : Builtin.bitAnd a 24 = a := by
  rcases h with rfl | rfl <;> rfl
noncomputable def erRest : List Sm := [.ife (.or [(.cmp .ne (.var 29) (.glob 32 5)), (.cmp .ge (.var 27) (.glob 33 3600)), (.cmp .eq (.var 31) (.var 24)), (.cmp .ge (.idx (.var 15) (.int 3)) (.glob 34 16777215)), (.cmp .notIn (.var 31) (.var 25))]) [.cont] [], .asg (.nm 13) (.call 7 [(.var 15), (.idx (.var 25) (.var 31)), (.var 3), (.var 1)]), .ife (.isN (.var 13)) [.cont] [], .asg (.tup [35, 14]) (.tup [(.call 1 [(.var 30), (.idx (.var 15) (.int 1)), (.var 1)]), (.call 8 [(.var 15), (.var 13)])]), erStore]
theorem er_turn2 {k : Nat} {S : Sto} {ρ : Ro} {lv : Va} {W : Lead} {t : Tab} {Bs : List Cand} {r : Row} (hok : OkS S) (hr : RowOk r) (hv : ∀ Bs, rd (stB S Bs) lv = some (leadD W)) (hW : WOk W) (E : ErEnv ρ lv W t S.length) (hn : (Bs.map (·.1)).Nodup) (hl : Bs.length ≤ 1000) (hb : ∀ c ∈ Bs, c.2.2.length ≤ 1000)
    (l15 : ρ.lookup 15 = some (.d (bodyD r))) (l27 : ρ.lookup 27 = some (.d (.int 1))) (l29 : ρ.lookup 29 = some (.d (.int 5))) (l30 : ρ.lookup 30 = some (.d (.int r.net))) (l31 : ρ.lookup 31 = some (.d (.int r.sender))) :
    X (exs (run prg (k + 4)) ρ (stB S Bs) erRest) fun fl ρ' S' => (∀ v, fl ≠ .ret v) ∧ ErEnv ρ' lv W t S.length ∧ S' = stB S (stepB W t Bs r) := by
  have hokB := okS_best hok Bs
  unfold erRest
  refine tx_cons <| tx_ife <| t_or <| to_cons <| t_cvg l29 rfl (cmp_ne_int _ _) ⟨_, rfl, fun _ => ?_, fun hc => absurd hc (by decide)⟩
  refine to_cons <| t_cvg l27 rfl rfl ⟨_, rfl, fun _ => ?_, fun hc => absurd hc (by decide)⟩
  refine to_cons <| t_cvv l31 E.v24 rfl rfl (cmp_eq_int _ _) ⟨_, rfl, fun _ => ?_, fun hc => absurd (of_decide_eq_true hc) hr.1⟩
  refine to_cons <| t_cmp <| t_vi l15 rfl rfl <| t_glob <| T.of rfl <| T.of rfl <| T.of rfl ⟨_, rfl, fun _ => ?_, fun hc => absurd (of_decide_eq_true hc) (by have := hr.2.1; lia)⟩
  refine to_cons <| t_cvv l31 E.v25 rfl (hv Bs) (cmp_lead_notIn W r.sender) ⟨_, rfl, fun hc => ?_, fun hc => ?_⟩
  · obtain ⟨ws, hws⟩ : ∃ ws, W.lookup r.sender = some ws := Option.isSome_iff_exists.mp (by simpa using hc)
    have hw := hW _ _ hws
    refine to_nil ⟨_, rfl, (fun q => nomatch q), fun _ => tx_nil ⟨fun _ => ?_, fun q => absurd rfl q⟩⟩
    refine tx_next <| tx_asg <| t_call <| ts_var l15 <| ts_cons <| t_vv E.v25 l31 (hv Bs) (idx_lead hws) <| ts_var E.v3 <| ts_var E.v1 <| ts_nil <| t_out hokB hr (by simp [big]; lia) <| T.of rfl ⟨rfl, ?_⟩
    have E2 := E.set (i := 13) (.d (outO (outOf t r ws))) (by decide)
    have m13 : (setV ρ 13 (.d (outO (outOf t r ws)))).lookup 13 = some (.d (outO (outOf t r ws))) := by repeat (first | exact lk_eq | refine lk_ne rfl ?_)
    have m15 : (setV ρ 13 (.d (outO (outOf t r ws)))).lookup 15 = some (.d (bodyD r)) := by repeat (first | exact lk_eq | exact l15 | refine lk_ne rfl ?_)
    have m30 : (setV ρ 13 (.d (outO (outOf t r ws)))).lookup 30 = some (.d (.int r.net)) := by repeat (first | exact lk_eq | exact l30 | refine lk_ne rfl ?_)
    generalize setV ρ 13 (.d (outO (outOf t r ws))) = ρ2 at E2 m13 m15 m30
    cases ho : outOf t r ws with
    | none =>
      rw [ho] at m13
      have hc : cand W t r = none := by simp [cand, hws, ho]
      refine tx_cons <| tx_ife <| t_isN <| t_var m13 ⟨true, rfl, (fun _ => ?_), fun q => nomatch q⟩
      refine tx_cons <| tx_cont ⟨(fun q => nomatch q), fun _ => ⟨(fun q => nomatch q), fun _ => ⟨(fun v q => nomatch q), E2, ?_⟩⟩⟩
      simp [stepB, hc]
    | some o =>
      rw [ho] at m13
      have hc : cand W t r = some (r.net, worth r o, o.2.1) := by simp [cand, hws, ho]
      refine tx_next <| tx_ife <| t_isN <| t_var m13 ⟨false, rfl, (fun q => nomatch q), (fun _ => tx_nil ⟨rfl, ?_⟩)⟩
      refine tx_next <| tx_asg <| t_tup <| ts_cons <| t_call <| ts_var m30 <| ts_vi m15 rfl rfl <| ts_var E2.v1 <| ts_nil <| t_pfx (l := 2) (b := 4) (w := 24) hokB rfl rfl ?_
      rw [pfx_net hr.2.2.1]
      refine ts_cons <| t_call <| ts_var m15 <| ts_var m13 <| ts_nil <| t_worth (o := o) hokB <| ts_nil <| T.of rfl <| T.of rfl ⟨rfl, ?_⟩
      have E3 := (E2.set (i := 35) (.d (tupK [r.net, 2])) (by decide)).set (i := 14) (.d (placeD (worth r o))) (by decide)
      refine tx_cons <| (er_store (ρ := setV (setV ρ2 35 (.d (tupK [r.net, 2]))) 14 (.d (placeD (worth r o)))) (S := S) (n := r.net) (p := worth r o) (o := o) E3.v12 (by repeat (first | exact lk_eq | exact m13 | refine lk_ne rfl ?_)) (by repeat (first | exact lk_eq | refine lk_ne rfl ?_)) (by repeat (first | exact lk_eq | refine lk_ne rfl ?_)) hn hl (by have := (out_hops ho hw.2).2; lia) hb).imp ?_
      rintro fl ρ3 S3 ⟨rfl, rfl, rfl⟩
      refine ⟨fun _ => tx_nil ⟨(fun v q => nomatch q), E3, ?_⟩, fun q => absurd rfl q⟩
      simp [stepB, hc]
  · have hc : cand W t r = none := by
      have : W.lookup r.sender = none := by simpa using hc
      simp [cand, this]
    refine ⟨_, rfl, fun _ => ?_, fun q => nomatch q⟩
    refine tx_cons <| tx_cont ⟨(fun q => nomatch q), fun _ => ⟨(fun q => nomatch q), fun _ => ⟨(fun v q => nomatch q), E, ?_⟩⟩⟩
    simp [stepB, hc]
theorem er_turn {k : Nat} {S : Sto} {ρ : Ro} {lv : Va} {W : Lead} {t : Tab} {Bs : List Cand} {r : Row} (hok : OkS S) (hr : RowOk r) (hv : ∀ Bs, rd (stB S Bs) lv = some (leadD W)) (hW : WOk W) (E : ErEnv ρ lv W t S.length) (hn : (Bs.map (·.1)).Nodup) (hl : Bs.length ≤ 1000) (hb : ∀ c ∈ Bs, c.2.2.length ≤ 1000) :
    X ((bindTg (.tup [26, 15]) (.d (rowD r)) ρ).bind fun ρ'' => exs (run prg (k + 4)) ρ'' (stB S Bs) (.asg (.tup [27, 28, 29, 30, 31]) (.sl (.var 26) none (some (.int 5))) :: erRest)) fun fl ρ' S' => (∀ v, fl ≠ .ret v) ∧ ErEnv ρ' lv W t S.length ∧ S' = stB S (stepB W t Bs r) := by
  refine X.bindT <| T.of rfl ?_
  refine tx_next <| tx_asg <| t_sl_tup <| t_var rfl <| o_none <| o_some <| t_int ⟨5, rfl, _, rfl, by simp [big], T.of rfl ⟨rfl, ?_⟩⟩
  refine er_turn2 hok hr hv hW ?_ hn hl hb (by repeat (first | exact lk_eq | refine lk_ne rfl ?_)) (by repeat (first | exact lk_eq | refine lk_ne rfl ?_)) (by repeat (first | exact lk_eq | refine lk_ne rfl ?_)) (by repeat (first | exact lk_eq | refine lk_ne rfl ?_)) (by repeat (first | exact lk_eq | refine lk_ne rfl ?_))
  exact ((((((E.set _ (by decide)).set _ (by decide)).set _ (by decide)).set _ (by decide)).set _ (by decide)).set _ (by decide)).set _ (by decide)
end Mine
end
end
section
open PySem
set_option maxRecDepth 100000
set_option Elab.async false
set_option autoImplicit false
set_option linter.unusedVariables false
noncomputable section
namespace Mine
noncomputable def candsOf (W : Lead) (t : Tab) (rows : List Row) : List Cand := rows.filterMap (cand W t)
theorem step_fold (W : Lead) (t : Tab) : ∀ (rows : List Row) (Bs : List Cand), rows.foldl (stepB W t) Bs = (candsOf W t rows).foldl mergeB Bs
  | [], _ => rfl
  | r :: rows, Bs => by
    rw [List.foldl_cons, step_fold W t rows]
    unfold candsOf stepB
    rw [List.filterMap_cons]
    cases cand W t r <;> rfl
theorem merge_len (c : Cand) : ∀ Bs : List Cand, (mergeB Bs c).length ≤ Bs.length + 1
  | [] => Nat.le_refl _
  | b :: r => by
    rw [mergeB_cons]
    split
    · simp
    · have := merge_len c r
      simp only [List.length_cons]; lia
theorem merge_hops {c : Cand} {m : Nat} (hc : c.2.2.length ≤ 2) : ∀ {Bs : List Cand}, (∀ b ∈ Bs, b.2.2.length ≤ m) → ∀ b ∈ mergeB Bs c, b.2.2.length ≤ m + 2
  | [], _, b, hb => by
    rw [List.mem_singleton.mp hb]; lia
  | d :: r, h, b, hb => by
    rw [mergeB_cons] at hb
    have hd := h d (.head _)
    have h2 : ∀ b ∈ r, b.2.2.length ≤ m := fun b hb => h b (.tail _ hb)
    split at hb
    · rcases List.mem_cons.mp hb with q | q
      · rw [q]
        unfold upd
        split
        · lia
        · split
          · have := List.length_filter_le (fun h => !d.2.2.contains h) c.2.2
            simp only [List.length_append]; lia
          · lia
      · have := h2 b q; lia
    · rcases List.mem_cons.mp hb with q | q
      · rw [q]; lia
      · exact merge_hops hc h2 b q
structure BOk (m : Nat) (Bs : List Cand) : Prop where
  len : Bs.length ≤ m
  hops : ∀ b ∈ Bs, b.2.2.length ≤ 2 * m
theorem BOk.step {m : Nat} {Bs : List Cand} {W : Lead} {t : Tab} {r : Row} (h : BOk m Bs) (hW : WOk W) : BOk (m + 1) (stepB W t Bs r) := by
  unfold stepB
  cases hc : cand W t r with
  | none => exact ⟨by have := h.len; show Bs.length ≤ _; lia, fun b hb => by have := h.hops b hb; lia⟩
  | some c => exact ⟨by have := h.len; have := merge_len c Bs; show (mergeB Bs c).length ≤ _; lia, fun b hb => by have := merge_hops (cand_ok hW hc).2 h.hops b hb; lia⟩
theorem BOk.fold {W : Lead} {t : Tab} (hW : WOk W) : ∀ (rows : List Row) (m : Nat) (Bs : List Cand), BOk m Bs → BOk (m + rows.length) (rows.foldl (stepB W t) Bs)
  | [], m, Bs, h => h
  | r :: rows, m, Bs, h => by
    have := BOk.fold (t := t) hW rows (m + 1) _ (h.step (t := t) (r := r) hW)
    rw [List.foldl_cons, List.length_cons, show m + (rows.length + 1) = m + 1 + rows.length by lia]
    exact this
theorem cands_nd {W : Lead} (hW : WOk W) (t : Tab) (rows : List Row) : Nd (candsOf W t rows) := fun c hc => by
  obtain ⟨r, _, e⟩ := List.mem_filterMap.mp hc
  exact (cand_ok hW e).1
theorem cand_net {W : Lead} {t : Tab} {r : Row} {c : Cand} (h : cand W t r = some c) : c.1 = r.net := by
  unfold cand at h
  cases hl : W.lookup r.sender with
  | none => rw [hl] at h; cases h
  | some ws =>
    rw [hl] at h
    simp only [Option.bind_some] at h
    cases ho : outOf t r ws with
    | none => rw [ho] at h; cases h
    | some o => rw [ho] at h; cases h; rfl
noncomputable def toldS (n : Int) (x : PH) : PyData :=
  if x.1.1 = 1 then .tuple [tupK [n, 2], .str (Str.ofString "ext2"), .int x.1.2.2.2, .int x.1.2.1, .int 0, hopsD x.2]
  else .tuple [tupK [n, 2], .str (Str.ofString "ext1"), .int x.1.2.2.2, .int 0, .int 0, hopsD x.2]
noncomputable def outL (r0 r8 : Option PH) : List PyData := (r0.map (toldS 0)).toList ++ (r8.map (toldS 8)).toList
noncomputable def erL (W : Lead) (t : Tab) (rows : List Row) : List PyData := outL (resO (candsOf W t rows) 0) (resO (candsOf W t rows) 8)
theorem t_er {k : Nat} {S : Sto} {lv : Va} {W : Lead} {t : Tab} {rows : List Row} {P : Va → Sto → Prop} (hok : OkS S) (hv : ∀ Bs, rd (stB S Bs) lv = some (leadD W)) (hr : ∀ r ∈ rows, RowOk r) (hz : rows.length ≤ 30) (hW : WOk W) (h : P (.d (.list (erL W t rows))) S) :
    V (run prg (k + 5) 9 [.d (.list (rows.map rowD)), .d (.int 1), lv, .d (tabOf t), .d (.int 5)] S) P := by
  refine t_run (fd := c_external_routes) rfl rfl ?_
  refine tx_next <| tx_asg <| t_dctC <| T.of rfl ⟨rfl, ?_⟩
  refine tx_next <| tx_loop <| ti_list <| t_var rfl ⟨_, rfl, by simp [big]; lia, ?_⟩
  refine loop_inv (fun rest ρ S' => ∃ done rem, rows = done ++ rem ∧ rest = rem.map rowD ∧ ErEnv ρ lv W t S.length ∧ S' = stB S (done.foldl (stepB W t) [])) ?_ ?_ _ _ _ ⟨[], rows, rfl, rfl, ⟨rfl, rfl, rfl, rfl, rfl⟩, rfl⟩
  · rintro x rest ρ S' ⟨done, rem, e1, e2, E, rfl⟩
    cases rem with
    | nil => cases e2
    | cons r rem =>
      cases e2
      have B := BOk.fold (t := t) hW done 0 [] ⟨Nat.le_refl _, fun _ h => nomatch h⟩
      have F := (fi_of (cands_nd hW t done)).nd
      rw [← step_fold] at F
      have hd : done.length ≤ 30 := by rw [e1] at hz; simp at hz; lia
      refine (er_turn hok (hr r (by rw [e1]; simp)) hv hW E F (by have := B.len; lia) (fun c hc => by have := B.hops c hc; lia)).imp ?_
      rintro fl ρ2 S2 ⟨h1, h2, h3⟩
      refine ⟨fun v e => absurd e (h1 v), fun _ => ⟨done ++ [r], rem, by rw [e1]; simp, rfl, h2, ?_⟩⟩
      rw [h3, List.foldl_append]; rfl
  · rintro ρ S' ⟨done, rem, e1, e2, E, rfl⟩
    obtain rfl : rem = [] := by cases rem with
      | nil => rfl
      | cons _ _ => cases e2
    rw [List.append_nil] at e1
    subst e1
    refine ⟨rfl, ?_⟩
    have B := BOk.fold (t := t) hW rows 0 [] ⟨Nat.le_refl _, fun _ h => nomatch h⟩
    have FF := fi_of (cands_nd hW t rows)
    rw [step_fold] at B ⊢
    have h0 : resO (candsOf W t rows) 0 = (findB ((candsOf W t rows).foldl mergeB []) 0).map fun b => (b.2.1, psort b.2.2) := rfl
    have h8 : resO (candsOf W t rows) 8 = (findB ((candsOf W t rows).foldl mergeB []) 8).map fun b => (b.2.1, psort b.2.2) := rfl
    unfold erL at h
    rw [h0, h8] at h
    have keys : ∀ b ∈ (candsOf W t rows).foldl mergeB [], b.1 = 0 ∨ b.1 = 8 := fun b hb => by
      obtain ⟨c, hc, e, _⟩ := (FF.bst b hb).has
      obtain ⟨r, hm, e2⟩ := List.mem_filterMap.mp hc
      rw [← e, cand_net e2]
      exact (hr r hm).2.2.1
    have hnd := FF.nd
    have hbn := fun b hb => (FF.bst b hb).nd
    generalize (candsOf W t rows).foldl mergeB [] = Bs at h h0 h8 keys B hnd hbn
    clear FF h0 h8
    have hkn : (Bs.map fun c => (c.1, (2 : Int))).Nodup := by
      have : (Bs.map fun c => (c.1, (2 : Int))) = (Bs.map (·.1)).map fun n => (n, (2 : Int)) := by rw [List.map_map]; rfl
      rw [this]
      exact hnd.map _ fun a b hab e => hab (Prod.ext_iff.mp e).1
    have hbl : Bs.length < 64 := by have := B.len; lia
    have hsort : biD .sorted [.dict (Bs.map fun c => (tupK [c.1, 2], foundD c))] = some (.list ((psort (Bs.map fun c => (c.1, (2 : Int)))).map pairD)) := by
      show sortL ((Bs.map fun c => (tupK [c.1, 2], foundD c)).map (·.1)) = _
      rw [← sortL_pairs hkn (by simpa using hbl)]
      rw [List.map_map, List.map_map]; rfl
    have hmem : ∀ x, x ∈ psort (Bs.map fun c => (c.1, (2 : Int))) ↔ ∃ b ∈ Bs, (b.1, (2 : Int)) = x := fun x => by
      rw [(psort_perm _).mem_iff, List.mem_map]
    have hps := psort_sorted hkn
    refine tx_ret1 <| t_comp <| t_bi <| ts_var E.v12 <| ts_nil ?_
    refine ⟨_, by show ((rd (stB S Bs) (.c S.length)).bind fun x => (rds (stB S Bs) []).map (x :: ·)) = _; rw [rd_best]; rfl, ?_⟩
    refine T.of hsort ⟨_, _, rfl, rfl, by rw [List.length_map, psort_len]; simp [big]; lia, ?_⟩
    have hokB := okS_best hok Bs
    have one : ∀ (n : Int) (c : Cand), findB Bs n = some c → ∀ {Q : Option PyData → Sto → Prop}, Q (some (toldS n (c.2.1, psort c.2.2))) (stB S Bs) → V (cbody (run prg (k + 4)) ρ (.call 10 [(.var 35), (.idx (.var 12) (.var 35))]) (.nm 35) [] (tupK [n, 2]) (stB S Bs)) Q := by
      intro n c hf Q hQ
      have hm := find_mem hf
      have m12 : (setV ρ 35 (.d (tupK [n, 2]))).lookup 12 = some (.c S.length) := by rw [lookup_setV]; exact E.v12
      have m35 : (setV ρ 35 (.d (tupK [n, 2]))).lookup 35 = some (.d (tupK [n, 2])) := by rw [lookup_setV]; rfl
      refine c_body <| T.of rfl <| tt_nil ⟨fun _ => ?_, fun q => nomatch q⟩
      exact t_call <| ts_var m35 <| ts_cons <| t_vv m12 m35 (rd_best S Bs) (idx_best hf) <| ts_nil <| t_told (p := c.2.1) (hs := c.2.2) hokB (hbn c hm.1) (by have := B.hops c hm.1; lia) ⟨_, rfl, hQ⟩
    cases hf0 : findB Bs 0 with
    | none =>
      cases hf8 : findB Bs 8 with
      | none =>
        rw [hf0, hf8] at h
        have e : psort (Bs.map fun c => (c.1, (2 : Int))) = [] := by
          refine sorted_ext hps List.Pairwise.nil fun x => ?_
          rw [hmem]
          refine ⟨fun ⟨b, hb, _⟩ => ?_, fun q => nomatch q⟩
          rcases keys b hb with q | q
          · exact absurd q (find_none hf0 b hb)
          · exact absurd q (find_none hf8 b hb)
        rw [e]
        exact c_nil (fin1 hok rfl h)
      | some b8 =>
        rw [hf0, hf8] at h
        have e : psort (Bs.map fun c => (c.1, (2 : Int))) = [(8, 2)] := by
          refine sorted_ext hps (List.pairwise_singleton _ _) fun x => ?_
          rw [hmem, List.mem_singleton]
          constructor
          · rintro ⟨b, hb, rfl⟩
            rcases keys b hb with q | q
            · exact absurd q (find_none hf0 b hb)
            · rw [q]
          · rintro rfl
            exact ⟨b8, (find_mem hf8).1, by rw [(find_mem hf8).2]⟩
        rw [e]
        exact c_cons (one 8 b8 hf8 (c_nil (fin1 hok rfl h)))
    | some b0 =>
      cases hf8 : findB Bs 8 with
      | none =>
        rw [hf0, hf8] at h
        have e : psort (Bs.map fun c => (c.1, (2 : Int))) = [(0, 2)] := by
          refine sorted_ext hps (List.pairwise_singleton _ _) fun x => ?_
          rw [hmem, List.mem_singleton]
          constructor
          · rintro ⟨b, hb, rfl⟩
            rcases keys b hb with q | q
            · rw [q]
            · exact absurd q (find_none hf8 b hb)
          · rintro rfl
            exact ⟨b0, (find_mem hf0).1, by rw [(find_mem hf0).2]⟩
        rw [e]
        exact c_cons (one 0 b0 hf0 (c_nil (fin1 hok rfl h)))
      | some b8 =>
        rw [hf0, hf8] at h
        have e : psort (Bs.map fun c => (c.1, (2 : Int))) = [(0, 2), (8, 2)] := by
          refine sorted_ext hps (by simp [PSorted, plt]) fun x => ?_
          rw [hmem]
          constructor
          · rintro ⟨b, hb, rfl⟩
            rcases keys b hb with q | q
            · rw [q]; simp
            · rw [q]; simp
          · intro hx
            rcases List.mem_cons.mp hx with rfl | hx
            · exact ⟨b0, (find_mem hf0).1, by rw [(find_mem hf0).2]⟩
            · rw [List.mem_singleton.mp hx]
              exact ⟨b8, (find_mem hf8).1, by rw [(find_mem hf8).2]⟩
        rw [e]
        exact c_cons (one 0 b0 hf0 (c_cons (one 8 b8 hf8 (c_nil (fin1 hok rfl h)))))
end Mine
end
end
section
open PySem
set_option maxRecDepth 100000
set_option Elab.async false
set_option autoImplicit false
set_option linter.unusedVariables false
noncomputable section
namespace Mine
theorem t_take {k : Nat} {S : Sto} {kvs : List (PyData × Va)} {ds : List (PyData × PyData)} {key : PyData} {xs : List PyData} {P : Va → Sto → Prop} (hok : OkS S) (hd : datKv kvs = some ds) (h1 : okK ds key = true) (h2 : dget ds key = none) (h3 : okK kvs key = true) (h4 : kvs.length ≤ big) (h5 : okCe (S.length + 1) (.dict (dput kvs key (.d (.tuple (key :: xs))))) = true)
    (h : P (.d .none) (S ++ [.dict (dput kvs key (.d (.tuple (key :: xs))))])) : V (run prg (k + 1) 2 [.c S.length, .d (.tuple (key :: xs))] (S ++ [.dict kvs])) P := by
  have hg : (S ++ [Ce.dict kvs])[S.length]? = some (.dict kvs) := by simp
  have hrd : rd (S ++ [Ce.dict kvs]) (.c S.length) = some (.dict ds) := by simp only [rd]; rw [hg]; simp only [hd, Option.map_some]
  have hkd : kindD (S ++ [Ce.dict kvs]) (.c S.length) = true := kindD_c hg
  refine t_run (fd := c_take_route) rfl rfl ?_
  refine tx_next <| tx_asg <| t_get <| t_var rfl ⟨hkd, t_vi rfl rfl rfl ⟨ds, key, hrd, rfl, h1, ?_⟩⟩
  rw [h2]
  refine T.of rfl ⟨rfl, ?_⟩
  refine tx_cons <| tx_ife <| t_or <| to_cons <| t_isN <| t_var rfl ⟨true, rfl, (fun q => nomatch q), fun _ => ⟨true, rfl, (fun _ => ?_), fun q => nomatch q⟩⟩
  refine tx_cons <| tx_setI_dict <| t_var rfl <| t_var rfl <| t_vi rfl rfl rfl ⟨S.length, kvs, key, rfl, hg, rfl, h3, h4, (fun _ => tx_nil ⟨(fun _ => tx_nil ?_), fun q => absurd rfl q⟩), fun q => absurd rfl q⟩
  have e : (S ++ [Ce.dict kvs]).set S.length (.dict (dput kvs key (.d (.tuple (key :: xs))))) = S ++ [.dict (dput kvs key (.d (.tuple (key :: xs))))] := by simp
  have e2 : ((S ++ [Ce.dict (dput kvs key (.d (.tuple (key :: xs))))]).take (S ++ [Ce.dict kvs]).length) = S ++ [.dict (dput kvs key (.d (.tuple (key :: xs))))] := List.take_of_length_le (by simp)
  rw [e]; unfold Post; rw [e2]
  refine ⟨?_, by simp, T.of rfl h⟩
  have := okS_add hok h5
  unfold OkS at this
  rw [List.length_append] at this ⊢
  exact this
theorem t_table {k : Nat} {S : Sto} {t : Tab} {P : Va → Sto → Prop} (hok : OkS S) (h : P (.d (tabOf t)) S) : V (run prg (k + 2) 3 [.d (.list [nearD t.c1 t.a1, farD t.c2])] S) P := by
  refine t_run (fd := c_table_of) rfl rfl ?_
  refine tx_next <| tx_asg <| t_dctC <| T.of rfl ⟨rfl, ?_⟩
  refine tx_next <| tx_loop <| ti_list <| t_var rfl ⟨_, rfl, by simp [big], ?_⟩
  refine tl_cons <| X.bindT <| T.of rfl <| tx_next <| tx_exp <| t_call <| ts_var rfl <| ts_var rfl <| ts_nil <| t_take (kvs := []) (ds := []) hok rfl rfl rfl rfl (by simp) rfl ⟨rfl, rfl, tx_nil ⟨(fun v q => nomatch q), fun _ => ?_⟩⟩
  refine tl_cons <| X.bindT <| T.of rfl <| tx_next <| tx_exp <| t_call <| ts_var rfl <| ts_var rfl <| ts_nil <| t_take (ds := [(tupK [16, 2], nearD t.c1 t.a1)]) hok rfl rfl rfl rfl (by simp [dput, big]) rfl ⟨rfl, rfl, tx_nil ⟨(fun v q => nomatch q), fun _ => ?_⟩⟩
  refine X.of rfl ⟨rfl, ?_⟩
  refine tx_ret1 <| t_var rfl ?_
  refine fin1 hok (x := tabOf t) ?_ h
  have hg : (S ++ [Ce.dict [(tupK [16, 2], Va.d (nearD t.c1 t.a1)), (tupK [8, 2], Va.d (farD t.c2))]])[S.length]? = some (.dict [(tupK [16, 2], Va.d (nearD t.c1 t.a1)), (tupK [8, 2], Va.d (farD t.c2))]) := by simp
  show frz S.length (S ++ [Ce.dict [(tupK [16, 2], Va.d (nearD t.c1 t.a1)), (tupK [8, 2], Va.d (farD t.c2))]]) 3 (.c S.length) = _
  rw [frz_k (Nat.lt_irrefl _) hg]
  rfl
section
variable {fn : Fn} {ρ : Ro} {S : Sto} {P : Va → Sto → Prop}
theorem t_sdf {o k : Ex} (h : V (ev fn ρ S o) fun u S1 => kindD S1 u = true ∧ V (ev fn ρ S1 k) fun v S2 => ∃ n kvs s, u = .c n ∧ S2[n]? = some (.dict kvs) ∧ v = .d (.int s) ∧ kvs.all (fun p => isIK p.1) = true ∧ kvs.length ≤ big ∧ (∀ w, dget kvs (.int s) = some w → P w (S2 ++ [Ce.list []])) ∧ (dget kvs (.int s) = none → P (.c S2.length) ((S2 ++ [Ce.list []]).set n (.dict (kvs ++ [(.int s, .c S2.length)]))))) : V (ev fn ρ S (.sdf o k)) P := by
  obtain ⟨u, S1, e1, hk, v, S2, e2, n, kvs, s, rfl, hg, rfl, h1, h2, h3, h4⟩ := h
  have h0 : isIK (.int s) = true := rfl
  cases hd : dget kvs (.int s) with
  | none => exact ⟨_, _, (by refine bnd e1 (kif hk (bnd e2 ?_)); simp [dat, hg, h0, h1, h2, hd]), h4 hd⟩
  | some w => exact ⟨_, _, (by refine bnd e1 (kif hk (bnd e2 ?_)); simp [dat, hg, h0, h1, h2, hd]), h3 w hd⟩
theorem t_app {o x : Ex} (h : V (ev fn ρ S o) fun u S1 => kindL S1 u = true ∧ V (ev fn ρ S1 x) fun v S2 => ∃ n xs, u = .c n ∧ S2[n]? = some (.list xs) ∧ xs.length ≤ big ∧ P (.d .none) (S2.set n (.list (xs ++ [v])))) : V (ev fn ρ S (.app o x)) P := by
  obtain ⟨u, S1, e1, hk, v, S2, e2, n, xs, rfl, hg, h1, h⟩ := h
  exact ⟨_, _, (by refine bnd e1 (kif hk (bnd e2 ?_)); simp [hg, h1]), h⟩
theorem ti_range {e : Ex} {P : List PyData → Sto → Prop} (h : V (ev fn ρ S e) fun u S1 => ∃ n, u = .d (.int n) ∧ n ≤ 1000 ∧ -1000 ≤ n ∧ P (upTo n) S1) : V (evIt fn ρ S (.range e)) P := by
  obtain ⟨u, S1, e1, n, rfl, h1, h2, h⟩ := h
  exact ⟨_, S1, bnd e1 (if_pos ⟨h1, h2⟩), h⟩
theorem ti_tup {e : Ex} {P : List PyData → Sto → Prop} (h : V (ev fn ρ S e) fun u S1 => ∃ xs, u = .d (.tuple xs) ∧ xs.length ≤ big ∧ P xs S1) : V (evIt fn ρ S (.ex e)) P := by
  obtain ⟨u, S1, e1, xs, rfl, hz, h⟩ := h
  exact ⟨_, S1, bnd e1 (bnd rfl (if_pos hz)), h⟩
theorem bin_fdiv {a b : Int} (h : b ≠ 0 ∧ b.natAbs < 2 ^ 60) : binD .fdiv (.int a) (.int b) = some (.int (Int.fdiv a b)) := if_pos h
theorem bin_mul {a b : Int} (h : a.natAbs < 2 ^ 60) : binD .mul (.int a) (.int b) = some (.int (a * b)) := if_pos h
theorem ok_draw {n : Nat} {xs : List Int} (hok : OkS S) : OkS (S.set 0 (poolC xs n)) := by
  unfold OkS
  rw [List.length_set, List.all_eq_true]
  intro c hc
  rcases List.mem_or_eq_of_mem_set hc with q | q
  · exact List.all_eq_true.mp hok c q
  · rw [q]; rfl
end
end Mine
end
end
section
open PySem
set_option maxRecDepth 100000
set_option Elab.async false
set_option autoImplicit false
set_option linter.unusedVariables false
noncomputable section
namespace Mine
abbrev WL := List (Int × Nat × List Way)
structure WI (S : Sto) (xs : List Int) (W : WL) (n : Nat) (St : Sto) : Prop where
  base : St.take S.length = S.set 0 (poolC xs n)
  dic : St[S.length]? = some (.dict (W.map fun p => (PyData.int p.1, Va.c p.2.1)))
  cel : ∀ p ∈ W, S.length < p.2.1 ∧ St[p.2.1]? = some (.list (p.2.2.map fun y => Va.d (wayD y)))
  nd : (W.map (·.2.1)).Nodup
  ok : OkS St
section
variable {S St : Sto} {xs : List Int} {W : WL} {n : Nat}
theorem WI.lt (I : WI S xs W n St) : S.length < St.length := (List.getElem?_eq_some_iff.mp I.dic).1
theorem WI.pool (I : WI S xs W n St) (h0 : 0 < S.length) : St[0]? = some (poolC xs n) := by
  have h := congrArg (·[0]?) I.base
  simp only [List.getElem?_take] at h
  rw [if_pos h0] at h
  rw [h, List.getElem?_set]
  simp [h0]
theorem WI.draw (I : WI S xs W n St) (h0 : 0 < S.length) : WI S xs W (n + 1) (St.set 0 (poolC xs (n + 1))) := by
  refine ⟨?_, ?_, fun p hp => ⟨(I.cel p hp).1, ?_⟩, I.nd, ok_draw I.ok⟩
  · rw [List.take_set, I.base, List.set_set]
  · rw [List.getElem?_set_ne (by lia)]; exact I.dic
  · rw [List.getElem?_set_ne (by have := (I.cel p hp).1; lia)]; exact (I.cel p hp).2
theorem WI.old (I : WI S xs W n St) : WI S xs W n (St ++ [Ce.list []]) := by
  have hl := I.lt
  refine ⟨?_, ?_, fun p hp => ⟨(I.cel p hp).1, ?_⟩, I.nd, okS_add I.ok rfl⟩
  · rw [List.take_append_of_le_length (by lia)]; exact I.base
  · rw [List.getElem?_append_left hl]; exact I.dic
  · have h := (I.cel p hp).2
    rw [List.getElem?_append_left (List.getElem?_eq_some_iff.mp h).1]; exact h
theorem WI.new (I : WI S xs W n St) (s : Int) : WI S xs (W ++ [(s, St.length, [])]) n ((St ++ [Ce.list []]).set S.length (.dict ((W.map fun p => (PyData.int p.1, Va.c p.2.1)) ++ [(.int s, .c St.length)]))) := by
  have hl := I.lt
  have J := I.old
  refine ⟨?_, ?_, ?_, ?_, ?_⟩
  · rw [List.take_set, J.base, List.set_eq_of_length_le (by simp)]
  · rw [List.getElem?_set]
    simp [show S.length < St.length + 1 by lia]
  · intro p hp
    rcases List.mem_append.mp hp with hp | hp
    · refine ⟨(I.cel p hp).1, ?_⟩
      rw [List.getElem?_set_ne (by have := (I.cel p hp).1; lia)]; exact (J.cel p hp).2
    · rw [List.mem_singleton.mp hp]
      refine ⟨hl, ?_⟩
      rw [List.getElem?_set_ne (by show S.length ≠ St.length; lia)]
      simp
  · rw [List.map_append]
    refine List.nodup_append.mpr ⟨I.nd, by simp, ?_⟩
    intro a ha b hb e
    obtain ⟨p, hp, rfl⟩ := List.mem_map.mp ha
    rw [List.map_singleton, List.mem_singleton] at hb
    have := (List.getElem?_eq_some_iff.mp (I.cel p hp).2).1
    rw [e, hb] at this
    exact Nat.lt_irrefl _ this
  · unfold OkS
    rw [List.length_set, List.all_eq_true]
    intro c hc
    rcases List.mem_or_eq_of_mem_set hc with q | q
    · exact List.all_eq_true.mp J.ok c q
    · subst q
      show List.all _ _ = true
      rw [List.all_append, Bool.and_eq_true]
      refine ⟨List.all_eq_true.mpr fun x hx => ?_, by simp [okVa]⟩
      obtain ⟨p, hp, rfl⟩ := List.mem_map.mp hx
      have := (List.getElem?_eq_some_iff.mp (I.cel p hp).2).1
      simp [okVa]; lia
theorem WI.app (I : WI S xs W n St) {s : Int} {m : Nat} {ws : List Way} (hm : (s, m, ws) ∈ W) (y : Way) : WI S xs (W.map fun p => if p.2.1 = m then (p.1, m, ws ++ [y]) else p) n (St.set m (.list ((ws.map fun y => Va.d (wayD y)) ++ [.d (wayD y)]))) := by
  have hL := (I.cel _ hm).1
  have hM := (List.getElem?_eq_some_iff.mp (I.cel _ hm).2).1
  simp only at hL hM
  refine ⟨?_, ?_, ?_, ?_, ?_⟩
  · rw [List.take_set, I.base, List.set_eq_of_length_le (by simp; lia)]
  · rw [List.getElem?_set_ne (by lia), I.dic, List.map_map]
    congr 2
    refine List.map_congr_left fun p _ => ?_
    simp only [Function.comp]
    split
    · rename_i e; simp only; rw [e]
    · rfl
  · intro p hp
    obtain ⟨q, hq, rfl⟩ := List.mem_map.mp hp
    by_cases e : q.2.1 = m
    · rw [if_pos e]
      refine ⟨hL, ?_⟩
      rw [List.getElem?_set, if_pos rfl, if_pos hM]
      simp
    · rw [if_neg e]
      refine ⟨(I.cel q hq).1, ?_⟩
      rw [List.getElem?_set_ne (fun h => e h.symm)]
      exact (I.cel q hq).2
  · have : (W.map fun p => if p.2.1 = m then (p.1, m, ws ++ [y]) else p).map (·.2.1) = W.map (·.2.1) := by
      rw [List.map_map]
      refine List.map_congr_left fun p _ => ?_
      simp only [Function.comp]
      split
      · rename_i e; simp only; rw [e]
      · rfl
    rw [this]; exact I.nd
  · unfold OkS
    rw [List.length_set, List.all_eq_true]
    intro c hc
    rcases List.mem_or_eq_of_mem_set hc with q | q
    · exact List.all_eq_true.mp I.ok c q
    · subst q
      show List.all _ _ = true
      rw [List.all_append, Bool.and_eq_true]
      refine ⟨List.all_eq_true.mpr fun x hx => ?_, by simp [okVa]⟩
      obtain ⟨p, hp, rfl⟩ := List.mem_map.mp hx
      rfl
end
structure WayG (one : Bool) (y : Way) : Prop where
  nd : y.hops.Nodup
  len : y.hops.length ≤ 2
  area : one = true → y.area = 0
structure GT (one : Bool) (c : Nat) (W : WL) : Prop where
  keys : (W.map (·.1)).Nodup
  len : W.length ≤ c
  ways : ∀ p ∈ W, p.2.2.length ≤ c ∧ ∀ y ∈ p.2.2, WayG one y
theorem wl_some {s : Int} {w : Va} : ∀ {W : WL}, dget (W.map fun p => (PyData.int p.1, Va.c p.2.1)) (.int s) = some w → ∃ m ws, (s, m, ws) ∈ W ∧ w = .c m
  | [], h => nomatch h
  | (i, m, ws) :: r, h => by
    simp only [List.map_cons, dget, List.find?_cons, keq_int] at h
    by_cases e : i = s
    · subst e
      simp at h
      exact ⟨m, ws, .head _, h.symm⟩
    · simp only [e, decide_false] at h
      obtain ⟨m', ws', h1, h2⟩ := wl_some (W := r) h
      exact ⟨m', ws', .tail _ h1, h2⟩
theorem wl_none {s : Int} : ∀ {W : WL}, dget (W.map fun p => (PyData.int p.1, Va.c p.2.1)) (.int s) = none → ∀ p ∈ W, p.1 ≠ s
  | [], h, p, hp => nomatch hp
  | (i, m, ws) :: r, h, p, hp => by
    simp only [List.map_cons, dget, List.find?_cons, keq_int] at h
    by_cases e : i = s
    · simp [e] at h
    · simp only [e, decide_false] at h
      rcases List.mem_cons.mp hp with rfl | hp
      · exact e
      · exact wl_none (W := r) h p hp
structure WE (ρ : Ro) (L : Nat) (one : Bool) (s : Int) : Prop where
  v7 : ρ.lookup 7 = some (.c L)
  v37 : ρ.lookup 37 = some (.c 0)
  v39 : ρ.lookup 39 = some (.d (.bool one))
  v40 : ρ.lookup 40 = some (.d (.int s))
theorem WE.set {ρ : Ro} {L : Nat} {one : Bool} {s : Int} (h : WE ρ L one s) {i : Nat} (v : Va) (hi : Nat.beq 7 i = false ∧ Nat.beq 37 i = false ∧ Nat.beq 39 i = false ∧ Nat.beq 40 i = false) : WE (setV ρ i v) L one s := ⟨lk_ne hi.1 h.v7, lk_ne hi.2.1 h.v37, lk_ne hi.2.2.1 h.v39, lk_ne hi.2.2.2 h.v40⟩
noncomputable def wayBody : List Sm := [.asg (.nm 8) (.ite (.var 39) (.int 0) (.call 11 [(.var 37), (.int 3)])), .asg (.nm 21) (.idx (.lst [(.tup [(.tup [(.var 40), (.int 7)])]), (.tup [(.tup [(.int 1), (.int 7)]), (.tup [(.var 40), (.int 9)])])]) (.call 11 [(.var 37), (.int 2)])), .exp (.app (.sdf (.var 7) (.var 40)) (.tup [(.bin .add (.int 1) (.call 11 [(.var 37), (.int 4)])), (.var 21), (.var 8), (.cmp .eq (.var 41) (.int 0))]))]
theorem way_add {k : Nat} {S St : Sto} {xs : List Int} {W : WL} {n : Nat} {ρ : Ro} {one : Bool} {c : Nat} {s j : Int} (h0 : 0 < S.length) (hx : xs.length ≤ 1000) (hc : c ≤ 1000) (E : WE ρ S.length one s) (l41 : ρ.lookup 41 = some (.d (.int j))) (I : WI S xs W n St) (G : GT one c W) :
    X (exs (run prg (k + 1)) ρ St wayBody) fun fl ρ' S' => fl = .next ∧ WE ρ' S.length one s ∧ ∃ W' n', WI S xs W' n' S' ∧ GT one (c + 1) W' := by
  have s8 : V (ev (run prg (k + 1)) ρ St (.ite (.var 39) (.int 0) (.call 11 [(.var 37), (.int 3)]))) fun u S1 => ∃ a n1, u = .d (.int a) ∧ (one = true → a = 0) ∧ WI S xs W n1 S1 := by
    refine t_ite <| t_var E.v39 ⟨one, rfl, fun h1 => t_int ⟨0, n, rfl, fun _ => rfl, I⟩, fun h1 => ?_⟩
    refine t_call <| ts_var E.v37 <| ts_int <| ts_nil <| t_draw (I.pool h0) I.ok hx (by decide) fun v _ _ => ⟨v, n + 1, rfl, (fun q => by rw [h1] at q; cases q), I.draw h0⟩
  unfold wayBody
  refine tx_next <| tx_asg <| s8.imp ?_
  rintro u S1 ⟨a, n1, rfl, ha, I1⟩
  refine T.of rfl ⟨rfl, ?_⟩
  have E2 := E.set (i := 8) (.d (.int a)) (by decide)
  have l8 : (setV ρ 8 (.d (.int a))).lookup 8 = some (.d (.int a)) := by repeat (first | exact lk_eq | refine lk_ne rfl ?_)
  have m41 : (setV ρ 8 (.d (.int a))).lookup 41 = some (.d (.int j)) := by repeat (first | exact lk_eq | exact l41 | refine lk_ne rfl ?_)
  generalize setV ρ 8 (.d (.int a)) = ρ2 at E2 l8 m41
  have s21 : V (ev (run prg (k + 1)) ρ2 S1 (.idx (.lst [(.tup [(.tup [(.var 40), (.int 7)])]), (.tup [(.tup [(.int 1), (.int 7)]), (.tup [(.var 40), (.int 9)])])]) (.call 11 [(.var 37), (.int 2)]))) fun u S1 => ∃ hs n1, u = .d (hopsD hs) ∧ (hs = [(s, 7)] ∨ hs = [(1, 7), (s, 9)]) ∧ WI S xs W n1 S1 := by
    refine t_idx <| t_lst <| ts_cons <| t_tup <| ts_cons <| t_tup <| ts_var E2.v40 <| ts_int <| ts_nil <| T.of rfl <| ts_nil <| T.of rfl <| ts_cons <| t_tup <| ts_cons <| t_tup <| ts_int <| ts_int <| ts_nil <| T.of rfl <| ts_cons <| t_tup <| ts_var E2.v40 <| ts_int <| ts_nil <| T.of rfl <| ts_nil <| T.of rfl <| ts_nil <| T.of rfl ?_
    refine t_call <| ts_var E2.v37 <| ts_int <| ts_nil <| t_draw (I1.pool h0) I1.ok hx (by decide) fun v h1 h2 => ?_
    have hv : v = 0 ∨ v = 1 := by lia
    rcases hv with rfl | rfl
    · exact T.of rfl <| T.of rfl <| T.of rfl ⟨[(s, 7)], n1 + 1, rfl, .inl rfl, I1.draw h0⟩
    · exact T.of rfl <| T.of rfl <| T.of rfl ⟨[(1, 7), (s, 9)], n1 + 1, rfl, .inr rfl, I1.draw h0⟩
  refine tx_next <| tx_asg <| s21.imp ?_
  rintro u S2 ⟨hs, n2, rfl, hh, I2⟩
  refine T.of rfl ⟨rfl, ?_⟩
  have E3 := E2.set (i := 21) (.d (hopsD hs)) (by decide)
  have k8 : (setV ρ2 21 (.d (hopsD hs))).lookup 8 = some (.d (.int a)) := by repeat (first | exact lk_eq | exact l8 | refine lk_ne rfl ?_)
  have k21 : (setV ρ2 21 (.d (hopsD hs))).lookup 21 = some (.d (hopsD hs)) := by repeat (first | exact lk_eq | refine lk_ne rfl ?_)
  have k41 : (setV ρ2 21 (.d (hopsD hs))).lookup 41 = some (.d (.int j)) := by repeat (first | exact lk_eq | exact m41 | refine lk_ne rfl ?_)
  generalize setV ρ2 21 (.d (hopsD hs)) = ρ3 at E3 k8 k21 k41
  have hg : hs.Nodup ∧ hs.length ≤ 2 := by
    rcases hh with rfl | rfl
    · exact ⟨by simp, by simp⟩
    · exact ⟨by simp, by simp⟩
  have fin : ∀ (W1 : WL) (m : Nat) (ws : List Way) (St1 : Sto), (s, m, ws) ∈ W1 → WI S xs W1 n2 St1 → (W1.map (·.1)).Nodup → W1.length ≤ c + 1 → (∀ p ∈ W1, p.2.2.length ≤ c ∧ ∀ y ∈ p.2.2, WayG one y) →
      kindL St1 (.c m) = true ∧ V (ev (run prg (k + 1)) ρ3 St1 (.tup [(.bin .add (.int 1) (.call 11 [(.var 37), (.int 4)])), (.var 21), (.var 8), (.cmp .eq (.var 41) (.int 0))])) fun v S2 => ∃ n xs', Va.c m = .c n ∧ S2[n]? = some (.list xs') ∧ xs'.length ≤ big ∧ (Va.d .none = .d .none ∧ (Fl.next = .next ∧ X (exs (run prg (k + 1)) ρ3 (S2.set n (.list (xs' ++ [v]))) []) fun fl ρ' S' => fl = .next ∧ WE ρ' S.length one s ∧ ∃ W' n', WI S xs W' n' S' ∧ GT one (c + 1) W')) := by
    intro W1 m ws St1 hm I3 hk hl hw
    have hcm := (I3.cel _ hm).2
    refine ⟨kindL_c hcm, ?_⟩
    refine t_tup <| ts_cons <| t_bin <| t_int <| t_call <| ts_var E3.v37 <| ts_int <| ts_nil <| t_draw (I3.pool h0) I3.ok hx (by decide) fun v _ _ => ?_
    refine T.of rfl <| T.of rfl <| T.of rfl <| ts_var k21 <| ts_var k8 <| ts_cons <| t_cvi k41 rfl (cmp_eq_int _ _) <| ts_nil <| T.of rfl ?_
    have I4 := I3.draw h0
    refine ⟨m, _, rfl, (I4.cel _ hm).2, by have := (hw _ hm).1; simp only at this; simp [big]; lia, rfl, rfl, tx_nil ⟨rfl, E3, ?_⟩⟩
    refine ⟨_, _, I4.app hm ⟨1 + v, hs, a, decide (j = 0)⟩, ?_, ?_, ?_⟩
    · have : (W1.map fun p => if p.2.1 = m then (p.1, m, ws ++ [Way.mk (1 + v) hs a (decide (j = 0))]) else p).map (·.1) = W1.map (·.1) := by
        rw [List.map_map]
        refine List.map_congr_left fun p _ => ?_
        simp only [Function.comp]
        split <;> rfl
      rw [this]; exact hk
    · rw [List.length_map]; exact hl
    · intro p hp
      obtain ⟨q, hq, rfl⟩ := List.mem_map.mp hp
      have h1 := hw q hq
      have h2 := hw _ hm
      by_cases e : q.2.1 = m
      · rw [if_pos e]
        refine ⟨by have := h2.1; simp only at this; simp; lia, fun y hy => ?_⟩
        rcases List.mem_append.mp hy with hy | hy
        · exact h2.2 y hy
        · rw [List.mem_singleton.mp hy]; exact ⟨hg.1, hg.2, ha⟩
      · rw [if_neg e]
        exact ⟨by have := h1.1; lia, h1.2⟩
  refine tx_next <| tx_exp <| t_app <| t_sdf <| t_var E3.v7 ⟨kindD_c I2.dic, t_var E3.v40 ⟨S.length, _, s, rfl, I2.dic, rfl, by simp [isIK], by have := G.len; simp [big]; lia, fun w hw => ?_, fun hn => ?_⟩⟩
  · obtain ⟨m, ws, hm, rfl⟩ := wl_some hw
    exact fin W m ws _ hm I2.old G.keys (by have := G.len; lia) G.ways
  · have hno := wl_none hn
    refine fin (W ++ [(s, S2.length, [])]) S2.length [] _ (by simp) (I2.new s) ?_ (by have := G.len; simp; lia) ?_
    · rw [List.map_append]
      refine List.nodup_append.mpr ⟨G.keys, by simp, ?_⟩
      intro x hx y hy e
      obtain ⟨p, hp, rfl⟩ := List.mem_map.mp hx
      rw [List.map_singleton, List.mem_singleton] at hy
      exact hno p hp (e.trans hy)
    · intro p hp
      rcases List.mem_append.mp hp with hp | hp
      · exact G.ways p hp
      · rw [List.mem_singleton.mp hp]
        exact ⟨Nat.zero_le _, fun y hy => nomatch hy⟩
end Mine
end
end
section
open PySem
set_option maxRecDepth 100000
set_option Elab.async false
set_option autoImplicit false
set_option linter.unusedVariables false
noncomputable section
namespace Mine
structure LeadG (one : Bool) (W : Lead) : Prop where
  keys : (W.map (·.1)).Nodup
  len : W.length ≤ 6
  ways : ∀ p ∈ W, p.2.length ≤ 6 ∧ ∀ y ∈ p.2, WayG one y
theorem GT.mono {one : Bool} {c d : Nat} {W : WL} (h : GT one c W) (hd : c ≤ d) : GT one d W :=
  ⟨h.keys, by have := h.len; lia, fun p hp => ⟨by have := (h.ways p hp).1; lia, (h.ways p hp).2⟩⟩
theorem mapO_d {α : Type} (f : α → PyData) {lo : Nat} {S : Sto} {k : Nat} : ∀ ys : List α, mapO (frz lo S k) (ys.map fun y => Va.d (f y)) = some (ys.map f)
  | [] => rfl
  | y :: r => by
    show (frz lo S k (.d (f y))).bind _ = _
    have : frz lo S k (.d (f y)) = some (f y) := by cases k <;> rfl
    rw [this]
    simp only [Option.bind_some]
    show (mapO (frz lo S k) (r.map fun y => Va.d (f y))).map _ = _
    rw [mapO_d f r]; rfl
theorem frz_ways {L : Nat} {St : Sto} : ∀ W : WL, (∀ p ∈ W, L < p.2.1 ∧ St[p.2.1]? = some (.list (p.2.2.map fun y => Va.d (wayD y)))) → mapO (fun p => (frz L St 2 p.2).map fun y => (p.1, y)) (W.map fun p => (PyData.int p.1, Va.c p.2.1)) = some (W.map fun p => (PyData.int p.1, PyData.list (p.2.2.map wayD)))
  | [], _ => rfl
  | (s, m, ws) :: r, h => by
    have h1 := h _ (.head _)
    have : frz L St 2 (.c m) = some (.list (ws.map wayD)) := by
      rw [frz_l (Nat.not_lt.mpr (Nat.le_of_lt h1.1)) h1.2, mapO_d wayD]; rfl
    rw [List.map_cons, mapO_cons]
    simp only [this, Option.map_some, Option.bind_some]
    rw [frz_ways r fun p hp => h p (.tail _ hp)]
    rfl
theorem lead_of (W : WL) : leadD (W.map fun p => (p.1, p.2.2)) = .dict (W.map fun p => (PyData.int p.1, PyData.list (p.2.2.map wayD))) := by
  unfold leadD
  rw [List.map_map]; rfl
theorem set_pool {S : Sto} {xs : List Int} {n : Nat} (h : S[0]? = some (poolC xs n)) : S.set 0 (poolC xs n) = S := by
  apply List.ext_getElem?
  intro i
  rw [List.getElem?_set]
  split
  · rename_i e; subst e; rw [if_pos (pool_get h), h]
  · rfl
theorem loop_next {f : PyData → Ro → Sto → Option (Fl × Ro × Sto)} {P : Ro → Sto → Prop} (I : List PyData → Ro → Sto → Prop) (turn : ∀ x rest ρ S, I (x :: rest) ρ S → X (f x ρ S) fun fl ρ' S' => fl = .next ∧ I rest ρ' S') (done : ∀ ρ S, I [] ρ S → P ρ S) (xs : List PyData) (ρ : Ro) (S : Sto) (h : I xs ρ S) : X (floop f xs ρ S) fun fl ρ S => fl = .next ∧ P ρ S :=
  loop_inv I (fun x rest ρ S h => (turn x rest ρ S h).imp fun fl ρ' S' q => ⟨(fun v e => by rw [q.1] at e; cases e), fun _ => q.2⟩) (fun ρ S h => ⟨rfl, done ρ S h⟩) xs ρ S h
theorem t_ways {k : Nat} {S : Sto} {xs : List Int} {n : Nat} {one : Bool} {P : Va → Sto → Prop} (hp : S[0]? = some (poolC xs n)) (hok : OkS S) (hx : xs.length ≤ 1000) (h : ∀ W n', LeadG one W → P (.d (leadD W)) (S.set 0 (poolC xs n'))) : V (run prg (k + 2) 12 [.c 0, .d (.bool one)] S) P := by
  have h0 := pool_get hp
  refine t_run (fd := c_law_ways) rfl rfl ?_
  refine tx_next <| tx_asg <| t_dctC <| T.of rfl ⟨rfl, ?_⟩
  refine tx_next <| tx_loop <| ti_tup <| t_tup <| ts_int <| ts_int <| ts_int <| ts_nil <| T.of rfl ⟨_, rfl, by simp [big], ?_⟩
  refine (loop_next (fun rest ρ St => ∃ ss : List Int, ∃ c W n, rest = ss.map .int ∧ c + 2 * ss.length ≤ 6 ∧ (ρ.lookup 7 = some (.c S.length) ∧ ρ.lookup 37 = some (.c 0) ∧ ρ.lookup 39 = some (.d (.bool one))) ∧ WI S xs W n St ∧ GT one c W) (P := fun ρ St => ∃ W n, ρ.lookup 7 = some (.c S.length) ∧ WI S xs W n St ∧ GT one 6 W) ?_ ?_ _ _ _ ⟨[2, 3, 4], 0, [], n, rfl, by decide, ⟨rfl, rfl, rfl⟩, ?_, ?_⟩).imp ?_
  · rintro x rest ρ St ⟨ss, c, W, n, e, hc, ⟨l7, l37, l39⟩, I, G⟩
    cases ss with
    | nil => cases e
    | cons s ss =>
      cases e
      rw [List.length_cons] at hc
      refine X.bindT <| T.of rfl ?_
      have E : WE (setV ρ 40 (.d (.int s))) S.length one s := ⟨by repeat (first | exact lk_eq | exact l7 | refine lk_ne rfl ?_), by repeat (first | exact lk_eq | exact l37 | refine lk_ne rfl ?_), by repeat (first | exact lk_eq | exact l39 | refine lk_ne rfl ?_), by repeat (first | exact lk_eq | refine lk_ne rfl ?_)⟩
      generalize setV ρ 40 (.d (.int s)) = ρ1 at E
      refine tx_next <| tx_asg <| t_bin <| t_call <| ts_var E.v37 <| ts_int <| ts_nil <| t_draw (I.pool h0) I.ok hx (by decide) fun v h1 h2 => ?_
      refine t_int <| T.of rfl <| T.of rfl <| T.of rfl <| T.of rfl ⟨rfl, ?_⟩
      have I1 := I.draw h0
      have E1 := E.set (i := 38) (.d (.int (v + 1))) (by decide)
      have l38 : (setV ρ1 38 (.d (.int (v + 1)))).lookup 38 = some (.d (.int (v + 1))) := by repeat (first | exact lk_eq | refine lk_ne rfl ?_)
      show X (exs _ (setV ρ1 38 (.d (.int (v + 1)))) _ _) _
      generalize setV ρ1 38 (.d (.int (v + 1))) = ρ2 at E1 l38
      have hj : ∃ js : List Int, upTo (Int.fdiv (v + 1) 2) = js.map .int ∧ js.length ≤ 2 ∧ Int.fdiv (v + 1) 2 ≤ 1000 ∧ -1000 ≤ Int.fdiv (v + 1) 2 := by
        have : v = 0 ∨ v = 1 ∨ v = 2 ∨ v = 3 ∨ v = 4 := by lia
        rcases this with rfl | rfl | rfl | rfl | rfl
        · exact ⟨[], rfl, by decide, by decide, by decide⟩
        · exact ⟨[0], rfl, by decide, by decide, by decide⟩
        · exact ⟨[0], rfl, by decide, by decide, by decide⟩
        · exact ⟨[0, 1], rfl, by decide, by decide, by decide⟩
        · exact ⟨[0, 1], rfl, by decide, by decide, by decide⟩
      obtain ⟨js, hj1, hj2, hj3, hj4⟩ := hj
      refine tx_next <| tx_loop <| ti_range <| t_bin <| t_var l38 <| t_int <| T.of rfl <| T.of rfl <| T.of (bin_fdiv (by decide)) ⟨_, rfl, hj3, hj4, ?_⟩
      rw [hj1]
      refine (loop_next (fun rest ρ St => ∃ js : List Int, ∃ d W n, rest = js.map .int ∧ d + js.length ≤ c + 2 ∧ WE ρ S.length one s ∧ WI S xs W n St ∧ GT one d W) (P := fun ρ St => ∃ W n, WE ρ S.length one s ∧ WI S xs W n St ∧ GT one (c + 2) W) ?_ ?_ _ _ _ ⟨js, c, W, n + 1, rfl, by lia, E1, I1, G⟩).imp ?_
      · rintro x rest ρ St ⟨js, d, W, n, e, hd, E, I, G⟩
        cases js with
        | nil => cases e
        | cons j js =>
          cases e
          rw [List.length_cons] at hd
          refine X.bindT <| T.of rfl ?_
          refine (way_add (j := j) h0 hx (by lia) (E.set (i := 41) (.d (.int j)) (by decide)) (by repeat (first | exact lk_eq | refine lk_ne rfl ?_)) I G).imp ?_
          rintro fl ρ' S' ⟨h1, h2, W', n', h3, h4⟩
          exact ⟨h1, js, d + 1, W', n', rfl, by lia, h2, h3, h4⟩
      · rintro ρ St ⟨js, d, W, n, e, hd, E, I, G⟩
        exact ⟨W, n, E, I, G.mono (by lia)⟩
      · rintro fl ρ' S' ⟨h1, W', n', E', I', G'⟩
        exact ⟨h1, tx_nil ⟨rfl, ss, c + 2, W', n', rfl, by lia, ⟨E'.v7, E'.v37, E'.v39⟩, I', G'⟩⟩
  · rintro ρ St ⟨ss, c, W, n, e, hc, ⟨l7, l37, l39⟩, I, G⟩
    exact ⟨W, n, l7, I, G.mono (by lia)⟩
  · refine ⟨?_, ?_, fun p hp => (nomatch hp), by simp, okS_add hok rfl⟩
    · rw [List.take_left, set_pool hp]
    · simp
  · exact ⟨by simp, by simp, fun p hp => nomatch hp⟩
  · rintro fl ρ St ⟨rfl, W, n, l7, I, G⟩
    refine ⟨rfl, tx_ret1 <| t_var l7 ?_⟩
    unfold Post; rw [I.base]
    refine ⟨?_, by have := I.lt; lia, ?_⟩
    · have := ok_draw (n := n) (xs := xs) hok
      unfold OkS at this
      rw [List.length_set] at this
      exact this
    · refine T.of (a := leadD (W.map fun p => (p.1, p.2.2))) ?_ (h _ _ ⟨?_, by have := G.len; simpa using this, ?_⟩)
      · show frz S.length St 3 (.c S.length) = _
        rw [lead_of]
        rw [frz_k (Nat.lt_irrefl _) I.dic, frz_ways W I.cel]; rfl
      · rw [List.map_map]; exact G.keys
      · intro p hp
        obtain ⟨q, hq, rfl⟩ := List.mem_map.mp hp
        exact G.ways q hq
end Mine
end
end
section
open PySem
set_option maxRecDepth 100000
set_option Elab.async false
set_option autoImplicit false
set_option linter.unusedVariables false
noncomputable section
namespace Mine
structure RowS (r : Row) : Prop where
  ok : RowOk r
  met : r.met ≤ 99
abbrev RI (S : Sto) (xs : List Int) (rows : List Row) (n : Nat) : Sto := S.set 0 (poolC xs n) ++ [Ce.list (rows.map fun r => Va.d (rowD r))]
section
variable {S : Sto} {xs : List Int} {rows : List Row} {n : Nat}
theorem ri_set (h0 : 0 < S.length) : (RI S xs rows n).set 0 (poolC xs (n + 1)) = RI S xs rows (n + 1) := by
  unfold RI
  rw [List.set_append_left _ _ (by simpa using h0), List.set_set]
theorem ri_pool (h0 : 0 < S.length) : (RI S xs rows n)[0]? = some (poolC xs n) := by
  unfold RI
  rw [List.getElem?_append_left (by simpa using h0), List.getElem?_set]
  simp [h0]
theorem ri_ok (hok : OkS S) : OkS (RI S xs rows n) := okS_add (ok_draw hok) (by simp [okCe, okVa])
theorem ri_get : (RI S xs rows n)[S.length]? = some (.list (rows.map fun r => Va.d (rowD r))) := by simp [RI]
theorem ri_app (r : Row) : (RI S xs rows n).set S.length (.list ((rows.map fun r => Va.d (rowD r)) ++ [.d (rowD r)])) = RI S xs (rows ++ [r]) n := by
  unfold RI
  rw [List.set_append_right _ _ (by simp)]
  simp
end
theorem t_rows {k : Nat} {S : Sto} {xs : List Int} {n : Nat} {P : Va → Sto → Prop} (hp : S[0]? = some (poolC xs n)) (hok : OkS S) (hx : xs.length ≤ 1000) (h : ∀ (rows : List Row) n', rows.length ≤ 6 → (∀ r ∈ rows, RowS r) → P (.d (.list (rows.map rowD))) (S.set 0 (poolC xs n'))) : V (run prg (k + 2) 13 [.c 0] S) P := by
  have h0 := pool_get hp
  refine t_run (fd := c_law_rows) rfl rfl ?_
  refine tx_next <| tx_asg <| t_lstC <| ts_nil <| T.of rfl ⟨rfl, ?_⟩
  have e0 : S ++ [Ce.list []] = RI S xs [] n := by unfold RI; rw [set_pool hp]; rfl
  rw [e0]
  refine tx_next <| tx_loop <| ti_range <| t_bin <| t_int <| t_call <| ts_var rfl <| ts_int <| ts_nil <| t_draw (ri_pool h0) (ri_ok hok) hx (by decide) fun v h1 h2 => ?_
  rw [ri_set h0]
  refine T.of rfl <| T.of rfl <| T.of rfl ⟨_, rfl, by lia, by lia, ?_⟩
  have hj : ∃ js : List Int, upTo (3 + v) = js.map .int ∧ js.length ≤ 6 := ⟨(List.range (3 + v).toNat).map fun (k : Nat) => (k : Int), by unfold upTo; rw [List.map_map]; rfl, by simp; lia⟩
  obtain ⟨js, hj1, hj2⟩ := hj
  rw [hj1]
  refine (loop_next (fun rest ρ St => ∃ js : List Int, ∃ rows : List Row, ∃ n, rest = js.map .int ∧ rows.length + js.length ≤ 6 ∧ (ρ.lookup 23 = some (.c S.length) ∧ ρ.lookup 37 = some (.c 0)) ∧ St = RI S xs rows n ∧ ∀ r ∈ rows, RowS r) (P := fun ρ St => ∃ rows : List Row, ∃ n, ρ.lookup 23 = some (.c S.length) ∧ St = RI S xs rows n ∧ rows.length ≤ 6 ∧ ∀ r ∈ rows, RowS r) ?_ ?_ _ _ _ ⟨js, [], n + 1, rfl, by simpa using hj2, ⟨rfl, rfl⟩, rfl, fun r hr => nomatch hr⟩).imp ?_
  · rintro x rest ρ St ⟨js, rows, n, e, hc, ⟨l23, l37⟩, rfl, G⟩
    cases js with
    | nil => cases e
    | cons j js =>
      cases e
      rw [List.length_cons] at hc
      refine X.bindT <| T.of rfl ?_
      have m23 : (setV ρ 41 (.d (.int j))).lookup 23 = some (.c S.length) := by repeat (first | exact lk_eq | exact l23 | refine lk_ne rfl ?_)
      have m37 : (setV ρ 41 (.d (.int j))).lookup 37 = some (.c 0) := by repeat (first | exact lk_eq | exact l37 | refine lk_ne rfl ?_)
      have m41 : (setV ρ 41 (.d (.int j))).lookup 41 = some (.d (.int j)) := by repeat (first | exact lk_eq | refine lk_ne rfl ?_)
      generalize setV ρ 41 (.d (.int j)) = ρ1 at m23 m37 m41
      refine tx_next <| tx_asg <| t_tup <| ts_cons <| t_cmp <| t_call <| ts_var m37 <| ts_int <| ts_nil <| t_draw (ri_pool h0) (ri_ok hok) hx (by decide) fun a ha1 ha2 => ?_
      rw [ri_set h0]
      refine t_int <| T.of rfl <| T.of rfl <| T.of (cmp_eq_int _ _) <| ts_cons <| t_bin <| t_int <| t_call <| ts_var m37 <| ts_int <| ts_nil <| t_draw (ri_pool h0) (ri_ok hok) hx (by decide) fun b hb1 hb2 => ?_
      rw [ri_set h0]
      refine T.of rfl <| T.of rfl <| T.of rfl <| ts_nil <| T.of rfl <| T.of rfl ⟨rfl, ?_⟩
      have k23 : (setV (setV ρ1 42 (.d (.bool (decide (a = 1))))) 18 (.d (.int (2 + b)))).lookup 23 = some (.c S.length) := by repeat (first | exact lk_eq | exact m23 | refine lk_ne rfl ?_)
      have k37 : (setV (setV ρ1 42 (.d (.bool (decide (a = 1))))) 18 (.d (.int (2 + b)))).lookup 37 = some (.c 0) := by repeat (first | exact lk_eq | exact m37 | refine lk_ne rfl ?_)
      have k41 : (setV (setV ρ1 42 (.d (.bool (decide (a = 1))))) 18 (.d (.int (2 + b)))).lookup 41 = some (.d (.int j)) := by repeat (first | exact lk_eq | exact m41 | refine lk_ne rfl ?_)
      have k42 : (setV (setV ρ1 42 (.d (.bool (decide (a = 1))))) 18 (.d (.int (2 + b)))).lookup 42 = some (.d (.bool (decide (a = 1)))) := by repeat (first | exact lk_eq | refine lk_ne rfl ?_)
      have k18 : (setV (setV ρ1 42 (.d (.bool (decide (a = 1))))) 18 (.d (.int (2 + b)))).lookup 18 = some (.d (.int (2 + b))) := by repeat (first | exact lk_eq | refine lk_ne rfl ?_)
      generalize setV (setV ρ1 42 (.d (.bool (decide (a = 1))))) 18 (.d (.int (2 + b))) = ρ2 at k23 k37 k41 k42 k18
      have sF : V (ev (run prg (k + 1)) ρ2 (RI S xs rows (n + 1 + 1)) (.idx (.lst [(.int 0), (.int 0), (.int 0), (.int 17), (.int 9)]) (.call 11 [(.var 37), (.int 5)]))) fun u S1 => ∃ f, u = .d (.int f) ∧ (f = 0 ∨ f = 17 ∨ f = 9) ∧ S1 = RI S xs rows (n + 1 + 1 + 1) := by
        refine t_idx <| t_lst <| ts_int <| ts_int <| ts_int <| ts_int <| ts_int <| ts_nil <| T.of rfl <| t_call <| ts_var k37 <| ts_int <| ts_nil <| t_draw (ri_pool h0) (ri_ok hok) hx (by decide) fun c hc1 hc2 => ?_
        rw [ri_set h0]
        have : c = 0 ∨ c = 1 ∨ c = 2 ∨ c = 3 ∨ c = 4 := by lia
        rcases this with rfl | rfl | rfl | rfl | rfl
        · exact T.of rfl <| T.of rfl <| T.of rfl ⟨0, rfl, by decide, rfl⟩
        · exact T.of rfl <| T.of rfl <| T.of rfl ⟨0, rfl, by decide, rfl⟩
        · exact T.of rfl <| T.of rfl <| T.of rfl ⟨0, rfl, by decide, rfl⟩
        · exact T.of rfl <| T.of rfl <| T.of rfl ⟨17, rfl, by decide, rfl⟩
        · exact T.of rfl <| T.of rfl <| T.of rfl ⟨9, rfl, by decide, rfl⟩
      refine tx_next <| tx_asg <| t_tup <| ts_cons <| sF.imp ?_
      rintro u S1 ⟨f, rfl, hf, rfl⟩
      refine ts_cons <| t_bin <| t_int <| t_call <| ts_var k37 <| ts_int <| ts_nil <| t_draw (ri_pool h0) (ri_ok hok) hx (by decide) fun c hc1 hc2 => ?_
      rw [ri_set h0]
      refine T.of rfl <| T.of rfl <| T.of (bin_mul (by decide)) <| ts_cons <| t_bin <| t_int <| t_call <| ts_var k37 <| ts_int <| ts_nil <| t_draw (ri_pool h0) (ri_ok hok) hx (by decide) fun d hd1 hd2 => ?_
      rw [ri_set h0]
      refine T.of rfl <| T.of rfl <| T.of rfl <| ts_nil <| T.of rfl <| T.of rfl ⟨rfl, ?_⟩
      have q23 : (setV (setV (setV ρ2 19 (.d (.int f))) 43 (.d (.int (8 * c)))) 40 (.d (.int (2 + d)))).lookup 23 = some (.c S.length) := by repeat (first | exact lk_eq | exact k23 | refine lk_ne rfl ?_)
      have q37 : (setV (setV (setV ρ2 19 (.d (.int f))) 43 (.d (.int (8 * c)))) 40 (.d (.int (2 + d)))).lookup 37 = some (.c 0) := by repeat (first | exact lk_eq | exact k37 | refine lk_ne rfl ?_)
      have q41 : (setV (setV (setV ρ2 19 (.d (.int f))) 43 (.d (.int (8 * c)))) 40 (.d (.int (2 + d)))).lookup 41 = some (.d (.int j)) := by repeat (first | exact lk_eq | exact k41 | refine lk_ne rfl ?_)
      have q42 : (setV (setV (setV ρ2 19 (.d (.int f))) 43 (.d (.int (8 * c)))) 40 (.d (.int (2 + d)))).lookup 42 = some (.d (.bool (decide (a = 1)))) := by repeat (first | exact lk_eq | exact k42 | refine lk_ne rfl ?_)
      have q18 : (setV (setV (setV ρ2 19 (.d (.int f))) 43 (.d (.int (8 * c)))) 40 (.d (.int (2 + d)))).lookup 18 = some (.d (.int (2 + b))) := by repeat (first | exact lk_eq | exact k18 | refine lk_ne rfl ?_)
      have q19 : (setV (setV (setV ρ2 19 (.d (.int f))) 43 (.d (.int (8 * c)))) 40 (.d (.int (2 + d)))).lookup 19 = some (.d (.int f)) := by repeat (first | exact lk_eq | refine lk_ne rfl ?_)
      have q43 : (setV (setV (setV ρ2 19 (.d (.int f))) 43 (.d (.int (8 * c)))) 40 (.d (.int (2 + d)))).lookup 43 = some (.d (.int (8 * c))) := by repeat (first | exact lk_eq | refine lk_ne rfl ?_)
      have q40 : (setV (setV (setV ρ2 19 (.d (.int f))) 43 (.d (.int (8 * c)))) 40 (.d (.int (2 + d)))).lookup 40 = some (.d (.int (2 + d))) := by repeat (first | exact lk_eq | refine lk_ne rfl ?_)
      show X (exs _ (setV (setV (setV ρ2 19 (.d (.int f))) 43 (.d (.int (8 * c)))) 40 (.d (.int (2 + d)))) _ _) _
      generalize setV (setV (setV ρ2 19 (.d (.int f))) 43 (.d (.int (8 * c)))) 40 (.d (.int (2 + d))) = ρ3 at q23 q37 q41 q42 q18 q19 q43 q40
      have hr : RowS ⟨8 * c, 2 + d, 5 + j, decide (a = 1), 2 + b, f⟩ := ⟨⟨by show 2 + d ≠ 1; lia, by show 2 + b < _; lia, by show 8 * c = 0 ∨ 8 * c = 8; lia, hf⟩, by show 2 + b ≤ 99; lia⟩
      refine tx_next <| tx_exp <| t_app <| t_var q23 ⟨kindL_c ri_get, ?_⟩
      refine t_tup <| ts_cons <| t_tup <| ts_int <| ts_int <| ts_int <| ts_var q43 <| ts_var q40 <| ts_cons <| t_bin <| t_int <| t_var q41 <| T.of rfl <| T.of rfl <| T.of rfl <| ts_int <| ts_nil <| T.of rfl ?_
      refine ts_cons <| t_tup <| ts_str <| ts_int <| ts_var q42 <| ts_var q18 <| ts_var q19 <| ts_int <| ts_nil <| T.of rfl <| ts_nil <| T.of rfl ?_
      refine ⟨S.length, _, rfl, ri_get, by simp [big]; lia, rfl, rfl, tx_nil ⟨rfl, ?_⟩⟩
      have ha := ri_app (S := S) (xs := xs) (rows := rows) (n := n + 1 + 1 + 1 + 1 + 1) ⟨8 * c, 2 + d, 5 + j, decide (a = 1), 2 + b, f⟩
      refine ⟨js, rows ++ [(⟨8 * c, 2 + d, 5 + j, decide (a = 1), 2 + b, f⟩ : Row)], n + 1 + 1 + 1 + 1 + 1, rfl, by simp; lia, ⟨q23, q37⟩, ha, ?_⟩
      intro r hm
      rcases List.mem_append.mp hm with hm | hm
      · exact G r hm
      · rw [List.mem_singleton.mp hm]; exact hr
  · rintro ρ St ⟨js, rows, n, e, hc, ⟨l23, l37⟩, rfl, G⟩
    exact ⟨rows, n, l23, rfl, by lia, G⟩
  · rintro fl ρ St ⟨rfl, rows, n, l23, rfl, hl, G⟩
    refine ⟨rfl, tx_ret1 <| t_var l23 ?_⟩
    have e : (RI S xs rows n).take S.length = S.set 0 (poolC xs n) := by
      unfold RI
      rw [List.take_append_of_le_length (by simp)]
      exact List.take_of_length_le (by simp)
    unfold Post; rw [e]
    refine ⟨?_, by simp [RI], T.of (a := .list (rows.map rowD)) ?_ (h rows n hl G)⟩
    · have := ok_draw (n := n) (xs := xs) hok
      unfold OkS at this
      rw [List.length_set] at this
      exact this
    · show frz S.length (RI S xs rows n) 3 (.c S.length) = _
      rw [frz_l (Nat.lt_irrefl _) ri_get, mapO_d rowD]; rfl
end Mine
end
end
section
open PySem
set_option maxRecDepth 100000
set_option Elab.async false
set_option autoImplicit false
set_option linter.unusedVariables false
noncomputable section
namespace Mine
mutual
theorem eqv_flat : ∀ (n : Nat) (d : PyData), flatD n d = true → PyData.eqv d d = true
  | _, .none, _ => rfl
  | _, .bool b, _ => by simp [PyData.eqv]
  | _, .int i, _ => by simp [PyData.eqv]
  | _, .str x, _ => by simp [PyData.eqv]
  | n + 1, .list xs, h => by rw [PyData.eqv]; exact eqvAll_flat n xs h
  | n + 1, .tuple xs, h => by rw [PyData.eqv]; exact eqvAll_flat n xs h
  | 0, .list xs, h => absurd h Bool.false_ne_true
  | 0, .tuple xs, h => absurd h Bool.false_ne_true
  | 0, .dict _, h => absurd h Bool.false_ne_true
  | n + 1, .dict _, h => absurd h Bool.false_ne_true
theorem eqvAll_flat : ∀ (n : Nat) (xs : List PyData), flatL n xs = true → PyData.eqvAll xs xs = true
  | _, [], _ => rfl
  | n, x :: xs, h => by
    have h := Bool.and_eq_true_iff.mp h
    rw [PyData.eqvAll, eqv_flat n x h.1, eqvAll_flat n xs h.2]; rfl
end
theorem cmp_ne_self {x : PyData} (h : flatD 8 x = true) : cmpD .ne x x = some false := by
  show (if (flatD 8 x && flatD 8 x) = true then some (!PyData.eqv x x) else none) = _
  rw [h, eqv_flat 8 x h]; rfl
theorem cmp_eq_self {x : PyData} (h : flatD 8 x = true) : cmpD .eq x x = some true := by
  show (if (flatD 8 x && flatD 8 x) = true then some (PyData.eqv x x) else none) = _
  rw [h, eqv_flat 8 x h]; rfl
noncomputable def kindS (b : Bool) : Str := if b then Str.ofString "ext2" else Str.ofString "ext1"
noncomputable def isE2 (x : PH) : Bool := decide (x.1.1 = 1)
noncomputable def secI (x : PH) : Int := if x.1.1 = 1 then x.1.2.1 else 0
theorem told_eq (n : Int) (x : PH) : toldS n x = .tuple [tupK [n, 2], .str (kindS (isE2 x)), .int x.1.2.2.2, .int (secI x), .int 0, hopsD x.2] := by
  unfold toldS kindS isE2 secI
  by_cases h : x.1.1 = 1 <;> simp [h]
theorem kind_ok (b : Bool) : PyData.strOk (kindS b) = true := by cases b <;> decide +kernel
theorem flat_pairs' (n : Nat) : ∀ hs : List (Int × Int), flatL (n + 1) (hs.map pairD) = true
  | [] => rfl
  | p :: r => by show (flatD (n + 1) (pairD p) && flatL (n + 1) (r.map pairD)) = true; rw [flat_pairs' n r]; rfl
theorem flat_told (k : Nat) (n : Int) (x : PH) : flatD (k + 3) (toldS n x) = true := by
  rw [told_eq]
  simp only [fD_tup, fD_int, fD_str, fL_nil, fL_cons, tupK, hopsD, kind_ok, flat_pairs', List.map_cons, List.map_nil, Bool.and_self]
theorem flat_outL (r0 r8 : Option PH) : flatD 8 (.list (outL r0 r8)) = true := by
  cases r0 <;> cases r8 <;> simp [outL, fD_list, fL_nil, fL_cons, flat_told]
theorem kind_eq1 (b : Bool) : cmpD .eq (.str (kindS b)) (.str (Str.ofString "ext1")) = some (!b) := by cases b <;> decide +kernel
theorem kind_eq2 (b : Bool) : cmpD .eq (.str (kindS b)) (.str (Str.ofString "ext2")) = some b := by cases b <;> decide +kernel
theorem kind_eqv (a b : Bool) : PyData.eqv (.str (kindS a)) (.str (kindS b)) = decide (a = b) := by cases a <;> cases b <;> decide +kernel
theorem kind_lt (a b : Bool) : lt1 (.str (kindS a)) (.str (kindS b)) = some (!a && b) := by cases a <;> cases b <;> decide +kernel
noncomputable def mvRow (one two : Int) (r : Row) : Row := { r with met := r.met + (if r.sec then two else one) }
theorem c_map {α : Type} {f : PyData → Sto → Option (Option PyData × Sto)} {S : Sto} {g h : α → PyData} {P : List PyData → Sto → Prop} : ∀ {xs : List α}, (∀ x ∈ xs, ∀ Q : Option PyData → Sto → Prop, Q (some (g x)) S → V (f (h x) S) Q) → P (xs.map g) S → V (cloop f (xs.map h) S) P := by
  intro xs
  induction xs generalizing P with
  | nil => exact fun _ hP => c_nil hP
  | cons x xs ih => exact fun hf hP => c_cons (hf x (.head _) _ (ih (fun y hy => hf y (.tail _ hy)) hP))
theorem t_mvrows {k : Nat} {S : Sto} {rows : List Row} {one two : Int} {P : Va → Sto → Prop} (hok : OkS S) (hz : rows.length ≤ 30) (h : P (.d (.list ((rows.map (mvRow one two)).map rowD))) S) : V (run prg (k + 1) 14 [.d (.list (rows.map rowD)), .d (.int one), .d (.int two)] S) P := by
  refine t_run (fd := c_law_moved_rows) rfl rfl ?_
  refine tx_ret1 <| t_comp <| t_var rfl ⟨_, _, rfl, rfl, by simp [big]; lia, ?_⟩
  refine c_map (g := fun r => rowD (mvRow one two r)) (fun r _ Q hQ => ?_) ?_
  · refine c_body <| T.of rfl <| tt_nil ⟨fun _ => ?_, fun q => nomatch q⟩
    refine t_tup <| ts_var rfl <| ts_cons <| t_bin <| t_bin <| t_sl_tup <| t_var rfl <| o_none <| o_some <| t_int ⟨3, rfl, _, rfl, by simp [big], ?_⟩
    refine t_tup <| ts_cons <| t_bin <| t_vi rfl rfl rfl <| t_ite <| t_vi rfl rfl rfl ⟨r.sec, rfl, fun hs => t_var rfl ?_, fun hs => t_var rfl ?_⟩
    · refine T.of rfl <| T.of rfl <| T.of rfl <| ts_nil <| T.of rfl <| T.of rfl <| T.of rfl <| T.of rfl <| t_sl_tup <| t_var rfl <| o_some <| t_int ⟨4, rfl, o_none ⟨_, rfl, by simp [big], ?_⟩⟩
      refine T.of rfl <| T.of rfl <| T.of rfl <| ts_nil <| T.of rfl ⟨_, rfl, ?_⟩
      have e : mvRow one two r = { r with met := r.met + two } := by simp [mvRow, hs]
      rw [e] at hQ
      exact hQ
    · refine T.of rfl <| T.of rfl <| T.of rfl <| ts_nil <| T.of rfl <| T.of rfl <| T.of rfl <| T.of rfl <| t_sl_tup <| t_var rfl <| o_some <| t_int ⟨4, rfl, o_none ⟨_, rfl, by simp [big], ?_⟩⟩
      refine T.of rfl <| T.of rfl <| T.of rfl <| ts_nil <| T.of rfl ⟨_, rfl, ?_⟩
      have e : mvRow one two r = { r with met := r.met + one } := by simp [mvRow, hs]
      rw [e] at hQ
      exact hQ
  · rw [List.map_map] at h
    exact fin0 hok h
noncomputable def shiftP (inner one two : Int) (p : Place) : Place := if p.1 = 1 then (1, p.2.1 + two, p.2.2.1, p.2.2.2 + inner) else (p.1, p.2.1, p.2.2.1, p.2.2.2 + inner + one)
noncomputable def shiftPH (inner one two : Int) (x : PH) : PH := (shiftP inner one two x.1, x.2)
noncomputable def itemsO (r0 r8 : Option PH) : List (Int × PH) := (r0.map fun x => ((0 : Int), x)).toList ++ (r8.map fun x => ((8 : Int), x)).toList
theorem outL_items (r0 r8 : Option PH) : outL r0 r8 = (itemsO r0 r8).map fun q => toldS q.1 q.2 := by cases r0 <;> cases r8 <;> rfl
theorem items_len (r0 r8 : Option PH) : (itemsO r0 r8).length ≤ 2 := by cases r0 <;> cases r8 <;> simp [itemsO]
theorem items_shift (i o t : Int) (r0 r8 : Option PH) : outL (r0.map (shiftPH i o t)) (r8.map (shiftPH i o t)) = (itemsO r0 r8).map fun q => toldS q.1 (shiftPH i o t q.2) := by cases r0 <;> cases r8 <;> rfl
theorem shift_told (n i o t : Int) (x : PH) : toldS n (shiftPH i o t x) = .tuple [tupK [n, 2], .str (kindS (isE2 x)), .int (x.1.2.2.2 + i + (if !isE2 x then o else 0)), .int (secI x + (if isE2 x then t else 0)), .int 0, hopsD x.2] := by
  rw [told_eq]
  unfold shiftPH shiftP isE2 secI
  by_cases h : x.1.1 = 1
  · simp [h]
  · simp [h]
theorem t_moved {k : Nat} {S : Sto} {r0 r8 : Option PH} {i o t : Int} {P : Va → Sto → Prop} (hok : OkS S) (h : P (.d (.list (outL (r0.map (shiftPH i o t)) (r8.map (shiftPH i o t))))) S) : V (run prg (k + 1) 15 [.d (.list (outL r0 r8)), .d (.int i), .d (.int o), .d (.int t)] S) P := by
  refine t_run (fd := c_law_moved) rfl rfl ?_
  refine tx_next <| tx_asg <| t_lstC <| ts_nil <| T.of rfl ⟨rfl, ?_⟩
  have hl := items_len r0 r8
  refine tx_next <| tx_loop <| ti_list <| t_var rfl ⟨_, rfl, by rw [outL_items, List.length_map]; simp [big]; lia, ?_⟩
  rw [outL_items]
  refine (loop_next (fun rest ρ St => ∃ done rem : List (Int × PH), itemsO r0 r8 = done ++ rem ∧ rest = rem.map (fun q => toldS q.1 q.2) ∧ (ρ.lookup 7 = some (.c S.length) ∧ ρ.lookup 46 = some (.d (.int i)) ∧ ρ.lookup 44 = some (.d (.int o)) ∧ ρ.lookup 45 = some (.d (.int t))) ∧ St = S ++ [Ce.list (done.map fun q => Va.d (toldS q.1 (shiftPH i o t q.2)))]) (P := fun ρ St => ρ.lookup 7 = some (.c S.length) ∧ St = S ++ [Ce.list ((itemsO r0 r8).map fun q => Va.d (toldS q.1 (shiftPH i o t q.2)))]) ?_ ?_ _ _ _ ⟨[], itemsO r0 r8, rfl, rfl, ⟨rfl, rfl, rfl, rfl⟩, rfl⟩).imp ?_
  · rintro x rest ρ St ⟨done, rem, e1, e2, ⟨l7, l46, l44, l45⟩, rfl⟩
    cases rem with
    | nil => cases e2
    | cons q rem =>
      obtain ⟨n, y⟩ := q
      rw [List.map_cons] at e2
      obtain ⟨rfl, rfl⟩ := List.cons.inj e2
      have hb : bindTg (.tup [35, 29, 47, 48, 8, 21]) (.d (toldS n y)) ρ = some (setV (setV (setV (setV (setV (setV ρ 35 (.d (tupK [n, 2]))) 29 (.d (.str (kindS (isE2 y))))) 47 (.d (.int y.1.2.2.2))) 48 (.d (.int (secI y)))) 8 (.d (.int 0))) 21 (.d (hopsD y.2))) := by rw [told_eq]; rfl
      refine X.bindT <| T.of hb ?_
      generalize hρ : setV (setV (setV (setV (setV (setV ρ 35 (.d (tupK [n, 2]))) 29 (.d (.str (kindS (isE2 y))))) 47 (.d (.int y.1.2.2.2))) 48 (.d (.int (secI y)))) 8 (.d (.int 0))) 21 (.d (hopsD y.2)) = ρ1
      have m7 : ρ1.lookup 7 = some (.c S.length) := by rw [← hρ]; repeat (first | exact lk_eq | exact l7 | refine lk_ne rfl ?_)
      have m46 : ρ1.lookup 46 = some (.d (.int i)) := by rw [← hρ]; repeat (first | exact lk_eq | exact l46 | refine lk_ne rfl ?_)
      have m44 : ρ1.lookup 44 = some (.d (.int o)) := by rw [← hρ]; repeat (first | exact lk_eq | exact l44 | refine lk_ne rfl ?_)
      have m45 : ρ1.lookup 45 = some (.d (.int t)) := by rw [← hρ]; repeat (first | exact lk_eq | exact l45 | refine lk_ne rfl ?_)
      have m35 : ρ1.lookup 35 = some (.d (tupK [n, 2])) := by rw [← hρ]; repeat (first | exact lk_eq | refine lk_ne rfl ?_)
      have m29 : ρ1.lookup 29 = some (.d (.str (kindS (isE2 y)))) := by rw [← hρ]; repeat (first | exact lk_eq | refine lk_ne rfl ?_)
      have m47 : ρ1.lookup 47 = some (.d (.int y.1.2.2.2)) := by rw [← hρ]; repeat (first | exact lk_eq | refine lk_ne rfl ?_)
      have m48 : ρ1.lookup 48 = some (.d (.int (secI y))) := by rw [← hρ]; repeat (first | exact lk_eq | refine lk_ne rfl ?_)
      have m8 : ρ1.lookup 8 = some (.d (.int 0)) := by rw [← hρ]; repeat (first | exact lk_eq | refine lk_ne rfl ?_)
      have m21 : ρ1.lookup 21 = some (.d (hopsD y.2)) := by rw [← hρ]; repeat (first | exact lk_eq | refine lk_ne rfl ?_)
      clear hρ
      refine tx_next <| tx_asg <| V.imp (P := fun u S1 => u = .d (.int (if !isE2 y then o else 0)) ∧ S1 = S ++ [Ce.list (done.map fun q => Va.d (toldS q.1 (shiftPH i o t q.2)))]) ?_ ?_
      · refine t_ite <| t_cmp <| t_var m29 <| t_str <| T.of rfl <| T.of rfl <| T.of (kind_eq1 _) ⟨_, rfl, fun hc => ?_, fun hc => ?_⟩
        · exact t_var m44 ⟨by rw [hc]; rfl, rfl⟩
        · exact t_int ⟨by rw [hc]; rfl, rfl⟩
      rintro u S1 ⟨rfl, rfl⟩
      refine T.of rfl ⟨rfl, ?_⟩
      have k7 : (setV ρ1 49 (.d (.int (if !isE2 y then o else 0)))).lookup 7 = some (.c S.length) := by repeat (first | exact lk_eq | exact m7 | refine lk_ne rfl ?_)
      have k46 : (setV ρ1 49 (.d (.int (if !isE2 y then o else 0)))).lookup 46 = some (.d (.int i)) := by repeat (first | exact lk_eq | exact m46 | refine lk_ne rfl ?_)
      have k44 : (setV ρ1 49 (.d (.int (if !isE2 y then o else 0)))).lookup 44 = some (.d (.int o)) := by repeat (first | exact lk_eq | exact m44 | refine lk_ne rfl ?_)
      have k45 : (setV ρ1 49 (.d (.int (if !isE2 y then o else 0)))).lookup 45 = some (.d (.int t)) := by repeat (first | exact lk_eq | exact m45 | refine lk_ne rfl ?_)
      have k35 : (setV ρ1 49 (.d (.int (if !isE2 y then o else 0)))).lookup 35 = some (.d (tupK [n, 2])) := by repeat (first | exact lk_eq | exact m35 | refine lk_ne rfl ?_)
      have k29 : (setV ρ1 49 (.d (.int (if !isE2 y then o else 0)))).lookup 29 = some (.d (.str (kindS (isE2 y)))) := by repeat (first | exact lk_eq | exact m29 | refine lk_ne rfl ?_)
      have k47 : (setV ρ1 49 (.d (.int (if !isE2 y then o else 0)))).lookup 47 = some (.d (.int y.1.2.2.2)) := by repeat (first | exact lk_eq | exact m47 | refine lk_ne rfl ?_)
      have k48 : (setV ρ1 49 (.d (.int (if !isE2 y then o else 0)))).lookup 48 = some (.d (.int (secI y))) := by repeat (first | exact lk_eq | exact m48 | refine lk_ne rfl ?_)
      have k8 : (setV ρ1 49 (.d (.int (if !isE2 y then o else 0)))).lookup 8 = some (.d (.int 0)) := by repeat (first | exact lk_eq | exact m8 | refine lk_ne rfl ?_)
      have k21 : (setV ρ1 49 (.d (.int (if !isE2 y then o else 0)))).lookup 21 = some (.d (hopsD y.2)) := by repeat (first | exact lk_eq | exact m21 | refine lk_ne rfl ?_)
      have k49 : (setV ρ1 49 (.d (.int (if !isE2 y then o else 0)))).lookup 49 = some (.d (.int (if !isE2 y then o else 0))) := by repeat (first | exact lk_eq | refine lk_ne rfl ?_)
      show X (exs _ (setV ρ1 49 (.d (.int (if !isE2 y then o else 0)))) _ _) _
      generalize setV ρ1 49 (.d (.int (if !isE2 y then o else 0))) = ρ2 at k7 k46 k44 k45 k35 k29 k47 k48 k8 k21 k49
      refine tx_next <| tx_exp <| t_app <| t_var k7 ⟨kindL_c List.getElem?_concat_length, ?_⟩
      refine t_tup <| ts_var k35 <| ts_var k29 <| ts_cons <| t_bin <| t_bvv k47 k46 rfl rfl rfl <| t_var k49 <| T.of rfl <| T.of rfl <| T.of rfl <| ts_cons <| t_bin <| t_var k48 ?_
      refine V.imp (P := fun u S1 => u = .d (.int (if isE2 y then t else 0)) ∧ S1 = S ++ [Ce.list (done.map fun q => Va.d (toldS q.1 (shiftPH i o t q.2)))]) ?_ ?_
      · refine t_ite <| t_cmp <| t_var k29 <| t_str <| T.of rfl <| T.of rfl <| T.of (kind_eq2 _) ⟨_, rfl, fun hc => ?_, fun hc => ?_⟩
        · exact t_var k45 ⟨by rw [hc]; rfl, rfl⟩
        · exact t_int ⟨by rw [hc]; rfl, rfl⟩
      rintro u S1 ⟨rfl, rfl⟩
      have hlen : done.length ≤ 2 := by rw [e1] at hl; simp at hl; lia
      refine T.of rfl <| T.of rfl <| T.of rfl <| ts_var k8 <| ts_var k21 <| ts_nil <| T.of rfl ⟨S.length, (done.map fun q => Va.d (toldS q.1 (shiftPH i o t q.2))), rfl, by simp, by simp [big]; lia, rfl, rfl, tx_nil ⟨rfl, ?_⟩⟩
      refine ⟨done ++ [(n, y)], rem, by rw [e1]; simp, rfl, ⟨k7, k46, k44, k45⟩, ?_⟩
      have hs := shift_told n i o t y
      show (S ++ [Ce.list (done.map fun q => Va.d (toldS q.1 (shiftPH i o t q.2)))]).set S.length (.list ((done.map fun q => Va.d (toldS q.1 (shiftPH i o t q.2))) ++ [Va.d (.tuple [tupK [n, 2], .str (kindS (isE2 y)), .int (y.1.2.2.2 + i + (if !isE2 y then o else 0)), .int (secI y + (if isE2 y then t else 0)), .int 0, hopsD y.2])])) = _
      rw [← hs, List.map_append]
      simp
  · rintro ρ St ⟨done, rem, e1, e2, ⟨l7, _⟩, rfl⟩
    obtain rfl : rem = [] := by cases rem with
      | nil => rfl
      | cons _ _ => cases e2
    rw [List.append_nil] at e1
    exact ⟨l7, by rw [e1]⟩
  · rintro fl ρ St ⟨rfl, l7, rfl⟩
    refine ⟨rfl, tx_ret1 <| t_var l7 <| fin1 hok ?_ h⟩
    rw [items_shift]
    show frz S.length (S ++ [Ce.list ((itemsO r0 r8).map fun q => Va.d (toldS q.1 (shiftPH i o t q.2)))]) 3 (.c S.length) = _
    rw [frz_l (Nat.lt_irrefl _) List.getElem?_concat_length, mapO_d (fun q : Int × PH => toldS q.1 (shiftPH i o t q.2))]; rfl
noncomputable def knD (r0 r8 : Option PH) : List (PyData × PyData) := (r0.map fun x => (tupK [0, 2], toldS 0 x)).toList ++ (r8.map fun x => (tupK [8, 2], toldS 8 x)).toList
theorem t_bynet {k : Nat} {S : Sto} {r0 r8 : Option PH} {P : Va → Sto → Prop} (hok : OkS S) (h : P (.d (.dict (knD r0 r8))) S) : V (run prg (k + 1) 18 [.d (.list (outL r0 r8))] S) P := by
  refine t_run (fd := c_law_by_net) rfl rfl ?_
  have hl := items_len r0 r8
  refine tx_ret1 <| t_bi <| ts_cons <| t_comp <| t_var rfl ⟨_, _, rfl, rfl, by rw [outL_items, List.length_map]; simp [big]; lia, ?_⟩
  rw [outL_items]
  refine c_map (g := fun q : Int × PH => .tuple [tupK [q.1, 2], toldS q.1 q.2]) (fun q _ Q hQ => ?_) ?_
  · have hi : idxD (toldS q.1 q.2) (.int 0) = some (tupK [q.1, 2]) := by rw [told_eq]; rfl
    refine c_body <| T.of rfl <| tt_nil ⟨fun _ => ?_, fun q => nomatch q⟩
    exact t_tup <| ts_vi rfl rfl hi <| ts_var rfl <| ts_nil <| T.of rfl ⟨_, rfl, hQ⟩
  · cases r0 <;> cases r8 <;> exact ts_nil <| T.of rfl <| T.of rfl <| fin0 hok h
end Mine
end
end
section
open PySem
set_option maxRecDepth 100000
set_option Elab.async false
set_option autoImplicit false
set_option linter.unusedVariables false
noncomputable section
namespace Mine
theorem lt1_int (a b : Int) : lt1 (.int a) (.int b) = some (decide (a < b)) := rfl
theorem kind_lt' (a b : Bool) : lt1 (.str (kindS a)) (.str (kindS b)) = some (b && !a) := (kind_lt a b).trans (congrArg some (Bool.and_comm _ _))
theorem lx_kgt {a b : Bool} {xs ys : List PyData} {r : Bool} (h : lexT (fun x y => lt1 y x) xs ys = some r) : lexT (fun x y => lt1 y x) (.str (kindS a) :: xs) (.str (kindS b) :: ys) = some ((a && !b) || (a == b && r)) := lx_any (kind_eqv a b) (kind_lt' b a) (fun q => by rw [of_decide_eq_true q]; cases b <;> rfl) h
theorem lx_klt {a b : Bool} {xs ys : List PyData} {r : Bool} (h : lexT lt1 xs ys = some r) : lexT lt1 (.str (kindS a) :: xs) (.str (kindS b) :: ys) = some ((!a && b) || (a == b && r)) := lx_any (kind_eqv a b) (kind_lt a b) (fun q => by rw [of_decide_eq_true q]; cases b <;> rfl) h
noncomputable def gt2 (y x : PH) : Bool := (isE2 y && !isE2 x) || (isE2 y == isE2 x && decide (secI x < secI y))
noncomputable def gt3 (y x : PH) : Bool := (isE2 y && !isE2 x) || (isE2 y == isE2 x && (decide (secI x < secI y) || (secI x == secI y && decide (x.1.2.2.2 < y.1.2.2.2))))
theorem cmp_gt2 (y x : PH) : cmpD .gt (.tuple [.str (kindS (isE2 y)), .int (secI y)]) (.tuple [.str (kindS (isE2 x)), .int (secI x)]) = some (gt2 y x) := by
  show (if _ then _ else _) = _
  rw [if_pos (by simp only [fL_cons, fD_str, fD_int, fL_nil, kind_ok, Bool.and_self])]
  exact lx_kgt (lx_end (eqv_int _ _) rfl gt_self)
theorem cmp_gt3 (y x : PH) : cmpD .gt (.tuple [.str (kindS (isE2 y)), .int (secI y), .int y.1.2.2.2]) (.tuple [.str (kindS (isE2 x)), .int (secI x), .int x.1.2.2.2]) = some (gt3 y x) := by
  show (if _ then _ else _) = _
  rw [if_pos (by simp only [fL_cons, fD_str, fD_int, fL_nil, kind_ok, Bool.and_self])]
  refine (lx_kgt (lx_any (eqv_int _ _) rfl gt_self (lx_end (eqv_int _ _) rfl gt_self))).trans ?_
  unfold gt3
  rw [BEq.comm (a := secI y)]
noncomputable def NWo (one : Bool) : Option PH → Option PH → Prop
  | none, _ => True
  | some x, q => ∃ y, q = some y ∧ gt2 y x = false ∧ (one = true → gt3 y x = false)
theorem ti_dict {fn : Fn} {ρ : Ro} {S : Sto} {e : Ex} {P : List PyData → Sto → Prop} (h : V (ev fn ρ S e) fun u S1 => ∃ kvs, u = .d (.dict kvs) ∧ kvs.length ≤ big ∧ P (kvs.map (·.1)) S1) : V (evIt fn ρ S (.ex e)) P := by
  obtain ⟨u, S1, e1, kvs, rfl, hz, h⟩ := h
  exact ⟨_, S1, bnd e1 (bnd rfl (if_pos (by simpa using hz))), h⟩
noncomputable def nwBody : List Sm := [.ife (.cmp .notIn (.var 35) (.var 55)) [.ret (.bool false)] [], .asg (.tup [56, 57]) (.tup [(.idx (.var 6) (.var 35)), (.idx (.var 55) (.var 35))]), .ife (.cmp .gt (.tup [(.idx (.var 57) (.int 1)), (.idx (.var 57) (.int 3))]) (.tup [(.idx (.var 56) (.int 1)), (.idx (.var 56) (.int 3))])) [.ret (.bool false)] [], .ife (.and [(.var 39), (.cmp .gt (.tup [(.idx (.var 57) (.int 1)), (.idx (.var 57) (.int 3)), (.idx (.var 57) (.int 2))]) (.tup [(.idx (.var 56) (.int 1)), (.idx (.var 56) (.int 3)), (.idx (.var 56) (.int 2))]))]) [.ret (.bool false)] []]
structure NE (ρ : Ro) (kn kq : List (PyData × PyData)) (one : Bool) : Prop where
  v6 : ρ.lookup 6 = some (.d (.dict kn))
  v55 : ρ.lookup 55 = some (.d (.dict kq))
  v39 : ρ.lookup 39 = some (.d (.bool one))
theorem told1 (n : Int) (x : PH) : idxD (toldS n x) (.int 1) = some (.str (kindS (isE2 x))) := by rw [told_eq]; rfl
theorem told2 (n : Int) (x : PH) : idxD (toldS n x) (.int 2) = some (.int x.1.2.2.2) := by rw [told_eq]; rfl
theorem told3 (n : Int) (x : PH) : idxD (toldS n x) (.int 3) = some (.int (secI x)) := by rw [told_eq]; rfl
theorem told5 (n : Int) (x : PH) : idxD (toldS n x) (.int 5) = some (hopsD x.2) := by rw [told_eq]; rfl
theorem nw_turn {fn : Fn} {ρ : Ro} {S : Sto} {n : Int} {x y : PH} {one : Bool} {kn kq : List (PyData × PyData)} (E : NE ρ kn kq one) (hi : idxD (.dict kn) (tupK [n, 2]) = some (toldS n x)) (hq : idxD (.dict kq) (tupK [n, 2]) = some (toldS n y)) (hc : cmpD .notIn (tupK [n, 2]) (.dict kq) = some false) (g2 : gt2 y x = false) (g3 : one = true → gt3 y x = false) :
    X ((bindTg (.nm 35) (.d (tupK [n, 2])) ρ).bind fun ρ'' => exs fn ρ'' S nwBody) fun fl ρ' S' => fl = .next ∧ S' = S ∧ NE ρ' kn kq one := by
  refine X.bindT <| T.of rfl ?_
  have l35 : (setV ρ 35 (.d (tupK [n, 2]))).lookup 35 = some (.d (tupK [n, 2])) := by repeat (first | exact lk_eq | refine lk_ne rfl ?_)
  have E1 : NE (setV ρ 35 (.d (tupK [n, 2]))) kn kq one := ⟨by repeat (first | exact lk_eq | exact E.v6 | refine lk_ne rfl ?_), by repeat (first | exact lk_eq | exact E.v55 | refine lk_ne rfl ?_), by repeat (first | exact lk_eq | exact E.v39 | refine lk_ne rfl ?_)⟩
  generalize setV ρ 35 (.d (tupK [n, 2])) = ρ1 at l35 E1
  unfold nwBody
  refine tx_next <| tx_ife <| t_cvv l35 E1.v55 rfl rfl hc ⟨false, rfl, (fun q => nomatch q), fun _ => tx_nil ⟨rfl, ?_⟩⟩
  refine tx_next <| tx_asg <| t_tup <| ts_cons <| t_vv E1.v6 l35 rfl hi <| ts_cons <| t_vv E1.v55 l35 rfl hq <| ts_nil <| T.of rfl <| T.of rfl ⟨rfl, ?_⟩
  have E2 : NE (setV (setV ρ1 56 (.d (toldS n x))) 57 (.d (toldS n y))) kn kq one := ⟨by repeat (first | exact lk_eq | exact E1.v6 | refine lk_ne rfl ?_), by repeat (first | exact lk_eq | exact E1.v55 | refine lk_ne rfl ?_), by repeat (first | exact lk_eq | exact E1.v39 | refine lk_ne rfl ?_)⟩
  have l56 : (setV (setV ρ1 56 (.d (toldS n x))) 57 (.d (toldS n y))).lookup 56 = some (.d (toldS n x)) := by repeat (first | exact lk_eq | refine lk_ne rfl ?_)
  have l57 : (setV (setV ρ1 56 (.d (toldS n x))) 57 (.d (toldS n y))).lookup 57 = some (.d (toldS n y)) := by repeat (first | exact lk_eq | refine lk_ne rfl ?_)
  generalize setV (setV ρ1 56 (.d (toldS n x))) 57 (.d (toldS n y)) = ρ2 at E2 l56 l57
  refine tx_next <| tx_ife <| t_cmp <| t_tup <| ts_vi l57 rfl (told1 n y) <| ts_vi l57 rfl (told3 n y) <| ts_nil <| T.of rfl ?_
  refine t_tup <| ts_vi l56 rfl (told1 n x) <| ts_vi l56 rfl (told3 n x) <| ts_nil <| T.of rfl ?_
  refine T.of rfl <| T.of rfl <| T.of (cmp_gt2 y x) ⟨_, rfl, (fun q => by rw [g2] at q; cases q), fun _ => tx_nil ⟨rfl, ?_⟩⟩
  refine tx_next <| tx_ife <| t_and <| ta_cons <| t_var E2.v39 ⟨one, rfl, fun h1 => ?_, fun h1 => ⟨false, rfl, (fun q => nomatch q), fun _ => tx_nil ⟨rfl, tx_nil ⟨rfl, rfl, E2⟩⟩⟩⟩
  refine ta_cons <| t_cmp <| t_tup <| ts_vi l57 rfl (told1 n y) <| ts_vi l57 rfl (told3 n y) <| ts_vi l57 rfl (told2 n y) <| ts_nil <| T.of rfl ?_
  refine t_tup <| ts_vi l56 rfl (told1 n x) <| ts_vi l56 rfl (told3 n x) <| ts_vi l56 rfl (told2 n x) <| ts_nil <| T.of rfl ?_
  refine T.of rfl <| T.of rfl <| T.of (cmp_gt3 y x) ⟨_, rfl, (fun q => by rw [g3 h1] at q; cases q), fun _ => ⟨false, rfl, (fun q => nomatch q), fun _ => tx_nil ⟨rfl, tx_nil ⟨rfl, rfl, E2⟩⟩⟩⟩
theorem idx_kn0 (x : PH) (r8 : Option PH) : idxD (.dict (knD (some x) r8)) (tupK [0, 2]) = some (toldS 0 x) := by cases r8 <;> rfl
theorem idx_kn8 (x : PH) (r0 : Option PH) : idxD (.dict (knD r0 (some x))) (tupK [8, 2]) = some (toldS 8 x) := by cases r0 <;> rfl
theorem in_kn0 (x : PH) (r8 : Option PH) : cmpD .notIn (tupK [0, 2]) (.dict (knD (some x) r8)) = some false := by cases r8 <;> rfl
theorem in_kn8 (x : PH) (r0 : Option PH) : cmpD .notIn (tupK [8, 2]) (.dict (knD r0 (some x))) = some false := by cases r0 <;> rfl
theorem t_noworse {k : Nat} {S : Sto} {r0 r8 q0 q8 : Option PH} {one : Bool} {P : Va → Sto → Prop} (hok : OkS S) (h0 : NWo one r0 q0) (h8 : NWo one r8 q8) (h : P (.d (.bool true)) S) : V (run prg (k + 1) 17 [.d (.dict (knD r0 r8)), .d (.dict (knD q0 q8)), .d (.bool one)] S) P := by
  refine t_run (fd := c_law_no_worse) rfl rfl ?_
  refine tx_next <| tx_loop <| ti_dict <| t_var rfl ⟨_, rfl, by cases r0 <;> cases r8 <;> simp [knD, big], ?_⟩
  have E : NE [(39, .d (.bool one)), (55, .d (.dict (knD q0 q8))), (6, .d (.dict (knD r0 r8)))] (knD r0 r8) (knD q0 q8) one := ⟨rfl, rfl, rfl⟩
  refine X.imp (P := fun fl ρ S' => fl = .next ∧ S' = S) ?_ ?_
  · show X (floop _ _ [(39, .d (.bool one)), (55, .d (.dict (knD q0 q8))), (6, .d (.dict (knD r0 r8)))] S) _
    generalize hρ : ([(39, Va.d (.bool one)), (55, .d (.dict (knD q0 q8))), (6, .d (.dict (knD r0 r8)))] : Ro) = ρ at E
    clear hρ
    cases r0 with
    | none =>
      cases r8 with
      | none => exact X.of rfl ⟨rfl, rfl⟩
      | some x8 =>
        obtain ⟨y8, rfl, a2, a3⟩ := h8
        refine tl_cons <| (nw_turn E (idx_kn8 x8 none) (idx_kn8 y8 q0) (in_kn8 y8 q0) a2 a3).imp ?_
        rintro fl ρ' S' ⟨rfl, rfl, E'⟩
        exact ⟨(fun v q => nomatch q), fun _ => X.of rfl ⟨rfl, rfl⟩⟩
    | some x0 =>
      obtain ⟨y0, rfl, b2, b3⟩ := h0
      refine tl_cons <| (nw_turn E (idx_kn0 x0 r8) (idx_kn0 y0 q8) (in_kn0 y0 q8) b2 b3).imp ?_
      rintro fl ρ' S' ⟨rfl, rfl, E'⟩
      refine ⟨(fun v q => nomatch q), fun _ => ?_⟩
      cases r8 with
      | none => exact X.of rfl ⟨rfl, rfl⟩
      | some x8 =>
        obtain ⟨y8, rfl, a2, a3⟩ := h8
        refine tl_cons <| (nw_turn E' (idx_kn8 x8 (some x0)) (idx_kn8 y8 (some y0)) (in_kn8 y8 (some y0)) a2 a3).imp ?_
        rintro fl ρ' S' ⟨rfl, rfl, E'⟩
        exact ⟨(fun v q => nomatch q), fun _ => X.of rfl ⟨rfl, rfl⟩⟩
  · rintro fl ρ' S' ⟨rfl, rfl⟩
    exact ⟨rfl, tx_ret1 <| t_bool <| fin0 hok h⟩
end Mine
end
end
section
open PySem
set_option maxRecDepth 100000
set_option Elab.async false
set_option autoImplicit false
set_option linter.unusedVariables false
noncomputable section
namespace Mine
noncomputable def optT (n : Int) : Option PH → PyData
  | none => .none
  | some x => toldS n x
theorem get_kn0 (r0 r8 : Option PH) : okK (knD r0 r8) (tupK [0, 2]) = true ∧ (dget (knD r0 r8) (tupK [0, 2])).getD .none = optT 0 r0 := by cases r0 <;> cases r8 <;> exact ⟨rfl, rfl⟩
theorem get_kn8 (r0 r8 : Option PH) : okK (knD r0 r8) (tupK [8, 2]) = true ∧ (dget (knD r0 r8) (tupK [8, 2])).getD .none = optT 8 r8 := by cases r0 <;> cases r8 <;> exact ⟨rfl, rfl⟩
structure PlOk (one : Bool) (x : PH) : Prop where
  e : x.1.1 = 1 ∨ (x.1.1 = 0 ∧ x.1.2.1 = 0)
  rk : one = true → x.1.2.2.1 = 1
  nd : x.2.Nodup
  len : x.2.length ≤ 24
noncomputable def w3lt (x y : PH) : Bool := (!isE2 x && isE2 y) || (isE2 x == isE2 y && (decide (secI x < secI y) || (secI x == secI y && decide (x.1.2.2.2 < y.1.2.2.2))))
noncomputable def wD (x : PH) : PyData := .tuple [.str (kindS (isE2 x)), .int (secI x), .int x.1.2.2.2]
theorem cmp_wlt (x y : PH) : cmpD .lt (wD x) (wD y) = some (w3lt x y) := by
  show (if (flatL 7 [.str (kindS (isE2 x)), .int (secI x), .int x.1.2.2.2] && flatL 7 [.str (kindS (isE2 y)), .int (secI y), .int y.1.2.2.2]) = true then lexT lt1 _ _ else none) = _
  rw [if_pos (by simp only [fL_cons, fD_str, fD_int, fL_nil, kind_ok, Bool.and_self])]
  exact lx_klt (lx_int lx_last)
noncomputable def w3eq (x y : PH) : Bool := isE2 x == isE2 y && (secI x == secI y && x.1.2.2.2 == y.1.2.2.2)
theorem eqv_tup (xs ys : List PyData) : PyData.eqv (.tuple xs) (.tuple ys) = PyData.eqvAll xs ys := by simp [PyData.eqv]
theorem eqv_all (x y : PyData) (xs ys : List PyData) : PyData.eqvAll (x :: xs) (y :: ys) = (PyData.eqv x y && PyData.eqvAll xs ys) := by simp [PyData.eqvAll]
theorem eqv_nil : PyData.eqvAll [] [] = true := by simp [PyData.eqvAll]
theorem cmp_weq (x y : PH) : cmpD .eq (wD x) (wD y) = some (w3eq x y) := by
  have hf : ∀ z : PH, flatD 8 (wD z) = true := fun z => by simp only [wD, fD_tup, fL_cons, fD_str, fD_int, fL_nil, kind_ok, Bool.and_self]
  show (if (flatD 8 (wD x) && flatD 8 (wD y)) = true then some (PyData.eqv (wD x) (wD y)) else none) = _
  rw [hf, hf]
  show some (PyData.eqv (wD x) (wD y)) = _
  unfold wD
  rw [eqv_tup, eqv_all, eqv_all, eqv_all, eqv_nil, kind_eqv, eqv_int, eqv_int, Bool.and_true]; rfl
theorem e2_cases {one : Bool} {x : PH} (h : PlOk one x) : (x.1.1 = 1 ∧ isE2 x = true ∧ secI x = x.1.2.1) ∨ (x.1.1 = 0 ∧ x.1.2.1 = 0 ∧ isE2 x = false ∧ secI x = 0) := by
  rcases h.e with a | ⟨a, a2⟩
  · exact .inl ⟨a, by simp [isE2, a], if_pos a⟩
  · exact .inr ⟨a, a2, by simp [isE2, a], if_neg (by lia)⟩
theorem w3_lt {x y : PH} (hx : PlOk true x) (hy : PlOk true y) : p4lt x.1 y.1 = w3lt x y := by
  have rx := hx.rk rfl
  have ry := hy.rk rfl
  rw [Bool.eq_iff_iff, p4_iff]
  rcases e2_cases hx with ⟨a, a2, a3⟩ | ⟨a, a2, a3, a4⟩ <;> rcases e2_cases hy with ⟨b, b2, b3⟩ | ⟨b, b2, b3, b4⟩
  · simp [w3lt, a, b, a2, a3, b2, b3, rx, ry]
  · simp [w3lt, a, b, a2, a3, b3, b4]
  · simp [w3lt, a, b, a3, a4, b2, b3]
  · simp [w3lt, a, b, a2, b2, a3, a4, b3, b4, rx, ry]
theorem w3_eq {x y : PH} (hx : PlOk true x) (hy : PlOk true y) : w3eq x y = decide (x.1 = y.1) := by
  have rx := hx.rk rfl
  have ry := hy.rk rfl
  rw [Bool.eq_iff_iff, decide_eq_true_eq]
  constructor
  · rcases e2_cases hx with ⟨a, a2, a3⟩ | ⟨a, a2, a3, a4⟩ <;> rcases e2_cases hy with ⟨b, b2, b3⟩ | ⟨b, b2, b3, b4⟩
    · simp only [w3eq, a2, a3, b2, b3, Bool.and_eq_true, beq_iff_eq]
      rintro ⟨_, h1, h2⟩
      exact place_ext (a.trans b.symm) h1 (rx.trans ry.symm) h2
    · simp [w3eq, a2, b3]
    · simp [w3eq, a3, b2]
    · simp only [w3eq, a3, a4, b3, b4, Bool.and_eq_true, beq_iff_eq]
      rintro ⟨_, h1, h2⟩
      exact place_ext (a.trans b.symm) (a2.trans b2.symm) (rx.trans ry.symm) h2
  · intro h; simp [w3eq, isE2, secI, h]
noncomputable def bothPH (x y : PH) : PH := (x.1, psort (x.2 ++ y.2.filter fun h => !x.2.contains h))
noncomputable def joinPH (x y : PH) : PH := if p4lt x.1 y.1 then x else if p4lt y.1 x.1 then y else bothPH x y
noncomputable def joinO : Option PH → Option PH → Option PH
  | none, r => r
  | l, none => l
  | some x, some y => some (joinPH x y)
theorem flat_optT (k : Nat) (n : Int) (o : Option PH) : flatD (k + 3) (optT n o) = true := by
  cases o with
  | none => rfl
  | some x => exact flat_told k n x
theorem notIn_pairsT (h : Int × Int) (hs : List (Int × Int)) : cmpD .notIn (pairD h) (hopsD hs) = some (!hs.contains h) := by
  show (if (flatD 8 (pairD h) && flatL 7 (hs.map pairD)) = true then some (!(hs.map pairD).any fun y => PyData.eqv y (pairD h)) else none) = _
  rw [flat_pairs, any_pair]
  rfl
theorem c_notinT {fn : Fn} {ρ : Ro} {S : Sto} {e : Ex} {old : List (Int × Int)} {P : List PyData → Sto → Prop} (he : ∀ (x : Va) (Q : Va → Sto → Prop), Q (.d (hopsD old)) S → V (ev fn (setV ρ 36 x) S e) Q) :
    ∀ {new : List (Int × Int)}, P ((new.filter fun h => !old.contains h).map pairD) S → V (cloop (cbody fn ρ (.var 36) (.nm 36) [.cmp .notIn (.var 36) e]) (new.map pairD) S) P := by
  intro new
  induction new generalizing P with
  | nil => exact fun h => c_nil h
  | cons h new ih =>
    intro hP
    have l36 : (setV ρ 36 (.d (pairD h))).lookup 36 = some (.d (pairD h)) := by rw [lookup_setV]; rfl
    refine c_cons (c_body (T.of rfl (tt_cons (t_cmp (t_var l36 (he _ _ (T.of rfl (T.of rfl (T.of (notIn_pairsT _ _) ⟨_, rfl, fun hc => ?_, fun hc => ?_⟩)))))))))
    · refine tt_nil ⟨fun _ => t_var l36 ⟨_, rfl, ih ?_⟩, fun q => nomatch q⟩
      rw [List.filter_cons, if_pos hc] at hP
      exact hP
    · refine ⟨fun q => (nomatch q), fun _ => ih ?_⟩
      rw [List.filter_cons, if_neg (by rw [hc]; exact Bool.false_ne_true)] at hP
      exact hP
theorem noneV_told (n : Int) (x : PH) : noneV (.d (toldS n x)) = false := by rw [told_eq]; rfl
theorem told_sl (n : Int) (x : PH) : ∃ xs, toldS n x = .tuple xs ∧ xs.length ≤ big ∧ pickL xs none (some 5) = [tupK [n, 2], .str (kindS (isE2 x)), .int x.1.2.2.2, .int (secI x), .int 0] := ⟨_, told_eq n x, by simp [big], rfl⟩
theorem t_sl5 {fn : Fn} {ρ : Ro} {S : Sto} {a : Ex} {n : Int} {x : PH} {P : Va → Sto → Prop} (h : V (ev fn ρ S a) fun u S1 => u = .d (toldS n x) ∧ P (.d (.tuple [tupK [n, 2], .str (kindS (isE2 x)), .int x.1.2.2.2, .int (secI x), .int 0])) S1) : V (ev fn ρ S (.sl a none (some (.int 5)))) P := by
  refine t_sl_tup <| h.imp ?_
  rintro u S1 ⟨rfl, hP⟩
  obtain ⟨xs, e1, e2, e3⟩ := told_sl n x
  exact o_none <| o_some <| t_int ⟨5, rfl, xs, by rw [e1]; rfl, e2, by rw [e3]; exact hP⟩
end Mine
end
end
section
open PySem
set_option maxRecDepth 100000
set_option Elab.async false
set_option autoImplicit false
set_option linter.unusedVariables false
noncomputable section
namespace Mine
theorem t_joined {k : Nat} {S : Sto} {n : Int} {l r : Option PH} {one : Bool} {P : Va → Sto → Prop} (hok : OkS S) (hl : ∀ x, l = some x → PlOk one x) (hr : ∀ x, r = some x → PlOk one x) (h : P (.d (.bool true)) S) : V (run prg (k + 1) 16 [.d (optT n (joinO l r)), .d (optT n l), .d (optT n r), .d (.bool one)] S) P := by
  refine t_run (fd := c_law_is_joined) rfl rfl ?_
  cases l with
  | none =>
    refine tx_cons <| tx_ife <| t_or <| to_cons <| t_isN <| t_var rfl ⟨true, rfl, (fun q => nomatch q), fun _ => ⟨true, rfl, (fun _ => ?_), fun q => nomatch q⟩⟩
    refine tx_ret1 <| t_cmp <| t_var rfl <| t_ite <| t_isN <| t_var rfl ⟨true, rfl, (fun _ => t_var rfl <| T.of rfl <| T.of rfl <| T.of (cmp_eq_self (flat_optT 5 n r)) ⟨(fun q => nomatch q), fun _ => fin0 hok h⟩), fun q => nomatch q⟩
  | some x =>
    have hx := hl x rfl
    have nx : noneV (.d (optT n (some x))) = false := noneV_told n x
    refine tx_cons <| tx_ife <| t_or <| to_cons <| t_isN <| t_var rfl ⟨_, rfl, (fun _ => ?_), fun q => by rw [nx] at q; cases q⟩
    cases r with
    | none =>
      refine to_cons <| t_isN <| t_var rfl ⟨true, rfl, (fun q => nomatch q), fun _ => ⟨true, rfl, (fun _ => ?_), fun q => nomatch q⟩⟩
      refine tx_ret1 <| t_cmp <| t_var rfl <| t_ite <| t_isN <| t_var rfl ⟨_, rfl, (fun q => by rw [nx] at q; cases q), (fun _ => t_var rfl <| T.of rfl <| T.of rfl <| T.of (cmp_eq_self (flat_optT 5 n (some x))) ⟨(fun q => nomatch q), fun _ => fin0 hok h⟩)⟩
    | some y =>
      have hy := hr y rfl
      have ny : noneV (.d (optT n (some y))) = false := noneV_told n y
      refine to_cons <| t_isN <| t_var rfl ⟨_, rfl, (fun _ => to_nil ⟨false, rfl, (fun q => nomatch q), fun _ => tx_nil ⟨(fun _ => ?_), fun q => absurd rfl q⟩⟩), fun q => by rw [ny] at q; cases q⟩
      have hfl : (y.2.filter fun h => !x.2.contains h).length ≤ 24 := by
        have := List.length_filter_le (fun h => !x.2.contains h) y.2
        have := hy.len
        lia
      have hnd : (x.2 ++ y.2.filter fun h => !x.2.contains h).Nodup := by
        refine List.nodup_append.mpr ⟨hx.nd, hy.nd.filter _, ?_⟩
        intro a ha b hb e
        subst e
        have := (List.mem_filter.mp hb).2
        simp at this
        exact this ha
      have hlen : (x.2 ++ y.2.filter fun h => !x.2.contains h).length < 64 := by have := hx.len; rw [List.length_append]; lia
      have hsort : biD .sorted [.list (x.2.map pairD ++ (y.2.filter fun h => !x.2.contains h).map pairD)] = some (.list ((bothPH x y).2.map pairD)) := by
        rw [← List.map_append]
        exact sortL_pairs hnd hlen
      have htup : biD .tuple [.list ((bothPH x y).2.map pairD)] = some (hopsD (bothPH x y).2) := if_pos (by unfold bothPH; rw [List.length_map, psort_len]; simp only [big]; lia)
      have hadd : (x.2.map pairD).length + ((y.2.filter fun h => !x.2.contains h).map pairD).length ≤ big := by have := hx.len; simp only [List.length_map, big]; lia
      have hboth : toldS n (bothPH x y) = .tuple [tupK [n, 2], .str (kindS (isE2 x)), .int x.1.2.2.2, .int (secI x), .int 0, hopsD (bothPH x y).2] := told_eq n (bothPH x y)
      refine tx_next <| tx_asg <| t_bin <| t_sl5 (n := n) (x := x) <| t_var rfl ⟨rfl, ?_⟩
      refine t_tup <| ts_cons <| t_bi <| ts_cons <| t_bi <| ts_cons <| t_bin <| t_bi <| ts_vi rfl rfl (told5 n x) <| ts_nil <| T.of rfl <| T.of (bi_listT (by have := hx.len; rw [List.length_map]; simp only [big]; lia)) ?_
      refine t_comp <| t_vi rfl rfl (told5 n y) ⟨_, _, rfl, rfl, by have := hy.len; rw [List.length_map]; simp only [big]; lia, ?_⟩
      refine c_notinT (old := x.2) (fun z Q hQ => t_vi (by rw [lookup_setV]; rfl) rfl (told5 n x) hQ) ?_
      refine T.of rfl <| T.of rfl <| T.of (bin_addL hadd) <| ts_nil <| T.of rfl <| T.of hsort <| ts_nil <| T.of rfl <| T.of htup <| ts_nil <| T.of rfl <| T.of rfl <| T.of rfl <| T.of (a := toldS n (bothPH x y)) (by rw [hboth]; rfl) <| T.of rfl ⟨rfl, ?_⟩
      have htri : p4lt x.1 y.1 = false → p4lt y.1 x.1 = false → x.1 = y.1 := p4_tri
      refine tx_cons <| tx_ife <| t_not <| t_var rfl ⟨one, rfl, !one, rfl, (fun h1 => ?_), (fun h1 => tx_nil ⟨fun _ => ?_, fun q => absurd rfl q⟩)⟩
      · refine tx_ret1 <| t_or <| to_cons <| t_cmp <| t_var rfl <| t_tup <| ts_var rfl <| ts_var rfl <| ts_nil <| T.of rfl <| T.of rfl <| T.of rfl ?_
        have hin : cmpD .isIn (optT n (joinO (some x) (some y))) (.tuple [toldS n x, toldS n y]) = some ([toldS n x, toldS n y].any fun z => PyData.eqv z (toldS n (joinPH x y))) := by
          show (if (flatD 8 (toldS n (joinPH x y)) && flatL 7 [toldS n x, toldS n y]) = true then _ else _) = _
          rw [if_pos (by simp [fL_cons, fL_nil, flat_told 5 n (joinPH x y), flat_told 4 n x, flat_told 4 n y])]
          rfl
        refine T.of hin ⟨_, rfl, fun hb => ?_, fun _ => ⟨(fun q => nomatch q), fun _ => fin0 hok h⟩⟩
        have hno : p4lt x.1 y.1 = false := by
          cases q : p4lt x.1 y.1 with
          | false => rfl
          | true =>
            have hj : joinPH x y = x := by simp [joinPH, q]
            rw [hj] at hb
            simp [eqv_flat 8 _ (flat_told 5 n x)] at hb
        have hno2 : p4lt y.1 x.1 = false := by
          cases q : p4lt y.1 x.1 with
          | false => rfl
          | true =>
            have hj : joinPH x y = y := by simp [joinPH, q, hno]
            rw [hj] at hb
            simp [eqv_flat 8 _ (flat_told 5 n y)] at hb
        have hj : joinPH x y = bothPH x y := by simp [joinPH, hno, hno2]
        have he := htri hno hno2
        have h5 : ([tupK [n, 2], .str (kindS (isE2 y)), .int y.1.2.2.2, .int (secI y), .int 0] : List PyData) = [tupK [n, 2], .str (kindS (isE2 x)), .int x.1.2.2.2, .int (secI x), .int 0] := by
          unfold isE2 secI; rw [he]
        refine to_cons <| t_and <| ta_cons <| t_cmp <| t_sl5 (n := n) (x := x) <| t_var rfl ⟨rfl, ?_⟩
        refine t_sl5 (n := n) (x := y) <| t_var rfl ⟨rfl, ?_⟩
        rw [h5]
        refine T.of rfl <| T.of rfl <| T.of (cmp_eq_self (by simp only [fD_tup, fD_int, fD_str, fL_cons, fL_nil, tupK, kind_ok, List.map_cons, List.map_nil, Bool.and_self])) ⟨true, rfl, (fun _ => ?_), fun q => nomatch q⟩
        refine ta_cons <| t_cvv (z := true) rfl rfl rfl rfl ?_ ⟨true, rfl, (fun _ => ta_nil ⟨true, rfl, (fun q => nomatch q), fun _ => ⟨(fun q => nomatch q), fun _ => fin0 hok h⟩⟩), fun q => nomatch q⟩
        show cmpD .eq (toldS n (joinPH x y)) (toldS n (bothPH x y)) = _
        rw [hj]; exact cmp_eq_self (flat_told 5 n _)
      · have hone : one = true := by cases one with
          | true => rfl
          | false => cases h1
        subst hone
        have body : ∀ (z : PH) (ρ : Ro) (Q : Option PyData → Sto → Prop), Q (some (wD z)) S → V (cbody (run prg k) ρ (.tup [(.idx (.var 4) (.int 1)), (.idx (.var 4) (.int 3)), (.idx (.var 4) (.int 2))]) (.nm 4) [] (toldS n z) S) Q := by
          intro z ρ Q hQ
          have l4 : (setV ρ 4 (.d (toldS n z))).lookup 4 = some (.d (toldS n z)) := by repeat (first | exact lk_eq | refine lk_ne rfl ?_)
          refine c_body <| T.of rfl <| tt_nil ⟨fun _ => ?_, fun q => nomatch q⟩
          exact t_tup <| ts_vi l4 rfl (told1 n z) <| ts_vi l4 rfl (told3 n z) <| ts_vi l4 rfl (told2 n z) <| ts_nil <| T.of rfl ⟨_, rfl, hQ⟩
        refine tx_next <| tx_asg <| t_comp <| t_tup <| ts_var rfl <| ts_var rfl <| ts_nil <| T.of rfl ⟨_, _, rfl, rfl, by simp [big], ?_⟩
        refine c_cons <| body x _ _ <| c_cons <| body y _ _ <| c_nil <| T.of rfl ⟨rfl, ?_⟩
        have fin : ∀ z : PH, joinPH x y = z → cmpD .eq (toldS n (joinPH x y)) (toldS n z) = some true := fun z e => by rw [e]; exact cmp_eq_self (flat_told 5 n z)
        refine tx_ret1 <| t_cmp <| t_var rfl <| t_ite <| t_cmp <| t_vi rfl rfl rfl <| t_vi rfl rfl rfl <| T.of rfl <| T.of rfl <| T.of (cmp_weq x y) ⟨_, rfl, fun he => ?_, fun he => ?_⟩
        · rw [w3_eq hx hy] at he
          have he := of_decide_eq_true he
          refine t_var rfl <| T.of rfl <| T.of rfl <| T.of (fin (bothPH x y) ?_) <| fin0 hok h
          simp [joinPH, he, p4_irr]
        · rw [w3_eq hx hy] at he
          have he := of_decide_eq_false he
          refine t_ite <| t_cmp <| t_vi rfl rfl rfl <| t_vi rfl rfl rfl <| T.of rfl <| T.of rfl <| T.of (cmp_wlt x y) ⟨_, rfl, fun hc => ?_, fun hc => ?_⟩
          · rw [← w3_lt hx hy] at hc
            refine t_var rfl <| T.of rfl <| T.of rfl <| T.of (fin x ?_) <| fin0 hok h
            simp [joinPH, hc]
          · rw [← w3_lt hx hy] at hc
            refine t_var rfl <| T.of rfl <| T.of rfl <| T.of (fin y ?_) <| fin0 hok h
            have : p4lt y.1 x.1 = true := by
              cases q : p4lt y.1 x.1 with
              | true => rfl
              | false => exact absurd (htri hc q) he
            simp [joinPH, hc, this]
end Mine
end
end
section
open PySem
set_option maxRecDepth 100000
set_option Elab.async false
set_option autoImplicit false
set_option linter.unusedVariables false
noncomputable section
namespace Mine
noncomputable def mvWay (i : Int) (y : Way) : Way := { y with cost := y.cost + i }
noncomputable def mvLead (i : Int) (W : Lead) : Lead := W.map fun p => (p.1, p.2.map (mvWay i))
noncomputable def mvTab (i : Int) (t : Tab) : Tab := ⟨t.c1 + i, t.a1, t.c2 + i⟩
noncomputable def mvCand (i o w : Int) (c : Cand) : Cand := (c.1, shiftP i o w c.2.1, c.2.2)
theorem mv_lookup (i s : Int) : ∀ W : Lead, (mvLead i W).lookup s = (W.lookup s).map fun ws => ws.map (mvWay i)
  | [] => rfl
  | (m, ws) :: r => by
    have ih := mv_lookup i s r
    unfold mvLead at ih ⊢
    rw [List.map_cons, List.lookup_cons, List.lookup_cons, ih]
    cases s == m <;> rfl
theorem klt_iff (p q : Int × Int × Int) : klt p q = true ↔ p.1 < q.1 ∨ p.1 = q.1 ∧ (p.2.1 < q.2.1 ∨ p.2.1 = q.2.1 ∧ p.2.2 < q.2.2) := by
  simp only [klt, Bool.or_eq_true, Bool.and_eq_true, decide_eq_true_eq, beq_iff_eq]
theorem mv_klt (i : Int) (x y : Way) : klt (wkey (mvWay i y)) (wkey (mvWay i x)) = klt (wkey y) (wkey x) := by
  rw [Bool.eq_iff_iff, klt_iff, klt_iff]
  simp only [wkey, mvWay, Int.add_lt_add_iff_right, Int.add_left_inj]
theorem mv_better (i : Int) (b : Option Way) (y : Way) : better (b.map (mvWay i)) (mvWay i y) = (better b y).map (mvWay i) := by
  cases b with
  | none => rfl
  | some x =>
    simp only [Option.map_some, better, mv_klt]
    split <;> rfl
theorem mv_fold (i : Int) : ∀ (ws : List Way) (b : Option Way), (ws.map (mvWay i)).foldl better (b.map (mvWay i)) = (ws.foldl better b).map (mvWay i)
  | [], _ => rfl
  | y :: ws, b => by rw [List.map_cons, List.foldl_cons, List.foldl_cons, mv_better, mv_fold i ws]
theorem mv_best (i : Int) (ws : List Way) : bestW (ws.map (mvWay i)) = (bestW ws).map (mvWay i) := mv_fold i ws none
theorem mv_out (i o w : Int) (t : Tab) (r : Row) (ws : List Way) : outOf (mvTab i t) (mvRow o w r) (ws.map (mvWay i)) = (outOf t r ws).map fun q => (q.1 + i, q.2.1, q.2.2) := by
  have hf : (mvRow o w r).fwd = r.fwd := rfl
  unfold outOf
  rw [hf]
  split
  · unfold ownOut
    rw [mv_best]
    cases bestW ws <;> rfl
  · split <;> rfl
theorem mv_worth (i o w : Int) (r : Row) (q : Out) : worth (mvRow o w r) (q.1 + i, q.2.1, q.2.2) = shiftP i o w (worth r q) := by
  unfold worth mvRow shiftP
  cases r.sec with
  | true => simp
  | false => simp; lia
theorem mv_cand (i o w : Int) (W : Lead) (t : Tab) (r : Row) : cand (mvLead i W) (mvTab i t) (mvRow o w r) = (cand W t r).map (mvCand i o w) := by
  unfold cand
  have hs : (mvRow o w r).sender = r.sender := rfl
  rw [hs, mv_lookup]
  cases W.lookup r.sender with
  | none => rfl
  | some ws =>
    simp only [Option.map_some, Option.bind_some, mv_out]
    cases outOf t r ws with
    | none => rfl
    | some q =>
      simp only [Option.map_some, mv_worth]
      rfl
theorem mv_cands (i o w : Int) (W : Lead) (t : Tab) : ∀ rows : List Row, candsOf (mvLead i W) (mvTab i t) (rows.map (mvRow o w)) = (candsOf W t rows).map (mvCand i o w)
  | [] => rfl
  | r :: rows => by
    have ih := mv_cands i o w W t rows
    unfold candsOf at ih ⊢
    rw [List.map_cons, List.filterMap_cons, List.filterMap_cons, mv_cand]
    cases cand W t r with
    | none => exact ih
    | some c => simp only [Option.map_some, List.map_cons, ih]
theorem sh_lt {i o w : Int} {p q : Place} (hp : p.1 = 1 ∨ p.1 = 0) (hq : q.1 = 1 ∨ q.1 = 0) : p4lt (shiftP i o w p) (shiftP i o w q) = p4lt p q := by
  obtain ⟨a, b, c, d⟩ := p
  obtain ⟨e, f, g, h⟩ := q
  simp only at hp hq
  rw [Bool.eq_iff_iff, p4_iff, p4_iff]
  unfold shiftP
  rcases hp with rfl | rfl <;> rcases hq with rfl | rfl <;> simp <;> lia
theorem sh_inj {i o w : Int} {p q : Place} (hp : p.1 = 1 ∨ p.1 = 0) (hq : q.1 = 1 ∨ q.1 = 0) (h : shiftP i o w p = shiftP i o w q) : p = q := by
  refine p4_tri ?_ ?_
  · rw [← sh_lt (i := i) (o := o) (w := w) hp hq, h]; exact p4_irr _
  · rw [← sh_lt (i := i) (o := o) (w := w) hq hp, h]; exact p4_irr _
theorem res_mv {cs : List Cand} (hn : Nd cs) (hk : ∀ c ∈ cs, c.2.1.1 = 1 ∨ c.2.1.1 = 0) (i o w n : Int) : resO (cs.map (mvCand i o w)) n = (resO cs n).map (shiftPH i o w) := by
  have hd : Nd (cs.map (mvCand i o w)) := fun c hc => by
    obtain ⟨d, hd, rfl⟩ := List.mem_map.mp hc
    exact hn d hd
  cases hr : resO cs n with
  | none =>
    refine (res_none hd).mpr fun c hc => ?_
    obtain ⟨d, hd, rfl⟩ := List.mem_map.mp hc
    exact (res_none hn).mp hr d hd
  | some x =>
    have R := res_some hn hr
    obtain ⟨c0, hc0, en, ep⟩ := R.has
    have hx : x.1.1 = 1 ∨ x.1.1 = 0 := by rw [← ep]; exact hk c0 hc0
    refine res_of hd ⟨⟨_, List.mem_map.mpr ⟨c0, hc0, rfl⟩, en, ?_⟩, ?_, R.srt, ?_⟩
    · show shiftP i o w c0.2.1 = shiftP i o w x.1
      rw [ep]
    · intro c hc e
      obtain ⟨d, hd, rfl⟩ := List.mem_map.mp hc
      show p4lt (shiftP i o w d.2.1) (shiftP i o w x.1) = false
      rw [sh_lt (hk d hd) hx]
      exact R.low d hd e
    · intro h
      show h ∈ x.2 ↔ _
      rw [R.hops h]
      constructor
      · rintro ⟨c, hc, e1, e2, e3⟩
        refine ⟨_, List.mem_map.mpr ⟨c, hc, rfl⟩, e1, ?_, e3⟩
        show shiftP i o w c.2.1 = shiftP i o w x.1
        rw [e2]
      · rintro ⟨c, hc, e1, e2, e3⟩
        obtain ⟨d, hd, rfl⟩ := List.mem_map.mp hc
        exact ⟨d, hd, e1, sh_inj (hk d hd) hx e2, e3⟩
theorem worth_e (r : Row) (o : Out) : (worth r o).1 = 1 ∨ ((worth r o).1 = 0 ∧ (worth r o).2.1 = 0) := by
  unfold worth
  cases r.sec with
  | true => exact .inl rfl
  | false => exact .inr ⟨rfl, rfl⟩
theorem cand_worth {W : Lead} {t : Tab} {r : Row} {c : Cand} (h : cand W t r = some c) : ∃ ws o, W.lookup r.sender = some ws ∧ outOf t r ws = some o ∧ c = (r.net, worth r o, o.2.1) := by
  unfold cand at h
  cases hl : W.lookup r.sender with
  | none => rw [hl] at h; cases h
  | some ws =>
    rw [hl] at h
    simp only [Option.bind_some] at h
    cases ho : outOf t r ws with
    | none => rw [ho] at h; cases h
    | some o => rw [ho] at h; cases h; exact ⟨ws, o, rfl, ho, rfl⟩
theorem cands_e {W : Lead} {t : Tab} {rows : List Row} : ∀ c ∈ candsOf W t rows, c.2.1.1 = 1 ∨ (c.2.1.1 = 0 ∧ c.2.1.2.1 = 0) := fun c hc => by
  obtain ⟨r, _, e⟩ := List.mem_filterMap.mp hc
  obtain ⟨ws, o, _, _, rfl⟩ := cand_worth e
  exact worth_e r o
theorem er_moved {W : Lead} (hW : WOk W) (t : Tab) (rows : List Row) (i o w : Int) : erL (mvLead i W) (mvTab i t) (rows.map (mvRow o w)) = outL ((resO (candsOf W t rows) 0).map (shiftPH i o w)) ((resO (candsOf W t rows) 8).map (shiftPH i o w)) := by
  unfold erL
  rw [mv_cands]
  have hk : ∀ c ∈ candsOf W t rows, c.2.1.1 = 1 ∨ c.2.1.1 = 0 := fun c hc => (cands_e c hc).imp id fun h => h.1
  rw [res_mv (cands_nd hW t rows) hk, res_mv (cands_nd hW t rows) hk]
theorem er_set {W : Lead} (hW : WOk W) (t : Tab) {rows rows' : List Row} (h : ∀ r, r ∈ rows ↔ r ∈ rows') : erL W t rows' = erL W t rows := by
  have hm : ∀ c, c ∈ candsOf W t rows ↔ c ∈ candsOf W t rows' := fun c => by
    unfold candsOf
    rw [List.mem_filterMap, List.mem_filterMap]
    exact ⟨fun ⟨r, a, b⟩ => ⟨r, (h r).mp a, b⟩, fun ⟨r, a, b⟩ => ⟨r, (h r).mpr a, b⟩⟩
  unfold erL
  rw [res_same (cands_nd hW t rows) hm, res_same (cands_nd hW t rows) hm]
end Mine
end
end
section
open PySem
set_option maxRecDepth 100000
set_option Elab.async false
set_option autoImplicit false
set_option linter.unusedVariables false
noncomputable section
namespace Mine
theorem rs_left {cs ds : List Cand} {n : Int} {x : PH} (X : Rs cs n x) (h : ∀ d ∈ ds, d.1 = n → p4lt x.1 d.2.1 = true) : Rs (cs ++ ds) n x := by
  refine ⟨?_, ?_, X.srt, ?_⟩
  · obtain ⟨c, hc, e⟩ := X.has; exact ⟨c, List.mem_append_left _ hc, e⟩
  · intro c hc e
    rcases List.mem_append.mp hc with hc | hc
    · exact X.low c hc e
    · exact p4_asym (h c hc e)
  · intro z
    rw [X.hops z]
    constructor
    · rintro ⟨c, hc, e⟩; exact ⟨c, List.mem_append_left _ hc, e⟩
    · rintro ⟨c, hc, e1, e2, e3⟩
      rcases List.mem_append.mp hc with hc | hc
      · exact ⟨c, hc, e1, e2, e3⟩
      · have := h c hc e1
        rw [e2, p4_irr] at this; cases this
theorem nd_app {cs ds : List Cand} (hc : Nd cs) (hd : Nd ds) : Nd (cs ++ ds) := fun c h => (List.mem_append.mp h).elim (hc c) (hd c)
theorem res_join {cs ds : List Cand} (hc : Nd cs) (hd : Nd ds) (n : Int) : resO (cs ++ ds) n = joinO (resO cs n) (resO ds n) := by
  have hcd := nd_app hc hd
  have swap : ∀ c, c ∈ ds ++ cs ↔ c ∈ cs ++ ds := fun c => by rw [List.mem_append, List.mem_append]; exact Or.comm
  cases hl : resO cs n with
  | none =>
    have nl := (res_none hc).mp hl
    cases hr : resO ds n with
    | none =>
      have nr := (res_none hd).mp hr
      exact (res_none hcd).mpr fun c h => (List.mem_append.mp h).elim (nl c) (nr c)
    | some y =>
      have Y := res_some hd hr
      show _ = some y
      rw [res_same (nd_app hd hc) swap n]
      exact res_of (nd_app hd hc) (rs_left Y fun d hd e => absurd e (nl d hd))
  | some x =>
    have X := res_some hc hl
    cases hr : resO ds n with
    | none =>
      have nr := (res_none hd).mp hr
      show _ = some x
      exact res_of hcd (rs_left X fun d hd e => absurd e (nr d hd))
    | some y =>
      have Y := res_some hd hr
      show _ = some (joinPH x y)
      unfold joinPH
      by_cases h1 : p4lt x.1 y.1 = true
      · rw [if_pos h1]
        exact res_of hcd (rs_left X fun d hd e => p4_trans h1 (Y.low d hd e))
      · rw [if_neg h1]
        by_cases h2 : p4lt y.1 x.1 = true
        · rw [if_pos h2, res_same (nd_app hd hc) swap n]
          exact res_of (nd_app hd hc) (rs_left Y fun d hd e => p4_trans h2 (X.low d hd e))
        · rw [if_neg h2]
          have he : x.1 = y.1 := p4_tri (by simpa using h1) (by simpa using h2)
          have hnd : (x.2 ++ y.2.filter fun h => !x.2.contains h).Nodup := by
            refine List.nodup_append.mpr ⟨X.srt.nd, Y.srt.nd.filter _, ?_⟩
            intro a ha b hb e
            subst e
            have := (List.mem_filter.mp hb).2
            simp at this
            exact this ha
          refine res_of hcd ⟨?_, ?_, psort_sorted hnd, ?_⟩
          · obtain ⟨c, hc, e⟩ := X.has; exact ⟨c, List.mem_append_left _ hc, e⟩
          · intro c hc e
            show p4lt c.2.1 x.1 = false
            rcases List.mem_append.mp hc with hc | hc
            · exact X.low c hc e
            · rw [he]; exact Y.low c hc e
          · intro z
            show z ∈ psort _ ↔ _
            rw [(psort_perm _).mem_iff, List.mem_append, List.mem_filter, X.hops z]
            constructor
            · rintro (⟨c, hc, e⟩ | ⟨hz, _⟩)
              · exact ⟨c, List.mem_append_left _ hc, e⟩
              · obtain ⟨c, hc, e1, e2, e3⟩ := (Y.hops z).mp hz
                exact ⟨c, List.mem_append_right _ hc, e1, e2.trans he.symm, e3⟩
            · rintro ⟨c, hc, e1, e2, e3⟩
              rcases List.mem_append.mp hc with hc | hc
              · exact .inl ⟨c, hc, e1, e2, e3⟩
              · have hy : z ∈ y.2 := (Y.hops z).mpr ⟨c, hc, e1, by rw [← he]; exact e2, e3⟩
                by_cases q : z ∈ x.2
                · exact .inl ((X.hops z).mp q)
                · exact .inr ⟨hy, by simpa using q⟩
theorem cands_app (W : Lead) (t : Tab) (a b : List Row) : candsOf W t (a ++ b) = candsOf W t a ++ candsOf W t b := List.filterMap_append ..
structure EnvG (one : Bool) (W : Lead) (t : Tab) : Prop where
  ok : WOk W
  area : one = true → ∀ s ws, W.lookup s = some ws → ∀ y ∈ ws, y.area = 0
  tab : one = true → t.a1 = 0
theorem rk0 (b : Bool) : rkV 0 b = 1 := by cases b <;> rfl
theorem cands_rk {one : Bool} {W : Lead} {t : Tab} {rows : List Row} (E : EnvG one W t) (h1 : one = true) : ∀ c ∈ candsOf W t rows, c.2.1.2.2.1 = 1 := fun c hc => by
  obtain ⟨r, _, e⟩ := List.mem_filterMap.mp hc
  obtain ⟨ws, o, hl, ho, rfl⟩ := cand_worth e
  have : (worth r o).2.2.1 = o.2.2 := by unfold worth; cases r.sec <;> rfl
  show (worth r o).2.2.1 = 1
  rw [this]
  unfold outOf at ho
  split at ho
  · unfold ownOut at ho
    cases hb : bestW ws with
    | none => rw [hb] at ho; cases ho
    | some y =>
      rw [hb] at ho; cases ho
      show rkV y.area y.intra = 1
      rw [E.area h1 _ _ hl y (bestW_mem hb)]; exact rk0 _
  · split at ho
    · cases ho
      show rkV t.a1 true = 1
      rw [E.tab h1]; rfl
    · cases ho; rfl
theorem er_len {W : Lead} (hW : WOk W) {t : Tab} {rows : List Row} {n : Int} {x : PH} (h : resO (candsOf W t rows) n = some x) : x.2.length ≤ 2 * rows.length := by
  unfold resO erOf at h
  cases hb : findB ((candsOf W t rows).foldl mergeB []) n with
  | none => rw [hb] at h; cases h
  | some b =>
    rw [hb] at h; cases h
    have B := BOk.fold (t := t) hW rows 0 [] ⟨Nat.le_refl _, fun _ h => nomatch h⟩
    rw [step_fold] at B
    have := B.hops b (find_mem hb).1
    show (psort b.2.2).length ≤ _
    rw [psort_len]; lia
theorem er_plok {one : Bool} {W : Lead} {t : Tab} {rows : List Row} (E : EnvG one W t) (hz : rows.length ≤ 12) {n : Int} {x : PH} (h : resO (candsOf W t rows) n = some x) : PlOk one x := by
  have R := res_some (cands_nd E.ok t rows) h
  obtain ⟨c, hc, en, ep⟩ := R.has
  refine ⟨?_, fun h1 => ?_, R.srt.nd, by have := er_len E.ok h; lia⟩
  · rw [← ep]; exact cands_e c hc
  · rw [← ep]; exact cands_rk E h1 c hc
end Mine
end
end
section
open PySem
set_option maxRecDepth 100000
set_option Elab.async false
set_option autoImplicit false
set_option linter.unusedVariables false
noncomputable section
namespace Mine
noncomputable def setK {β : Type} (W : List (Int × β)) (s : Int) (v : β) : List (Int × β) := if (W.lookup s).isSome then W.map (fun p => if p.1 = s then (p.1, v) else p) else W ++ [(s, v)]
theorem look_map {β : Type} (s : Int) (v : β) (z : Int) (W : List (Int × β)) : (W.map fun p => if p.1 = s then (p.1, v) else p).lookup z = if z = s then (W.lookup s).map fun _ => v else W.lookup z := by
  induction W with
  | nil => by_cases q : z = s <;> simp [q]
  | cons p r ih =>
    obtain ⟨m, w⟩ := p
    rw [List.map_cons]
    by_cases e : m = s
    · subst e
      rw [if_pos rfl, List.lookup_cons, List.lookup_cons, List.lookup_cons, beq_self_eq_true]
      by_cases q : z = m
      · rw [beq_iff_eq.mpr q, if_pos q]; rfl
      · rw [beq_eq_false_iff_ne.mpr q, ih, if_neg q, if_neg q]
    · rw [if_neg e, List.lookup_cons, List.lookup_cons, List.lookup_cons, beq_eq_false_iff_ne.mpr (Ne.symm e)]
      by_cases q : z = m
      · rw [beq_iff_eq.mpr q, if_neg (fun h => e (q.symm.trans h))]
      · rw [beq_eq_false_iff_ne.mpr q, ih]
theorem look_set {β : Type} (W : List (Int × β)) (s : Int) (v : β) (z : Int) : (setK W s v).lookup z = if z = s then some v else W.lookup z := by
  unfold setK
  cases h : W.lookup s with
  | some w =>
    simp only [Option.isSome_some, if_true]
    rw [look_map, h]; rfl
  | none =>
    rw [if_neg (by simp), List.lookup_append]
    by_cases q : z = s
    · subst q; simp [h]
    · have : (z == s) = false := by simpa using q
      simp [q, List.lookup_cons, this]
theorem look_key {β : Type} {s : Int} : ∀ {W : List (Int × β)}, W.lookup s = none ↔ s ∉ W.map (·.1)
  | [] => by simp
  | (m, w) :: r => by
    rw [List.lookup_cons, List.map_cons, List.mem_cons]
    by_cases q : s = m
    · subst q; simp
    · have : (s == m) = false := by simpa using q
      simp only [this, look_key (W := r), q, false_or]
theorem set_keys {β : Type} {W : List (Int × β)} (h : (W.map (·.1)).Nodup) (s : Int) (v : β) : ((setK W s v).map (·.1)).Nodup := by
  unfold setK
  split
  · have : (W.map fun p => if p.1 = s then (p.1, v) else p).map (·.1) = W.map (·.1) := by
      rw [List.map_map]
      refine List.map_congr_left fun p _ => ?_
      simp only [Function.comp]
      split <;> rfl
    rw [this]; exact h
  · rename_i q
    have q : W.lookup s = none := by
      cases hq : W.lookup s with
      | none => rfl
      | some w => rw [hq] at q; exact absurd rfl q
    rw [List.map_append]
    refine List.nodup_append.mpr ⟨h, by simp, ?_⟩
    intro a ha b hb e
    rw [List.map_singleton, List.mem_singleton] at hb
    have hb : b = s := hb
    exact look_key.mp q (by rw [← hb, ← e]; exact ha)
theorem set_len {β : Type} (W : List (Int × β)) (s : Int) (v : β) : (setK W s v).length ≤ W.length + 1 := by
  unfold setK
  split <;> simp
theorem klt_not (p q : Int × Int × Int) : klt p q = false ↔ ¬(p.1 < q.1 ∨ p.1 = q.1 ∧ (p.2.1 < q.2.1 ∨ p.2.1 = q.2.1 ∧ p.2.2 < q.2.2)) := by
  rw [← klt_iff]; simp
theorem klt_tr {p q r : Int × Int × Int} (h1 : klt p q = false) (h2 : klt q r = false) : klt p r = false := by
  rw [klt_not] at *
  exact lx_low h1 h2 fun h1 h2 => lx_low h1 h2 lt_low
theorem klt_as {p q : Int × Int × Int} (h1 : klt p q = true) : klt q p = false := by
  rw [klt_not]; rw [klt_iff] at h1
  exact lx_asym h1 fun h => lx_asym h lt_as
theorem klt_ir (p : Int × Int × Int) : klt p p = false := by
  cases h : klt p p with
  | false => rfl
  | true => rw [klt_as h] at h; cases h
theorem fold_le : ∀ (l : List Way) (x : Way), ∃ y, l.foldl better (some x) = some y ∧ klt (wkey x) (wkey y) = false
  | [], x => ⟨x, rfl, klt_ir _⟩
  | z :: l, x => by
    rw [List.foldl_cons]
    by_cases h : klt (wkey z) (wkey x) = true
    · obtain ⟨y, e, hy⟩ := fold_le l z
      refine ⟨y, by simp only [better, h, if_true]; exact e, klt_tr (klt_as h) hy⟩
    · obtain ⟨y, e, hy⟩ := fold_le l x
      refine ⟨y, by simp only [better, h, if_false]; exact e, hy⟩
theorem best_more {ws l : List Way} {x : Way} (h : bestW ws = some x) : ∃ y, bestW (ws ++ l) = some y ∧ klt (wkey x) (wkey y) = false := by
  unfold bestW at h ⊢
  rw [List.foldl_append, h]
  exact fold_le l x
theorem out_more {t : Tab} {r : Row} {ws l : List Way} {o : Out} (h : outOf t r ws = some o) : ∃ o', outOf t r (ws ++ l) = some o' ∧ ((∀ y ∈ ws ++ l, y.area = 0) → o'.1 ≤ o.1) := by
  unfold outOf at h ⊢
  split at h
  · rename_i hf
    rw [if_pos hf]
    unfold ownOut at h ⊢
    cases hb : bestW ws with
    | none => rw [hb] at h; cases h
    | some x =>
      rw [hb] at h; cases h
      obtain ⟨y, e, hk⟩ := best_more (l := l) hb
      rw [e]
      refine ⟨_, rfl, fun ha => ?_⟩
      have ax := ha x (List.mem_append_left _ (bestW_mem hb))
      have ay := ha y (bestW_mem e)
      have : ¬ klt (wkey x) (wkey y) = true := by simp [hk]
      have wx : wkey x = (1, x.cost, 0) := by simp [wkey, ax, rk0]
      have wy : wkey y = (1, y.cost, 0) := by simp [wkey, ay, rk0]
      rw [klt_iff, wx, wy] at this
      simp only [Int.lt_irrefl, true_and, false_or, and_false, or_false] at this
      show y.cost ≤ x.cost
      lia
  · rename_i hf
    rw [if_neg hf]
    exact ⟨o, h, fun _ => Int.le_refl _⟩
theorem worth_same (r : Row) (o p : Out) : (worth r p).1 = (worth r o).1 ∧ (worth r p).2.1 = (worth r o).2.1 ∧ (p.1 ≤ o.1 → (worth r p).2.2.2 ≤ (worth r o).2.2.2) := by
  unfold worth
  cases r.sec with
  | true => exact ⟨rfl, rfl, fun h => h⟩
  | false => exact ⟨rfl, rfl, fun h => by show p.1 + r.met ≤ o.1 + r.met; lia⟩
theorem er_noworse {one : Bool} {W W2 : Lead} {t : Tab} {rows : List Row} (E : EnvG one W t) (E2 : EnvG one W2 t) (hz : rows.length ≤ 12) (hs : ∀ s ws, W.lookup s = some ws → ∃ l, W2.lookup s = some (ws ++ l)) (n : Int) : NWo one (resO (candsOf W t rows) n) (resO (candsOf W2 t rows) n) := by
  cases hx : resO (candsOf W t rows) n with
  | none => exact trivial
  | some x =>
    have px := er_plok E hz hx
    have X := res_some (cands_nd E.ok t rows) hx
    obtain ⟨c, hc, en, ep⟩ := X.has
    obtain ⟨r, hr, hcr⟩ := List.mem_filterMap.mp hc
    obtain ⟨ws, o, hl, ho, rfl⟩ := cand_worth hcr
    obtain ⟨l, hl2⟩ := hs _ _ hl
    obtain ⟨o', ho', hle⟩ := out_more (l := l) ho
    have hd : cand W2 t r = some (r.net, worth r o', o'.2.1) := by simp [cand, hl2, ho']
    have hdm : (r.net, worth r o', o'.2.1) ∈ candsOf W2 t rows := List.mem_filterMap.mpr ⟨r, hr, hd⟩
    cases hy : resO (candsOf W2 t rows) n with
    | none => exact absurd en ((res_none (cands_nd E2.ok t rows)).mp hy (r.net, worth r o', o'.2.1) hdm)
    | some y =>
      have py := er_plok E2 hz hy
      have Y := res_some (cands_nd E2.ok t rows) hy
      have low := Y.low _ hdm en
      obtain ⟨w1, w2, w3⟩ := worth_same r o o'
      simp only at ep low
      rw [ep] at w1 w2 w3
      rw [p4_not] at low
      have l1 : ¬(worth r o').1 < y.1.1 := fun q => low (.inl q)
      have l2 : x.1.1 = y.1.1 → ¬x.1.2.1 < y.1.2.1 := fun e q => low (.inr ⟨w1.trans e, .inl (by rw [w2]; exact q)⟩)
      rw [w1] at l1
      refine ⟨y, rfl, ?_, fun h1 => ?_⟩
      · rcases e2_cases px with ⟨a, a2, a3⟩ | ⟨a, a2, a3, a4⟩ <;> rcases e2_cases py with ⟨b, b2, b3⟩ | ⟨b, b2, b3, b4⟩
        · simp only [gt2, a2, a3, b2, b3]; simpa using l2 (a.trans b.symm)
        · simp only [gt2, a2, a3, b3, b4]; simp
        · rw [a, b] at l1; exact absurd (by decide) l1
        · simp only [gt2, a3, a4, b3, b4]; simp
      · have ha := E2.area h1 _ _ hl2
        have h3 := w3 (hle ha)
        have rx := px.rk h1
        have ry := py.rk h1
        have rd : (worth r o').2.2.1 = 1 := cands_rk E2 h1 _ hdm
        have l3 : x.1.1 = y.1.1 → x.1.2.1 = y.1.2.1 → ¬x.1.2.2.2 < y.1.2.2.2 := fun e e2 q => low (.inr ⟨w1.trans e, .inr ⟨w2.trans e2, .inr ⟨rd.trans ry.symm, Int.lt_of_le_of_lt h3 q⟩⟩⟩)
        rcases e2_cases px with ⟨a, a2, a3⟩ | ⟨a, a2, a3, a4⟩ <;> rcases e2_cases py with ⟨b, b2, b3⟩ | ⟨b, b2, b3, b4⟩
        · simp only [gt3, a2, a3, b2, b3]
          have k2 := l2 (a.trans b.symm)
          have k3 := l3 (a.trans b.symm)
          simp only [Bool.not_true, Bool.and_false, Bool.false_or, beq_self_eq_true, Bool.true_and, Bool.or_eq_false_iff, decide_eq_false_iff_not, Bool.and_eq_false_iff, beq_eq_false_iff_ne, ne_eq]
          refine ⟨k2, ?_⟩
          by_cases q : x.1.2.1 = y.1.2.1
          · exact .inr (k3 q)
          · exact .inl q
        · simp only [gt3, a2, a3, b3, b4]; simp
        · rw [a, b] at l1; exact absurd (by decide) l1
        · have k3 := l3 (a.trans b.symm) (a2.trans b2.symm)
          simp only [gt3, a3, a4, b3, b4]; simpa using k3
noncomputable def stepN (n : Int) (a : Option Int) (r : Row) : Option Int := if r.net = n then some (match a with | none => r.met | some m => if r.met < m then r.met else m) else a
noncomputable def minN (n : Int) (rows : List Row) : Option Int := rows.foldl (stepN n) none
noncomputable def MinS (n : Int) (rows : List Row) : Option Int → Prop
  | none => ∀ r ∈ rows, r.net ≠ n
  | some m => (∃ r ∈ rows, r.net = n ∧ r.met = m) ∧ ∀ r ∈ rows, r.net = n → m ≤ r.met
theorem minS_step {n : Int} {rows : List Row} {o : Option Int} (h : MinS n rows o) (r : Row) : MinS n (rows ++ [r]) (stepN n o r) := by
  unfold stepN
  by_cases e : r.net = n
  · rw [if_pos e]
    cases o with
    | none =>
      refine ⟨⟨r, by simp, e, rfl⟩, fun q hq e2 => ?_⟩
      rcases List.mem_append.mp hq with hq | hq
      · exact absurd e2 (h q hq)
      · rw [List.mem_singleton.mp hq]; exact Int.le_refl _
    | some m =>
      obtain ⟨⟨a, ha, a1, a2⟩, h2⟩ := h
      by_cases q : r.met < m
      · simp only [q, if_true]
        refine ⟨⟨r, by simp, e, rfl⟩, fun z hz e2 => ?_⟩
        rcases List.mem_append.mp hz with hz | hz
        · have := h2 z hz e2; lia
        · rw [List.mem_singleton.mp hz]; exact Int.le_refl _
      · simp only [q, if_false]
        refine ⟨⟨a, List.mem_append_left _ ha, a1, a2⟩, fun z hz e2 => ?_⟩
        rcases List.mem_append.mp hz with hz | hz
        · exact h2 z hz e2
        · rw [List.mem_singleton.mp hz]; lia
  · rw [if_neg e]
    cases o with
    | none =>
      intro q hq e2
      rcases List.mem_append.mp hq with hq | hq
      · exact h q hq e2
      · rw [List.mem_singleton.mp hq] at e2; exact e e2
    | some m =>
      obtain ⟨⟨a, ha, a1, a2⟩, h2⟩ := h
      refine ⟨⟨a, List.mem_append_left _ ha, a1, a2⟩, fun z hz e2 => ?_⟩
      rcases List.mem_append.mp hz with hz | hz
      · exact h2 z hz e2
      · rw [List.mem_singleton.mp hz] at e2; exact absurd e2 e
theorem minS_fold {n : Int} : ∀ (rest done : List Row) (o : Option Int), MinS n done o → MinS n (done ++ rest) (rest.foldl (stepN n) o)
  | [], done, o, h => by rw [List.append_nil]; exact h
  | r :: rest, done, o, h => by
    have := minS_fold rest (done ++ [r]) _ (minS_step h r)
    rw [List.append_assoc] at this
    exact this
theorem minS_of (n : Int) (rows : List Row) : MinS n rows (minN n rows) := by
  have := minS_fold (n := n) rows [] none fun r hr => nomatch hr
  rwa [List.nil_append] at this
noncomputable def lastWay : Way := ⟨90, [(9, 9)], 2, true⟩
noncomputable def lastPH (m : Int) : PH := ((0, 0, 0, 90 + m), [(9, 9)])
theorem er_last {s : Int} {m : Way} {t : Tab} {rows : List Row} (hm : m.area = 0) (hr : ∀ r ∈ rows, r.sender = s ∧ r.fwd = 0 ∧ r.sec = false) (n : Int) : resO (candsOf [(s, [m, lastWay])] t rows) n = (minN n rows).map lastPH := by
  have hb : bestW [m, lastWay] = some lastWay := by
    have : klt (wkey lastWay) (wkey m) = true := by
      rw [klt_iff]; simp only [wkey, lastWay, hm, rk0]; left; decide
    simp [bestW, better, this]
  have hc : ∀ r ∈ rows, cand [(s, [m, lastWay])] t r = some (r.net, (0, 0, 0, 90 + r.met), [(9, 9)]) := fun r h => by
    obtain ⟨h1, h2, h3⟩ := hr r h
    have hl : List.lookup r.sender [(s, [m, lastWay])] = some [m, lastWay] := by rw [h1]; simp
    unfold cand
    rw [hl]
    simp only [Option.bind_some, outOf, h2, if_true, ownOut, hb, Option.map_some, worth, h3]
    rfl
  have hm2 : ∀ c, c ∈ candsOf [(s, [m, lastWay])] t rows ↔ ∃ r ∈ rows, c = (r.net, (0, 0, 0, 90 + r.met), [(9, 9)]) := fun c => by
    unfold candsOf
    rw [List.mem_filterMap]
    constructor
    · rintro ⟨r, h, e⟩; rw [hc r h] at e; cases e; exact ⟨r, h, rfl⟩
    · rintro ⟨r, h, rfl⟩; exact ⟨r, h, hc r h⟩
  have hn : Nd (candsOf [(s, [m, lastWay])] t rows) := fun c h => by
    obtain ⟨r, _, rfl⟩ := (hm2 c).mp h
    simp
  have M := minS_of n rows
  cases h : minN n rows with
  | none =>
    rw [h] at M
    refine (res_none hn).mpr fun c hc => ?_
    obtain ⟨r, hr, rfl⟩ := (hm2 c).mp hc
    exact M r hr
  | some k =>
    rw [h] at M
    obtain ⟨⟨a, ha, a1, a2⟩, h2⟩ := M
    refine res_of hn ⟨⟨_, (hm2 _).mpr ⟨a, ha, rfl⟩, a1, by rw [← a2]; rfl⟩, ?_, List.pairwise_singleton _ _, ?_⟩
    · intro c hc e
      obtain ⟨r, hr, rfl⟩ := (hm2 c).mp hc
      have := h2 r hr e
      rw [p4_not]
      simp only [lastPH]
      lia
    · intro z
      constructor
      · intro hz; exact ⟨_, (hm2 _).mpr ⟨a, ha, rfl⟩, a1, by rw [← a2]; rfl, hz⟩
      · rintro ⟨c, hc, _, _, e3⟩
        obtain ⟨r, hr, rfl⟩ := (hm2 c).mp hc
        exact e3
end Mine
end
end
section
open PySem
set_option maxRecDepth 100000
set_option Elab.async false
set_option autoImplicit false
set_option linter.unusedVariables false
noncomputable section
namespace Mine
section
variable {fn : Fn} {ρ : Ro} {S : Sto} {P : Va → Sto → Prop}
theorem t_dictC {a : Ex} (h : V (ev fn ρ S a) fun u S1 => ∃ kvs, u = .d (.dict kvs) ∧ kvs.all (fun p => isIK p.1) = true ∧ kvs.length ≤ big ∧ P (.c S1.length) (S1 ++ [Ce.dict (kvs.map fun p => (p.1, Va.d p.2))])) : V (ev fn ρ S (.dictC a)) P := by
  obtain ⟨u, S1, e1, kvs, rfl, h1, h2, h⟩ := h
  exact ⟨_, _, bnd e1 (if_pos (by simp [h1, h2])), h⟩
theorem t_get2 {o k d : Ex} (h : V (ev fn ρ S o) fun u S1 => kindD S1 u = true ∧ V (ev fn ρ S1 k) fun v S2 => V (ev fn ρ S2 d) fun w S3 => ∃ kvs y z, rd S3 u = some (.dict kvs) ∧ v = .d y ∧ w = .d z ∧ okK kvs y = true ∧ P (.d ((dget kvs y).getD z)) S3) : V (ev fn ρ S (.get2 o k d)) P := by
  obtain ⟨u, S1, e1, h1, v, S2, e2, w, S3, e3, kvs, y, z, e4, rfl, rfl, e5, h⟩ := h
  exact ⟨_, S3, bnd e1 (kif h1 (bnd e2 (bnd e3 (bnd e4 (bnd rfl (bnd rfl (if_pos e5))))))), h⟩
theorem t_dct1 {k v : Ex} (h : V (ev fn ρ S k) fun u S1 => V (ev fn ρ S1 v) fun w S2 => ∃ i y, u = .d (.int i) ∧ w = .d y ∧ P (.d (.dict [(.int i, y)])) S2) : V (ev fn ρ S (.dct1 k v)) P := by
  obtain ⟨u, S1, e1, w, S2, e2, i, y, rfl, rfl, h⟩ := h
  exact ⟨_, S2, bnd e1 (bnd e2 (bnd rfl (bnd rfl (if_pos rfl)))), h⟩
end
theorem c_filter {α : Type} {f : PyData → Sto → Option (Option PyData × Sto)} {S : Sto} {g h : α → PyData} {p : α → Bool} {P : List PyData → Sto → Prop} : ∀ {xs : List α}, (∀ x ∈ xs, ∀ Q : Option PyData → Sto → Prop, (p x = true → Q (some (g x)) S) → (p x = false → Q none S) → V (f (h x) S) Q) → P ((xs.filter p).map g) S → V (cloop f (xs.map h) S) P := by
  intro xs
  induction xs generalizing P with
  | nil => exact fun _ hP => c_nil hP
  | cons x xs ih =>
    intro hf hP
    refine c_cons (hf x (.head _) _ (fun hx => ?_) fun hx => ?_)
    · refine ih (fun y hy => hf y (.tail _ hy)) ?_
      rw [List.filter_cons, if_pos hx] at hP
      exact hP
    · refine ih (fun y hy => hf y (.tail _ hy)) ?_
      rw [List.filter_cons, if_neg (by rw [hx]; exact Bool.false_ne_true)] at hP
      exact hP
theorem dget_ints {β γ : Type} (f : Int × β → γ) {k : Int} : ∀ {A : List (Int × β)}, k ∉ A.map (·.1) → (A.map fun p => (PyData.int p.1, f p)).find? (fun p => keq p.1 (.int k)) = none
  | [], _ => rfl
  | (m, b) :: r, h => by
    rw [List.map_cons, List.find?_cons]
    rw [List.map_cons, List.mem_cons, not_or] at h
    have : keq (.int m) (.int k) = false := by rw [keq_int]; simpa using fun e => h.1 e.symm
    simp only [this]
    exact dget_ints f h.2
theorem ok_ints {β γ : Type} (f : Int × β → γ) (A : List (Int × β)) (k : Int) : okK (A.map fun p => (PyData.int p.1, f p)) (.int k) = true := by
  simp [okK, isIK]
theorem dict_ints {β : Type} (f : Int × β → PyData) : ∀ (W A : List (Int × β)), ((A ++ W).map (·.1)).Nodup → dictOfL (W.map fun p => .tuple [.int p.1, f p]) (A.map fun p => (PyData.int p.1, f p)) = some ((A ++ W).map fun p => (PyData.int p.1, f p))
  | [], A, _ => by rw [List.append_nil]; rfl
  | p :: W, A, h => by
    have hn : p.1 ∉ A.map (·.1) := by
      rw [List.map_append, List.nodup_append] at h
      intro q
      exact h.2.2 p.1 q p.1 (by simp) rfl
    show (if okK _ _ = true then dictOfL _ (dput _ _ _) else none) = _
    rw [if_pos (ok_ints f A p.1)]
    have : dput (A.map fun p => (PyData.int p.1, f p)) (.int p.1) (f p) = (A ++ [p]).map fun p => (PyData.int p.1, f p) := by
      unfold dput
      rw [dget_ints f hn]
      simp
    rw [this, dict_ints f W (A ++ [p]) (by rw [List.append_assoc]; exact h), List.append_assoc]
    rfl
theorem look_mem {β : Type} {s : Int} {v : β} {W : List (Int × β)} (hn : (W.map (·.1)).Nodup) (h : (s, v) ∈ W) : W.lookup s = some v := by
  induction W with
  | nil => exact nomatch h
  | cons p r ih =>
    obtain ⟨m, w⟩ := p
    have hn := List.nodup_cons.mp hn
    rw [List.lookup_cons]
    rcases List.mem_cons.mp h with q | q
    · cases q; rw [beq_self_eq_true]
    · cases e : s == m with
      | true => exact absurd (List.mem_map.mpr ⟨_, q, beq_iff_eq.mp e⟩) hn.1
      | false => exact ih hn.2 q
theorem mem_look {β : Type} {s : Int} {v : β} : ∀ {W : List (Int × β)}, W.lookup s = some v → (s, v) ∈ W
  | [], h => nomatch h
  | (m, w) :: r, h => by
    rw [List.lookup_cons] at h
    by_cases q : s = m
    · subst q; simp at h; subst h; exact .head _
    · have : (s == m) = false := by simpa using q
      simp only [this] at h
      exact .tail _ (mem_look h)
noncomputable def kvI {β : Type} (f : β → PyData) (W : List (Int × β)) : List (PyData × Va) := W.map fun p => (PyData.int p.1, Va.d (f p.2))
theorem datKv_kvI {β : Type} (f : β → PyData) : ∀ W : List (Int × β), datKv (kvI f W) = some (W.map fun p => (PyData.int p.1, f p.2))
  | [] => rfl
  | p :: r => by
    show (datKv (kvI f r)).map _ = _
    rw [datKv_kvI f r]; rfl
theorem find_ints {β γ : Type} (f : Int × β → γ) (k : Int) : ∀ A : List (Int × β), ((A.map fun p => (PyData.int p.1, f p)).find? (fun p => keq p.1 (.int k))).isSome = (A.lookup k).isSome
  | [] => rfl
  | (m, b) :: r => by
    rw [List.map_cons, List.find?_cons, List.lookup_cons]
    simp only [keq_int]
    by_cases e : m = k
    · subst e; simp
    · have : (k == m) = false := by simpa using fun q => e q.symm
      simp only [e, decide_false, this]
      exact find_ints f k r
theorem dput_kvI {β : Type} (f : β → PyData) (W : List (Int × β)) (s : Int) (v : β) : dput (kvI f W) (.int s) (.d (f v)) = kvI f (setK W s v) := by
  unfold dput kvI setK
  rw [find_ints (fun p => Va.d (f p.2)) s W]
  split
  · rw [List.map_map, List.map_map]
    refine List.map_congr_left fun p _ => ?_
    simp only [Function.comp, keq_int]
    by_cases e : p.1 = s <;> simp [e]
  · rw [List.map_append]; rfl
theorem ok_kvI {β : Type} (f : β → PyData) (W : List (Int × β)) (k : Int) : okK (kvI f W) (.int k) = true := ok_ints (fun p => Va.d (f p.2)) W k
noncomputable def wsD (ws : List Way) : PyData := .list (ws.map wayD)
theorem lead_kv (W : Lead) : leadD W = .dict (W.map fun p => (PyData.int p.1, wsD p.2)) := rfl
end Mine
end
end
section
open PySem
set_option maxRecDepth 100000
set_option Elab.async false
set_option autoImplicit false
set_option linter.unusedVariables false
noncomputable section
namespace Mine
structure LE (ρ : Ro) (one : Bool) (W : Lead) (t : Tab) (rows : List Row) : Prop where
  v37 : ρ.lookup 37 = some (.c 0)
  v39 : ρ.lookup 39 = some (.d (.bool one))
  v11 : ρ.lookup 11 = some (.d (leadD W))
  v23 : ρ.lookup 23 = some (.d (.list (rows.map rowD)))
  v3 : ρ.lookup 3 = some (.d (tabOf t))
  v6 : ρ.lookup 6 = some (.d (.list (erL W t rows)))
theorem LE.set {ρ : Ro} {one : Bool} {W : Lead} {t : Tab} {rows : List Row} (h : LE ρ one W t rows) {i : Nat} (v : Va) (hi : Nat.beq 37 i = false ∧ Nat.beq 39 i = false ∧ Nat.beq 11 i = false ∧ Nat.beq 23 i = false ∧ Nat.beq 3 i = false ∧ Nat.beq 6 i = false) : LE (setV ρ i v) one W t rows := ⟨lk_ne hi.1 h.v37, lk_ne hi.2.1 h.v39, lk_ne hi.2.2.1 h.v11, lk_ne hi.2.2.2.1 h.v23, lk_ne hi.2.2.2.2.1 h.v3, lk_ne hi.2.2.2.2.2 h.v6⟩
structure LC (one : Bool) (W : Lead) (t : Tab) (rows : List Row) : Prop where
  lg : LeadG one W
  tab : one = true → t.a1 = 0
  len : rows.length ≤ 6
  rows : ∀ r ∈ rows, RowS r
theorem LC.wok {one : Bool} {W : Lead} {t : Tab} {rows : List Row} (C : LC one W t rows) : WOk W := fun s ws h => by
  have := C.lg.ways _ (mem_look h)
  exact ⟨by have := this.1; simp only at this; lia, fun y hy => ⟨(this.2 y hy).nd, (this.2 y hy).len⟩⟩
theorem LC.env {one : Bool} {W : Lead} {t : Tab} {rows : List Row} (C : LC one W t rows) : EnvG one W t :=
  ⟨C.wok, fun h1 s ws h y hy => ((C.lg.ways _ (mem_look h)).2 y hy).area h1, C.tab⟩
theorem LC.ok {one : Bool} {W : Lead} {t : Tab} {rows : List Row} (C : LC one W t rows) : ∀ r ∈ rows, RowOk r := fun r hr => (C.rows r hr).ok
abbrev st1 (xs : List Int) (n : Nat) : Sto := [poolC xs n]
theorem ok_st1 (xs : List Int) (n : Nat) : OkS (st1 xs n) := rfl
theorem set_st1 (xs : List Int) (n m : Nat) : (st1 xs n).set 0 (poolC xs m) = st1 xs m := rfl
section
variable {one : Bool} {W : Lead} {t : Tab} {rows : List Row} {ρ : Ro} {xs : List Int} {n : Nat} {rest : List Sm} {P : Fl → Ro → Sto → Prop}
noncomputable def s7 : Sm := .ife (.or [(.cmp .ne (.call 9 [(.rev (.var 23)), (.int 1), (.var 11), (.var 3), (.int 5)]) (.var 6)), (.cmp .ne (.call 9 [(.bin .add (.var 23) (.var 23)), (.int 1), (.var 11), (.var 3), (.int 5)]) (.var 6))]) [.ret (.bool false)] []
theorem part2 (C : LC one W t rows) (L : LE ρ one W t rows) (hk : X (exs (run prg 11) ρ (st1 xs n) rest) P) : X (exs (run prg 11) ρ (st1 xs n) (s7 :: rest)) P := by
  have hz := C.len
  have hlen : (rows.map rowD).length ≤ big := by simp [big]; lia
  unfold s7
  refine tx_next <| tx_ife <| t_or <| to_cons <| t_cmp <| t_call <| ts_cons <| t_rev <| t_var L.v23 ⟨_, rfl, hlen, ?_⟩
  refine ts_int <| ts_var L.v11 <| ts_var L.v3 <| ts_int <| ts_nil ?_
  rw [← List.map_reverse]
  refine t_er (ok_st1 xs n) (fun _ => rfl) (fun r hr => C.ok r (List.mem_reverse.mp hr)) (by simp; lia) C.wok ?_
  rw [er_set C.wok t (rows := rows) (rows' := rows.reverse) fun r => List.mem_reverse.symm]
  refine t_var L.v6 <| T.of rfl <| T.of rfl <| T.of (cmp_ne_self (flat_outL _ _)) ⟨false, rfl, (fun _ => ?_), fun q => nomatch q⟩
  refine to_cons <| t_cmp <| t_call <| ts_cons <| t_bvv L.v23 L.v23 rfl rfl (bin_addL (by simp [big]; lia)) ?_
  refine ts_int <| ts_var L.v11 <| ts_var L.v3 <| ts_int <| ts_nil ?_
  rw [← List.map_append]
  refine t_er (ok_st1 xs n) (fun _ => rfl) (fun r hr => C.ok r (by simpa using hr)) (by simp; lia) C.wok ?_
  rw [er_set C.wok t (rows := rows) (rows' := rows ++ rows) fun r => by simp]
  refine t_var L.v6 <| T.of rfl <| T.of rfl <| T.of (cmp_ne_self (flat_outL _ _)) ⟨false, rfl, (fun _ => ?_), fun q => nomatch q⟩
  exact to_nil ⟨false, rfl, (fun q => nomatch q), fun _ => tx_nil ⟨rfl, hk⟩⟩
noncomputable def eMvLead : Ex := .bi .dict [(.comp (.tup [(.var 40), (.comp (.bin .add (.tup [(.bin .add (.idx (.var 13) (.int 0)) (.var 46))]) (.sl (.var 13) (some (.int 1)) none)) (.nm 13) (.idx (.var 11) (.var 40)) [])]) (.nm 40) (.var 11) [])]
theorem t_mvlead {fn : Fn} {S : Sto} {i : Int} {Q : Va → Sto → Prop} (C : LC one W t rows) (v11 : ρ.lookup 11 = some (.d (leadD W))) (v46 : ρ.lookup 46 = some (.d (.int i))) (h : Q (.d (leadD (mvLead i W))) S) : V (ev fn ρ S eMvLead) Q := by
  have hl := C.lg.len
  have hi : items (leadD W) = some (W.map fun p => PyData.int p.1) := by simp [leadD, items, Function.comp_def]
  have hd : biD .dict [.list (W.map fun p => .tuple [.int p.1, .list (p.2.map fun y => wayD (mvWay i y))])] = some (leadD (mvLead i W)) := by
    show (if (W.map fun p => PyData.tuple [.int p.1, .list (p.2.map fun y => wayD (mvWay i y))]).length ≤ big then (dictOfL _ []).map PyData.dict else none) = _
    rw [if_pos (by simp [big]; lia)]
    have := dict_ints (fun p : Int × List Way => .list (p.2.map fun y => wayD (mvWay i y))) W [] (by simpa using C.lg.keys)
    simp only [List.map_nil, List.nil_append] at this
    rw [this]
    simp only [Option.map_some, leadD, mvLead, List.map_map]
    congr 2
    refine List.map_congr_left fun p _ => ?_
    simp [Function.comp_def]
  unfold eMvLead
  refine t_bi <| ts_cons <| t_comp <| t_var v11 ⟨_, _, rfl, hi, by simp [big]; lia, ?_⟩
  refine c_map (g := fun p => .tuple [.int p.1, .list (p.2.map fun y => wayD (mvWay i y))]) (fun p hp Q hQ => ?_) (ts_nil <| T.of rfl <| T.of hd h)
  have hlk := look_mem C.lg.keys (s := p.1) (v := p.2) hp
  have hw := (C.lg.ways p hp).1
  have l11 : (setV ρ 40 (.d (.int p.1))).lookup 11 = some (.d (leadD W)) := by repeat (first | exact lk_eq | exact v11 | refine lk_ne rfl ?_)
  have l46 : (setV ρ 40 (.d (.int p.1))).lookup 46 = some (.d (.int i)) := by repeat (first | exact lk_eq | exact v46 | refine lk_ne rfl ?_)
  have l40 : (setV ρ 40 (.d (.int p.1))).lookup 40 = some (.d (.int p.1)) := by repeat (first | exact lk_eq | refine lk_ne rfl ?_)
  refine c_body <| T.of rfl <| tt_nil ⟨fun _ => ?_, fun q => nomatch q⟩
  refine t_tup <| ts_var l40 <| ts_cons <| t_comp <| t_vv l11 l40 rfl (idx_lead hlk) ⟨_, _, rfl, rfl, by simp [big]; lia, ?_⟩
  generalize setV ρ 40 (.d (.int p.1)) = ρ1 at l11 l46 l40
  refine c_map (g := fun y => wayD (mvWay i y)) (fun y hy Q hQ => ?_) (ts_nil <| T.of rfl ⟨_, rfl, hQ⟩)
  have k46 : (setV ρ1 13 (.d (wayD y))).lookup 46 = some (.d (.int i)) := by repeat (first | exact lk_eq | exact l46 | refine lk_ne rfl ?_)
  have k13 : (setV ρ1 13 (.d (wayD y))).lookup 13 = some (.d (wayD y)) := by repeat (first | exact lk_eq | refine lk_ne rfl ?_)
  refine c_body <| T.of rfl <| tt_nil ⟨fun _ => ?_, fun q => nomatch q⟩
  refine t_bin <| t_tup <| ts_cons <| t_bin <| t_vi k13 rfl rfl <| t_var k46 <| T.of rfl <| T.of rfl <| T.of rfl <| ts_nil <| T.of rfl ?_
  exact t_sl_tup <| t_var k13 <| o_some <| t_int ⟨1, rfl, o_none ⟨_, rfl, by simp [big], T.of rfl <| T.of rfl <| T.of rfl ⟨_, rfl, hQ⟩⟩⟩
noncomputable def eMvTab : Ex := .bi .dict [(.comp (.tup [(.var 43), (.bin .add (.bin .add (.sl (.idx (.var 3) (.var 43)) none (some (.int 2))) (.tup [(.bin .add (.idx (.idx (.var 3) (.var 43)) (.int 2)) (.var 46))])) (.sl (.idx (.var 3) (.var 43)) (some (.int 3)) none))]) (.nm 43) (.var 3) [])]
theorem t_mvtab {fn : Fn} {S : Sto} {i : Int} {Q : Va → Sto → Prop} (v3 : ρ.lookup 3 = some (.d (tabOf t))) (v46 : ρ.lookup 46 = some (.d (.int i))) (h : Q (.d (tabOf (mvTab i t))) S) : V (ev fn ρ S eMvTab) Q := by
  have one : ∀ (key a b d e f : PyData) (c : Int) (Q : Option PyData → Sto → Prop), idxD (tabOf t) key = some (.tuple [a, b, .int c, d, e, f]) → Q (some (.tuple [key, .tuple [a, b, .int (c + i), d, e, f]])) S → V (cbody fn ρ (.tup [(.var 43), (.bin .add (.bin .add (.sl (.idx (.var 3) (.var 43)) none (some (.int 2))) (.tup [(.bin .add (.idx (.idx (.var 3) (.var 43)) (.int 2)) (.var 46))])) (.sl (.idx (.var 3) (.var 43)) (some (.int 3)) none))]) (.nm 43) [] key S) Q := by
    intro key a b d e f c Q h1 hQ
    have l3 : (setV ρ 43 (.d key)).lookup 3 = some (.d (tabOf t)) := by repeat (first | exact lk_eq | exact v3 | refine lk_ne rfl ?_)
    have l46 : (setV ρ 43 (.d key)).lookup 46 = some (.d (.int i)) := by repeat (first | exact lk_eq | exact v46 | refine lk_ne rfl ?_)
    have l43 : (setV ρ 43 (.d key)).lookup 43 = some (.d key) := by repeat (first | exact lk_eq | refine lk_ne rfl ?_)
    refine c_body <| T.of rfl <| tt_nil ⟨fun _ => ?_, fun q => nomatch q⟩
    refine t_tup <| ts_var l43 <| ts_cons <| t_bin <| t_bin <| t_sl_tup <| t_vv l3 l43 rfl h1 <| o_none <| o_some <| t_int ⟨2, rfl, _, rfl, by simp [big], ?_⟩
    refine t_tup <| ts_cons <| t_bin <| t_idx <| t_vv l3 l43 rfl h1 <| t_int <| T.of rfl <| T.of rfl <| T.of rfl <| t_var l46 <| T.of rfl <| T.of rfl <| T.of rfl <| ts_nil <| T.of rfl ?_
    refine T.of rfl <| T.of rfl <| T.of rfl ?_
    refine t_sl_tup <| t_vv l3 l43 rfl h1 <| o_some <| t_int ⟨3, rfl, o_none ⟨_, rfl, by simp [big], ?_⟩⟩
    exact T.of rfl <| T.of rfl <| T.of rfl <| ts_nil <| T.of rfl ⟨_, rfl, hQ⟩
  unfold eMvTab
  refine t_bi <| ts_cons <| t_comp <| t_var v3 ⟨_, _, rfl, rfl, by simp [big], ?_⟩
  refine c_cons <| one (tupK [16, 2]) _ _ _ _ _ _ _ rfl <| c_cons <| one (tupK [8, 2]) _ _ _ _ _ _ _ rfl <| c_nil <| ts_nil <| T.of rfl <| T.of rfl h
end
end Mine
end
end
section
open PySem
set_option maxRecDepth 100000
set_option Elab.async false
set_option autoImplicit false
set_option linter.unusedVariables false
noncomputable section
namespace Mine
theorem t_draw1 {k : Nat} {xs : List Int} {n : Nat} {m : Int} {P : Va → Sto → Prop} (hx : xs.length ≤ 1000) (hm : 0 < m) (h : ∀ v, 0 ≤ v → v < m → P (.d (.int v)) (st1 xs (n + 1))) : V (run prg (k + 1) 11 [.c 0, .d (.int m)] (st1 xs n)) P :=
  t_draw (S := st1 xs n) rfl (ok_st1 xs n) hx hm h
theorem mv_wok {i : Int} {W : Lead} (h : WOk W) : WOk (mvLead i W) := fun s ws hs => by
  rw [mv_lookup] at hs
  cases hl : W.lookup s with
  | none => rw [hl] at hs; cases hs
  | some vs =>
    rw [hl] at hs; cases hs
    have := h s vs hl
    refine ⟨by simpa using this.1, fun y hy => ?_⟩
    obtain ⟨z, hz, rfl⟩ := List.mem_map.mp hy
    exact this.2 z hz
theorem pick_map {α β : Type} (f : α → β) (xs : List α) (lo hi : Option Int) : pickL (xs.map f) lo hi = (pickL xs lo hi).map f := by
  simp [pickL, List.map_take, List.map_drop]
theorem pick_split {α : Type} (xs : List α) (c : Int) : pickL xs none (some c) ++ pickL xs (some c) none = xs := by
  show (xs.take (clp xs.length c)).drop 0 ++ (xs.take xs.length).drop (clp xs.length c) = xs
  rw [List.drop_zero, List.take_length, List.take_append_drop]
section
variable {one : Bool} {W : Lead} {t : Tab} {rows : List Row} {ρ : Ro} {xs : List Int} {n : Nat} {rest : List Sm} {P : Fl → Ro → Sto → Prop}
noncomputable def s8 : Sm := .asg (.tup [46, 44, 45]) (.tup [(.bin .add (.int 1) (.call 11 [(.var 37), (.int 9)])), (.call 11 [(.var 37), (.int 9)]), (.call 11 [(.var 37), (.int 9)])])
noncomputable def s11 : Sm := .ife (.cmp .ne (.call 9 [(.call 14 [(.var 23), (.var 44), (.var 45)]), (.int 1), (.var 60), (.var 61), (.int 5)]) (.call 15 [(.var 6), (.var 46), (.var 44), (.var 45)])) [.ret (.bool false)] []
theorem part3 (C : LC one W t rows) (L : LE ρ one W t rows) (hx : xs.length ≤ 1000) (hk : ∀ ρ' n', LE ρ' one W t rows → X (exs (run prg 11) ρ' (st1 xs n') rest) P) : X (exs (run prg 11) ρ (st1 xs n) (s8 :: .asg (.nm 60) eMvLead :: .asg (.nm 61) eMvTab :: s11 :: rest)) P := by
  have hz := C.len
  unfold s8
  refine tx_next <| tx_asg <| t_tup <| ts_cons <| t_bin <| t_int <| t_call <| ts_var L.v37 <| ts_int <| ts_nil <| t_draw1 hx (by decide) fun a ha1 ha2 => ?_
  refine T.of rfl <| T.of rfl <| T.of rfl <| ts_cons <| t_call <| ts_var L.v37 <| ts_int <| ts_nil <| t_draw1 hx (by decide) fun b hb1 hb2 => ?_
  refine ts_cons <| t_call <| ts_var L.v37 <| ts_int <| ts_nil <| t_draw1 hx (by decide) fun c hc1 hc2 => ?_
  refine ts_nil <| T.of rfl <| T.of rfl ⟨rfl, ?_⟩
  have L1 := ((L.set (i := 46) (.d (.int (1 + a))) (by decide)).set (i := 44) (.d (.int b)) (by decide)).set (i := 45) (.d (.int c)) (by decide)
  have l46 : (setV (setV (setV ρ 46 (.d (.int (1 + a)))) 44 (.d (.int b))) 45 (.d (.int c))).lookup 46 = some (.d (.int (1 + a))) := by repeat (first | exact lk_eq | refine lk_ne rfl ?_)
  have l44 : (setV (setV (setV ρ 46 (.d (.int (1 + a)))) 44 (.d (.int b))) 45 (.d (.int c))).lookup 44 = some (.d (.int b)) := by repeat (first | exact lk_eq | refine lk_ne rfl ?_)
  have l45 : (setV (setV (setV ρ 46 (.d (.int (1 + a)))) 44 (.d (.int b))) 45 (.d (.int c))).lookup 45 = some (.d (.int c)) := by repeat (first | exact lk_eq | refine lk_ne rfl ?_)
  show X (exs _ (setV (setV (setV ρ 46 (.d (.int (1 + a)))) 44 (.d (.int b))) 45 (.d (.int c))) _ _) _
  generalize setV (setV (setV ρ 46 (.d (.int (1 + a)))) 44 (.d (.int b))) 45 (.d (.int c)) = ρ1 at L1 l46 l44 l45
  refine tx_next <| tx_asg <| t_mvlead C L1.v11 l46 <| T.of rfl ⟨rfl, ?_⟩
  have L2 := L1.set (i := 60) (.d (leadD (mvLead (1 + a) W))) (by decide)
  have m46 : (setV ρ1 60 (.d (leadD (mvLead (1 + a) W)))).lookup 46 = some (.d (.int (1 + a))) := by repeat (first | exact lk_eq | exact l46 | refine lk_ne rfl ?_)
  have m44 : (setV ρ1 60 (.d (leadD (mvLead (1 + a) W)))).lookup 44 = some (.d (.int b)) := by repeat (first | exact lk_eq | exact l44 | refine lk_ne rfl ?_)
  have m45 : (setV ρ1 60 (.d (leadD (mvLead (1 + a) W)))).lookup 45 = some (.d (.int c)) := by repeat (first | exact lk_eq | exact l45 | refine lk_ne rfl ?_)
  have m60 : (setV ρ1 60 (.d (leadD (mvLead (1 + a) W)))).lookup 60 = some (.d (leadD (mvLead (1 + a) W))) := by repeat (first | exact lk_eq | refine lk_ne rfl ?_)
  generalize setV ρ1 60 (.d (leadD (mvLead (1 + a) W))) = ρ2 at L2 m46 m44 m45 m60
  refine tx_next <| tx_asg <| t_mvtab L2.v3 m46 <| T.of rfl ⟨rfl, ?_⟩
  have L3 := L2.set (i := 61) (.d (tabOf (mvTab (1 + a) t))) (by decide)
  have k46 : (setV ρ2 61 (.d (tabOf (mvTab (1 + a) t)))).lookup 46 = some (.d (.int (1 + a))) := by repeat (first | exact lk_eq | exact m46 | refine lk_ne rfl ?_)
  have k44 : (setV ρ2 61 (.d (tabOf (mvTab (1 + a) t)))).lookup 44 = some (.d (.int b)) := by repeat (first | exact lk_eq | exact m44 | refine lk_ne rfl ?_)
  have k45 : (setV ρ2 61 (.d (tabOf (mvTab (1 + a) t)))).lookup 45 = some (.d (.int c)) := by repeat (first | exact lk_eq | exact m45 | refine lk_ne rfl ?_)
  have k60 : (setV ρ2 61 (.d (tabOf (mvTab (1 + a) t)))).lookup 60 = some (.d (leadD (mvLead (1 + a) W))) := by repeat (first | exact lk_eq | exact m60 | refine lk_ne rfl ?_)
  have k61 : (setV ρ2 61 (.d (tabOf (mvTab (1 + a) t)))).lookup 61 = some (.d (tabOf (mvTab (1 + a) t))) := by repeat (first | exact lk_eq | refine lk_ne rfl ?_)
  generalize setV ρ2 61 (.d (tabOf (mvTab (1 + a) t))) = ρ3 at L3 k46 k44 k45 k60 k61
  unfold s11
  have hrow : ∀ r ∈ rows.map (mvRow b c), RowOk r := fun r hr => by
    obtain ⟨q, hq, rfl⟩ := List.mem_map.mp hr
    have h1 := C.rows q hq
    refine ⟨h1.ok.1, ?_, h1.ok.2.2.1, h1.ok.2.2.2⟩
    have := h1.met
    show q.met + (if q.sec then c else b) < _
    split <;> lia
  refine tx_next <| tx_ife <| t_cmp <| t_call <| ts_cons <| t_call <| ts_var L3.v23 <| ts_var k44 <| ts_var k45 <| ts_nil <| t_mvrows (ok_st1 xs _) (by lia) ?_
  refine ts_int <| ts_var k60 <| ts_var k61 <| ts_int <| ts_nil <| t_er (ok_st1 xs _) (fun _ => rfl) hrow (by simp; lia) (mv_wok C.wok) ?_
  rw [er_moved C.wok]
  refine t_call <| ts_var L3.v6 <| ts_var k46 <| ts_var k44 <| ts_var k45 <| ts_nil <| t_moved (r0 := resO (candsOf W t rows) 0) (r8 := resO (candsOf W t rows) 8) (ok_st1 xs _) ?_
  exact T.of rfl <| T.of rfl <| T.of (cmp_ne_self (flat_outL _ _)) ⟨false, rfl, (fun q => nomatch q), fun _ => tx_nil ⟨rfl, hk _ _ L3⟩⟩
noncomputable def knW (W : Lead) (t : Tab) (rows : List Row) : List (PyData × PyData) := knD (resO (candsOf W t rows) 0) (resO (candsOf W t rows) 8)
noncomputable def s12 : Sm := .asg (.tup [62, 5]) (.tup [(.bin .add (.int 1) (.call 11 [(.var 37), (.int 2)])), (.call 18 [(.var 6)])])
noncomputable def s13 : Sm := .asg (.nm 63) (.comp (.call 18 [(.call 9 [(.var 64), (.int 1), (.var 11), (.var 3), (.int 5)])]) (.nm 64) (.tup [(.sl (.var 23) none (some (.var 62))), (.sl (.var 23) (some (.var 62)) none)]) [])
noncomputable def b14 : List Sm := [.ife (.not (.call 16 [(.get (.var 5) (.var 43)), (.get (.idx (.var 63) (.int 0)) (.var 43)), (.get (.idx (.var 63) (.int 1)) (.var 43)), (.var 39)])) [.ret (.bool false)] []]
noncomputable def s14 : Sm := .loop (.nm 43) (.ex (.tup [(.tup [(.int 0), (.int 2)]), (.tup [(.int 8), (.int 2)])])) b14
structure L4 (ρ : Ro) (one : Bool) (W : Lead) (t : Tab) (rows A B : List Row) : Prop where
  le : LE ρ one W t rows
  v5 : ρ.lookup 5 = some (.d (.dict (knW W t rows)))
  v63 : ρ.lookup 63 = some (.d (.list [.dict (knW W t A), .dict (knW W t B)]))
theorem turn14 {A B : List Row} (C : LC one W t rows) (hAB : A ++ B = rows) (L : L4 ρ one W t rows A B) (m : Int) (hg : ∀ rows', okK (knW W t rows') (tupK [m, 2]) = true ∧ (dget (knW W t rows') (tupK [m, 2])).getD .none = optT m (resO (candsOf W t rows') m)) :
    X ((bindTg (.nm 43) (.d (tupK [m, 2])) ρ).bind fun ρ'' => exs (run prg 11) ρ'' (st1 xs n) b14) fun fl ρ' S' => fl = .next ∧ S' = st1 xs n ∧ L4 ρ' one W t rows A B := by
  refine X.bindT <| T.of rfl ?_
  have L' : L4 (setV ρ 43 (.d (tupK [m, 2]))) one W t rows A B := ⟨L.le.set _ (by decide), by repeat (first | exact lk_eq | exact L.v5 | refine lk_ne rfl ?_), by repeat (first | exact lk_eq | exact L.v63 | refine lk_ne rfl ?_)⟩
  have l43 : (setV ρ 43 (.d (tupK [m, 2]))).lookup 43 = some (.d (tupK [m, 2])) := by repeat (first | exact lk_eq | refine lk_ne rfl ?_)
  generalize setV ρ 43 (.d (tupK [m, 2])) = ρ1 at L' l43
  have hl : A.length + B.length = rows.length := by rw [← hAB, List.length_append]
  have hz := C.len
  have hj : resO (candsOf W t rows) m = joinO (resO (candsOf W t A) m) (resO (candsOf W t B) m) := by
    rw [← hAB, cands_app, res_join (cands_nd C.wok t A) (cands_nd C.wok t B)]
  unfold b14
  refine tx_next <| tx_ife <| t_not <| t_call <| ts_cons <| t_get <| t_var L'.v5 ⟨rfl, t_var l43 ⟨_, _, rfl, rfl, (hg rows).1, ?_⟩⟩
  rw [(hg rows).2, hj]
  refine ts_cons <| t_get <| t_idx <| t_var L'.v63 <| t_int <| T.of rfl <| T.of rfl <| T.of rfl ⟨rfl, t_var l43 ⟨_, _, rfl, rfl, (hg A).1, ?_⟩⟩
  rw [(hg A).2]
  refine ts_cons <| t_get <| t_idx <| t_var L'.v63 <| t_int <| T.of rfl <| T.of rfl <| T.of rfl ⟨rfl, t_var l43 ⟨_, _, rfl, rfl, (hg B).1, ?_⟩⟩
  rw [(hg B).2]
  refine ts_cons <| t_var L'.le.v39 <| ts_nil <| t_joined (ok_st1 xs n) (fun x hx => er_plok C.env (by lia) hx) (fun x hx => er_plok C.env (by lia) hx) ?_
  exact ⟨true, rfl, false, rfl, (fun q => nomatch q), fun _ => tx_nil ⟨rfl, tx_nil ⟨rfl, rfl, L'⟩⟩⟩
theorem part4 (C : LC one W t rows) (L : LE ρ one W t rows) (hx : xs.length ≤ 1000) (hk : ∀ ρ' n', LE ρ' one W t rows → ρ'.lookup 5 = some (.d (.dict (knW W t rows))) → X (exs (run prg 11) ρ' (st1 xs n') rest) P) : X (exs (run prg 11) ρ (st1 xs n) (s12 :: s13 :: s14 :: rest)) P := by
  have hz := C.len
  unfold s12
  refine tx_next <| tx_asg <| t_tup <| ts_cons <| t_bin <| t_int <| t_call <| ts_var L.v37 <| ts_int <| ts_nil <| t_draw1 hx (by decide) fun a ha1 ha2 => ?_
  refine T.of rfl <| T.of rfl <| T.of rfl <| ts_cons <| t_call <| ts_var L.v6 <| ts_nil <| t_bynet (r0 := resO (candsOf W t rows) 0) (r8 := resO (candsOf W t rows) 8) (ok_st1 xs _) <| ts_nil <| T.of rfl <| T.of rfl ⟨rfl, ?_⟩
  have L1 := (L.set (i := 62) (.d (.int (1 + a))) (by decide)).set (i := 5) (.d (.dict (knW W t rows))) (by decide)
  have l62 : (setV (setV ρ 62 (.d (.int (1 + a)))) 5 (.d (.dict (knW W t rows)))).lookup 62 = some (.d (.int (1 + a))) := by repeat (first | exact lk_eq | refine lk_ne rfl ?_)
  have l5 : (setV (setV ρ 62 (.d (.int (1 + a)))) 5 (.d (.dict (knW W t rows)))).lookup 5 = some (.d (.dict (knW W t rows))) := by repeat (first | exact lk_eq | refine lk_ne rfl ?_)
  show X (exs _ (setV (setV ρ 62 (.d (.int (1 + a)))) 5 (.d (.dict (knW W t rows)))) _ _) _
  generalize setV (setV ρ 62 (.d (.int (1 + a)))) 5 (.d (.dict (knW W t rows))) = ρ1 at L1 l62 l5
  have hb : (rows.map rowD).length ≤ big := by simp [big]; lia
  have hAB := pick_split rows (1 + a)
  have body : ∀ (A : List Row) (Q : Option PyData → Sto → Prop), (∀ r ∈ A, r ∈ rows) → A.length ≤ 6 → Q (some (.dict (knW W t A))) (st1 xs (n + 1)) → V (cbody (run prg 11) ρ1 (.call 18 [(.call 9 [(.var 64), (.int 1), (.var 11), (.var 3), (.int 5)])]) (.nm 64) [] (.list (A.map rowD)) (st1 xs (n + 1))) Q := by
    intro A Q h1 h2 hQ
    have M := L1.set (i := 64) (.d (.list (A.map rowD))) (by decide)
    have l64 : (setV ρ1 64 (.d (.list (A.map rowD)))).lookup 64 = some (.d (.list (A.map rowD))) := by repeat (first | exact lk_eq | refine lk_ne rfl ?_)
    refine c_body <| T.of rfl <| tt_nil ⟨fun _ => ?_, fun q => nomatch q⟩
    refine t_call <| ts_cons <| t_call <| ts_var l64 <| ts_int <| ts_var M.v11 <| ts_var M.v3 <| ts_int <| ts_nil <| t_er (ok_st1 xs _) (fun _ => rfl) (fun r hr => C.ok r (h1 r hr)) (by lia) C.wok ?_
    exact ts_nil <| t_bynet (r0 := resO (candsOf W t A) 0) (r8 := resO (candsOf W t A) 8) (ok_st1 xs _) ⟨_, rfl, hQ⟩
  unfold s13
  refine tx_next <| tx_asg <| t_comp <| t_tup <| ts_cons <| t_sl_list <| t_var L1.v23 <| o_none <| o_some <| t_var l62 ⟨_, rfl, _, rfl, hb, ?_⟩
  refine ts_cons <| t_sl_list <| t_var L1.v23 <| o_some <| t_var l62 ⟨_, rfl, o_none ⟨_, rfl, hb, ts_nil <| T.of rfl ⟨_, _, rfl, rfl, by simp [big], ?_⟩⟩⟩
  rw [pick_map, pick_map]
  generalize pickL rows none (some (1 + a)) = A at hAB
  generalize pickL rows (some (1 + a)) none = B at hAB
  have hlen : A.length + B.length = rows.length := by rw [← hAB, List.length_append]
  refine c_cons <| body A _ (fun r hr => by rw [← hAB]; exact List.mem_append_left _ hr) (by lia) <| c_cons <| body B _ (fun r hr => by rw [← hAB]; exact List.mem_append_right _ hr) (by lia) <| c_nil <| T.of rfl ⟨rfl, ?_⟩
  have L2 : L4 (setV ρ1 63 (.d (.list [.dict (knW W t A), .dict (knW W t B)]))) one W t rows A B := ⟨L1.set _ (by decide), by repeat (first | exact lk_eq | exact l5 | refine lk_ne rfl ?_), by repeat (first | exact lk_eq | refine lk_ne rfl ?_)⟩
  show X (exs _ (setV ρ1 63 (.d (.list [.dict (knW W t A), .dict (knW W t B)]))) _ _) _
  generalize setV ρ1 63 (.d (.list [.dict (knW W t A), .dict (knW W t B)])) = ρ2 at L2
  unfold s14
  refine tx_next <| tx_loop <| ti_tup <| t_tup <| ts_cons <| t_tup <| ts_int <| ts_int <| ts_nil <| T.of rfl <| ts_cons <| t_tup <| ts_int <| ts_int <| ts_nil <| T.of rfl <| ts_nil <| T.of rfl ⟨_, rfl, by simp [big], ?_⟩
  refine tl_cons <| (turn14 C hAB L2 0 fun rows' => get_kn0 _ _).imp ?_
  rintro fl ρ3 S3 ⟨rfl, rfl, L3⟩
  refine ⟨(fun v q => nomatch q), fun _ => tl_cons <| (turn14 C hAB L3 8 fun rows' => get_kn8 _ _).imp ?_⟩
  rintro fl ρ4 S4 ⟨rfl, rfl, L4'⟩
  exact ⟨(fun v q => nomatch q), fun _ => X.of rfl ⟨rfl, hk _ _ L4'.le L4'.v5⟩⟩
end
end Mine
end
end
section
open PySem
set_option maxRecDepth 100000
set_option Elab.async false
set_option autoImplicit false
set_option linter.unusedVariables false
noncomputable section
namespace Mine
abbrev st2 (xs : List Int) (n : Nat) (W : Lead) : Sto := [poolC xs n, .dict (kvI wsD W)]
theorem ok_kv {β : Type} (f : β → PyData) (k : Nat) (W : List (Int × β)) : okCe k (.dict (kvI f W)) = true := by simp [okCe, kvI, okVa]
theorem ok_st2 (xs : List Int) (n : Nat) (W : Lead) : OkS (st2 xs n W) := by
  show (okCe 2 (poolC xs n) && (okCe 2 (.dict (kvI wsD W)) && true)) = true
  rw [ok_kv]; rfl
theorem rd_st2 (xs : List Int) (n : Nat) (W : Lead) (N : Sto) : rd (st2 xs n W ++ N) (.c 1) = some (leadD W) := by
  show (datKv (kvI wsD W)).map PyData.dict = _
  rw [datKv_kvI]; rfl
theorem rd_st2' (xs : List Int) (n : Nat) (W : Lead) : rd (st2 xs n W) (.c 1) = some (leadD W) := by
  show (datKv (kvI wsD W)).map PyData.dict = _
  rw [datKv_kvI]; rfl
noncomputable def ws0 (W : Lead) (s : Int) : List Way := (W.lookup s).getD []
theorem get_ws0 (W : Lead) (s : Int) : (dget (W.map fun p => (PyData.int p.1, PyData.list (p.2.map wayD))) (.int s)).getD (.list []) = wsD (ws0 W s) := by
  rw [lead_get]
  unfold ws0
  cases W.lookup s <;> rfl
section
variable {one : Bool} {W : Lead} {t : Tab} {rows : List Row} {ρ : Ro} {xs : List Int} {n : Nat} {rest : List Sm} {P : Fl → Ro → Sto → Prop}
theorem ws0_ok (C : LC one W t rows) (s : Int) : (ws0 W s).length ≤ 6 ∧ ∀ y ∈ ws0 W s, WayG one y := by
  unfold ws0
  cases h : W.lookup s with
  | none => exact ⟨Nat.zero_le _, fun y hy => nomatch hy⟩
  | some ws => exact C.lg.ways _ (mem_look h)
theorem env_more (C : LC one W t rows) {s : Int} {m : Way} (hm : WayG one m) : EnvG one (setK W s (ws0 W s ++ [m])) t := by
  have h0 := ws0_ok C s
  have all : ∀ y ∈ ws0 W s ++ [m], WayG one y := fun y hy => by
    rcases List.mem_append.mp hy with hy | hy
    · exact h0.2 y hy
    · rw [List.mem_singleton.mp hy]; exact hm
  refine ⟨fun z ws hz => ?_, fun h1 z ws hz y hy => ?_, C.tab⟩
  · rw [look_set] at hz
    split at hz
    · cases hz
      exact ⟨by simp; lia, fun y hy => ⟨(all y hy).nd, (all y hy).len⟩⟩
    · exact C.wok z ws hz
  · rw [look_set] at hz
    split at hz
    · cases hz; exact (all y hy).area h1
    · exact C.env.area h1 z ws hz y hy
noncomputable def s15 : Sm := .asg (.tup [40, 49]) (.tup [(.bin .add (.int 2) (.call 11 [(.var 37), (.int 3)])), (.tup [(.bin .add (.int 1) (.call 11 [(.var 37), (.int 4)])), (.tup [(.tup [(.int 8), (.int 8)])]), (.int 0), (.cmp .eq (.call 11 [(.var 37), (.int 2)]) (.int 1))])])
noncomputable def s16 : Sm := .asg (.nm 65) (.dictC (.var 11))
noncomputable def s17 : Sm := .setI (.var 65) (.var 40) (.bin .add (.get2 (.var 11) (.var 40) (.lst [])) (.lst [(.var 49)]))
noncomputable def s18 : Sm := .ife (.not (.call 17 [(.var 5), (.call 18 [(.call 9 [(.var 23), (.int 1), (.var 65), (.var 3), (.int 5)])]), (.var 39)])) [.ret (.bool false)] []
theorem part5 (C : LC one W t rows) (L : LE ρ one W t rows) (v5 : ρ.lookup 5 = some (.d (.dict (knW W t rows)))) (hx : xs.length ≤ 1000) (hk : ∀ ρ' n' s m, m.area = 0 → m.hops = [(8, 8)] → LE ρ' one W t rows → ρ'.lookup 40 = some (.d (.int s)) → ρ'.lookup 65 = some (.c 1) → X (exs (run prg 11) ρ' (st2 xs n' (setK W s (ws0 W s ++ [m]))) rest) P) : X (exs (run prg 11) ρ (st1 xs n) (s15 :: s16 :: s17 :: s18 :: rest)) P := by
  have hz := C.len
  unfold s15
  refine tx_next <| tx_asg <| t_tup <| ts_cons <| t_bin <| t_int <| t_call <| ts_var L.v37 <| ts_int <| ts_nil <| t_draw1 hx (by decide) fun a ha1 ha2 => ?_
  refine T.of rfl <| T.of rfl <| T.of rfl <| ts_cons <| t_tup <| ts_cons <| t_bin <| t_int <| t_call <| ts_var L.v37 <| ts_int <| ts_nil <| t_draw1 hx (by decide) fun b hb1 hb2 => ?_
  refine T.of rfl <| T.of rfl <| T.of rfl <| ts_cons <| t_tup <| ts_cons <| t_tup <| ts_int <| ts_int <| ts_nil <| T.of rfl <| ts_nil <| T.of rfl <| ts_int <| ts_cons <| t_cmp <| t_call <| ts_var L.v37 <| ts_int <| ts_nil <| t_draw1 hx (by decide) fun c hc1 hc2 => ?_
  refine t_int <| T.of rfl <| T.of rfl <| T.of (cmp_eq_int _ _) <| ts_nil <| T.of rfl <| ts_nil <| T.of rfl <| T.of (a := setV (setV ρ 40 (.d (.int (2 + a)))) 49 (.d (wayD ⟨1 + b, [(8, 8)], 0, decide (c = 1)⟩))) rfl ⟨rfl, ?_⟩
  have hm : WayG one ⟨1 + b, [(8, 8)], 0, decide (c = 1)⟩ := ⟨by simp, by simp, fun _ => rfl⟩
  have hma : (Way.mk (1 + b) [(8, 8)] 0 (decide (c = 1))).area = 0 := rfl
  have hmh : (Way.mk (1 + b) [(8, 8)] 0 (decide (c = 1))).hops = [(8, 8)] := rfl
  generalize (Way.mk (1 + b) [(8, 8)] 0 (decide (c = 1))) = m at hm hma hmh
  generalize 2 + a = s
  have L1 := (L.set (i := 40) (.d (.int s)) (by decide)).set (i := 49) (.d (wayD m)) (by decide)
  have l40 : (setV (setV ρ 40 (.d (.int s))) 49 (.d (wayD m))).lookup 40 = some (.d (.int s)) := by repeat (first | exact lk_eq | refine lk_ne rfl ?_)
  have l49 : (setV (setV ρ 40 (.d (.int s))) 49 (.d (wayD m))).lookup 49 = some (.d (wayD m)) := by repeat (first | exact lk_eq | refine lk_ne rfl ?_)
  have l5 : (setV (setV ρ 40 (.d (.int s))) 49 (.d (wayD m))).lookup 5 = some (.d (.dict (knW W t rows))) := by repeat (first | exact lk_eq | exact v5 | refine lk_ne rfl ?_)
  generalize setV (setV ρ 40 (.d (.int s))) 49 (.d (wayD m)) = ρ1 at L1 l40 l49 l5
  unfold s16
  have hl := C.lg.len
  have e16 : st1 xs (n + 1 + 1 + 1) ++ [Ce.dict ((W.map fun p => (PyData.int p.1, PyData.list (p.2.map wayD))).map fun p => (p.1, Va.d p.2))] = st2 xs (n + 1 + 1 + 1) W := by
    rw [List.map_map]; rfl
  refine tx_next <| tx_asg <| t_dictC <| t_var L1.v11 ⟨_, rfl, by simp [isIK], by simp [big]; lia, T.of rfl ⟨rfl, ?_⟩⟩
  rw [e16]
  generalize n + 1 + 1 + 1 = n3
  have L2 := L1.set (i := 65) (.c 1) (by decide)
  have m40 : (setV ρ1 65 (.c 1)).lookup 40 = some (.d (.int s)) := by repeat (first | exact lk_eq | exact l40 | refine lk_ne rfl ?_)
  have m49 : (setV ρ1 65 (.c 1)).lookup 49 = some (.d (wayD m)) := by repeat (first | exact lk_eq | exact l49 | refine lk_ne rfl ?_)
  have m5 : (setV ρ1 65 (.c 1)).lookup 5 = some (.d (.dict (knW W t rows))) := by repeat (first | exact lk_eq | exact l5 | refine lk_ne rfl ?_)
  have m65 : (setV ρ1 65 (.c 1)).lookup 65 = some (.c 1) := by repeat (first | exact lk_eq | refine lk_ne rfl ?_)
  show X (exs _ (setV ρ1 65 (.c 1)) _ _) _
  generalize setV ρ1 65 (.c 1) = ρ2 at L2 m40 m49 m5 m65
  have h0 := ws0_ok C s
  unfold s17
  refine tx_next <| tx_setI_dict <| t_bin <| t_get2 <| t_var L2.v11 ⟨rfl, t_var m40 <| t_lst <| ts_nil <| T.of rfl ⟨_, _, _, rfl, rfl, rfl, lead_ok W s, ?_⟩⟩
  rw [get_ws0]
  refine t_lst <| ts_var m49 <| ts_nil <| T.of rfl <| T.of rfl <| T.of rfl <| T.of (bin_addL (by simp [big]; lia)) <| t_var m65 <| t_var m40 ⟨1, kvI wsD W, .int s, rfl, rfl, rfl, ok_kvI wsD W s, by simp [kvI, big]; lia, rfl, ?_⟩
  have e17 : dput (kvI wsD W) (.int s) (.d (.list ((ws0 W s).map wayD ++ [wayD m]))) = kvI wsD (setK W s (ws0 W s ++ [m])) := by
    rw [← dput_kvI]
    unfold wsD
    rw [List.map_append]; rfl
  rw [e17]
  show X (exs (run prg 11) ρ2 (st2 xs n3 (setK W s (ws0 W s ++ [m]))) (s18 :: rest)) P
  have E2 := env_more C (s := s) hm
  have hst : ∀ z ws, W.lookup z = some ws → ∃ l, (setK W s (ws0 W s ++ [m])).lookup z = some (ws ++ l) := fun z ws h => by
    rw [look_set]
    by_cases q : z = s
    · subst q
      rw [if_pos rfl]
      exact ⟨[m], by simp [ws0, h]⟩
    · rw [if_neg q]
      exact ⟨[], by rw [List.append_nil]; exact h⟩
  unfold s18
  refine tx_next <| tx_ife <| t_not <| t_call <| ts_var m5 <| ts_cons <| t_call <| ts_cons <| t_call <| ts_var L2.v23 <| ts_int <| ts_var m65 <| ts_var L2.v3 <| ts_int <| ts_nil ?_
  refine t_er (W := setK W s (ws0 W s ++ [m])) (ok_st2 xs n3 _) (fun Bs => rd_st2 xs n3 _ _) C.ok (by lia) E2.ok ?_
  refine ts_nil <| t_bynet (r0 := resO (candsOf (setK W s (ws0 W s ++ [m])) t rows) 0) (r8 := resO (candsOf (setK W s (ws0 W s ++ [m])) t rows) 8) (ok_st2 xs n3 _) ?_
  refine ts_var L2.v39 <| ts_nil <| t_noworse (ok_st2 xs n3 _) (er_noworse C.env E2 (by lia) hst 0) (er_noworse C.env E2 (by lia) hst 8) ?_
  exact ⟨true, rfl, false, rfl, (fun q => nomatch q), fun _ => tx_nil ⟨rfl, hk ρ2 n3 s m hma hmh L2 m40 m65⟩⟩
end
end Mine
end
end
section
open PySem
set_option maxRecDepth 100000
set_option Elab.async false
set_option autoImplicit false
set_option linter.unusedVariables false
noncomputable section
namespace Mine
abbrev kvT (L : List (Int × Int)) : List (PyData × Va) := L.map fun p => (tupK [p.1, 2], Va.d (.int p.2))
theorem datKv_kvT : ∀ L : List (Int × Int), datKv (kvT L) = some (L.map fun p => (tupK [p.1, 2], PyData.int p.2))
  | [] => rfl
  | p :: r => by
    show (datKv (kvT r)).map _ = _
    rw [datKv_kvT r]; rfl
theorem find_kvT (k : Int) : ∀ L : List (Int × Int), ((kvT L).find? (fun p => keq p.1 (tupK [k, 2]))).isSome = (L.lookup k).isSome
  | [] => rfl
  | (m, b) :: r => by
    rw [kvT, List.map_cons, List.find?_cons, List.lookup_cons]
    simp only [keq_net]
    by_cases e : m = k
    · subst e; simp
    · have : (k == m) = false := by simpa using fun q => e q.symm
      simp only [e, decide_false, this]
      exact find_kvT k r
theorem dput_kvT (L : List (Int × Int)) (s v : Int) : dput (kvT L) (tupK [s, 2]) (.d (.int v)) = kvT (setK L s v) := by
  unfold dput
  rw [find_kvT]
  unfold setK
  split
  · unfold kvT
    rw [List.map_map, List.map_map]
    refine List.map_congr_left fun p _ => ?_
    simp only [Function.comp, keq_net]
    by_cases e : p.1 = s <;> simp [e]
  · unfold kvT; rw [List.map_append]; rfl
theorem dget_kvT (n : Int) : ∀ L : List (Int × Int), dget (L.map fun p => (tupK [p.1, 2], PyData.int p.2)) (tupK [n, 2]) = (L.lookup n).map .int
  | [] => rfl
  | (m, b) :: r => by
    have ih := dget_kvT n r
    simp only [List.map_cons, dget, List.find?_cons, keq_net, List.lookup_cons] at ih ⊢
    by_cases e : m = n
    · subst e; simp
    · have : (n == m) = false := by simpa using fun q => e q.symm
      simp only [e, decide_false, this]; exact ih
theorem ok_T {γ : Type} (f : Int × Int → γ) (L : List (Int × Int)) (n : Int) : okK (L.map fun p => (tupK [p.1, 2], f p)) (tupK [n, 2]) = true := by
  unfold okK
  rw [isTK_tupK]
  have : (L.map fun p => (tupK [p.1, 2], f p)).all (fun p => isTK p.1) = true := by
    rw [List.all_map]
    exact List.all_eq_true.mpr fun c _ => isTK_tupK _
  rw [this]; simp
structure LI (rows : List Row) (L : List (Int × Int)) : Prop where
  keys : (L.map (·.1)).Nodup
  len : L.length ≤ rows.length
  look : ∀ n, L.lookup n = minN n rows
theorem LI.nil : LI [] [] := ⟨by simp, by simp, fun n => rfl⟩
theorem minN_snoc (n : Int) (rows : List Row) (r : Row) : minN n (rows ++ [r]) = stepN n (minN n rows) r := by
  unfold minN; rw [List.foldl_append]; rfl
noncomputable def newV (L : List (Int × Int)) (r : Row) : Int := if r.met < ((L.lookup r.net).getD 99) then r.met else (L.lookup r.net).getD 99
theorem LI.step {rows : List Row} {L : List (Int × Int)} (h : LI rows L) {r : Row} (hr : r.met ≤ 99) : LI (rows ++ [r]) (setK L r.net (newV L r)) := by
  refine ⟨set_keys h.keys _ _, ?_, fun n => ?_⟩
  · have := set_len L r.net (newV L r)
    have := h.len
    rw [List.length_append]; simp; lia
  · rw [look_set, minN_snoc]
    unfold stepN
    by_cases e : n = r.net
    · subst e
      rw [if_pos rfl, if_pos rfl]
      unfold newV
      rw [h.look]
      cases minN r.net rows with
      | none =>
        simp only [Option.getD_none]
        congr 1
        split <;> lia
      | some m => simp only [Option.getD_some]
    · rw [if_neg e, if_neg (fun q => e q.symm), h.look]
abbrev st3 (xs : List Int) (n : Nat) (W : Lead) (L : List (Int × Int)) : Sto := [poolC xs n, .dict (kvI wsD W), .dict (kvT L)]
theorem rd_st3 (xs : List Int) (n : Nat) (W : Lead) (L : List (Int × Int)) : rd (st3 xs n W L) (.c 2) = some (.dict (L.map fun p => (tupK [p.1, 2], PyData.int p.2))) := by
  show (datKv (kvT L)).map PyData.dict = _
  rw [datKv_kvT]; rfl
noncomputable def b23 : List Sm := [.setI (.var 66) (.tup [(.idx (.var 26) (.int 3)), (.int 2)]) (.bi .min [(.get2 (.var 66) (.tup [(.idx (.var 26) (.int 3)), (.int 2)]) (.int 99)), (.idx (.var 15) (.int 3))])]
theorem turn23 {fn : Fn} {ρ : Ro} {xs : List Int} {n : Nat} {W : Lead} {L : List (Int × Int)} {r : Row} {D : PyData} (hl : L.length ≤ 1000) (v66 : ρ.lookup 66 = some (.c 2)) (v7 : ρ.lookup 7 = some (.d D)) :
    X ((bindTg (.tup [26, 15]) (.d (rowD r)) ρ).bind fun ρ'' => exs fn ρ'' (st3 xs n W L) b23) fun fl ρ' S' => fl = .next ∧ ρ'.lookup 66 = some (.c 2) ∧ ρ'.lookup 7 = some (.d D) ∧ S' = st3 xs n W (setK L r.net (newV L r)) := by
  refine X.bindT <| T.of rfl ?_
  have l66 : (setV (setV ρ 26 (.d (headD r))) 15 (.d (bodyD r))).lookup 66 = some (.c 2) := by repeat (first | exact lk_eq | exact v66 | refine lk_ne rfl ?_)
  have l7 : (setV (setV ρ 26 (.d (headD r))) 15 (.d (bodyD r))).lookup 7 = some (.d D) := by repeat (first | exact lk_eq | exact v7 | refine lk_ne rfl ?_)
  have l26 : (setV (setV ρ 26 (.d (headD r))) 15 (.d (bodyD r))).lookup 26 = some (.d (headD r)) := by repeat (first | exact lk_eq | refine lk_ne rfl ?_)
  have l15 : (setV (setV ρ 26 (.d (headD r))) 15 (.d (bodyD r))).lookup 15 = some (.d (bodyD r)) := by repeat (first | exact lk_eq | refine lk_ne rfl ?_)
  show X (exs fn (setV (setV ρ 26 (.d (headD r))) 15 (.d (bodyD r))) _ _) _
  generalize setV (setV ρ 26 (.d (headD r))) 15 (.d (bodyD r)) = ρ1 at l66 l7 l26 l15
  unfold b23
  have hg : (dget (L.map fun p => (tupK [p.1, 2], PyData.int p.2)) (tupK [r.net, 2])).getD (.int 99) = .int ((L.lookup r.net).getD 99) := by
    rw [dget_kvT]
    cases L.lookup r.net <;> rfl
  refine tx_next <| tx_setI_dict <| t_bi <| ts_cons <| t_get2 <| t_var l66 ⟨rfl, t_tup <| ts_vi l26 rfl rfl <| ts_int <| ts_nil <| T.of rfl <| t_int ⟨_, tupK [r.net, 2], .int 99, rd_st3 xs n W L, rfl, rfl, ok_T _ L r.net, ?_⟩⟩
  rw [hg]
  refine ts_vi l15 rfl rfl <| ts_nil <| T.of rfl <| T.of (a := .int (newV L r)) rfl <| t_var l66 <| t_tup <| ts_vi l26 rfl rfl <| ts_int <| ts_nil <| T.of rfl ⟨2, kvT L, tupK [r.net, 2], rfl, rfl, rfl, ok_T _ L r.net, by simp [kvT, big]; lia, rfl, ?_⟩
  rw [dput_kvT]
  exact tx_nil ⟨rfl, l66, l7, rfl⟩
theorem clp_last (m : Nat) : clp (m + 2) (-2) = m := by
  unfold clp
  rw [if_pos (by decide)]
  lia
theorem pick_last {α : Type} (xs : List α) (a b : α) : pickL (xs ++ [a] ++ [b]) (some (-2)) none = [a, b] := by
  show ((xs ++ [a] ++ [b]).take (xs ++ [a] ++ [b]).length).drop (clp (xs ++ [a] ++ [b]).length (-2)) = _
  rw [List.take_length]
  have : (xs ++ [a] ++ [b]).length = xs.length + 2 := by simp
  rw [this, clp_last, List.append_assoc, List.drop_left]
  rfl
section
variable {one : Bool} {W : Lead} {t : Tab} {rows : List Row} {ρ : Ro} {xs : List Int} {n : Nat}
noncomputable def s19 : Sm := .setI (.var 65) (.var 40) (.bin .add (.idx (.var 65) (.var 40)) (.lst [(.tup [(.int 90), (.tup [(.tup [(.int 9), (.int 9)])]), (.int 2), (.bool true)])]))
noncomputable def s20 : Sm := .asg (.nm 24) (.comp (.tup [(.var 26), (.var 15)]) (.tup [26, 15]) (.var 23) [(.and [(.cmp .eq (.idx (.var 26) (.int 4)) (.var 40)), (.cmp .eq (.idx (.var 15) (.int 4)) (.int 0)), (.not (.idx (.var 15) (.int 2)))])])
noncomputable def s21 : Sm := .asg (.nm 7) (.call 9 [(.var 24), (.int 1), (.dct1 (.var 40) (.sl (.idx (.var 65) (.var 40)) (some (.neg (.int 2))) none)), (.var 3), (.int 5)])
noncomputable def s23 : Sm := .loop (.tup [26, 15]) (.ex (.var 24)) b23
noncomputable def s24 : Sm := .ret (.cmp .eq (.var 7) (.comp (.tup [(.var 43), (.str (Str.ofString "ext1")), (.bin .add (.int 90) (.idx (.var 66) (.var 43))), (.int 0), (.int 0), (.tup [(.tup [(.int 9), (.int 9)])])]) (.nm 43) (.bi .sorted [(.var 66)]) []))
theorem end24 {fn : Fn} {ρ : Ro} {W : Lead} {rows' : List Row} {L : List (Int × Int)} (hl : L.length ≤ 6) (I : LI rows' L) (hr : ∀ r ∈ rows', r.net = 0 ∨ r.net = 8) (v66 : ρ.lookup 66 = some (.c 2)) (v7 : ρ.lookup 7 = some (.d (.list (outL ((minN 0 rows').map lastPH) ((minN 8 rows').map lastPH))))) :
    X (exs fn ρ (st3 xs n W L) [s24]) fun fl _ _ => fl = .ret (.d (.bool true)) := by
  have keys : ∀ p ∈ L, p.1 = 0 ∨ p.1 = 8 := fun p hp => by
    have h := look_mem I.keys (s := p.1) (v := p.2) hp
    rw [I.look] at h
    have M := minS_of p.1 rows'
    rw [h] at M
    obtain ⟨⟨r, hm, e, _⟩, _⟩ := M
    rw [← e]; exact hr r hm
  have hkn : (L.map fun c => (c.1, (2 : Int))).Nodup := by
    have : (L.map fun c => (c.1, (2 : Int))) = (L.map (·.1)).map fun n => (n, (2 : Int)) := by rw [List.map_map]; rfl
    rw [this]
    exact I.keys.map _ fun a b hab e => hab (Prod.ext_iff.mp e).1
  have hsort : biD .sorted [.dict (L.map fun p => (tupK [p.1, 2], PyData.int p.2))] = some (.list ((psort (L.map fun c => (c.1, (2 : Int)))).map pairD)) := by
    show sortL ((L.map fun p => (tupK [p.1, 2], PyData.int p.2)).map (·.1)) = _
    rw [← sortL_pairs hkn (by rw [List.length_map]; lia)]
    rw [List.map_map, List.map_map]; rfl
  have hmem : ∀ x, x ∈ psort (L.map fun c => (c.1, (2 : Int))) ↔ ∃ b ∈ L, (b.1, (2 : Int)) = x := fun x => by
    rw [(psort_perm _).mem_iff, List.mem_map]
  have hps := psort_sorted hkn
  have no : ∀ k, L.lookup k = none → ∀ p ∈ L, p.1 ≠ k := fun k h p hp e => look_key.mp h (List.mem_map.mpr ⟨p, hp, e⟩)
  have body : ∀ (k m : Int) (Q : Option PyData → Sto → Prop), L.lookup k = some m → Q (some (toldS k (lastPH m))) (st3 xs n W L) → V (cbody fn ρ (.tup [(.var 43), (.str (Str.ofString "ext1")), (.bin .add (.int 90) (.idx (.var 66) (.var 43))), (.int 0), (.int 0), (.tup [(.tup [(.int 9), (.int 9)])])]) (.nm 43) [] (tupK [k, 2]) (st3 xs n W L)) Q := by
    intro k m Q hlk hQ
    have l66 : (setV ρ 43 (.d (tupK [k, 2]))).lookup 66 = some (.c 2) := by repeat (first | exact lk_eq | exact v66 | refine lk_ne rfl ?_)
    have l43 : (setV ρ 43 (.d (tupK [k, 2]))).lookup 43 = some (.d (tupK [k, 2])) := by repeat (first | exact lk_eq | refine lk_ne rfl ?_)
    have hi : idxD (.dict (L.map fun p => (tupK [p.1, 2], PyData.int p.2))) (tupK [k, 2]) = some (.int m) := by
      show (if okK _ _ = true then dget _ _ else none) = _
      rw [if_pos (ok_T _ L k), dget_kvT, hlk]; rfl
    refine c_body <| T.of rfl <| tt_nil ⟨fun _ => ?_, fun q => nomatch q⟩
    refine t_tup <| ts_var l43 <| ts_str <| ts_cons <| t_bin <| t_int <| t_vv l66 l43 (rd_st3 xs n W L) hi <| T.of rfl <| T.of rfl <| T.of rfl ?_
    refine ts_int <| ts_int <| ts_cons <| t_tup <| ts_cons <| t_tup <| ts_int <| ts_int <| ts_nil <| T.of rfl <| ts_nil <| T.of rfl <| ts_nil <| T.of rfl ⟨_, rfl, ?_⟩
    exact hQ
  have fin : ∀ ys, ys = outL ((L.lookup 0).map lastPH) ((L.lookup 8).map lastPH) → T (rd (st3 xs n W L) (.d (.list (outL ((minN 0 rows').map lastPH) ((minN 8 rows').map lastPH))))) fun x => T (rd (st3 xs n W L) (.d (.list ys))) fun y => T (cmpD .eq x y) fun z => Fl.ret (.d (.bool z)) = .ret (.d (.bool true)) := fun ys e => by
    subst e
    rw [I.look, I.look]
    exact T.of rfl <| T.of rfl <| T.of (cmp_eq_self (flat_outL _ _)) rfl
  unfold s24
  refine tx_ret1 <| t_cmp <| t_var v7 <| t_comp <| t_bi <| ts_var v66 <| ts_nil ?_
  refine ⟨_, by show ((rd (st3 xs n W L) (.c 2)).bind fun x => (rds (st3 xs n W L) []).map (x :: ·)) = _; rw [rd_st3]; rfl, ?_⟩
  refine T.of hsort ⟨_, _, rfl, rfl, by rw [List.length_map, psort_len, List.length_map]; simp only [big]; lia, ?_⟩
  cases h0 : L.lookup 0 with
  | none =>
    cases h8 : L.lookup 8 with
    | none =>
      rw [h0, h8] at fin
      have e : psort (L.map fun c => (c.1, (2 : Int))) = [] := by
        refine sorted_ext hps List.Pairwise.nil fun x => ?_
        rw [hmem]
        refine ⟨fun ⟨b, hb, _⟩ => ?_, fun q => nomatch q⟩
        rcases keys b hb with q | q
        · exact absurd q (no 0 h0 b hb)
        · exact absurd q (no 8 h8 b hb)
      rw [e]
      exact c_nil (fin _ rfl)
    | some m8 =>
      rw [h0, h8] at fin
      have e : psort (L.map fun c => (c.1, (2 : Int))) = [(8, 2)] := by
        refine sorted_ext hps (List.pairwise_singleton _ _) fun x => ?_
        rw [hmem, List.mem_singleton]
        constructor
        · rintro ⟨b, hb, rfl⟩
          rcases keys b hb with q | q
          · exact absurd q (no 0 h0 b hb)
          · rw [q]
        · rintro rfl
          exact ⟨(8, m8), mem_look h8, rfl⟩
      rw [e]
      exact c_cons (body 8 m8 _ h8 (c_nil (fin _ rfl)))
  | some m0 =>
    cases h8 : L.lookup 8 with
    | none =>
      rw [h0, h8] at fin
      have e : psort (L.map fun c => (c.1, (2 : Int))) = [(0, 2)] := by
        refine sorted_ext hps (List.pairwise_singleton _ _) fun x => ?_
        rw [hmem, List.mem_singleton]
        constructor
        · rintro ⟨b, hb, rfl⟩
          rcases keys b hb with q | q
          · rw [q]
          · exact absurd q (no 8 h8 b hb)
        · rintro rfl
          exact ⟨(0, m0), mem_look h0, rfl⟩
      rw [e]
      exact c_cons (body 0 m0 _ h0 (c_nil (fin _ rfl)))
    | some m8 =>
      rw [h0, h8] at fin
      have e : psort (L.map fun c => (c.1, (2 : Int))) = [(0, 2), (8, 2)] := by
        refine sorted_ext hps (by simp [PSorted, plt]) fun x => ?_
        rw [hmem]
        constructor
        · rintro ⟨b, hb, rfl⟩
          rcases keys b hb with q | q
          · rw [q]; simp
          · rw [q]; simp
        · intro hx
          rcases List.mem_cons.mp hx with rfl | hx
          · exact ⟨(0, m0), mem_look h0, rfl⟩
          · rw [List.mem_singleton.mp hx]
            exact ⟨(8, m8), mem_look h8, rfl⟩
      rw [e]
      exact c_cons (body 0 m0 _ h0 (c_cons (body 8 m8 _ h8 (c_nil (fin _ rfl)))))
noncomputable def pickR (s : Int) (r : Row) : Bool := decide (r.sender = s) && (decide (r.fwd = 0) && !r.sec)
theorem part6 (C : LC one W t rows) (L : LE ρ one W t rows) {s : Int} {m : Way} (hma : m.area = 0) (hmh : m.hops = [(8, 8)]) (v40 : ρ.lookup 40 = some (.d (.int s))) (v65 : ρ.lookup 65 = some (.c 1)) :
    X (exs (run prg 11) ρ (st2 xs n (setK W s (ws0 W s ++ [m]))) [s19, s20, s21, .asg (.nm 66) .dctC, s23, s24]) fun fl _ _ => fl = .ret (.d (.bool true)) := by
  have hz := C.len
  have h0 := ws0_ok C s
  have hWl := C.lg.len
  have hk2 : (setK W s (ws0 W s ++ [m])).lookup s = some (ws0 W s ++ [m]) := by rw [look_set, if_pos rfl]
  have hl2 := set_len W s (ws0 W s ++ [m])
  generalize setK W s (ws0 W s ++ [m]) = W2 at hk2 hl2
  unfold s19
  refine tx_next <| tx_setI_dict <| t_bin <| t_vv v65 v40 (rd_st2' xs n W2) (idx_lead hk2) ?_
  refine t_lst <| ts_cons <| t_tup <| ts_int <| ts_cons <| t_tup <| ts_cons <| t_tup <| ts_int <| ts_int <| ts_nil <| T.of rfl <| ts_nil <| T.of rfl <| ts_int <| ts_cons <| t_bool <| ts_nil <| T.of rfl <| ts_nil <| T.of rfl ?_
  refine T.of rfl <| T.of rfl <| T.of (bin_addL (by simp [big]; lia)) <| t_var v65 <| t_var v40 ⟨1, kvI wsD W2, .int s, rfl, rfl, rfl, ok_kvI wsD W2 s, by simp [kvI, big]; lia, rfl, ?_⟩
  have e19 : dput (kvI wsD W2) (.int s) (.d (.list ((ws0 W s ++ [m]).map wayD ++ [wayD lastWay]))) = kvI wsD (setK W2 s (ws0 W s ++ [m] ++ [lastWay])) := by
    rw [← dput_kvI]
    unfold wsD
    rw [List.map_append (l₂ := [lastWay])]; rfl
  show X (exs (run prg 11) ρ [poolC xs n, .dict (dput (kvI wsD W2) (.int s) (.d (.list ((ws0 W s ++ [m]).map wayD ++ [wayD lastWay]))))] _) _
  rw [e19]
  have hk3 : (setK W2 s (ws0 W s ++ [m] ++ [lastWay])).lookup s = some (ws0 W s ++ [m] ++ [lastWay]) := by rw [look_set, if_pos rfl]
  generalize setK W2 s (ws0 W s ++ [m] ++ [lastWay]) = W3 at hk3
  show X (exs (run prg 11) ρ (st2 xs n W3) _) _
  unfold s20
  refine tx_next <| tx_asg <| t_comp <| t_var L.v23 ⟨_, _, rfl, rfl, by simp [big]; lia, ?_⟩
  refine c_filter (g := rowD) (p := pickR s) (fun r hr Q h1 h2 => ?_) ?_
  · have l26 : (setV (setV ρ 26 (.d (headD r))) 15 (.d (bodyD r))).lookup 26 = some (.d (headD r)) := by repeat (first | exact lk_eq | refine lk_ne rfl ?_)
    have l15 : (setV (setV ρ 26 (.d (headD r))) 15 (.d (bodyD r))).lookup 15 = some (.d (bodyD r)) := by repeat (first | exact lk_eq | refine lk_ne rfl ?_)
    have l40 : (setV (setV ρ 26 (.d (headD r))) 15 (.d (bodyD r))).lookup 40 = some (.d (.int s)) := by repeat (first | exact lk_eq | exact v40 | refine lk_ne rfl ?_)
    refine c_body <| T.of (a := setV (setV ρ 26 (.d (headD r))) 15 (.d (bodyD r))) rfl ?_
    generalize setV (setV ρ 26 (.d (headD r))) 15 (.d (bodyD r)) = ρ1 at l26 l15 l40
    refine tt_cons <| t_and <| ta_cons <| t_cmp <| t_vi l26 rfl rfl <| t_var l40 <| T.of rfl <| T.of rfl <| T.of (cmp_eq_int _ _) ⟨_, rfl, fun a1 => ?_, fun a1 => ⟨false, rfl, (fun q => nomatch q), fun _ => ⟨(fun q => nomatch q), fun _ => h2 (by simp [pickR, a1])⟩⟩⟩
    refine ta_cons <| t_cmp <| t_vi l15 rfl rfl <| t_int <| T.of rfl <| T.of rfl <| T.of (cmp_eq_int _ _) ⟨_, rfl, fun a2 => ?_, fun a2 => ⟨false, rfl, (fun q => nomatch q), fun _ => ⟨(fun q => nomatch q), fun _ => h2 (by simp [pickR, a2])⟩⟩⟩
    refine ta_cons <| t_not <| t_vi l15 rfl rfl ⟨r.sec, rfl, !r.sec, rfl, fun a3 => ?_, fun a3 => ⟨false, rfl, (fun q => nomatch q), fun _ => ⟨(fun q => nomatch q), fun _ => h2 (by simp only [pickR, a3, Bool.and_false])⟩⟩⟩
    refine ta_nil ⟨true, rfl, (fun _ => tt_nil ⟨(fun _ => ?_), fun q => nomatch q⟩), fun q => nomatch q⟩
    exact t_tup <| ts_var l26 <| ts_var l15 <| ts_nil <| T.of rfl ⟨_, rfl, h1 (by simp only [pickR, a1, a2, a3, Bool.and_self])⟩
  have hrs : ∀ r ∈ rows.filter (pickR s), r ∈ rows ∧ r.sender = s ∧ r.fwd = 0 ∧ r.sec = false := fun r hr => by
    obtain ⟨a, b⟩ := List.mem_filter.mp hr
    simp only [pickR, Bool.and_eq_true, decide_eq_true_eq, Bool.not_eq_true'] at b
    exact ⟨a, b.1, b.2.1, b.2.2⟩
  have hfl := List.length_filter_le (pickR s) rows
  generalize rows.filter (pickR s) = rows' at hrs hfl
  refine T.of rfl ⟨rfl, ?_⟩
  have L1 := L.set (i := 24) (.d (.list (rows'.map rowD))) (by decide)
  have l40 : (setV ρ 24 (.d (.list (rows'.map rowD)))).lookup 40 = some (.d (.int s)) := by repeat (first | exact lk_eq | exact v40 | refine lk_ne rfl ?_)
  have l65 : (setV ρ 24 (.d (.list (rows'.map rowD)))).lookup 65 = some (.c 1) := by repeat (first | exact lk_eq | exact v65 | refine lk_ne rfl ?_)
  have l24 : (setV ρ 24 (.d (.list (rows'.map rowD)))).lookup 24 = some (.d (.list (rows'.map rowD))) := by repeat (first | exact lk_eq | refine lk_ne rfl ?_)
  show X (exs (run prg 11) (setV ρ 24 (.d (.list (rows'.map rowD)))) _ _) _
  generalize setV ρ 24 (.d (.list (rows'.map rowD))) = ρ1 at L1 l40 l65 l24
  unfold s21
  refine tx_next <| tx_asg <| t_call <| ts_var l24 <| ts_int <| ts_cons <| t_dct1 <| t_var l40 <| t_sl_list <| t_vv l65 l40 (rd_st2' xs n W3) (idx_lead hk3) <| o_some <| t_neg <| t_int ⟨2, rfl, -2, rfl, o_none ⟨_, rfl, by simp [big]; lia, s, _, rfl, rfl, ?_⟩⟩
  rw [pick_map, pick_last]
  have hW : WOk [(s, [m, lastWay])] := fun z ws h => by
    have := mem_look h
    rw [List.mem_singleton] at this
    cases this
    refine ⟨by simp, fun y hy => ?_⟩
    rcases List.mem_cons.mp hy with rfl | hy
    · rw [hmh]; simp
    · rw [List.mem_singleton.mp hy]; simp [lastWay]
  refine ts_var L1.v3 <| ts_int <| ts_nil <| t_er (W := [(s, [m, lastWay])]) (ok_st2 xs n W3) (fun _ => rfl) (fun r hr => C.ok r (hrs r hr).1) (by lia) hW ?_
  have her : erL [(s, [m, lastWay])] t rows' = outL ((minN 0 rows').map lastPH) ((minN 8 rows').map lastPH) := by
    unfold erL
    rw [er_last hma (fun r hr => (hrs r hr).2), er_last hma (fun r hr => (hrs r hr).2)]
  rw [her]
  refine T.of rfl ⟨rfl, ?_⟩
  have k24 : (setV ρ1 7 (.d (.list (outL ((minN 0 rows').map lastPH) ((minN 8 rows').map lastPH))))).lookup 24 = some (.d (.list (rows'.map rowD))) := by repeat (first | exact lk_eq | exact l24 | refine lk_ne rfl ?_)
  have k7 : (setV ρ1 7 (.d (.list (outL ((minN 0 rows').map lastPH) ((minN 8 rows').map lastPH))))).lookup 7 = some (.d (.list (outL ((minN 0 rows').map lastPH) ((minN 8 rows').map lastPH)))) := by repeat (first | exact lk_eq | refine lk_ne rfl ?_)
  show X (exs (run prg 11) (setV ρ1 7 (.d (.list (outL ((minN 0 rows').map lastPH) ((minN 8 rows').map lastPH))))) _ _) _
  generalize setV ρ1 7 (.d (.list (outL ((minN 0 rows').map lastPH) ((minN 8 rows').map lastPH)))) = ρ2 at k24 k7
  refine tx_next <| tx_asg <| t_dctC <| T.of rfl ⟨rfl, ?_⟩
  have q24 : (setV ρ2 66 (.c 2)).lookup 24 = some (.d (.list (rows'.map rowD))) := by repeat (first | exact lk_eq | exact k24 | refine lk_ne rfl ?_)
  have q7 : (setV ρ2 66 (.c 2)).lookup 7 = some (.d (.list (outL ((minN 0 rows').map lastPH) ((minN 8 rows').map lastPH)))) := by repeat (first | exact lk_eq | exact k7 | refine lk_ne rfl ?_)
  have q66 : (setV ρ2 66 (.c 2)).lookup 66 = some (.c 2) := by repeat (first | exact lk_eq | refine lk_ne rfl ?_)
  show X (exs (run prg 11) (setV ρ2 66 (.c 2)) (st3 xs n W3 []) _) _
  generalize setV ρ2 66 (.c 2) = ρ3 at q24 q7 q66
  unfold s23
  refine tx_next <| tx_loop <| ti_list <| t_var q24 ⟨_, rfl, by simp [big]; lia, ?_⟩
  refine (loop_next (fun rest ρ St => ∃ done rem : List Row, ∃ Lm, rows' = done ++ rem ∧ rest = rem.map rowD ∧ (ρ.lookup 66 = some (.c 2) ∧ ρ.lookup 7 = some (.d (.list (outL ((minN 0 rows').map lastPH) ((minN 8 rows').map lastPH))))) ∧ LI done Lm ∧ St = st3 xs n W3 Lm) (P := fun ρ St => ∃ Lm, (ρ.lookup 66 = some (.c 2) ∧ ρ.lookup 7 = some (.d (.list (outL ((minN 0 rows').map lastPH) ((minN 8 rows').map lastPH))))) ∧ LI rows' Lm ∧ St = st3 xs n W3 Lm) ?_ ?_ _ _ _ ⟨[], rows', [], rfl, rfl, ⟨q66, q7⟩, LI.nil, rfl⟩).imp ?_
  · rintro x rest ρ St ⟨done, rem, Lm, e1, e2, ⟨a66, a7⟩, I, rfl⟩
    cases rem with
    | nil => cases e2
    | cons r rem =>
      cases e2
      have hd : done.length ≤ 6 := by have := congrArg List.length e1; simp at this; lia
      refine (turn23 (r := r) (by have := I.len; lia) a66 a7).imp ?_
      rintro fl ρ' S' ⟨b1, b2, b3, b4⟩
      have hr := (C.rows r (hrs r (by rw [e1]; simp)).1).met
      exact ⟨b1, done ++ [r], rem, _, by rw [e1]; simp, rfl, ⟨b2, b3⟩, I.step hr, b4⟩
  · rintro ρ St ⟨done, rem, Lm, e1, e2, a, I, rfl⟩
    obtain rfl : rem = [] := by cases rem with
      | nil => rfl
      | cons _ _ => cases e2
    rw [List.append_nil] at e1
    subst e1
    exact ⟨Lm, a, I, rfl⟩
  · rintro fl ρ St ⟨rfl, Lm, ⟨a66, a7⟩, I, rfl⟩
    exact ⟨rfl, end24 (by have := I.len; lia) I (fun r hr => (C.ok r (hrs r hr).1).2.2.1) a66 a7⟩
end
end Mine
end
end
section
open PySem
set_option maxRecDepth 100000
set_option Elab.async false
set_option autoImplicit false
set_option linter.unusedVariables false
noncomputable section
namespace Mine
noncomputable def s3 : Sm := .asg (.tup [11, 23]) (.tup [(.call 12 [(.var 37), (.var 39)]), (.call 13 [(.var 37)])])
noncomputable def s4 : Sm := .asg (.nm 59) (.tup [(.tup [(.int 16), (.int 2)]), (.str (Str.ofString "intra")), (.bin .add (.int 1) (.call 11 [(.var 37), (.int 4)])), (.int 0), (.ite (.var 39) (.int 0) (.call 11 [(.var 37), (.int 2)])), (.tup [(.tup [(.int 4), (.int 0)])])])
noncomputable def s5 : Sm := .asg (.nm 3) (.call 3 [(.lst [(.var 59), (.tup [(.tup [(.int 8), (.int 2)]), (.str (Str.ofString "inter")), (.bin .add (.int 1) (.call 11 [(.var 37), (.int 4)])), (.int 0), (.int 0), (.tup [(.tup [(.int 5), (.int 6)]), (.tup [(.int 6), (.int 6)])])])])])
noncomputable def s6 : Sm := .asg (.nm 6) (.call 9 [(.var 23), (.int 1), (.var 11), (.var 3), (.int 5)])
noncomputable def restL : List Sm := [s7, s8, .asg (.nm 60) eMvLead, .asg (.nm 61) eMvTab, s11, s12, s13, s14, s15, s16, s17, s18, s19, s20, s21, .asg (.nm 66) .dctC, s23, s24]
noncomputable def PTrue : Fl → Ro → Sto → Prop := fun fl _ _ => fl = .ret (.d (.bool true))
theorem part7 {one : Bool} {W : Lead} {t : Tab} {rows : List Row} {ρ : Ro} {xs : List Int} {n : Nat} (C : LC one W t rows) (L : LE ρ one W t rows) (hx : xs.length ≤ 1000) : X (exs (run prg 11) ρ (st1 xs n) restL) PTrue := by
  unfold restL
  refine part2 C L <| part3 C L hx fun ρ1 n1 L1 => part4 C L1 hx fun ρ2 n2 L2 v5 => part5 C L2 v5 hx fun ρ3 n3 s m h1 h2 L3 v40 v65 => ?_
  exact part6 C L3 h1 h2 v40 v65
theorem part1 {one : Bool} {ρ : Ro} {xs : List Int} {n : Nat} (hx : xs.length ≤ 1000) (l37 : ρ.lookup 37 = some (.c 0)) (l39 : ρ.lookup 39 = some (.d (.bool one))) : X (exs (run prg 11) ρ (st1 xs n) (s3 :: s4 :: s5 :: s6 :: restL)) PTrue := by
  unfold s3
  refine tx_next <| tx_asg <| t_tup <| ts_cons <| t_call <| ts_var l37 <| ts_var l39 <| ts_nil <| t_ways (S := st1 xs n) (xs := xs) (n := n) rfl (ok_st1 xs n) hx fun W n1 hW => ?_
  refine ts_cons <| t_call <| ts_var l37 <| ts_nil <| t_rows (S := st1 xs n1) (xs := xs) (n := n1) rfl (ok_st1 xs n1) hx fun rows n2 hz hrs => ?_
  refine ts_nil <| T.of rfl <| T.of (a := setV (setV ρ 11 (.d (leadD W))) 23 (.d (.list (rows.map rowD)))) rfl ⟨rfl, ?_⟩
  show X (exs (run prg 11) _ (st1 xs n2) _) _
  have m37 : (setV (setV ρ 11 (.d (leadD W))) 23 (.d (.list (rows.map rowD)))).lookup 37 = some (.c 0) := by repeat (first | exact lk_eq | exact l37 | refine lk_ne rfl ?_)
  have m39 : (setV (setV ρ 11 (.d (leadD W))) 23 (.d (.list (rows.map rowD)))).lookup 39 = some (.d (.bool one)) := by repeat (first | exact lk_eq | exact l39 | refine lk_ne rfl ?_)
  have m11 : (setV (setV ρ 11 (.d (leadD W))) 23 (.d (.list (rows.map rowD)))).lookup 11 = some (.d (leadD W)) := by repeat (first | exact lk_eq | refine lk_ne rfl ?_)
  have m23 : (setV (setV ρ 11 (.d (leadD W))) 23 (.d (.list (rows.map rowD)))).lookup 23 = some (.d (.list (rows.map rowD))) := by repeat (first | exact lk_eq | refine lk_ne rfl ?_)
  generalize setV (setV ρ 11 (.d (leadD W))) 23 (.d (.list (rows.map rowD))) = ρ1 at m37 m39 m11 m23
  clear l37 l39
  unfold s4
  refine tx_next <| tx_asg <| t_tup <| ts_cons <| t_tup <| ts_int <| ts_int <| ts_nil <| T.of rfl <| ts_str <| ts_cons <| t_bin <| t_int <| t_call <| ts_var m37 <| ts_int <| ts_nil <| t_draw1 hx (by decide) fun c hc1 hc2 => ?_
  refine T.of rfl <| T.of rfl <| T.of rfl <| ts_int <| ts_cons <| V.imp (P := fun u S1 => ∃ a n3, u = .d (.int a) ∧ (one = true → a = 0) ∧ S1 = st1 xs n3) ?_ ?_
  · refine t_ite <| t_var m39 ⟨one, rfl, fun h1 => t_int ⟨0, _, rfl, fun _ => rfl, rfl⟩, fun h1 => ?_⟩
    refine t_call <| ts_var m37 <| ts_int <| ts_nil <| t_draw1 hx (by decide) fun v _ _ => ⟨v, _, rfl, (fun q => by rw [h1] at q; cases q), rfl⟩
  rintro u S1 ⟨a, n3, rfl, ha, rfl⟩
  refine ts_cons <| t_tup <| ts_cons <| t_tup <| ts_int <| ts_int <| ts_nil <| T.of rfl <| ts_nil <| T.of rfl <| ts_nil <| T.of (a := [tupK [16, 2], .str (Str.ofString "intra"), .int (1 + c), .int 0, .int a, hopsD [(4, 0)]]) rfl <| T.of (a := setV ρ1 59 (.d (nearD (1 + c) a))) rfl ⟨rfl, ?_⟩
  have k37 : (setV ρ1 59 (.d (nearD (1 + c) a))).lookup 37 = some (.c 0) := by repeat (first | exact lk_eq | exact m37 | refine lk_ne rfl ?_)
  have k39 : (setV ρ1 59 (.d (nearD (1 + c) a))).lookup 39 = some (.d (.bool one)) := by repeat (first | exact lk_eq | exact m39 | refine lk_ne rfl ?_)
  have k11 : (setV ρ1 59 (.d (nearD (1 + c) a))).lookup 11 = some (.d (leadD W)) := by repeat (first | exact lk_eq | exact m11 | refine lk_ne rfl ?_)
  have k23 : (setV ρ1 59 (.d (nearD (1 + c) a))).lookup 23 = some (.d (.list (rows.map rowD))) := by repeat (first | exact lk_eq | exact m23 | refine lk_ne rfl ?_)
  have k59 : (setV ρ1 59 (.d (nearD (1 + c) a))).lookup 59 = some (.d (nearD (1 + c) a)) := by repeat (first | exact lk_eq | refine lk_ne rfl ?_)
  generalize setV ρ1 59 (.d (nearD (1 + c) a)) = ρ2 at k37 k39 k11 k23 k59
  clear m37 m39 m11 m23
  unfold s5
  refine tx_next <| tx_asg <| t_call <| ts_cons <| t_lst <| ts_var k59 <| ts_cons <| t_tup <| ts_cons <| t_tup <| ts_int <| ts_int <| ts_nil <| T.of rfl <| ts_str <| ts_cons <| t_bin <| t_int <| t_call <| ts_var k37 <| ts_int <| ts_nil <| t_draw1 hx (by decide) fun d hd1 hd2 => ?_
  refine T.of rfl <| T.of rfl <| T.of rfl <| ts_int <| ts_int <| ts_cons <| t_tup <| ts_cons <| t_tup <| ts_int <| ts_int <| ts_nil <| T.of rfl <| ts_cons <| t_tup <| ts_int <| ts_int <| ts_nil <| T.of rfl <| ts_nil <| T.of rfl <| ts_nil <| T.of rfl <| ts_nil <| T.of rfl <| ts_nil <| t_table (t := ⟨1 + c, a, 1 + d⟩) (ok_st1 xs _) <| T.of (a := setV ρ2 3 (.d (tabOf ⟨1 + c, a, 1 + d⟩))) rfl ⟨rfl, ?_⟩
  have ht : one = true → (Tab.mk (1 + c) a (1 + d)).a1 = 0 := ha
  generalize (Tab.mk (1 + c) a (1 + d)) = t at ht
  have j37 : (setV ρ2 3 (.d (tabOf t))).lookup 37 = some (.c 0) := by repeat (first | exact lk_eq | exact k37 | refine lk_ne rfl ?_)
  have j39 : (setV ρ2 3 (.d (tabOf t))).lookup 39 = some (.d (.bool one)) := by repeat (first | exact lk_eq | exact k39 | refine lk_ne rfl ?_)
  have j11 : (setV ρ2 3 (.d (tabOf t))).lookup 11 = some (.d (leadD W)) := by repeat (first | exact lk_eq | exact k11 | refine lk_ne rfl ?_)
  have j23 : (setV ρ2 3 (.d (tabOf t))).lookup 23 = some (.d (.list (rows.map rowD))) := by repeat (first | exact lk_eq | exact k23 | refine lk_ne rfl ?_)
  have j3 : (setV ρ2 3 (.d (tabOf t))).lookup 3 = some (.d (tabOf t)) := by repeat (first | exact lk_eq | refine lk_ne rfl ?_)
  generalize setV ρ2 3 (.d (tabOf t)) = ρ3 at j37 j39 j11 j23 j3
  have C : LC one W t rows := ⟨hW, ht, hz, hrs⟩
  unfold s6
  refine tx_next <| tx_asg <| t_call <| ts_var j23 <| ts_int <| ts_var j11 <| ts_var j3 <| ts_int <| ts_nil <| t_er (ok_st1 xs _) (fun _ => rfl) C.ok (by lia) C.wok <| T.of (a := setV ρ3 6 (.d (.list (erL W t rows)))) rfl ⟨rfl, ?_⟩
  exact part7 C ⟨by repeat (first | exact lk_eq | exact j37 | refine lk_ne rfl ?_), by repeat (first | exact lk_eq | exact j39 | refine lk_ne rfl ?_), by repeat (first | exact lk_eq | exact j11 | refine lk_ne rfl ?_), by repeat (first | exact lk_eq | exact j23 | refine lk_ne rfl ?_), by repeat (first | exact lk_eq | exact j3 | refine lk_ne rfl ?_), by repeat (first | exact lk_eq | refine lk_ne rfl ?_)⟩ hx
theorem law_pure (ns : List Int) (h : ns.length ≤ 63) : run prg 12 19 [.d (.list (ns.map .int))] [] = some (.d (.bool true), []) := by
  refine V.get <| t_run (fd := c_law) rfl rfl <| X.imp (P := PTrue) ?_ ?_
  · have hb : (ns.map PyData.int).length ≤ big := by simp [big]; lia
    have hx : (pickL ns none (some 60)).length ≤ 1000 := by simp [pickL]; lia
    refine tx_next <| tx_asg <| t_lstC <| ts_cons <| t_bi <| ts_cons <| t_sl_list <| t_var rfl <| o_none <| o_some <| t_int ⟨60, rfl, _, rfl, hb, ?_⟩
    rw [pick_map]
    generalize pickL ns none (some 60) = xs at hx
    refine ts_nil <| T.of rfl <| T.of (bi_list (by rw [List.length_map]; simp only [big]; lia)) <| ts_int <| ts_nil <| T.of rfl ⟨rfl, ?_⟩
    show X (exs (run prg 11) _ (st1 xs 0) _) _
    refine tx_next <| tx_asg <| t_cmp <| t_call <| ts_var rfl <| ts_int <| ts_nil <| t_draw1 hx (by decide) fun v _ _ => t_int <| T.of rfl <| T.of rfl <| T.of (cmp_eq_int _ _) <| T.of rfl ⟨rfl, ?_⟩
    exact part1 (one := decide (v = 1)) hx rfl rfl
  · rintro fl ρ S rfl
    exact ⟨by simp, Nat.zero_le _, T.of rfl ⟨rfl, by simp⟩⟩
end Mine
end
end
open PySem PySem.W PyProof.Rows
set_option Elab.async false
set_option maxRecDepth 100000
set_option maxHeartbeats 8000000
namespace Mine
def viewP : Program := { PySem.Challenge.pw_sj0174_01 with main := { PySem.Challenge.pw_sj0174_01.main with body := [0, 2, 3, 5, 6, 7, 8, 9, 10, 11, 13, 14, 15, 16, 17, 18, 19, 20, 22, 23, 24, 25, 26, 27, 28, 29, 30].filterMap fun i => PySem.Challenge.pw_sj0174_01.main.body[i]? } }
end Mine
namespace Mine
theorem law_call {prog : Program} {w : World} {mg mb : Str → Option Value} {h : Heap} {defs : List DefItem} {consts : List (Str × PyData)} {names : List Str} (GL : Glob 0 mg mb defs consts [] names h) (h1 : defsOk defs = true) (h2 : constsOk consts = true) (h3 : namesNo names = true)
    {s : Shared} (hs : s.heap = h) {fa a : Addr} {ns : List Int} {P : Params} {Q E : Value → Shared → Prop} (hmg : mg (Str.ofString "law") = some (.ref fa)) (hw : Well P h (.ref a) (ofPy (.list (ns.map .int)))) (hn : ns.length ≤ 63)
    (hQ : ∀ h' tk, (∀ b o, h.get? b = some o → h'.get? b = some o) → Q (.bool true) { s with heap := h', toks := tk }) : wpAny (model prog w) callerA (call (.ref fa) [.ref a]) Q E s := by
  subst hs
  obtain ⟨G, PO⟩ := glue GL h1 h2 h3
  refine run_ok G nm_dot GL.nolimit PO 12 19 (Str.ofString "law") fa [.d (.list (ns.map .int))] [] [] (.d (.bool true)) callerA [] [] s [.ref a] Q E rfl hmg (law_pure ns hn) ⟨rfl, by decide +kernel, by decide +kernel⟩ ?_ (.cons ?_ .nil) fun h' tk val as' x a' r => ?_
  · exact ⟨fun b o e => e, fun b hb => (nomatch hb), fun b hb => (nomatch hb), List.nodup_nil, fun b hb => (nomatch hb), rfl, fun n a c e => by simp at e⟩
  · cases hw with
    | list ho hl => exact Rep.list (n := 0) ho (fun q => nomatch q) (ints_rep hl)
  · have : val = .bool true := (RdR.of (show Rep prog w ([] ++ as') h' val (.bool true) from r)).bool_inv
    subst this
    obtain ⟨nw, rfl, k, _⟩ := a'
    exact hQ h' tk fun b o e => k.keep b o (fun q => nomatch q) e
end Mine
namespace Mine
theorem said_row : PySem.Challenge.rw_sj0174_01.row.wellSaid = true := by
  delta OpenRow.wellSaid OpenRow.partSaid
  repeat' with_reducible refine look_both ?_ ?_
  delta looksOpen
  repeat' with_reducible refine look_both ?_ ?_
  all_goals decide +kernel
theorem said_law : PySem.Challenge.rw_sj0174_01.wellSaid = true := by
  delta OpenLaw.wellSaid
  repeat' with_reducible refine look_both ?_ ?_
  · with_reducible exact said_row
  all_goals decide +kernel
end Mine
theorem PySem.Challenge.cw_sj0174_01_holds : PySem.Challenge.rw_sj0174_01.Holds := by
  w_on; refine holds_law Mine.said_law fun said => ?_
  refine holds_open (r := PySem.Challenge.rw_sj0174_01.row) (q := Mine.viewP) (loose := []) (Xt := fun s => xlAt Mine.viewP [] s && recOk (RowW.records (OpenRow.toRowW PySem.Challenge.rw_sj0174_01.row)) s) (XP := XL Mine.viewP []) (Yf := Hook.obs Hook.none) (Ya := Hook.val Hook.none) (YP := Hook.says Hook.none) (N := 1644) ?hl (Hook.of Hook.none) (Hook.keeps Hook.none) (fun s e => xl_of s (Bool.and_eq_true_iff.mp e).1) XL.keeps (by rfl) (by rfl) (by rfl) (fun s e => recFacts_of (Bool.and_eq_true_iff.mp e).2) (by rfl) (by first | assumption | decide +kernel) (by decide +kernel) ⟨rfl, rfl, rfl, rfl, rfl, by decide +kernel⟩ ?hw ?hc
  case hl => intro w; kernel_rfl
  case hw => w_witness2
  intro w s₀ s₁ mg mb G Y fa o pm cd doc dV kV ho hdf hcd hD hmg hg args vals as hpre hlay hrd hwl hlo
  have X := (Ground.X G).1
  have V := (Ground.X G).2
  have GL := glob_more (Ground.glob G (by decide +kernel) (by decide +kernel)) V
  clear Y
  wrow_args hpre hlay hrd hwl hlo
  rename_i hn _
  all_goals first
    | exact Mine.law_call GL (by decide +kernel) (by decide +kernel) (by decide +kernel) rfl hmg (by assumption) (by omega) fun h' tk hk => Mine.good_true PySem.Challenge.rw_sj0174_01 hk hg
