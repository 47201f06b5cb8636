import PyProof.Rows.All
import Wide.All
import OpenK.AllK
import Wide.FinOn
import HandS.ForMost
import HandS.Exc
import HandS.TryOnly
import HandS.ExcOwn
import HandS.WordsExc
import HandS.ExcInit
import HandS.Defaults
import HandS.Flow
import HandS.TupAny
import HandS.IsInst
import HandS.More
import KE.GoesMore
import HandS.Zip
import HandS.ExcField
import KE.KExcIs
import HandS.Style
import HandS.SortInts
import HandS.HeadHook4
import HandS.HeadEnd
import HandS.HeadHook2
import HandS.Head2
import HandS.Steps
import PySem.Challenge.RW_porterlodge_k04_parts_of_formulas
import HandS.HeadWalk
section
set_option Elab.async false
set_option linter.all false
set_option maxRecDepth 100000
set_option maxHeartbeats 2000000
/-! VS1: value semantics over HandS. Data D without a heap, ownership flags Ty, how they stand in the abstract heap. -/
namespace VS
open PySem L2

/-- Python data without addresses -/
inductive D where
  | non | bl (b : Bool) | int (i : Int) | str (x : Str) | lst (xs : List D) | tup (xs : List D) | dic (kvs : List (D × D)) | ins (c : String) (fs : List (Str × D)) | err (a : Addr) (d : Option Addr) (c : String) (fs : List (Str × D))
/-- how a value is held: sh: nobody will change it any more; else the holder owns it alone -/
inductive Ty where
  | sh | lst (t : Ty) | hls (ts : List Ty) | dic (t : Ty) | ins (ts : List Ty)

/-- the written part, and where the text's classes stand -/
structure Ct where
  K : PySem.W.Frag
  ca : String → Addr

def kD : Key → D
  | .inl i => .int i
  | .inr x => .str x
def KTup (K : PySem.W.Frag) (a : Addr) (xs : List V) : Prop :=
  ∃ (o : Obj) (its : Array Value) (n : Nat), K.lookup a = some o ∧ o.cls = .type "tuple" ∧ o.data = .seq its n ∧ its.size ≤ sizeLine ∧ Vals xs its.toList
def KLst (K : PySem.W.Frag) (a : Addr) (xs : List V) : Prop :=
  ∃ (o : Obj) (its : Array Value) (n : Nat), K.lookup a = some o ∧ o.cls = .type "list" ∧ o.dict = none ∧ o.data = .seq its n ∧ its.size ≤ sizeLine ∧ Vals xs its.toList

mutual
/-- v is d; every list, dict, instance on the way is frozen (Z) -/
inductive Rz (C : Ct) (Z : Addr → Prop) (H : Hp) : V → D → Prop
  | non : Rz C Z H .non .non
  | bl (b : Bool) : Rz C Z H (.bl b) (.bl b)
  | int (i : Int) : Rz C Z H (.int i) (.int i)
  | str (x : Str) : Rz C Z H (.str x) (.str x)
  | lst {a : Addr} {xs : List V} {ds : List D} : Z a → H a = some (.lst xs) → RzL C Z H xs ds → Rz C Z H (.ref a) (.lst ds)
  | frz {a : Addr} {o : Obj} {xs : List V} {ds : List D} : H a = some (.frz o (.lst xs)) → RzL C Z H xs ds → Rz C Z H (.ref a) (.lst ds)
  | tup {a : Addr} {xs : List V} {ds : List D} : H a = some (.tup xs) → RzL C Z H xs ds → Rz C Z H (.ref a) (.tup ds)
  | ktup {a : Addr} {xs : List V} {ds : List D} : KTup C.K a xs → RzL C Z H xs ds → Rz C Z H (.ref a) (.tup ds)
  | klst {a : Addr} {xs : List V} {ds : List D} : KLst C.K a xs → RzL C Z H xs ds → Rz C Z H (.ref a) (.lst ds)
  | dK {a : Addr} {kvs : List (Key × V)} {ds : List (D × D)} : Z a → H a = some (.dK kvs) → ds.map (·.1) = kvs.map (fun p => kD p.1) → RzL C Z H (kvs.map (·.2)) (ds.map (·.2)) → Rz C Z H (.ref a) (.dic ds)
  | dT {a : Addr} {kvs : List (List Key × V)} {ds : List (D × D)} : Z a → H a = some (.dT kvs) → ds.map (·.1) = kvs.map (fun p => D.tup (p.1.map kD)) → RzL C Z H (kvs.map (·.2)) (ds.map (·.2)) → Rz C Z H (.ref a) (.dic ds)
  | ins {a dx : Addr} {c : String} {fs : List (Str × V)} {ds : List (Str × D)} : Z a → H a = some (.ins (C.ca c) dx fs) → ds.map (·.1) = fs.map (·.1) → RzL C Z H (fs.map (·.2)) (ds.map (·.2)) → Rz C Z H (.ref a) (.ins c ds)
  | err0 (a : Addr) (c : String) : Rz C Z H (.ref a) (.err a none c [])
  | err1 (a : Addr) (c : String) {dd : Addr} {fv : List (Str × V)} {ds : List (Str × D)} : H dd = some (.xd fv) → ds.map (·.1) = fv.map (·.1) → RzL C Z H (fv.map (·.2)) (ds.map (·.2)) → Rz C Z H (.ref a) (.err a (some dd) c ds)
inductive RzL (C : Ct) (Z : Addr → Prop) (H : Hp) : List V → List D → Prop
  | nil : RzL C Z H [] []
  | cons {v : V} {vs : List V} {d : D} {ds : List D} : Rz C Z H v d → RzL C Z H vs ds → RzL C Z H (v :: vs) (d :: ds)
end

mutual
/-- v is d, held by t; S: the addresses owned -/
inductive Ro (C : Ct) (Z : Addr → Prop) (H : Hp) : Ty → V → D → List Addr → Prop
  | sh {v : V} {d : D} : Rz C Z H v d → Ro C Z H .sh v d []
  | lst {t : Ty} {a : Addr} {xs : List V} {ds : List D} {S : List Addr} : H a = some (.lst xs) → RoL C Z H (List.replicate xs.length t) xs ds S → Ro C Z H (.lst t) (.ref a) (.lst ds) (a :: S)
  | hls {ts : List Ty} {a : Addr} {xs : List V} {ds : List D} {S : List Addr} : H a = some (.lst xs) → RoL C Z H ts xs ds S → Ro C Z H (.hls ts) (.ref a) (.lst ds) (a :: S)
  | dK {t : Ty} {a : Addr} {kvs : List (Key × V)} {ds : List (D × D)} {S : List Addr} : H a = some (.dK kvs) → ds.map (·.1) = kvs.map (fun p => kD p.1) → RoL C Z H (List.replicate kvs.length t) (kvs.map (·.2)) (ds.map (·.2)) S →
      Ro C Z H (.dic t) (.ref a) (.dic ds) (a :: S)
  | dT {t : Ty} {a : Addr} {kvs : List (List Key × V)} {ds : List (D × D)} {S : List Addr} : H a = some (.dT kvs) → ds.map (·.1) = kvs.map (fun p => D.tup (p.1.map kD)) → RoL C Z H (List.replicate kvs.length t) (kvs.map (·.2)) (ds.map (·.2)) S →
      Ro C Z H (.dic t) (.ref a) (.dic ds) (a :: S)
  | ins {ts : List Ty} {a dx : Addr} {c : String} {fs : List (Str × V)} {ds : List (Str × D)} {S : List Addr} : H a = some (.ins (C.ca c) dx fs) → ds.map (·.1) = fs.map (·.1) → RoL C Z H ts (fs.map (·.2)) (ds.map (·.2)) S →
      Ro C Z H (.ins ts) (.ref a) (.ins c ds) (a :: S)
inductive RoL (C : Ct) (Z : Addr → Prop) (H : Hp) : List Ty → List V → List D → List Addr → Prop
  | nil : RoL C Z H [] [] [] []
  | cons {t : Ty} {ts : List Ty} {v : V} {vs : List V} {d : D} {ds : List D} {S1 S2 : List Addr} : Ro C Z H t v d S1 → RoL C Z H ts vs ds S2 → RoL C Z H (t :: ts) (v :: vs) (d :: ds) (S1 ++ S2)
end

/-- the slots' contents: none: nothing is told of it -/
abbrev Env := List (Option (Ty × D))
inductive RoE (C : Ct) (Z : Addr → Prop) (H : Hp) : Env → St → List Addr → Prop
  | nil : RoE C Z H [] [] []
  | em {δ : Env} {x : Option V} {σ : St} {S : List Addr} : RoE C Z H δ σ S → RoE C Z H (none :: δ) (x :: σ) S
  | fl {t : Ty} {v : V} {d : D} {δ : Env} {σ : St} {S1 S : List Addr} : Ro C Z H t v d S1 → RoE C Z H δ σ S → RoE C Z H (some (t, d) :: δ) (some v :: σ) (S1 ++ S)

/-- what may be owned -/
def Own : Option HO → Prop
  | some (.lst _) => True
  | some (.dK _) => True
  | some (.dT _) => True
  | some (.ins _ _ _) => True
  | _ => False
def Imm : HO → Prop
  | .tup _ => True
  | .frz _ _ => True
  | .xd _ => True
  | _ => False
structure Sit (Z : Addr → Prop) (H : Hp) (S : List Addr) : Prop where
  nd : S.Nodup
  dj : ∀ a ∈ S, ¬ Z a
  mu : ∀ a ∈ S, Own (H a)
  zh : ∀ a, Z a → ∃ o, H a = some o
structure Step (Z : Addr → Prop) (H : Hp) (S : List Addr) (Z' : Addr → Prop) (H' : Hp) (S' : List Addr) : Prop where
  keep : ∀ b o, H b = some o → b ∉ S → H' b = some o
  zm : ∀ a, Z a → Z' a
  zn : ∀ a, Z' a → Z a ∨ a ∈ S ∨ H a = none
  sn : ∀ a ∈ S', a ∈ S ∨ H a = none
/-- what is frozen or cannot change stands -/
structure Kz (Z : Addr → Prop) (H : Hp) (Z' : Addr → Prop) (H' : Hp) : Prop where
  zm : ∀ a, Z a → Z' a
  kp : ∀ a o, H a = some o → (Z a ∨ Imm o) → H' a = some o

section
variable {C : Ct} {Z Z' Z1 Z2 : Addr → Prop} {H H' H1 H2 : Hp} {S S' S1 S2 S3 : List Addr}
theorem Kz.refl : Kz Z H Z H := ⟨fun _ h => h, fun _ _ h _ => h⟩
theorem Kz.trans (a : Kz Z H Z1 H1) (b : Kz Z1 H1 Z2 H2) : Kz Z H Z2 H2 :=
  ⟨fun x h => b.zm x (a.zm x h), fun x o e h => b.kp x o (a.kp x o e h) (h.imp (a.zm x) id)⟩
theorem not_own_imm {o : HO} (h : Imm o) : ¬ Own (some o) := by
  cases o <;> simp_all [Imm, Own]
theorem Step.kz (s : Step Z H S Z' H' S') (t : Sit Z H S) : Kz Z H Z' H' := by
  refine ⟨s.zm, fun a o e h => s.keep a o e fun hm => ?_⟩
  rcases h with h | h
  · exact t.dj a hm h
  · have := t.mu a hm
    rw [e] at this
    exact not_own_imm h this
theorem Step.refl : Step Z H S Z H S := ⟨fun _ _ h _ => h, fun _ h => h, fun _ h => .inl h, fun _ h => .inl h⟩
theorem Step.trans (a : Step Z H S1 Z1 H1 S2) (b : Step Z1 H1 S2 Z2 H2 S3) : Step Z H S1 Z2 H2 S3 := by
  have old : ∀ x, x ∈ S2 → x ∈ S1 ∨ H x = none := a.sn
  have up : ∀ x, H1 x = none → H x = none ∨ x ∈ S1 := fun x h => by
    cases e : H x with
    | none => exact .inl rfl
    | some o =>
      by_cases hx : x ∈ S1
      · exact .inr hx
      · rw [a.keep x o e hx] at h; cases h
  refine ⟨fun x o e hx => ?_, fun x h => b.zm x (a.zm x h), fun x h => ?_, fun x h => ?_⟩
  · refine b.keep x o (a.keep x o e hx) fun h2 => ?_
    rcases old x h2 with h | h
    · exact hx h
    · rw [e] at h; cases h
  · rcases b.zn x h with h | h | h
    · exact a.zn x h
    · exact .inr (old x h)
    · rcases up x h with h | h
      · exact .inr (.inr h)
      · exact .inr (.inl h)
  · rcases b.sn x h with h | h
    · exact old x h
    · rcases up x h with h | h
      · exact .inr h
      · exact .inl h
theorem Step.sub (a : Step Z H S Z' H' S1) (h : ∀ x ∈ S2, x ∈ S1) : Step Z H S Z' H' S2 := ⟨a.keep, a.zm, a.zn, fun x hx => a.sn x (h x hx)⟩
/-- with a frame F beside -/
theorem Step.frame {F : List Addr} (a : Step Z H S Z' H' S') : Step Z H (S ++ F) Z' H' (S' ++ F) :=
  ⟨fun b o e h => a.keep b o e fun q => h (List.mem_append_left _ q), a.zm, fun x h => (a.zn x h).imp id (Or.imp (List.mem_append_left _) id), fun x h => by
    rcases List.mem_append.mp h with h | h
    · exact (a.sn x h).imp (List.mem_append_left _) id
    · exact .inl (List.mem_append_right _ h)⟩
theorem Step.wide {F : List Addr} (a : Step Z H S Z' H' S') (h : ∀ x ∈ S, x ∈ F) : Step Z H F Z' H' S' :=
  ⟨fun b o e q => a.keep b o e fun z => q (h b z), a.zm, fun x q => (a.zn x q).imp id (Or.imp (h x) id), fun x q => (a.sn x q).imp (h x) id⟩
theorem Sit.sub (t : Sit Z H S) (h : S'.Sublist S) : Sit Z H S' := ⟨t.nd.sublist h, fun a m => t.dj a (h.subset m), fun a m => t.mu a (h.subset m), t.zh⟩
theorem Sit.perm (t : Sit Z H S) (h : S.Perm S') : Sit Z H S' := ⟨h.nodup_iff.mp t.nd, fun a m => t.dj a (h.mem_iff.mpr m), fun a m => t.mu a (h.mem_iff.mpr m), t.zh⟩

/-! ### Rz, Ro stand -/
mutual
theorem Rz.keep (k : Kz Z H Z' H') : ∀ {v : V} {d : D}, Rz C Z H v d → Rz C Z' H' v d
  | _, _, .non => .non
  | _, _, .bl b => .bl b
  | _, _, .int i => .int i
  | _, _, .str x => .str x
  | _, _, .lst z e l => .lst (k.zm _ z) (k.kp _ _ e (.inl z)) (RzL.keep k l)
  | _, _, .frz e l => .frz (k.kp _ _ e (.inr trivial)) (RzL.keep k l)
  | _, _, .tup e l => .tup (k.kp _ _ e (.inr trivial)) (RzL.keep k l)
  | _, _, .ktup e l => .ktup e (RzL.keep k l)
  | _, _, .klst e l => .klst e (RzL.keep k l)
  | _, _, .dK z e q l => .dK (k.zm _ z) (k.kp _ _ e (.inl z)) q (RzL.keep k l)
  | _, _, .dT z e q l => .dT (k.zm _ z) (k.kp _ _ e (.inl z)) q (RzL.keep k l)
  | _, _, .ins z e q l => .ins (k.zm _ z) (k.kp _ _ e (.inl z)) q (RzL.keep k l)
  | _, _, .err0 a c => .err0 a c
  | _, _, .err1 a c e q l => .err1 a c (k.kp _ _ e (.inr trivial)) q (RzL.keep k l)
theorem RzL.keep (k : Kz Z H Z' H') : ∀ {vs : List V} {ds : List D}, RzL C Z H vs ds → RzL C Z' H' vs ds
  | _, _, .nil => .nil
  | _, _, .cons h t => .cons (Rz.keep k h) (RzL.keep k t)
end
mutual
theorem Ro.keep (k : Kz Z H Z' H') : ∀ {t : Ty} {v : V} {d : D} {S : List Addr}, Ro C Z H t v d S → (∀ a ∈ S, H' a = H a) → Ro C Z' H' t v d S
  | _, _, _, _, .sh h, _ => .sh (h.keep k)
  | _, _, _, _, .lst e l, q => .lst ((q _ List.mem_cons_self).trans e) (RoL.keep k l fun a m => q a (List.mem_cons_of_mem _ m))
  | _, _, _, _, .hls e l, q => .hls ((q _ List.mem_cons_self).trans e) (RoL.keep k l fun a m => q a (List.mem_cons_of_mem _ m))
  | _, _, _, _, .dK e r l, q => .dK ((q _ List.mem_cons_self).trans e) r (RoL.keep k l fun a m => q a (List.mem_cons_of_mem _ m))
  | _, _, _, _, .dT e r l, q => .dT ((q _ List.mem_cons_self).trans e) r (RoL.keep k l fun a m => q a (List.mem_cons_of_mem _ m))
  | _, _, _, _, .ins e r l, q => .ins ((q _ List.mem_cons_self).trans e) r (RoL.keep k l fun a m => q a (List.mem_cons_of_mem _ m))
theorem RoL.keep (k : Kz Z H Z' H') : ∀ {ts : List Ty} {vs : List V} {ds : List D} {S : List Addr}, RoL C Z H ts vs ds S → (∀ a ∈ S, H' a = H a) → RoL C Z' H' ts vs ds S
  | _, _, _, _, .nil, _ => .nil
  | _, _, _, _, .cons h l, q => .cons (Ro.keep k h fun a m => q a (List.mem_append_left _ m)) (RoL.keep k l fun a m => q a (List.mem_append_right _ m))
end
theorem RoE.keep (k : Kz Z H Z' H') : ∀ {δ : Env} {σ : St} {S : List Addr}, RoE C Z H δ σ S → (∀ a ∈ S, H' a = H a) → RoE C Z' H' δ σ S
  | _, _, _, .nil, _ => .nil
  | _, _, _, .em l, q => .em (RoE.keep k l q)
  | _, _, _, .fl h l, q => .fl (h.keep k fun a m => q a (List.mem_append_left _ m)) (RoE.keep k l fun a m => q a (List.mem_append_right _ m))
/-! ### freezing -/
mutual
theorem Ro.rz (hz : ∀ a, Z a → Z' a) : ∀ {t : Ty} {v : V} {d : D} {S : List Addr}, Ro C Z H t v d S → (∀ a ∈ S, Z' a) → Rz C Z' H v d
  | _, _, _, _, .sh h, _ => h.keep ⟨hz, fun _ _ e _ => e⟩
  | _, _, _, _, .lst e l, q => .lst (q _ List.mem_cons_self) e (RoL.rz hz l fun a m => q a (List.mem_cons_of_mem _ m))
  | _, _, _, _, .hls e l, q => .lst (q _ List.mem_cons_self) e (RoL.rz hz l fun a m => q a (List.mem_cons_of_mem _ m))
  | _, _, _, _, .dK e r l, q => .dK (q _ List.mem_cons_self) e r (RoL.rz hz l fun a m => q a (List.mem_cons_of_mem _ m))
  | _, _, _, _, .dT e r l, q => .dT (q _ List.mem_cons_self) e r (RoL.rz hz l fun a m => q a (List.mem_cons_of_mem _ m))
  | _, _, _, _, .ins e r l, q => .ins (q _ List.mem_cons_self) e r (RoL.rz hz l fun a m => q a (List.mem_cons_of_mem _ m))
theorem RoL.rz (hz : ∀ a, Z a → Z' a) : ∀ {ts : List Ty} {vs : List V} {ds : List D} {S : List Addr}, RoL C Z H ts vs ds S → (∀ a ∈ S, Z' a) → RzL C Z' H vs ds
  | _, _, _, _, .nil, _ => .nil
  | _, _, _, _, .cons h l, q => .cons (Ro.rz hz h fun a m => q a (List.mem_append_left _ m)) (RoL.rz hz l fun a m => q a (List.mem_append_right _ m))
end
/-- looked at, whoever holds it -/
abbrev Any : Addr → Prop := fun _ => True
theorem Ro.any {t : Ty} {v : V} {d : D} (h : Ro C Z H t v d S) : Rz C Any H v d := h.rz (fun _ _ => trivial) fun _ _ => trivial
theorem Rz.any {v : V} {d : D} (h : Rz C Z H v d) : Rz C Any H v d := h.keep ⟨fun _ _ => trivial, fun _ _ e _ => e⟩
/-- Z with more frozen -/
def zAdd (Z : Addr → Prop) (S : List Addr) : Addr → Prop := fun a => Z a ∨ a ∈ S
theorem Kz.add : Kz Z H (zAdd Z S) H := ⟨fun _ h => .inl h, fun _ _ e _ => e⟩
theorem Ro.frozen {t : Ty} {v : V} {d : D} (h : Ro C Z H t v d S) : Rz C (zAdd Z S) H v d := h.rz (fun _ q => .inl q) fun _ q => .inr q
/-- a part of what is owned is frozen -/
theorem Sit.freeze (t : Sit Z H (S ++ S')) : Sit (zAdd Z S') H S := by
  refine ⟨(List.nodup_append.mp t.nd).1, fun a m z => ?_, fun a m => t.mu a (List.mem_append_left _ m), fun a z => ?_⟩
  · rcases z with z | z
    · exact t.dj a (List.mem_append_left _ m) z
    · exact (List.nodup_append.mp t.nd).2.2 a m a z rfl
  · rcases z with z | z
    · exact t.zh a z
    · have := t.mu a (List.mem_append_right _ z)
      cases e : H a with
      | none => rw [e] at this; exact this.elim
      | some o => exact ⟨o, rfl⟩
theorem Step.freeze (s : Step Z H S Z' H' (S1 ++ S2)) : Step Z H S (zAdd Z' S2) H' S1 :=
  ⟨s.keep, fun a h => .inl (s.zm a h), fun a h => by
    rcases h with h | h
    · exact s.zn a h
    · exact .inr (s.sn a (List.mem_append_right _ h)), fun a h => s.sn a (List.mem_append_left _ h)⟩

/-! ### new objects -/
theorem Same.upd_new {p : Addr} {o : HO} (h : H p = none) : ∀ b u, H b = some u → upd H p o b = some u := fun b u e => by rw [upd_ne (ne_of_none e h)]; exact e
theorem Step.new {p : Addr} {o : HO} (h : H p = none) : Step Z H S Z (upd H p o) (S ++ [p]) :=
  ⟨fun b u e _ => Same.upd_new h b u e, fun _ z => z, fun _ z => .inl z, fun a m => by
    rcases List.mem_append.mp m with m | m
    · exact .inl m
    · rw [List.mem_singleton.mp m]; exact .inr h⟩
theorem Kz.new {p : Addr} {o : HO} (h : H p = none) : Kz Z H Z (upd H p o) := ⟨fun _ z => z, fun b u e _ => Same.upd_new h b u e⟩
theorem Sit.ne_new {p : Addr} (t : Sit Z H S) (h : H p = none) : ∀ a ∈ S, a ≠ p := fun a m z => by
  have := t.mu a m
  rw [z, h] at this
  exact this
theorem Sit.new {p : Addr} {o : HO} (t : Sit Z H S) (h : H p = none) (ho : Own (some o)) : Sit Z (upd H p o) (S ++ [p]) := by
  refine ⟨?_, fun a m z => ?_, fun a m => ?_, fun a z => ?_⟩
  · refine List.nodup_append.mpr ⟨t.nd, by simp, fun a m b hb e => ?_⟩
    exact t.ne_new h a m (e.trans (List.mem_singleton.mp hb))
  · rcases List.mem_append.mp m with m | m
    · exact t.dj a m z
    · rw [List.mem_singleton.mp m] at z
      obtain ⟨o, e⟩ := t.zh _ z
      rw [h] at e; cases e
  · rcases List.mem_append.mp m with m | m
    · rw [upd_ne (t.ne_new h a m)]; exact t.mu a m
    · rw [List.mem_singleton.mp m, upd_same]; exact ho
  · obtain ⟨u, e⟩ := t.zh a z
    exact ⟨u, Same.upd_new h a u e⟩
theorem Sit.same {p : Addr} {o : HO} (t : Sit Z H S) (h : H p = none) : Sit Z (upd H p o) S :=
  ⟨t.nd, t.dj, fun a m => by rw [upd_ne (t.ne_new h a m)]; exact t.mu a m, fun a z => let ⟨u, e⟩ := t.zh a z; ⟨u, Same.upd_new h a u e⟩⟩
theorem RoE.new {p : Addr} {o : HO} {δ : Env} {σ : St} (r : RoE C Z H δ σ S) (t : Sit Z H S) (h : H p = none) : RoE C Z (upd H p o) δ σ S :=
  r.keep (Kz.new h) fun a m => upd_ne (t.ne_new h a m)
/-! ### an owned object changes -/
theorem Step.put {p : Addr} {o : HO} (hp : p ∈ S) : Step Z H S Z (upd H p o) S :=
  ⟨fun b u e q => by rw [upd_ne fun z => q (by rw [z]; exact hp)]; exact e, fun _ z => z, fun _ z => .inl z, fun _ m => .inl m⟩
theorem Kz.put {p : Addr} {o : HO} (t : Sit Z H S) (hp : p ∈ S) : Kz Z H Z (upd H p o) := (Step.put (o := o) hp).kz t
theorem Sit.put {p : Addr} {o : HO} (t : Sit Z H S) (ho : Own (some o)) : Sit Z (upd H p o) S := by
  refine ⟨t.nd, t.dj, fun a m => ?_, fun a z => ?_⟩
  · by_cases e : a = p
    · rw [e, upd_same]; exact ho
    · rw [upd_ne e]; exact t.mu a m
  · obtain ⟨u, e⟩ := t.zh a z
    by_cases q : a = p
    · exact ⟨o, by rw [q, upd_same]⟩
    · exact ⟨u, by rw [upd_ne q]; exact e⟩
end
end VS

end

section
set_option Elab.async false
set_option linter.all false
set_option maxRecDepth 100000
set_option maxHeartbeats 2000000
/-! VS2: the monad, the judgements, names, arguments. -/
namespace VS
open PySem L2

inductive Res (α : Type) where
  | ok (a : α) (δ : Env)
  | ex (c : String) (fs : List (Str × D))
  | bad
abbrev M (α : Type) := Env → Res α
def Res.P {α : Type} (r : Res α) (k : α → Env → Prop) (e : String → List (Str × D) → Prop) : Prop :=
  match r with
  | .ok a δ => k a δ
  | .ex c fs => e c fs
  | .bad => False
def mPure {α : Type} (a : α) : M α := fun δ => .ok a δ
def mBind {α β : Type} (x : M α) (f : α → M β) : M β := fun δ =>
  match x δ with
  | .ok a δ' => f a δ'
  | .ex c fs => .ex c fs
  | .bad => .bad
def mBad {α : Type} : M α := fun _ => .bad
/-- a partial function of values -/
def mOf {α : Type} (o : Option α) : M α := match o with
  | some a => mPure a
  | none => mBad
theorem Res.P.imp {α : Type} {r : Res α} {k k' : α → Env → Prop} {e e' : String → List (Str × D) → Prop} (h : r.P k e) (hk : ∀ a δ, r = .ok a δ → k a δ → k' a δ) (he : ∀ c fs, e c fs → e' c fs) : r.P k' e' := by
  cases r with
  | ok a δ => exact hk a δ rfl h
  | ex c fs => exact he c fs h
  | bad => exact h
theorem P_bind {α β : Type} {x : M α} {f : α → M β} {δ : Env} {k : β → Env → Prop} {e : String → List (Str × D) → Prop} (h : (mBind x f δ).P k e) : (x δ).P (fun a δ' => (f a δ').P k e) e := by
  unfold mBind at h
  cases q : x δ with
  | ok a δ' => rw [q] at h; exact h
  | ex c fs => rw [q] at h; exact h
  | bad => rw [q] at h; exact h
theorem P_of {α : Type} {o : Option α} {δ : Env} {k : α → Env → Prop} {e : String → List (Str × D) → Prop} (h : (mOf o δ).P k e) : ∃ a, o = some a ∧ k a δ := by
  cases o with
  | none => exact h.elim
  | some a => exact ⟨a, rfl, h⟩

/-- a moment: what is frozen, the heap, what the slots own, the slots -/
structure Sn where
  Z : Addr → Prop
  H : Hp
  S : List Addr
  δ : Env
structure Sn.Ok (C : Ct) (σ : St) (n : Sn) : Prop where
  en : RoE C n.Z n.H n.δ σ n.S
  si : Sit n.Z n.H n.S
/-- from one moment to a later one, Sv owned beside; pu: nothing that was there has changed -/
structure Tr (pu : Bool) (n n' : Sn) (Sv : List Addr) : Prop where
  st : Step n.Z n.H n.S n'.Z n'.H (n'.S ++ Sv)
  si : Sit n'.Z n'.H (n'.S ++ Sv)
  pr : pu = true → n'.δ = n.δ ∧ n'.S = n.S ∧ ∀ a ∈ n.S, n'.H a = n.H a
/-- an error of the text's own class c, with its fields -/
def ExAt (C : Ct) (Z : Addr → Prop) (H : Hp) (cls : Value) (dd : Option Addr) (c : String) (fs : List (Str × D)) : Prop :=
  cls = .ref (C.ca c) ∧ ((fs = [] ∧ dd = none) ∨ ∃ d fv, dd = some d ∧ H d = some (.xd fv) ∧ fs.map (·.1) = fv.map (·.1) ∧ RzL C Z H (fv.map (·.2)) (fs.map (·.2)))
def ExP (C : Ct) (E : XK) (n : Sn) (c : String) (fs : List (Str × D)) : Prop :=
  ∀ Z' H' cls dd, Step n.Z n.H n.S Z' H' [] → (∀ a, Z' a → ∃ o, H' a = some o) → ExAt C Z' H' cls dd c fs → E cls dd H'

section
variable {C : Ct} {E : XK} {σ : St} {n n1 n2 : Sn} {p q : Bool} {Sv Sw S0 : List Addr} {t : Ty} {v : V} {d : D}
theorem Tr.kz (x : Tr p n n1 Sv) (k : n.Ok C σ) : Kz n.Z n.H n1.Z n1.H := x.st.kz k.si
theorem Tr.pu (x : Tr p n n1 Sv) (h : q = true → p = true) : Tr q n n1 Sv := ⟨x.st, x.si, fun z => x.pr (h z)⟩
theorem Tr.imp (x : Tr p n n1 Sv) : Tr false n n1 Sv := ⟨x.st, x.si, fun z => nomatch z⟩
theorem Tr.ok (x : Tr p n n1 Sv) (e : RoE C n1.Z n1.H n1.δ σ n1.S) : n1.Ok C σ := ⟨e, x.si.sub (List.sublist_append_left _ _)⟩
/-- what is owned beside stands while the slots' own goes on -/
theorem Tr.away (x : Tr p n n1 Sv) (y : Tr q n1 n2 Sw) : ∀ a ∈ Sv, a ∉ n2.S ++ Sw ∧ ¬ n2.Z a ∧ n2.H a = n1.H a ∧ a ∉ n1.S := fun a m => by
  have nS : a ∉ n1.S := fun z => (List.nodup_append.mp x.si.nd).2.2 a z a m rfl
  have ow := x.si.mu a (List.mem_append_right _ m)
  have nH : n1.H a ≠ none := fun z => by rw [z] at ow; exact ow
  refine ⟨fun z => ?_, fun z => ?_, ?_, nS⟩
  · rcases y.st.sn a z with z | z
    · exact nS z
    · exact nH z
  · rcases y.st.zn a z with z | z | z
    · exact x.si.dj a (List.mem_append_right _ m) z
    · exact nS z
    · exact nH z
  · cases e : n1.H a with
    | none => exact absurd e nH
    | some o => exact y.st.keep a o e nS
theorem Tr.two (x : Tr p n n1 Sv) (y : Tr q n1 n2 Sw) : Tr (p && q) n n2 (Sv ++ Sw) := by
  have aw := x.away y
  refine ⟨?_, ?_, fun z => ?_⟩
  · refine (x.st.trans (y.st.frame (F := Sv))).sub fun a m => ?_
    rcases List.mem_append.mp m with m | m
    · exact List.mem_append_left _ (List.mem_append_left _ m)
    · rcases List.mem_append.mp m with m | m
      · exact List.mem_append_right _ m
      · exact List.mem_append_left _ (List.mem_append_right _ m)
  · have nd2 := y.si.nd
    refine ⟨?_, fun a m => ?_, fun a m => ?_, y.si.zh⟩
    · rw [List.nodup_append] at nd2 ⊢
      refine ⟨nd2.1, ?_, fun a m b hb e => ?_⟩
      · rw [List.nodup_append]
        exact ⟨(List.nodup_append.mp x.si.nd).2.1, nd2.2.1, fun a m b hb e => (aw a m).1 (List.mem_append_right _ (e ▸ hb))⟩
      · subst e
        rcases List.mem_append.mp hb with hb | hb
        · exact (aw a hb).1 (List.mem_append_left _ m)
        · exact nd2.2.2 a m a hb rfl
    · rcases List.mem_append.mp m with m | m
      · exact y.si.dj a (List.mem_append_left _ m)
      · rcases List.mem_append.mp m with m | m
        · exact (aw a m).2.1
        · exact y.si.dj a (List.mem_append_right _ m)
    · rcases List.mem_append.mp m with m | m
      · exact y.si.mu a (List.mem_append_left _ m)
      · rcases List.mem_append.mp m with m | m
        · rw [(aw a m).2.2.1]; exact x.si.mu a (List.mem_append_right _ m)
        · exact y.si.mu a (List.mem_append_right _ m)
  · rw [Bool.and_eq_true] at z
    obtain ⟨a1, a2, a3⟩ := x.pr z.1
    obtain ⟨b1, b2, b3⟩ := y.pr z.2
    exact ⟨b1.trans a1, b2.trans a2, fun a m => (b3 a (by rw [a2]; exact m)).trans (a3 a m)⟩
/-- nothing beside is kept -/
theorem Tr.drop (x : Tr p n n1 Sv) : Tr p n n1 [] := ⟨x.st.sub fun a m => by
    rw [List.append_nil] at m; exact List.mem_append_left _ m, by rw [List.append_nil]; exact x.si.sub (List.sublist_append_left _ _), x.pr⟩
theorem Tr.seq (x : Tr p n n1 Sv) (y : Tr q n1 n2 Sw) : Tr (p && q) n n2 Sw := by
  have z := x.drop.two y
  rwa [List.nil_append] at z
theorem Tr.refl (k : n.Ok C σ) : Tr p n n [] := ⟨by rw [List.append_nil]; exact Step.refl, by rw [List.append_nil]; exact k.si, fun _ => ⟨rfl, rfl, fun _ _ => rfl⟩⟩
theorem ExP.tr (x : Tr p n n1 Sv) {c : String} {fs : List (Str × D)} (h : ExP C E n c fs) : ExP C E n1 c fs := fun Z' H' cls dd s z e =>
  h Z' H' cls dd ((x.st.trans s.frame).sub fun a m => absurd m (by simp)) z e
/-- a value owned beside stands while the slots' own goes on -/
theorem Tr.ro (x : Tr p n n1 Sv) (y : Tr q n1 n2 Sw) (k : n1.Ok C σ) (h : Ro C n1.Z n1.H t v d Sv) : Ro C n2.Z n2.H t v d Sv :=
  h.keep (y.kz k) fun a m => (x.away y a m).2.2.1
theorem Tr.roL (x : Tr p n n1 Sv) (y : Tr q n1 n2 Sw) (k : n1.Ok C σ) {ts : List Ty} {vs : List V} {ds : List D} (h : RoL C n1.Z n1.H ts vs ds Sv) : RoL C n2.Z n2.H ts vs ds Sv :=
  h.keep (y.kz k) fun a m => (x.away y a m).2.2.1
/-- a thing looked at stands while nothing changes -/
theorem Tr.look (x : Tr p n n1 Sv) (y : Tr true n1 n2 Sw) (k : n1.Ok C σ) (h : Ro C n1.Z n1.H t v d S0) (hs : ∀ a ∈ S0, a ∈ n1.S ++ Sv) : Ro C n2.Z n2.H t v d S0 ∧ ∀ a ∈ S0, a ∈ n2.S ++ (Sv ++ Sw) := by
  obtain ⟨b1, b2, b3⟩ := y.pr rfl
  refine ⟨h.keep (y.kz k) fun a m => ?_, fun a m => ?_⟩
  · rcases List.mem_append.mp (hs a m) with q | q
    · exact b3 a q
    · exact (x.away y a q).2.2.1
  · rcases List.mem_append.mp (hs a m) with q | q
    · exact List.mem_append_left _ (by rw [b2]; exact q)
    · exact List.mem_append_right _ (List.mem_append_left _ q)
end

/-! ### the judgements -/
section
variable (C : Ct) (E : St → XK) (pu : Bool)
/-- an expression: its value goes to who asked -/
def SimV (m : M (Ty × D)) (t : TE) : Prop := ∀ (σ : St) (n : Sn) (Q : VK), n.Ok C σ →
  (m n.δ).P (fun a δ' => ∀ v n' Sv, n'.δ = δ' → n'.Ok C σ → Tr pu n n' Sv → Ro C n'.Z n'.H a.1 v a.2 Sv → Q v n'.H) (ExP C (E σ) n) → t σ n.H Q
/-- an expression whose value is looked at alone -/
def SimK (m : M (Ty × D)) (t : TE) : Prop := ∀ (σ : St) (n : Sn) (Q : VK), n.Ok C σ →
  (m n.δ).P (fun a δ' => ∀ v n' Sv S0, n'.δ = δ' → n'.Ok C σ → Tr pu n n' Sv → Ro C n'.Z n'.H a.1 v a.2 S0 → (∀ x ∈ S0, x ∈ n'.S ++ Sv) → Q v n'.H) (ExP C (E σ) n) → t σ n.H Q
/-- arguments -/
def SimA (m : M (List (Ty × D))) (t : TA) : Prop := ∀ (σ : St) (n : Sn) (Q : List V → Hp → Prop), n.Ok C σ →
  (m n.δ).P (fun a δ' => ∀ vs n' Sv, n'.δ = δ' → n'.Ok C σ → Tr pu n n' Sv → RoL C n'.Z n'.H (a.map (·.1)) vs (a.map (·.2)) Sv → Q vs n'.H) (ExP C (E σ) n) → t σ n.H Q
/-- a test -/
def SimT (m : M Bool) (t : TT) : Prop := ∀ (σ : St) (n : Sn) (Q : Bool → Hp → Prop), n.Ok C σ →
  (m n.δ).P (fun b δ' => ∀ n', n'.δ = δ' → n'.Ok C σ → Tr pu n n' [] → Q b n'.H) (ExP C (E σ) n) → t σ n.H Q
end

section
variable {C : Ct} {E : St → XK} {p q : Bool} {m m1 m2 : M (Ty × D)} {t t1 t2 : TE}
theorem SimV.k (h : SimV C E p m t) : SimK C E p m t := fun σ n Q k hp => h σ n Q k (hp.imp (fun a δ' _ f v n' Sv e k' x r => f v n' Sv Sv e k' x r fun y m => List.mem_append_right _ m) fun _ _ z => z)
theorem SimV.pu (h : SimV C E p m t) (hq : q = true → p = true) : SimV C E q m t := fun σ n Q k hp => h σ n Q k (hp.imp (fun a δ' _ f v n' Sv e k' x r => f v n' Sv e k' (x.pu hq) r) fun _ _ z => z)

/-! ### slots -/
theorem RoE.take {Z : Addr → Prop} {H : Hp} : ∀ {i : Nat} {δ : Env} {σ : St} {S : List Addr} {t : Ty} {d : D}, RoE C Z H δ σ S → δ[i]? = some (some (t, d)) →
    ∃ v S1 S2, σ[i]? = some (some v) ∧ Ro C Z H t v d S1 ∧ S.Perm (S1 ++ S2) ∧ RoE C Z H (δ.set i none) σ S2
  | _, _, _, _, _, _, .nil, e => by simp at e
  | 0, _, _, _, _, _, .em r, e => by simp at e
  | 0, _, _, _, _, _, .fl h r, e => by
    simp at e
    obtain ⟨rfl, rfl⟩ := e
    exact ⟨_, _, _, rfl, h, List.Perm.refl _, .em r⟩
  | i + 1, _, _, _, _, _, .em r, e => by
    obtain ⟨v, S1, S2, e1, h, p, r'⟩ := RoE.take (i := i) r (by simpa using e)
    exact ⟨v, S1, S2, by simpa using e1, h, p, .em r'⟩
  | i + 1, _, _, _, _, _, .fl (S1 := T1) h r, e => by
    obtain ⟨v, S1, S2, e1, h', p, r'⟩ := RoE.take (i := i) r (by simpa using e)
    refine ⟨v, S1, T1 ++ S2, by simpa using e1, h', ?_, .fl h r'⟩
    exact ((List.Perm.append_left T1 p).trans (by simpa using List.perm_append_comm_assoc T1 S1 S2))
theorem RoE.put {Z : Addr → Prop} {H : Hp} : ∀ {i : Nat} {δ : Env} {σ : St} {S1 S2 : List Addr} {t : Ty} {d : D} {v : V}, RoE C Z H δ σ S2 → δ[i]? = some none → σ[i]? = some (some v) → Ro C Z H t v d S1 →
    ∃ S, S.Perm (S1 ++ S2) ∧ RoE C Z H (δ.set i (some (t, d))) σ S
  | _, _, _, _, _, _, _, _, .nil, e, _, _ => by simp at e
  | 0, _, _, _, _, _, _, _, .fl h r, e, _, _ => by simp at e
  | 0, _, _, _, _, _, _, _, .em r, e, e1, h => by
    simp at e1
    subst e1
    exact ⟨_, List.Perm.refl _, .fl h r⟩
  | i + 1, _, _, S1, _, _, _, _, .em r, e, e1, h => by
    obtain ⟨S, p, r'⟩ := RoE.put (i := i) r (by simpa using e) (by simpa using e1) h
    exact ⟨S, p, .em r'⟩
  | i + 1, _, _, S1, _, _, _, _, .fl (S1 := T1) (S := T2) h0 r, e, e1, h => by
    obtain ⟨S, p, r'⟩ := RoE.put (i := i) r (by simpa using e) (by simpa using e1) h
    refine ⟨T1 ++ S, ?_, .fl h0 r'⟩
    exact ((List.Perm.append_left T1 p).trans (by simpa using List.perm_append_comm_assoc T1 S1 T2))
theorem RoE.len {Z : Addr → Prop} {H : Hp} : ∀ {δ : Env} {σ : St} {S : List Addr}, RoE C Z H δ σ S → δ.length = σ.length
  | _, _, _, .nil => rfl
  | _, _, _, .em r => by simp [RoE.len r]
  | _, _, _, .fl _ r => by simp [RoE.len r]
/-- a new value in slot i -/
theorem RoE.store {Z : Addr → Prop} {H : Hp} : ∀ {i : Nat} {δ : Env} {σ : St} {S : List Addr} {S1 : List Addr} {t : Ty} {d : D} {v : V}, RoE C Z H δ σ S → i < δ.length → Ro C Z H t v d S1 →
    ∃ S2 S', S2.Sublist S ∧ S'.Perm (S1 ++ S2) ∧ RoE C Z H (δ.set i (some (t, d))) (σ.set i (some v)) S'
  | _, _, _, _, _, _, _, _, .nil, e, _ => by simp at e
  | 0, _, _, _, _, _, _, _, .em r, _, h => ⟨_, _, List.Sublist.refl _, List.Perm.refl _, .fl h r⟩
  | 0, _, _, _, _, _, _, _, .fl h0 r, _, h => ⟨_, _, List.sublist_append_right _ _, List.Perm.refl _, .fl h r⟩
  | i + 1, _, _, _, _, _, _, _, .em r, e, h => by
    obtain ⟨S2, S', s, p, r'⟩ := RoE.store (i := i) r (by simpa using e) h
    exact ⟨S2, S', s, p, .em r'⟩
  | i + 1, _, _, _, S1, _, _, _, .fl (S1 := T1) h0 r, e, h => by
    obtain ⟨S2, S', s, p, r'⟩ := RoE.store (i := i) r (by simpa using e) h
    refine ⟨T1 ++ S2, T1 ++ S', s.append_left T1, ?_, .fl h0 r'⟩
    exact ((List.Perm.append_left T1 p).trans (by simpa using List.perm_append_comm_assoc T1 S1 S2))
end

/-! ### names -/
/-- a slot's value, nobody's own -/
def mVar (i : Nat) : M (Ty × D) := fun δ => match δ[i]? with
  | some (some (.sh, d)) => .ok (.sh, d) δ
  | _ => .bad
/-- a slot, looked at -/
def mGet (i : Nat) : M (Ty × D) := fun δ => match δ[i]? with
  | some (some a) => .ok a δ
  | _ => .bad
/-- a slot's value, given away: the slot is empty then -/
def mTake (i : Nat) : M (Ty × D) := fun δ => match δ[i]? with
  | some (some a) => .ok a (δ.set i none)
  | _ => .bad
/-- a slot's value, frozen from now on -/
def mFrz (i : Nat) : M (Ty × D) := fun δ => match δ[i]? with
  | some (some (_, d)) => .ok (.sh, d) (δ.set i (some (.sh, d)))
  | _ => .bad
def mC (d : D) : M (Ty × D) := mPure (.sh, d)
inductive Sc : D → V → Prop
  | non : Sc .non .non
  | bl (b : Bool) : Sc (.bl b) (.bl b)
  | int (i : Int) : Sc (.int i) (.int i)
  | str (x : Str) : Sc (.str x) (.str x)
section
variable {C : Ct} {E : St → XK} {p q : Bool}
theorem Sc.rz {Z : Addr → Prop} {H : Hp} {d : D} {v : V} (h : Sc d v) : Rz C Z H v d := by
  cases h
  · exact .non
  · exact .bl _
  · exact .int _
  · exact .str _
theorem simC {d : D} {v : V} (h : Sc d v) : SimV C E true (mC d) (tC v) := fun σ n Q k hp =>
  hp v n [] rfl k (Tr.refl k) (.sh h.rz)
theorem simInt (i : Int) : SimV C E true (mC (.int i)) (tC (.int i)) := simC (.int i)
theorem simStr (x : Str) : SimV C E true (mC (.str x)) (tC (.str x)) := simC (.str x)
theorem simBl (b : Bool) : SimV C E true (mC (.bl b)) (tC (.bl b)) := simC (.bl b)
theorem simNon : SimV C E true (mC .non) (tC .non) := simC .non
theorem ro_sh {Z : Addr → Prop} {H : Hp} {v : V} {d : D} {S : List Addr} (h : Ro C Z H .sh v d S) : S = [] ∧ Rz C Z H v d := by
  cases h with
  | sh h => exact ⟨rfl, h⟩
theorem simVar (i : Nat) : SimV C E true (mVar i) (tVar i) := fun σ n Q k hp => by
  unfold mVar at hp
  cases e : n.δ[i]? with
  | none => rw [e] at hp; exact hp.elim
  | some o =>
    rw [e] at hp
    match o, e, hp with
    | none, _, hp => exact hp.elim
    | some (.sh, d), e, hp =>
      obtain ⟨v, S1, S2, e1, r, pm, r2⟩ := k.en.take e
      obtain ⟨rfl, rz⟩ := ro_sh r
      exact ⟨v, e1, hp v n [] rfl k (Tr.refl k) (.sh rz)⟩
    | some (.lst _, d), _, hp => exact hp.elim
    | some (.hls _, d), _, hp => exact hp.elim
    | some (.dic _, d), _, hp => exact hp.elim
    | some (.ins _, d), _, hp => exact hp.elim
theorem simGet (i : Nat) : SimK C E true (mGet i) (tVar i) := fun σ n Q k hp => by
  unfold mGet at hp
  cases e : n.δ[i]? with
  | none => rw [e] at hp; exact hp.elim
  | some o =>
    rw [e] at hp
    cases o with
    | none => exact hp.elim
    | some a =>
      obtain ⟨v, S1, S2, e1, r, pm, r2⟩ := k.en.take e
      exact ⟨v, e1, hp v n [] S1 rfl k (Tr.refl k) r fun x m => List.mem_append_left _ (pm.mem_iff.mpr (List.mem_append_left _ m))⟩
/-- a moment's slots with slot i emptied -/
def Sn.with (n : Sn) (δ : Env) (S : List Addr) : Sn := { n with δ := δ, S := S }
theorem simTake (i : Nat) : SimV C E false (mTake i) (tVar i) := fun σ n Q k hp => by
  unfold mTake at hp
  cases e : n.δ[i]? with
  | none => rw [e] at hp; exact hp.elim
  | some o =>
    rw [e] at hp
    cases o with
    | none => exact hp.elim
    | some a =>
      obtain ⟨v, S1, S2, e1, r, pm, r2⟩ := k.en.take e
      have pm' : n.S.Perm (S2 ++ S1) := pm.trans List.perm_append_comm
      have si2 : Sit n.Z n.H (S2 ++ S1) := k.si.perm pm'
      refine ⟨v, e1, hp v ⟨n.Z, n.H, S2, n.δ.set i none⟩ S1 rfl ⟨r2, si2.sub (List.sublist_append_left _ _)⟩ ⟨?_, si2, fun z => nomatch z⟩ r⟩
      exact Step.refl.sub fun a m => pm'.mem_iff.mpr m
theorem simFrz (i : Nat) : SimV C E false (mFrz i) (tVar i) := fun σ n Q k hp => by
  unfold mFrz at hp
  cases e : n.δ[i]? with
  | none => rw [e] at hp; exact hp.elim
  | some o =>
    rw [e] at hp
    cases o with
    | none => exact hp.elim
    | some a =>
      obtain ⟨t, d⟩ := a
      obtain ⟨v, S1, S2, e1, r, pm, r2⟩ := k.en.take e
      have pm' : n.S.Perm (S2 ++ S1) := pm.trans List.perm_append_comm
      have si2 : Sit n.Z n.H (S2 ++ S1) := k.si.perm pm'
      have kz : Kz n.Z n.H (zAdd n.Z S1) n.H := Kz.add
      have fz := r.frozen
      have hi : i < n.δ.length := by
        rcases Nat.lt_or_ge i n.δ.length with z | z
        · exact z
        · rw [List.getElem?_eq_none z] at e; cases e
      obtain ⟨S, ps, r3⟩ := (r2.keep kz fun _ _ => rfl).put (i := i) (by simp [hi]) e1 (Ro.sh fz)
      rw [List.nil_append] at ps
      rw [List.set_set] at r3
      have si3 : Sit (zAdd n.Z S1) n.H S := si2.freeze.perm ps.symm
      have st : Step n.Z n.H n.S (zAdd n.Z S1) n.H S2 := ((Step.refl (S := n.S)).sub fun a m => pm'.mem_iff.mpr m).freeze
      refine ⟨v, e1, hp v ⟨zAdd n.Z S1, n.H, S, n.δ.set i (some (.sh, d))⟩ [] rfl ⟨r3, si3⟩ ⟨?_, by rw [List.append_nil]; exact si3, fun z => nomatch z⟩ (.sh fz)⟩
      refine st.sub fun a m => ?_
      rw [List.append_nil] at m
      exact ps.mem_iff.mp m

/-! ### arguments -/
def mNil : M (List (Ty × D)) := mPure []
def mCons (a : M (Ty × D)) (b : M (List (Ty × D))) : M (List (Ty × D)) := mBind a fun x => mBind b fun y => mPure (x :: y)
theorem simNil : SimA C E true mNil tNil := fun σ n Q k hp => hp [] n [] rfl k (Tr.refl k) .nil
theorem simCons {a : M (Ty × D)} {b : M (List (Ty × D))} {ta : TE} {tb : TA} (ha : SimV C E p a ta) (hb : SimA C E q b tb) : SimA C E (p && q) (mCons a b) (tCons ta tb) := fun σ n Q k hp => by
  refine ha σ n _ k ((P_bind hp).imp (fun x δ1 _ h v n1 Sv e1 k1 x1 r1 => ?_) fun _ _ z => z)
  subst e1
  refine hb σ n1 _ k1 ((P_bind h).imp (fun y δ2 _ h2 vs n2 Sw e2 k2 x2 r2 => ?_) fun _ _ z => z.tr x1)
  exact h2 (v :: vs) n2 (Sv ++ Sw) e2 k2 (x1.two x2) (.cons (x1.ro x2 k1 r1) r2)
end
end VS

end

section
set_option Elab.async false
set_option linter.all false
set_option maxRecDepth 100000
set_option maxHeartbeats 2000000
/-! VS3: statements. -/
namespace VS
open PySem L2

inductive Fl where
  | nx | bk | ct | rt (t : Ty) (d : D)
/-- the slots that may have been stored to -/
def Wr (wr : List Nat) (σ σ' : St) : Prop := σ'.length = σ.length ∧ ∀ i, i ∉ wr → σ'[i]? = σ[i]?
theorem Wr.refl {wr : List Nat} {σ : St} : Wr wr σ σ := ⟨rfl, fun _ _ => rfl⟩
theorem Wr.trans {a b : List Nat} {σ σ1 σ2 : St} (x : Wr a σ σ1) (y : Wr b σ1 σ2) : Wr (a ++ b) σ σ2 := ⟨y.1.trans x.1, fun i h =>
  (y.2 i fun z => h (List.mem_append_right _ z)).trans (x.2 i fun z => h (List.mem_append_left _ z))⟩
theorem Wr.wide {a b : List Nat} {σ σ1 : St} (x : Wr a σ σ1) (h : ∀ i ∈ a, i ∈ b) : Wr b σ σ1 := ⟨x.1, fun i z => x.2 i fun y => z (h i y)⟩
/-- with the first steps' slots among them -/
theorem Wr.more {a b : List Nat} {σ σ1 σ2 : St} (x : Wr a σ σ1) (y : Wr b σ1 σ2) (h : ∀ i ∈ b, i ∈ a) : Wr a σ σ2 := (x.trans y).wide fun i m => (List.mem_append.mp m).elim id (h i)

def PostF (C : Ct) (wr : List Nat) (σ : St) (n : Sn) (Dn : Ends) : Fl → Env → Prop
  | .nx, δ' => ∀ σ' n', n'.δ = δ' → n'.Ok C σ' → Tr false n n' [] → Wr wr σ σ' → Dn.nx σ' n'.H
  | .bk, δ' => ∀ σ' n', n'.δ = δ' → n'.Ok C σ' → Tr false n n' [] → Wr wr σ σ' → Dn.bk σ' n'.H
  | .ct, δ' => ∀ σ' n', n'.δ = δ' → n'.Ok C σ' → Tr false n n' [] → Wr wr σ σ' → Dn.ct σ' n'.H
  | .rt t d, δ' => ∀ v σ' n' Sv, n'.δ = δ' → n'.Ok C σ' → Tr false n n' Sv → Ro C n'.Z n'.H t v d Sv → Wr wr σ σ' → Dn.rt v n'.H
/-- an error may come out: at slots that were stored to by wr alone -/
def ExS (C : Ct) (E : St → XK) (wr : List Nat) (σ : St) (n : Sn) (c : String) (fs : List (Str × D)) : Prop := ∀ σ', Wr wr σ σ' → ExP C (E σ') n c fs
def SimS (C : Ct) (E : St → XK) (wr : List Nat) (m : M Fl) (t : TS) : Prop := ∀ (σ : St) (n : Sn) (Dn : Ends), n.Ok C σ → (m n.δ).P (PostF C wr σ n Dn) (ExS C E wr σ n) → t Dn σ n.H

section
variable {C : Ct} {E : St → XK} {wr wr1 wr2 : List Nat} {p q : Bool} {σ σ1 : St} {n n1 : Sn} {Dn : Ends}
theorem Tr.seq' {n2 : Sn} {Sw : List Addr} (x : Tr p n n1 []) (y : Tr q n1 n2 Sw) : Tr false n n2 Sw := (x.seq y).imp
/-- seen from an earlier moment -/
theorem PostF.tr {f : Fl} {δ : Env} (x : Tr p n n1 []) (w : Wr wr1 σ σ1) (h : PostF C (wr1 ++ wr2) σ n Dn f δ) : PostF C wr2 σ1 n1 Dn f δ := by
  cases f with
  | nx => exact fun σ' n' e k y w' => h σ' n' e k (x.seq' y) (w.trans w')
  | bk => exact fun σ' n' e k y w' => h σ' n' e k (x.seq' y) (w.trans w')
  | ct => exact fun σ' n' e k y w' => h σ' n' e k (x.seq' y) (w.trans w')
  | rt t d => exact fun v σ' n' Sv e k y r w' => h v σ' n' Sv e k (x.seq' y) r (w.trans w')
theorem PostF.narrow {f : Fl} {δ : Env} (hw : ∀ i ∈ wr1, i ∈ wr) (h : PostF C wr σ n Dn f δ) : PostF C wr1 σ n Dn f δ := by
  cases f with
  | nx => exact fun σ' n' e k y w' => h σ' n' e k y (w'.wide hw)
  | bk => exact fun σ' n' e k y w' => h σ' n' e k y (w'.wide hw)
  | ct => exact fun σ' n' e k y w' => h σ' n' e k y (w'.wide hw)
  | rt t d => exact fun v σ' n' Sv e k y r w' => h v σ' n' Sv e k y r (w'.wide hw)

theorem ExS.now {c : String} {fs : List (Str × D)} (h : ExS C E wr σ n c fs) : ExP C (E σ) n c fs := h σ Wr.refl
theorem ExS.tr {c : String} {fs : List (Str × D)} (x : Tr p n n1 []) (w : Wr wr1 σ σ1) (h : ExS C E (wr1 ++ wr2) σ n c fs) : ExS C E wr2 σ1 n1 c fs := fun σ' w' => (h σ' (w.trans w')).tr x
theorem ExS.narrow {c : String} {fs : List (Str × D)} (hw : ∀ i ∈ wr1, i ∈ wr) (h : ExS C E wr σ n c fs) : ExS C E wr1 σ n c fs := fun σ' w' => h σ' (w'.wide hw)
/-- at a later moment, with slots stored to that are among wr -/
theorem ExS.at {c : String} {fs : List (Str × D)} (x : Tr p n n1 []) (w : Wr wr σ σ1) (hw : ∀ i ∈ wr1, i ∈ wr) (h : ExS C E wr σ n c fs) : ExS C E wr1 σ1 n1 c fs := fun σ' w' => (h σ' (w.more w' hw)).tr x

def mSkip : M Fl := mPure .nx
theorem simNext : SimS C E [] mSkip tNext := fun σ n Dn k hp => hp σ n rfl k (Tr.refl k) Wr.refl
theorem simBreak : SimS C E [] (mPure .bk) tBreak := fun σ n Dn k hp => hp σ n rfl k (Tr.refl k) Wr.refl
theorem simCont : SimS C E [] (mPure .ct) tCont := fun σ n Dn k hp => hp σ n rfl k (Tr.refl k) Wr.refl
def mSeq (a b : M Fl) : M Fl := mBind a fun f => match f with
  | .nx => b
  | .bk => mPure .bk
  | .ct => mPure .ct
  | .rt t d => mPure (.rt t d)
theorem simSeq {a b : M Fl} {ta tb : TS} (ha : SimS C E wr1 a ta) (hb : SimS C E wr2 b tb) : SimS C E (wr1 ++ wr2) (mSeq a b) (tSeq ta tb) := fun σ n Dn k hp => by
  refine ha σ n { Dn with nx := tb Dn } k ((P_bind hp).imp (fun f δ1 _ h => ?_) fun _ _ z => z.narrow fun i m => List.mem_append_left _ m)
  cases f with
  | nx => exact fun σ1 n1 e1 k1 x1 w1 => hb σ1 n1 Dn k1 (by rw [e1]; exact h.imp (fun f δ2 _ h2 => h2.tr x1 w1) fun _ _ z => z.tr x1 w1)
  | bk => exact fun σ1 n1 e1 k1 x1 w1 => h σ1 n1 e1 k1 x1 (w1.wide fun i m => List.mem_append_left _ m)
  | ct => exact fun σ1 n1 e1 k1 x1 w1 => h σ1 n1 e1 k1 x1 (w1.wide fun i m => List.mem_append_left _ m)
  | rt t d => exact fun v σ1 n1 Sv e1 k1 x1 r w1 => h v σ1 n1 Sv e1 k1 x1 r (w1.wide fun i m => List.mem_append_left _ m)
/-- the value frozen -/
def mFz (m : M (Ty × D)) : M (Ty × D) := mBind m fun a => mPure (.sh, a.2)
theorem simFz {m : M (Ty × D)} {t : TE} (h : SimV C E p m t) : SimV C E p (mFz m) t := fun σ n Q k hp => by
  refine h σ n Q k ((P_bind hp).imp (fun a δ1 _ h v n1 Sv e1 k1 x1 r1 => ?_) fun _ _ z => z)
  have kz : Kz n1.Z n1.H (zAdd n1.Z Sv) n1.H := Kz.add
  refine h v ⟨zAdd n1.Z Sv, n1.H, n1.S, n1.δ⟩ [] e1 ⟨k1.en.keep kz fun _ _ => rfl, x1.si.freeze⟩ ⟨?_, by rw [List.append_nil]; exact x1.si.freeze, x1.pr⟩ (.sh r1.frozen)
  rw [List.append_nil]
  exact x1.st.freeze
/-- stored in slot i -/
def gSt (i : Nat) (a : Ty × D) : Env → Option Env := fun δ => if i < δ.length then some (δ.set i (some a)) else none
def mTo (f : Env → Option Env) : M Fl := fun δ => match f δ with
  | some δ' => .ok .nx δ'
  | none => .bad
def mAsg (f : Ty × D → Env → Option Env) (m : M (Ty × D)) : M Fl := mBind m fun a => mTo (f a)
theorem Wr.set {i : Nat} {σ : St} {x : Option V} : Wr [i] σ (σ.set i x) := ⟨by simp, fun j h => List.getElem?_set_ne (fun e => h (by simp [e]))⟩
/-- a target takes a value -/
def SimG (C : Ct) (wr : List Nat) (f : Ty × D → Env → Option Env) (g : TG) : Prop := ∀ (σ : St) (n : Sn) (v : V) (a : Ty × D) (Sv : List Addr) (Q : St → Hp → Prop) (δ' : Env), n.Ok C σ → Sit n.Z n.H (n.S ++ Sv) → Ro C n.Z n.H a.1 v a.2 Sv →
  f a n.δ = some δ' → (∀ (σ' : St) (n' : Sn), n'.δ = δ' → n'.Ok C σ' → Step n.Z n.H (n.S ++ Sv) n'.Z n'.H n'.S → Wr wr σ σ' → Q σ' n'.H) → g v σ n.H Q
theorem simName (i : Nat) : SimG C [i] (gSt i) (gName i) := fun σ n v a Sv Q δ' k si r hf hp => by
  unfold gSt at hf
  by_cases hi : i < n.δ.length
  · rw [if_pos hi] at hf
    obtain rfl := Option.some.inj hf
    obtain ⟨S2, S', s, pm, r'⟩ := k.en.store hi r
    have sl : (Sv ++ S2).Sublist (Sv ++ n.S) := s.append_left Sv
    have si' : Sit n.Z n.H S' := ((si.perm List.perm_append_comm).sub sl).perm pm.symm
    refine hp _ ⟨n.Z, n.H, S', n.δ.set i (some a)⟩ rfl ⟨r', si'⟩ (Step.refl.sub fun x m => ?_) Wr.set
    exact (List.perm_append_comm (l₁ := Sv) (l₂ := n.S)).mem_iff.mp (sl.subset (pm.mem_iff.mp m))
  · rw [if_neg hi] at hf; cases hf
theorem simAsg {m : M (Ty × D)} {te : TE} {f : Ty × D → Env → Option Env} {g : TG} (hg : SimG C wr f g) (h : SimV C E p m te) : SimS C E wr (mAsg f m) (tAsg te g) := fun σ n Dn k hp => by
  refine h σ n _ k ((P_bind hp).imp (fun a δ1 _ h1 v n1 Sv e1 k1 x1 r1 => ?_) fun _ _ z => z.now)
  subst e1
  unfold mTo at h1
  cases e : f a n1.δ with
  | none => rw [e] at h1; exact h1.elim
  | some δ2 =>
    rw [e] at h1
    exact hg σ n1 v a Sv _ δ2 k1 x1.si r1 e fun σ' n' e2 k2 st w => h1 σ' n' e2 k2 ⟨by rw [List.append_nil]; exact x1.st.trans st, by rw [List.append_nil]; exact k2.si, fun z => nomatch z⟩ w
/-- several targets, for what a tuple or list holds -/
def gsNil : List D → Env → Option Env := fun ds δ => match ds with
  | [] => some δ
  | _ :: _ => none
def gsCons (f : Ty × D → Env → Option Env) (g : List D → Env → Option Env) : List D → Env → Option Env := fun ds δ => match ds with
  | [] => none
  | d :: r => (f (.sh, d) δ).bind (g r)
def SimGs (C : Ct) (wr : List Nat) (f : List D → Env → Option Env) (g : TGs) : Prop := ∀ (σ : St) (n : Sn) (vs : List V) (ds : List D) (Q : St → Hp → Prop) (δ' : Env), n.Ok C σ → RzL C n.Z n.H vs ds →
  f ds n.δ = some δ' → (∀ (σ' : St) (n' : Sn), n'.δ = δ' → n'.Ok C σ' → Step n.Z n.H n.S n'.Z n'.H n'.S → Wr wr σ σ' → Q σ' n'.H) → g vs σ n.H Q
theorem simGsNil : SimGs C [] gsNil gNil := fun σ n vs ds Q δ' k r hf hp => by
  cases r with
  | nil =>
    obtain rfl := Option.some.inj hf
    exact ⟨rfl, hp σ n rfl k Step.refl Wr.refl⟩
  | cons h t => cases hf
theorem simGsCons {f : Ty × D → Env → Option Env} {fs : List D → Env → Option Env} {g : TG} {gs : TGs} (hf : SimG C wr1 f g) (hs : SimGs C wr2 fs gs) : SimGs C (wr1 ++ wr2) (gsCons f fs) (gCons g gs) := fun σ n vs ds Q δ' k r he hp => by
  cases r with
  | nil => cases he
  | @cons v vs d ds h t =>
    have he' : (f (.sh, d) n.δ).bind (fs ds) = some δ' := he
    cases e : f (.sh, d) n.δ with
    | none => rw [e] at he'; cases he'
    | some δ1 =>
      rw [e] at he'
      refine ⟨v, vs, rfl, hf σ n v (.sh, d) [] _ δ1 k (by rw [List.append_nil]; exact k.si) (.sh h) e fun σ1 n1 e1 k1 st1 w1 => ?_⟩
      rw [List.append_nil] at st1
      refine hs σ1 n1 vs ds _ δ' k1 (t.keep (st1.kz k.si)) (by rw [e1]; exact he') fun σ2 n2 e2 k2 st2 w2 => ?_
      exact hp σ2 n2 e2 k2 (st1.trans st2) (w1.trans w2)
/-- a, b, .. = a tuple of m -/
def gTp (m : Nat) (f : List D → Env → Option Env) (a : Ty × D) : Env → Option Env := fun δ => match a with
  | (.sh, .tup ds) => if ds.length = m then f ds δ else none
  | _ => none
theorem RzL.len {Z : Addr → Prop} {H : Hp} : ∀ {vs : List V} {ds : List D}, RzL C Z H vs ds → vs.length = ds.length
  | _, _, .nil => rfl
  | _, _, .cons _ t => by simp [RzL.len t]
/-- a tuple's items -/
theorem rz_tup {Z : Addr → Prop} {H : Hp} {v : V} {ds : List D} (h : Rz C Z H v (.tup ds)) : ∃ a xs, v = .ref a ∧ SqT C.K H a xs ∧ RzL C Z H xs ds := by
  cases h with
  | tup e l => exact ⟨_, _, rfl, .inl (.inl e), l⟩
  | ktup e l => exact ⟨_, _, rfl, .inr e, l⟩
theorem rz_lst {Z : Addr → Prop} {H : Hp} {v : V} {ds : List D} (h : Rz C Z H v (.lst ds)) : ∃ a xs, v = .ref a ∧ SqL C.K H a xs ∧ RzL C Z H xs ds := by
  cases h with
  | lst z e l => exact ⟨_, _, rfl, .inl (.inl e), l⟩
  | frz e l => exact ⟨_, _, rfl, .inl (.inr ⟨_, e⟩), l⟩
  | klst e l => exact ⟨_, _, rfl, .inr e, l⟩
theorem simTp {m : Nat} {f : List D → Env → Option Env} {g : TGs} (hf : SimGs C wr f g) : SimG C wr (gTp m f) (gTup C.K m g) := fun σ n v a Sv Q δ' k si r he hp => by
  obtain ⟨t, d⟩ := a
  unfold gTp at he
  split at he
  · rename_i ds e
    cases e
    by_cases hl : ds.length = m
    · rw [if_pos hl] at he
      obtain ⟨rfl, rz⟩ := ro_sh r
      obtain ⟨b, xs, rfl, sq, l⟩ := rz_tup rz
      rw [List.append_nil] at hp
      exact ⟨b, xs, rfl, sq, l.len.trans hl, hf σ n xs ds Q δ' k l he hp⟩
    · rw [if_neg hl] at he; cases he
  · cases he

/-! ### small statements -/
def mRet (m : M (Ty × D)) : M Fl := mBind m fun a => mPure (.rt a.1 a.2)
theorem simRet {m : M (Ty × D)} {t : TE} (h : SimV C E p m t) : SimS C E [] (mRet m) (tRet t) := fun σ n Dn k hp =>
  h σ n _ k ((P_bind hp).imp (fun a δ1 _ h1 v n1 Sv e1 k1 x1 r1 => h1 v σ n1 Sv e1 k1 x1.imp r1 Wr.refl) fun _ _ z => z.now)
theorem simRetN : SimS C E [] (mPure (.rt .sh .non)) tRetN := fun σ n Dn k hp => hp .non σ n [] rfl k (Tr.refl k) (.sh .non) Wr.refl
def mDrop (m : M (Ty × D)) : M Fl := mBind m fun _ => mPure .nx
theorem simDrop {m : M (Ty × D)} {t : TE} (h : SimV C E p m t) : SimS C E [] (mDrop m) (tDrop t) := fun σ n Dn k hp =>
  h σ n _ k ((P_bind hp).imp (fun a δ1 _ h1 v n1 Sv e1 k1 x1 r1 => h1 σ n1 e1 k1 x1.drop.imp Wr.refl) fun _ _ z => z.now)
def mIfS (c : M Bool) (a b : M Fl) : M Fl := mBind c fun k => match k with
  | true => a
  | false => b
theorem simIfS {c : M Bool} {a b : M Fl} {tc : TT} {ta tb : TS} (hc : SimT C E p c tc) (ha : SimS C E wr1 a ta) (hb : SimS C E wr2 b tb) : SimS C E (wr1 ++ wr2) (mIfS c a b) (tIfS tc ta tb) := fun σ n Dn k hp => by
  refine hc σ n _ k ((P_bind hp).imp (fun b δ1 _ h1 n1 e1 k1 x1 => ?_) fun _ _ z => z.now)
  subst e1
  cases b with
  | true =>
    rw [if_pos rfl]
    exact ha σ n1 Dn k1 (h1.imp (fun f δ _ z => (PostF.tr (wr1 := []) (wr2 := wr1 ++ wr2) x1.drop Wr.refl z).narrow fun i m => List.mem_append_left _ m) fun _ _ z => z.at x1.drop Wr.refl fun i m => List.mem_append_left _ m)
  | false =>
    rw [if_neg Bool.false_ne_true]
    exact hb σ n1 Dn k1 (h1.imp (fun f δ _ z => (PostF.tr (wr1 := []) (wr2 := wr1 ++ wr2) x1.drop Wr.refl z).narrow fun i m => List.mem_append_right _ m) fun _ _ z => z.at x1.drop Wr.refl fun i m => List.mem_append_right _ m)
theorem simNever : SimS C E wr (mBad) tNever := fun σ n Dn k hp => hp.elim

/-! ### for -/
/-- what an iteration hands out: ds, as long as the frozen stands -/
def ItOk (C : Ct) (Z0 : Addr → Prop) (H0 : Hp) (J : It) (ds : List D) : Prop := ∀ Z H, Kz Z0 H0 Z H → ∀ i,
  (∀ d, ds[i]? = some d → J.go i H ∧ ∀ x H', J.yld i H x H' → (∀ b o, H b = some o → H' b = some o) ∧ Rz C Z H' x d) ∧ (ds.length ≤ i → J.stop i H)
def SimI (C : Ct) (E : St → XK) (m : M (List D)) (w : TI) : Prop := ∀ (σ : St) (n : Sn) (R : It → Hp → Prop), n.Ok C σ →
  (m n.δ).P (fun ds δ' => ∀ J n', n'.δ = δ' → n'.Ok C σ → Tr false n n' [] → ItOk C n'.Z n'.H J ds → R J n'.H) (ExP C (E σ) n) → w σ n.H R
def mLoop (f : Ty × D → Env → Option Env) (body : M Fl) : List D → M Fl
  | [] => mPure .nx
  | d :: r => mBind (mTo (f (.sh, d))) fun _ => mBind body fun fl => match fl with
    | .nx => mLoop f body r
    | .ct => mLoop f body r
    | .bk => mPure .nx
    | .rt t d => mPure (.rt t d)
def mFor (mi : M (List D)) (f : Ty × D → Env → Option Env) (body : M Fl) : M Fl := mBind mi (mLoop f body)
theorem Tr.same {H' : Hp} (k : n.Ok C σ) (h : ∀ b o, n.H b = some o → H' b = some o) : Tr false n { n with H := H' } [] := by
  refine ⟨⟨fun b o e _ => h b o e, fun _ z => z, fun _ z => .inl z, fun a m => .inl (by rw [List.append_nil] at m; exact m)⟩, ?_, fun z => nomatch z⟩
  rw [List.append_nil]
  exact ⟨k.si.nd, k.si.dj, fun a m => by
    have z := k.si.mu a m
    cases e : n.H a with
    | none => rw [e] at z; exact z.elim
    | some o => show Own (H' a); rw [h a o e]; rw [e] at z; exact z, fun a z => let ⟨o, e⟩ := k.si.zh a z; ⟨o, h a o e⟩⟩
theorem Sn.Ok.same {H' : Hp} (k : n.Ok C σ) (h : ∀ b o, n.H b = some o → H' b = some o) : Sn.Ok C σ { n with H := H' } := by
  refine ⟨k.en.keep ⟨fun _ z => z, fun a o e _ => h a o e⟩ fun a m => ?_, (Tr.same k h).si.sub (List.sublist_append_left _ _)⟩
  have z := k.si.mu a m
  cases e : n.H a with
  | none => rw [e] at z; exact z.elim
  | some o => exact h a o e
theorem simFor {mi : M (List D)} {f : Ty × D → Env → Option Env} {body : M Fl} {wi : TI} {g : TG} {tb : TS} (hi : SimI C E mi wi) (hg : SimG C wr1 f g) (hb : SimS C E wr2 body tb) : SimS C E (wr1 ++ wr2) (mFor mi f body) (tFor wi g tb) := fun σ n Dn k hp => by
  refine hi σ n _ k ((P_bind hp).imp (fun ds δ1 _ h1 J n1 e1 k1 x1 ok => ?_) fun _ _ z => z.now)
  subst e1
  refine ⟨fun i m σ2 H2 => ∃ n2 : Sn, n2.H = H2 ∧ m = ds.length - i ∧ n2.Ok C σ2 ∧ Tr false n n2 [] ∧ Wr (wr1 ++ wr2) σ σ2 ∧ Kz n1.Z n1.H n2.Z n2.H ∧ (mLoop f body (ds.drop i) n2.δ).P (PostF C (wr1 ++ wr2) σ n Dn) (ExS C E (wr1 ++ wr2) σ n),
    ⟨ds.length, n1, rfl, by simp, k1, x1, Wr.refl, Kz.refl, by simpa using h1⟩, ?_⟩
  rintro i m σ2 H2 ⟨n2, rfl, rfl, k2, x2, w2, kz2, h2⟩
  have io := ok n2.Z n2.H kz2 i
  cases e : ds[i]? with
  | none =>
    have hl := List.getElem?_eq_none_iff.mp e
    rw [List.drop_eq_nil_of_le hl] at h2
    exact .inl ⟨io.2 hl, h2 σ2 n2 rfl k2 x2 w2⟩
  | some d =>
    obtain ⟨go, yl⟩ := io.1 d e
    have hlt : i < ds.length := by
      rcases Nat.lt_or_ge i ds.length with z | z
      · exact z
      · rw [List.getElem?_eq_none z] at e; cases e
    have ed : ds.drop i = d :: ds.drop (i + 1) := by
      rw [List.drop_eq_getElem_cons hlt]
      rw [List.getElem?_eq_getElem hlt] at e
      rw [Option.some.inj e]
    rw [ed] at h2
    refine .inr ⟨go, fun σ3 H3 => ∃ n3 : Sn, n3.H = H3 ∧ n3.Ok C σ3 ∧ Tr false n n3 [] ∧ Wr (wr1 ++ wr2) σ σ3 ∧ Kz n1.Z n1.H n3.Z n3.H ∧ (mLoop f body (ds.drop (i + 1)) n3.δ).P (PostF C (wr1 ++ wr2) σ n Dn) (ExS C E (wr1 ++ wr2) σ n),
      fun σ3 H3 ⟨n3, e3, k3, x3, w3, kz3, h3⟩ => ⟨ds.length - (i + 1), by omega, n3, e3, rfl, k3, x3, w3, kz3, h3⟩, fun x H' y => ?_⟩
    obtain ⟨sm, rx⟩ := yl x H' y
    have k2' := k2.same sm
    have x2' : Tr false n { n2 with H := H' } [] := x2.seq' (Tr.same k2 sm)
    have kz2' : Kz n1.Z n1.H n2.Z H' := kz2.trans ⟨fun _ z => z, fun a o q _ => sm a o q⟩
    have h3 := P_bind h2
    unfold mTo at h3
    cases ef : f (.sh, d) n2.δ with
    | none => rw [ef] at h3; exact h3.elim
    | some δ3 =>
      rw [ef] at h3
      refine hg σ2 { n2 with H := H' } x (.sh, d) [] _ δ3 k2' (by rw [List.append_nil]; exact k2'.si) (.sh rx) ef fun σ3 n3 e3 k3 st3 w3 => ?_
      rw [List.append_nil] at st3
      have x3' : Tr false { n2 with H := H' } n3 [] := ⟨by rw [List.append_nil]; exact st3, by rw [List.append_nil]; exact k3.si, fun z => nomatch z⟩
      have x3 : Tr false n n3 [] := x2'.seq' x3'
      have w3' : Wr (wr1 ++ wr2) σ σ3 := w2.more w3 fun i m => List.mem_append_left _ m
      have kz3 := kz2'.trans (st3.kz k2'.si)
      have h4 := P_bind (show (mBind body _ δ3).P _ _ from h3)
      refine hb σ3 n3 _ k3 (by
        rw [e3]
        refine h4.imp (fun fl δ4 _ h5 => ?_) fun _ _ z => z.at x3 w3' fun i m => List.mem_append_right _ m
        have wm : ∀ {σ4 : St}, Wr wr2 σ3 σ4 → Wr (wr1 ++ wr2) σ σ4 := fun {σ4} w4 => w3'.more w4 fun i m => List.mem_append_right _ m
        cases fl with
        | nx => exact fun σ4 n4 e4 k4 x4 w4 => ⟨n4, rfl, k4, x3.seq' x4, wm w4, kz3.trans (x4.kz k3), by rw [e4]; exact h5⟩
        | ct => exact fun σ4 n4 e4 k4 x4 w4 => ⟨n4, rfl, k4, x3.seq' x4, wm w4, kz3.trans (x4.kz k3), by rw [e4]; exact h5⟩
        | bk => exact fun σ4 n4 e4 k4 x4 w4 => h5 σ4 n4 e4 k4 (x3.seq' x4) (wm w4)
        | rt t d => exact fun v σ4 n4 Sv e4 k4 x4 r4 w4 => h5 v σ4 n4 Sv e4 k4 (x3.seq' x4) r4 (wm w4))
/-! ### while -/
def mWhileN (c : M Bool) (b : M Fl) : Nat → M Fl
  | 0 => mBad
  | k + 1 => mBind c fun t => match t with
    | true => mBind b fun fl => match fl with
      | .nx => mWhileN c b k
      | .ct => mWhileN c b k
      | .bk => mPure .nx
      | .rt t d => mPure (.rt t d)
    | false => mPure .nx
open Classical in
noncomputable def mWhile (c : M Bool) (b : M Fl) : M Fl := fun δ => if h : ∃ k, mWhileN c b k δ ≠ .bad then mWhileN c b (Classical.choose h) δ else .bad
theorem simWhileN {c : M Bool} {b : M Fl} {tc : TT} {tb : TS} {f : Nat} (hc : SimT C E p c tc) (hb : SimS C E wr b tb) : SimS C E wr (mWhileN c b f) (tWhile tc tb) := fun σ n Dn k hp => by
  refine ⟨fun m σ2 H2 => ∃ n2 : Sn, n2.H = H2 ∧ n2.Ok C σ2 ∧ Tr false n n2 [] ∧ Wr wr σ σ2 ∧ (mWhileN c b m n2.δ).P (PostF C wr σ n Dn) (ExS C E wr σ n), ⟨f, n, rfl, k, Tr.refl k, Wr.refl, hp⟩, ?_⟩
  rintro m σ2 H2 ⟨n2, rfl, k2, x2, w2, h2⟩
  cases m with
  | zero => exact h2.elim
  | succ m =>
    refine hc σ2 n2 _ k2 ((P_bind h2).imp (fun t δ3 _ h3 n3 e3 k3 x3 => ?_) fun _ _ z => (z.at (wr1 := wr) x2 w2 fun i m => m).now)
    subst e3
    have x3' : Tr false n n3 [] := x2.seq' x3
    cases t with
    | false =>
      rw [if_neg Bool.false_ne_true]
      exact h3 σ2 n3 rfl k3 x3' w2
    | true =>
      rw [if_pos rfl]
      refine ⟨fun σ4 H4 => ∃ n4 : Sn, n4.H = H4 ∧ n4.Ok C σ4 ∧ Tr false n n4 [] ∧ Wr wr σ σ4 ∧ (mWhileN c b m n4.δ).P (PostF C wr σ n Dn) (ExS C E wr σ n), fun σ4 H4 z => ⟨m, Nat.lt_succ_self m, z⟩, ?_⟩
      refine hb σ2 n3 _ k3 ((P_bind h3).imp (fun fl δ4 _ h5 => ?_) fun _ _ z => z.at x3' w2 fun i m => m)
      have wm : ∀ {σ4 : St}, Wr wr σ2 σ4 → Wr wr σ σ4 := fun {σ4} w4 => w2.more w4 fun i m => m
      cases fl with
      | nx => exact fun σ4 n4 e4 k4 x4 w4 => ⟨n4, rfl, k4, x3'.seq' x4, wm w4, by rw [e4]; exact h5⟩
      | ct => exact fun σ4 n4 e4 k4 x4 w4 => ⟨n4, rfl, k4, x3'.seq' x4, wm w4, by rw [e4]; exact h5⟩
      | bk => exact fun σ4 n4 e4 k4 x4 w4 => h5 σ4 n4 e4 k4 (x3'.seq' x4) (wm w4)
      | rt t d => exact fun v σ4 n4 Sv e4 k4 x4 r4 w4 => h5 v σ4 n4 Sv e4 k4 (x3'.seq' x4) r4 (wm w4)
theorem simWhile {c : M Bool} {b : M Fl} {tc : TT} {tb : TS} (hc : SimT C E p c tc) (hb : SimS C E wr b tb) : SimS C E wr (mWhile c b) (tWhile tc tb) := fun σ n Dn k hp => by
  unfold mWhile at hp
  split at hp
  · exact simWhileN hc hb σ n Dn k hp
  · exact hp.elim
theorem whileN_up {c : M Bool} {b : M Fl} : ∀ {k : Nat} {δ : Env}, mWhileN c b k δ ≠ .bad → mWhileN c b (k + 1) δ = mWhileN c b k δ := by
  intro k
  induction k with
  | zero => intro δ h; exact absurd rfl h
  | succ k ih =>
    intro δ h
    show mBind c _ δ = mBind c _ δ
    have h' : mBind c (fun t => match t with
      | true => mBind b fun fl => match fl with
        | .nx => mWhileN c b k
        | .ct => mWhileN c b k
        | .bk => mPure .nx
        | .rt t d => mPure (.rt t d)
      | false => mPure .nx) δ ≠ .bad := h
    unfold mBind at h' ⊢
    cases e : c δ with
    | bad => rfl
    | ex c fs => rfl
    | ok t δ1 =>
      rw [e] at h'
      cases t with
      | false => rfl
      | true =>
        dsimp only at h' ⊢
        try unfold mBind at h'
        try unfold mBind
        cases e2 : b δ1 with
        | bad => rfl
        | ex c fs => rfl
        | ok fl δ2 =>
          rw [e2] at h'
          cases fl with
          | nx => exact ih h'
          | ct => exact ih h'
          | bk => rfl
          | rt t d => rfl
theorem whileN_le {c : M Bool} {b : M Fl} {k j : Nat} {δ : Env} (h : mWhileN c b k δ ≠ .bad) : mWhileN c b (k + j) δ = mWhileN c b k δ := by
  induction j with
  | zero => rfl
  | succ j ih => rw [← Nat.add_assoc, whileN_up (by rw [ih]; exact h), ih]
theorem while_of {c : M Bool} {b : M Fl} {k : Nat} {δ : Env} (h : mWhileN c b k δ ≠ .bad) : mWhile c b δ = mWhileN c b k δ := by
  unfold mWhile
  have hx : ∃ k, mWhileN c b k δ ≠ .bad := ⟨k, h⟩
  rw [dif_pos hx]
  have h2 := Classical.choose_spec hx
  rcases Nat.le_total k (Classical.choose hx) with z | z
  · obtain ⟨j, e⟩ := Nat.exists_eq_add_of_le z
    rw [e]; exact whileN_le h
  · obtain ⟨j, e⟩ := Nat.exists_eq_add_of_le z
    have := whileN_le (j := j) h2
    rw [← e] at this
    exact this.symm
end
end VS

end

section
set_option Elab.async false
set_option linter.all false
set_option maxRecDepth 100000
set_option maxHeartbeats 2000000
/-! VS4: defs and calls. -/
namespace VS
open PySem L2

/-- a def as a function of its arguments' contents: its value, and the contents behind the call -/
abbrev FM := List (Ty × D) → Res (Ty × D)
/-- the promise: hands back what f says -/
def spM (C : Ct) (f : FM) : Sp := fun vs H Q E => ∃ (n : Sn) (as : List (Ty × D)), n.H = H ∧ n.δ = as.map some ∧ n.Ok C (vs.map some) ∧
  (f as).P (fun a δ' => ∀ v n' Sv, n'.δ = δ' → n'.Ok C (vs.map some) → Tr false n n' Sv → Ro C n'.Z n'.H a.1 v a.2 Sv → Q v n'.H) (ExP C E n)
/-- of the slots behind a body: the parameters that were not stored to -/
def mask (wr : List Nat) : Nat → Env → Env
  | _, [] => []
  | i, o :: r => (if wr.contains i then none else o) :: mask wr (i + 1) r
/-- a def: N slots, k parameters -/
def mFn (N k : Nat) (wr : List Nat) (b : M Fl) : FM := fun as => if as.length = k then
    match b (as.map some ++ List.replicate (N - k) none) with
    | .ok .nx δ => .ok (.sh, .non) (mask wr 0 (δ.take k))
    | .ok (.rt t d) δ => .ok (t, d) (mask wr 0 (δ.take k))
    | .ok .bk _ => .bad
    | .ok .ct _ => .bad
    | .ex c fs => .ex c fs
    | .bad => .bad
  else .bad

section
variable {C : Ct} {E : St → XK} {wr : List Nat} {p q : Bool} {σ σ1 : St} {n n1 : Sn} {Dn : Ends}
theorem RoE.repl {Z : Addr → Prop} {H : Hp} {δ : Env} {S : List Addr} : ∀ {σ : St} (k : Nat), RoE C Z H δ σ S → RoE C Z H (δ ++ List.replicate k none) (σ ++ List.replicate k none) S := by
  intro σ k h
  induction h with
  | nil =>
    induction k with
    | zero => exact .nil
    | succ k ih => exact .em ih
  | em r ih => exact .em ih
  | fl h r ih => exact .fl h ih
theorem RoE.mask {Z : Addr → Prop} {H : Hp} : ∀ {δ : Env} {σ' : St} {S : List Addr} {vs : List V} (i : Nat), RoE C Z H δ σ' S → (∀ j (v : V), i + j ∉ wr → vs[j]? = some v → σ'[j]? = some (some v)) → vs.length ≤ δ.length →
    ∃ S', S'.Sublist S ∧ RoE C Z H (mask wr i (δ.take vs.length)) (vs.map some) S'
  | _, _, _, [], i, r, _, _ => ⟨[], List.nil_sublist _, by simpa [VS.mask] using RoE.nil⟩
  | [], _, _, v :: vs, i, r, h, hl => by simp at hl
  | o :: δ, _, _, v :: vs, i, r, h, hl => by
    have hl' : vs.length ≤ δ.length := by simpa using hl
    have eq : VS.mask wr i ((o :: δ).take (v :: vs).length) = (if wr.contains i then none else o) :: VS.mask wr (i + 1) (δ.take vs.length) := by
      simp [VS.mask]
    rw [eq]
    cases r with
    | em r =>
      obtain ⟨S', s, r'⟩ := RoE.mask (vs := vs) (i + 1) r (fun j w hj e => by
        have := h (j + 1) w (by rwa [Nat.add_assoc, Nat.add_comm 1 j] at hj) (by simpa using e)
        simpa using this) hl'
      refine ⟨S', s, ?_⟩
      have e0 : (if wr.contains i then none else (none : Option (Ty × D))) = none := by split <;> rfl
      rw [e0]
      exact .em r'
    | @fl t v' d δ σ S1 S0 h0 r =>
      obtain ⟨S', s, r'⟩ := RoE.mask (vs := vs) (i + 1) r (fun j w hj e => by
        have := h (j + 1) w (by rwa [Nat.add_assoc, Nat.add_comm 1 j] at hj) (by simpa using e)
        simpa using this) hl'
      by_cases hi : wr.contains i = true
      · rw [if_pos hi]
        exact ⟨S', s.trans (List.sublist_append_right _ _), .em r'⟩
      · rw [if_neg hi]
        have hn : i + 0 ∉ wr := fun z => hi (by simpa using z)
        have := h 0 v hn rfl
        simp at this
        subst this
        exact ⟨S1 ++ S', s.append_left S1, .fl h0 r'⟩
/-- THE RULE for a def: its body's simulation -/
theorem sim_fn {m : M Fl} {t : TS} {N : List Str} {k : Nat} {vs : List V} {H : Hp} {Q : VK} {E : XK} (hk : k ≤ N.length) (hs : SimS C (fun _ => E) wr m t) (h : spM C (mFn N.length k wr m) vs H Q E) : t { nx := fun _ H' => Q .non H', rt := Q } (L2.start N vs) H := by
  obtain ⟨n, as, rfl, eδ, ok, hp⟩ := h
  unfold mFn at hp
  by_cases hl : as.length = k
  · rw [if_pos hl] at hp
    have lv : vs.length = k := by
      have := ok.en.len
      rw [eδ] at this
      simpa [hl] using this.symm
    have e1 : L2.start N vs = vs.map some ++ List.replicate (N.length - k) none := by
      unfold L2.start; rw [lv]
    have ok1 : Sn.Ok C (L2.start N vs) { n with δ := as.map some ++ List.replicate (N.length - k) none } := by
      rw [e1]
      refine ⟨?_, ok.si⟩
      have := ok.en.repl (N.length - k)
      rwa [eδ] at this
    have hi : ∀ {i : Nat} {v : V}, vs[i]? = some v → (L2.start N vs)[i]? = some (some v) := fun {i v} e => by
      have li : i < vs.length := by
        rcases Nat.lt_or_ge i vs.length with z | z
        · exact z
        · rw [List.getElem?_eq_none z] at e; cases e
      rw [e1, List.getElem?_append_left (by simpa using li), List.getElem?_map, e]
      rfl
    have fin : ∀ {σ' : St} {n' : Sn} {Sv : List Addr}, n'.Ok C σ' → Tr false { n with δ := as.map some ++ List.replicate (N.length - k) none } n' Sv → Wr wr (L2.start N vs) σ' → ∃ n2 : Sn, n2.H = n'.H ∧ n2.Z = n'.Z ∧ n2.δ = mask wr 0 (n'.δ.take k) ∧ n2.Ok C (vs.map some) ∧ Tr false n n2 Sv := by
      intro σ' n' Sv k' x w
      have hln : vs.length ≤ n'.δ.length := by
        have h1 := k'.en.len
        have h2 := w.1
        rw [e1] at h2
        simp at h2
        omega
      obtain ⟨S', s, r'⟩ := k'.en.mask (wr := wr) (vs := vs) 0 (fun j v hj e => by
        rw [w.2 j (by simpa using hj)]
        exact hi e) hln
      have si' : Sit n'.Z n'.H (S' ++ Sv) := x.si.sub (s.append_right Sv)
      refine ⟨⟨n'.Z, n'.H, S', mask wr 0 (n'.δ.take k)⟩, rfl, rfl, rfl, ⟨by rw [← lv]; exact r', si'.sub (List.sublist_append_left _ _)⟩, ⟨x.st.sub fun a m => (s.append_right Sv).subset m, si', fun z => nomatch z⟩⟩
    have hp0 : (m (as.map some ++ List.replicate (N.length - k) none)).P (PostF C wr (L2.start N vs) { n with δ := as.map some ++ List.replicate (N.length - k) none } { nx := fun _ H' => Q .non H', rt := Q }) (ExS C (fun _ => E) wr (L2.start N vs) { n with δ := as.map some ++ List.replicate (N.length - k) none }) := by
      cases em : m (as.map some ++ List.replicate (N.length - k) none) with
      | bad => rw [em] at hp; exact hp.elim
      | ex c fs => rw [em] at hp; exact fun _ _ => hp
      | ok fl δ' =>
        rw [em] at hp
        cases fl with
        | bk => exact hp.elim
        | ct => exact hp.elim
        | nx =>
          intro σ' n' e k' x w
          obtain ⟨n2, eh, ez, ed, k2, x2⟩ := fin k' x w
          have := hp .non n2 [] (by rw [ed, e]) k2 x2 (.sh .non)
          rwa [eh] at this
        | rt t d =>
          intro v σ' n' Sv e k' x r w
          obtain ⟨n2, eh, ez, ed, k2, x2⟩ := fin k' x w
          have := hp v n2 Sv (by rw [ed, e]) k2 x2 (by rw [eh, ez]; exact r)
          rwa [eh] at this
    exact hs (L2.start N vs) { n with δ := as.map some ++ List.replicate (N.length - k) none } _ ok1 hp0
  · rw [if_neg hl] at hp; exact hp.elim
end
end VS

end

section
set_option Elab.async false
set_option linter.all false
set_option maxRecDepth 100000
set_option maxHeartbeats 2000000
/-! VS5: calls of defs, of methods; instances made. -/
namespace VS
open PySem L2

/-- an argument: a value of its own, or a slot lent -/
inductive Arg where
  | val (a : Ty × D)
  | ref (i : Nat)
inductive RoB (C : Ct) (Z : Addr → Prop) (H : Hp) (σ : St) : List Arg → List V → List Addr → Prop
  | nil : RoB C Z H σ [] [] []
  | val {a : Ty × D} {v : V} {as : List Arg} {vs : List V} {S1 S : List Addr} : Ro C Z H a.1 v a.2 S1 → RoB C Z H σ as vs S → RoB C Z H σ (.val a :: as) (v :: vs) (S1 ++ S)
  | ref {i : Nat} {v : V} {as : List Arg} {vs : List V} {S : List Addr} : σ[i]? = some (some v) → RoB C Z H σ as vs S → RoB C Z H σ (.ref i :: as) (v :: vs) S
def SimB (C : Ct) (E : St → XK) (pu : Bool) (m : M (List Arg)) (t : TA) : Prop := ∀ (σ : St) (n : Sn) (Q : List V → Hp → Prop), n.Ok C σ →
  (m n.δ).P (fun a δ' => ∀ vs n' Sv, n'.δ = δ' → n'.Ok C σ → Tr pu n n' Sv → RoB C n'.Z n'.H σ a vs Sv → Q vs n'.H) (ExP C (E σ) n) → t σ n.H Q
def bNil : M (List Arg) := mPure []
def bVal (a : M (Ty × D)) (b : M (List Arg)) : M (List Arg) := mBind a fun x => mBind b fun y => mPure (.val x :: y)
def bRef (i : Nat) (b : M (List Arg)) : M (List Arg) := mBind (mGet i) fun _ => mBind b fun y => mPure (.ref i :: y)
section
variable {C : Ct} {E : St → XK} {p q : Bool} {σ σ1 : St} {n n1 : Sn}
theorem bnil : SimB C E true bNil tNil := fun σ n Q k hp => hp [] n [] rfl k (Tr.refl k) .nil
theorem bval {a : M (Ty × D)} {b : M (List Arg)} {ta : TE} {tb : TA} (ha : SimV C E p a ta) (hb : SimB C E q b tb) : SimB C E (p && q) (bVal a b) (tCons ta tb) := fun σ n Q k hp => by
  refine ha σ n _ k ((P_bind hp).imp (fun x δ1 _ h v n1 Sv e1 k1 x1 r1 => ?_) fun _ _ z => z)
  subst e1
  refine hb σ n1 _ k1 ((P_bind h).imp (fun y δ2 _ h2 vs n2 Sw e2 k2 x2 r2 => ?_) fun _ _ z => z.tr x1)
  exact h2 (v :: vs) n2 (Sv ++ Sw) e2 k2 (x1.two x2) (.val (x1.ro x2 k1 r1) r2)
theorem bref (i : Nat) {b : M (List Arg)} {tb : TA} (hb : SimB C E q b tb) : SimB C E q (bRef i b) (tCons (tVar i) tb) := fun σ n Q k hp => by
  have h := P_bind hp
  unfold mGet at h
  cases e : n.δ[i]? with
  | none => rw [e] at h; exact h.elim
  | some o =>
    rw [e] at h
    cases o with
    | none => exact h.elim
    | some a =>
      obtain ⟨v, S1, S2, e1, r, pm, r2⟩ := k.en.take e
      refine ⟨v, e1, hb σ n _ k ((P_bind (show (mBind b _ n.δ).P _ _ from h)).imp (fun y δ2 _ h2 vs n2 Sw e2 k2 x2 r2 => ?_) fun _ _ z => z)⟩
      exact h2 (v :: vs) n2 Sw e2 k2 x2 (.ref e1 r2)
/-- the contents handed over; the lent slots are empty meanwhile -/
def cGet : List Arg → Env → Option (List (Ty × D) × Env)
  | [], δ => some ([], δ)
  | .val a :: r, δ => match cGet r δ with
    | some (cs, δ1) => some (a :: cs, δ1)
    | none => none
  | .ref i :: r, δ => match δ[i]? with
    | some (some a) => (match cGet r (δ.set i none) with
      | some (cs, δ1) => some (a :: cs, δ1)
      | none => none)
    | _ => none
/-- the lent slots filled again -/
def cPut : List Arg → Env → Env → Option Env
  | .ref i :: r, some c :: os, δ => match δ[i]? with
    | some none => cPut r os (δ.set i (some c))
    | _ => none
  | .ref i :: r, none :: os, δ => cPut r os δ
  | .val _ :: r, _ :: os, δ => cPut r os δ
  | _, _, δ => some δ
theorem RoB.keep {Z Z' : Addr → Prop} {H H' : Hp} (k : Kz Z H Z' H') : ∀ {as : List Arg} {vs : List V} {S : List Addr}, RoB C Z H σ as vs S → (∀ a ∈ S, H' a = H a) → RoB C Z' H' σ as vs S
  | _, _, _, .nil, _ => .nil
  | _, _, _, .val h r, q => .val (h.keep k fun a m => q a (List.mem_append_left _ m)) (RoB.keep k r fun a m => q a (List.mem_append_right _ m))
  | _, _, _, .ref e r, q => .ref e (RoB.keep k r q)
theorem perm_mid {α : Type} {a b c d : List α} (h : (a ++ b).Perm (c ++ d)) (e : List α) : (a ++ (e ++ b)).Perm ((e ++ c) ++ d) := by
  have h1 : (a ++ (e ++ b)).Perm (e ++ (a ++ b)) := List.perm_append_comm_assoc a e b
  refine h1.trans ((List.Perm.append_left e h).trans ?_)
  rw [List.append_assoc]
theorem cGet_ok {Z : Addr → Prop} {H : Hp} : ∀ {as : List Arg} {vs : List V} {Sv S : List Addr} {δ δ1 : Env} {cs : List (Ty × D)}, RoB C Z H σ as vs Sv → RoE C Z H δ σ S → cGet as δ = some (cs, δ1) →
    ∃ Sc Sr, (S ++ Sv).Perm (Sc ++ Sr) ∧ RoE C Z H (cs.map some) (vs.map some) Sc ∧ RoE C Z H δ1 σ Sr
  | _, _, _, S, _, _, _, .nil, r, e => by
    cases e
    exact ⟨[], S, by simp, .nil, r⟩
  | _, _, _, S, δ, _, _, .val (as := as) (S1 := S1) (S := S0) h b, r, e => by
    unfold cGet at e
    cases g : cGet as δ with
    | none => rw [g] at e; cases e
    | some x =>
      obtain ⟨cs0, δ0⟩ := x
      rw [g] at e
      cases e
      obtain ⟨Sc, Sr, pm, rc, rr⟩ := cGet_ok b r g
      exact ⟨S1 ++ Sc, Sr, perm_mid pm S1, .fl h rc, rr⟩
  | _, _, _, S, δ, _, _, .ref (i := i) (as := as) (S := S0) e1 b, r, e => by
    unfold cGet at e
    cases q : δ[i]? with
    | none => rw [q] at e; cases e
    | some o =>
      rw [q] at e
      cases o with
      | none => cases e
      | some a =>
        dsimp only at e
        cases g : cGet as (δ.set i none) with
        | none => rw [g] at e; cases e
        | some x =>
          obtain ⟨cs0, δ0⟩ := x
          rw [g] at e
          cases e
          obtain ⟨v', S1, S2, e1', h, pm, r2⟩ := r.take q
          rw [e1] at e1'
          cases e1'
          obtain ⟨Sc, Sr, pm2, rc, rr⟩ := cGet_ok b r2 g
          refine ⟨S1 ++ Sc, Sr, ?_, .fl h rc, rr⟩
          refine (pm.append_right S0).trans ?_
          rw [List.append_assoc, List.append_assoc]
          exact List.Perm.append_left S1 pm2
theorem cPut_ok {Z : Addr → Prop} {H : Hp} : ∀ {as : List Arg} {vs : List V} {Sv Sc Sr : List Addr} {os δ1 δ2 : Env} {Z0 : Addr → Prop} {H0 : Hp} {us : List V}, RoB C Z0 H0 σ as vs Sv → RoE C Z H os ((vs ++ us).map some) Sc → RoE C Z H δ1 σ Sr → cPut as os δ1 = some δ2 →
    ∃ S2 S', S2.Sublist Sc ∧ S'.Perm (S2 ++ Sr) ∧ RoE C Z H δ2 σ S'
  | _, _, _, Sc, Sr, os, _, _, _, _, _, .nil, _, r, e => by
    simp [cPut] at e
    subst e
    exact ⟨[], Sr, List.nil_sublist _, List.Perm.refl _, r⟩
  | _, _, _, _, _, _, δ1, _, _, _, _, .val h b, c, r, e => by
    cases c with
    | em c =>
      unfold cPut at e
      exact cPut_ok b c r e
    | fl h0 c =>
      unfold cPut at e
      obtain ⟨S2, S', s, pm, r'⟩ := cPut_ok b c r e
      exact ⟨S2, S', s.trans (List.sublist_append_right _ _), pm, r'⟩
  | _, _, _, _, _, _, δ1, _, _, _, _, .ref (i := i) e1 b, c, r, e => by
    cases c with
    | em c =>
      unfold cPut at e
      exact cPut_ok b c r e
    | @fl t v d δ0 σ0 S1 S0 h0 c =>
      unfold cPut at e
      cases q : δ1[i]? with
      | none => rw [q] at e; cases e
      | some o =>
        rw [q] at e
        cases o with
        | some a => cases e
        | none =>
          obtain ⟨S3, pm3, r3⟩ := r.put q e1 h0
          obtain ⟨S2, S', s, pm, r'⟩ := cPut_ok b c r3 e
          refine ⟨S1 ++ S2, S', s.append_left S1, ?_, r'⟩
          refine pm.trans ((List.Perm.append_left S2 pm3).trans ?_)
          rw [List.append_assoc]
          exact List.perm_append_comm_assoc S2 S1 _
/-- the call: contents in, contents out; dds: the defaults that fill up -/
def mApp (f : FM) (as : List Arg) (dds : List D) : M (Ty × D) := fun δ => match cGet as δ with
  | none => .bad
  | some (cs, δ1) => match f (cs ++ dds.map fun d => (.sh, d)) with
    | .ok a os => (match cPut as os δ1 with
      | some δ2 => .ok a δ2
      | none => .bad)
    | .ex c fs => .ex c fs
    | .bad => .bad
def mCall (f : FM) (m : M (List Arg)) (dds : List D := []) : M (Ty × D) := mBind m fun as => mApp f as dds
inductive Scs : List D → List V → Prop
  | nil : Scs [] []
  | cons {d : D} {v : V} {ds : List D} {vs : List V} : Sc d v → Scs ds vs → Scs (d :: ds) (v :: vs)
theorem RoE.app {Z : Addr → Prop} {H : Hp} {us : List V} {dds : List D} (hs : Scs dds us) : ∀ {δ : Env} {σ : St} {S : List Addr}, RoE C Z H δ σ S → RoE C Z H (δ ++ dds.map fun d => some (.sh, d)) (σ ++ us.map some) S
  | _, _, _, .nil => by
    induction hs with
    | nil => exact .nil
    | cons h t ih =>
      have := RoE.fl (Ro.sh (Z := Z) (H := H) (h.rz (C := C))) ih
      simpa using this
  | _, _, _, .em r => .em (RoE.app hs r)
  | _, _, _, .fl h r => .fl h (RoE.app hs r)
/-- run the callee on what has been made ready -/
theorem app_ok {f : FM} {as : List Arg} {dds : List D} {us vs : List V} {Sv : List Addr} {Q : VK} (hd : Scs dds us) (k1 : n1.Ok C σ) (x1 : Tr p n n1 Sv) (b : RoB C n1.Z n1.H σ as vs Sv)
    (hp : (mApp f as dds n1.δ).P (fun a δ' => ∀ v n' Sv, n'.δ = δ' → n'.Ok C σ → Tr false n n' Sv → Ro C n'.Z n'.H a.1 v a.2 Sv → Q v n'.H) (ExP C (E σ) n)) : spM C f (vs ++ us) n1.H Q (E σ) := by
  unfold mApp at hp
  cases g : cGet as n1.δ with
  | none => rw [g] at hp; exact hp.elim
  | some x =>
    obtain ⟨cs, δ1⟩ := x
    rw [g] at hp
    dsimp only at hp
    obtain ⟨Sc, Sr, pm, rc, rr⟩ := cGet_ok b k1.en g
    have si2 : Sit n1.Z n1.H (Sc ++ Sr) := x1.si.perm pm
    have rc2 : RoE C n1.Z n1.H ((cs ++ dds.map fun d => (Ty.sh, d)).map some) ((vs ++ us).map some) Sc := by
      have := rc.app hd
      simpa [List.map_append, Function.comp_def] using this
    have kc : Sn.Ok C ((vs ++ us).map some) ⟨n1.Z, n1.H, Sc, (cs ++ dds.map fun d => (Ty.sh, d)).map some⟩ := ⟨rc2, si2.sub (List.sublist_append_left _ _)⟩
    have xc : Tr false n ⟨n1.Z, n1.H, Sc, (cs ++ dds.map fun d => (Ty.sh, d)).map some⟩ Sr := ⟨x1.st.sub fun a m => pm.mem_iff.mpr m, si2, fun z => nomatch z⟩
    refine ⟨⟨n1.Z, n1.H, Sc, (cs ++ dds.map fun d => (Ty.sh, d)).map some⟩, cs ++ dds.map fun d => (Ty.sh, d), rfl, rfl, kc, ?_⟩
    cases ef : f (cs ++ dds.map fun d => (Ty.sh, d)) with
    | bad => rw [ef] at hp; exact hp.elim
    | ex c fs => rw [ef] at hp; exact ExP.tr xc hp
    | ok a os =>
      rw [ef] at hp
      dsimp only at hp
      cases eg : cPut as os δ1 with
      | none => rw [eg] at hp; exact hp.elim
      | some δ2 =>
        rw [eg] at hp
        intro v n' Sw e' k' x' r'
        subst e'
        have two := xc.two x'
        have aw := xc.away x'
        have rr' : RoE C n'.Z n'.H δ1 σ Sr := rr.keep (x'.kz kc) fun a m => (aw a m).2.2.1
        obtain ⟨S2, S', s, pm', rf⟩ := cPut_ok b k'.en rr' eg
        have sl : (S2 ++ (Sr ++ Sw)).Sublist (n'.S ++ (Sr ++ Sw)) := s.append_right _
        have pf : (S' ++ Sw).Perm (S2 ++ (Sr ++ Sw)) := by
          rw [← List.append_assoc]
          exact pm'.append_right Sw
        have sif : Sit n'.Z n'.H (S' ++ Sw) := (two.si.sub sl).perm pf.symm
        exact hp v ⟨n'.Z, n'.H, S', δ2⟩ Sw rfl ⟨rf, sif.sub (List.sublist_append_left _ _)⟩ ⟨two.st.sub fun a m => sl.subset (pf.mem_iff.mp m), sif, fun z => nomatch z⟩ r'
/-- the same where what is raised is wished for by the slots -/
theorem simCallS {f : FM} {m : M (List Arg)} {t : TA} (h : SimB C E p m t) : SimV C E false (mCall f m []) (tCallS (spM C f) E t) := fun σ n Q k hp => by
  refine h σ n _ k ((P_bind hp).imp (fun as δ1 _ h1 vs n1 Sv e1 k1 x1 b1 => ?_) fun _ _ z => z)
  subst e1
  have := app_ok (us := []) Scs.nil k1 x1 b1 h1
  rwa [List.append_nil] at this
theorem simCall {E : XK} {f : FM} {m : M (List Arg)} {t : TA} {dds : List D} {us : List V} (hd : Scs dds us) (h : SimB C (fun _ => E) p m t) : SimV C (fun _ => E) false (mCall f m dds) (tCall (spM C f) us E t) := fun σ n Q k hp => by
  refine h σ n _ k ((P_bind hp).imp (fun as δ1 _ h1 vs n1 Sv e1 k1 x1 b1 => ?_) fun _ _ z => z)
  subst e1
  exact app_ok (E := fun _ => E) hd k1 x1 b1 h1
/-- a class's method: the receiver is of class c and has no attribute of the method's name -/
def isC (c : String) (m : Str) (a : Ty × D) : Bool := match a.2 with
  | .ins c' fs => decide (c' = c) && (fs.lookup m).isNone
  | _ => false
theorem lookup_map {β γ : Type} : ∀ {xs : List (Str × β)} {ys : List (Str × γ)} {m : Str}, xs.map (·.1) = ys.map (·.1) → (xs.lookup m).isNone = (ys.lookup m).isNone
  | [], [], _, _ => rfl
  | [], _ :: _, _, h => by simp at h
  | _ :: _, [], _, h => by simp at h
  | (a, x) :: xs, (b, y) :: ys, m, h => by
    simp at h
    obtain ⟨rfl, h⟩ := h
    simp only [List.lookup]
    split
    · rfl
    · exact lookup_map (by simpa using h)
theorem ro_ins {Z : Addr → Prop} {H : Hp} {a : Ty × D} {v : V} {c : String} {m : Str} {S : List Addr} (r : Ro C Z H a.1 v a.2 S) (h : isC c m a = true) : ∃ b dx fs, v = .ref b ∧ H b = some (.ins (C.ca c) dx fs) ∧ fs.lookup m = none := by
  obtain ⟨t, d⟩ := a
  unfold isC at h
  dsimp only at h r
  cases d with
  | ins c' ds =>
    dsimp only at h
    rw [Bool.and_eq_true] at h
    obtain ⟨h1, h2⟩ := h
    obtain rfl := of_decide_eq_true h1
    cases r.any with
    | ins z e q l =>
      refine ⟨_, _, _, rfl, e, ?_⟩
      rw [lookup_map q] at h2
      exact Option.isNone_iff_eq_none.mp h2
  | _ => cases h
/-- o.m(..), o a slot -/
def mMethS (f : FM) (c : String) (nm : Str) (i : Nat) (m : M (List Arg)) (dds : List D := []) : M (Ty × D) := mBind (mGet i) fun a => match isC c nm a with
  | true => mBind m fun as => mApp f (.ref i :: as) dds
  | false => mBad
theorem simMethS {E : XK} {f : FM} {c : String} {nm : Str} {i : Nat} {m : M (List Arg)} {t : TA} {dds : List D} {us : List V} (hd : Scs dds us) (h : SimB C (fun _ => E) p m t) : SimV C (fun _ => E) false (mMethS f c nm i m dds) (tMeth (C.ca c) nm (spM C f) us E (tVar i) t) := fun σ n Q k hp => by
  have h0 := P_bind hp
  unfold mGet at h0
  cases e : n.δ[i]? with
  | none => rw [e] at h0; exact h0.elim
  | some o =>
    rw [e] at h0
    cases o with
    | none => exact h0.elim
    | some a =>
      have h1 : ((match isC c nm a with
        | true => mBind m fun as => mApp f (.ref i :: as) dds
        | false => mBad) n.δ).P _ _ := h0
      obtain ⟨v, S1, S2, e1, r, pm, r2⟩ := k.en.take e
      cases ec : isC c nm a with
      | false => rw [ec] at h1; exact h1.elim
      | true =>
        rw [ec] at h1
        dsimp only at h1
        obtain ⟨b, dx, fs, rfl, eb, el⟩ := ro_ins r ec
        refine ⟨_, e1, b, dx, fs, rfl, eb, el, ?_⟩
        refine h σ n _ k ((P_bind h1).imp (fun as δ1 _ h2 vs n1 Sv e2 k1 x1 b1 => ?_) fun _ _ z => z)
        subst e2
        exact app_ok (E := fun _ => E) hd k1 x1 (.ref e1 b1) h2
/-- o.m(..), o a value -/
def mMethV (f : FM) (c : String) (nm : Str) (o : M (Ty × D)) (m : M (List Arg)) (dds : List D := []) : M (Ty × D) := mBind o fun a => match isC c nm a with
  | true => mBind m fun as => mApp f (.val a :: as) dds
  | false => mBad
theorem simMethV {E : XK} {f : FM} {c : String} {nm : Str} {o : M (Ty × D)} {to : TE} {m : M (List Arg)} {t : TA} {dds : List D} {us : List V} (hd : Scs dds us) (ho : SimV C (fun _ => E) q o to) (h : SimB C (fun _ => E) p m t) : SimV C (fun _ => E) false (mMethV f c nm o m dds) (tMeth (C.ca c) nm (spM C f) us E to t) := fun σ n Q k hp => by
  refine ho σ n _ k ((P_bind hp).imp (fun a δ1 _ h1 v n1 Sv e1 k1 x1 r1 => ?_) fun _ _ z => z)
  subst e1
  cases e : isC c nm a with
  | false => rw [e] at h1; exact h1.elim
  | true =>
    rw [e] at h1
    dsimp only at h1
    obtain ⟨b, dx, fs, rfl, eb, el⟩ := ro_ins r1 e
    refine ⟨b, dx, fs, rfl, eb, el, ?_⟩
    refine h σ n1 _ k1 ((P_bind h1).imp (fun as δ1 _ h2 vs n2 Sw e2 k2 x2 b2 => ?_) fun _ _ z => z.tr x1)
    subst e2
    exact app_ok (E := fun _ => E) hd k2 (x1.two x2) (.val (x1.ro x2 k1 r1) b2) h2
theorem roE_cons {Z : Addr → Prop} {H : Hp} {a : Ty × D} {os : Env} {v : V} {σ : St} {S : List Addr} (h : RoE C Z H (some a :: os) (some v :: σ) S) : ∃ S1 S0, S = S1 ++ S0 ∧ Ro C Z H a.1 v a.2 S1 ∧ RoE C Z H os σ S0 := by
  cases h with
  | fl h r => exact ⟨_, _, rfl, h, r⟩
/-- C(..): a new instance, then __init__ f -/
def mMake (f : FM) (c : String) (m : M (List Arg)) (dds : List D := []) : M (Ty × D) := mBind m fun as δ => match cGet as δ with
  | none => .bad
  | some (cs, δ1) => match f ((.ins [], .ins c []) :: (cs ++ dds.map fun d => (.sh, d))) with
    | .ok (_, .non) (some a :: os) => (match cPut as os δ1 with
      | some δ2 => .ok a δ2
      | none => .bad)
    | .ok _ _ => .bad
    | .ex c fs => .ex c fs
    | .bad => .bad
theorem simMake {E : XK} {f : FM} {c : String} {m : M (List Arg)} {t : TA} {dds : List D} {us : List V} (hd : Scs dds us) (h : SimB C (fun _ => E) p m t) : SimV C (fun _ => E) false (mMake f c m dds) (tMake (C.ca c) (spM C f) us E t) := fun σ n Q k hp => by
  refine h σ n _ k ((P_bind hp).imp (fun as δ0 _ hp vs n1 Sv e1 k1 x1 b => ?_) fun _ _ z => z)
  subst e1
  intro x dx hx hdx nx
  cases g : cGet as n1.δ with
  | none => rw [g] at hp; exact hp.elim
  | some y =>
    obtain ⟨cs, δ1⟩ := y
    rw [g] at hp
    dsimp only at hp
    obtain ⟨Sc, Sr, pm, rc, rr⟩ := cGet_ok b k1.en g
    have si2 : Sit n1.Z n1.H (Sc ++ Sr) := x1.si.perm pm
    -- the new instance
    have hx2 : upd n1.H dx (.own x) x = none := by rw [upd_ne (Ne.symm nx)]; exact hx
    have kzn : Kz n1.Z n1.H n1.Z (upd (upd n1.H dx (.own x)) x (.ins (C.ca c) dx [])) := (Kz.new hdx).trans (Kz.new hx2)
    have si3 : Sit n1.Z (upd (upd n1.H dx (.own x)) x (.ins (C.ca c) dx [])) ((Sc ++ Sr) ++ [x]) := (si2.same hdx).new hx2 trivial
    have same : ∀ a ∈ Sc ++ Sr, (upd (upd n1.H dx (.own x)) x (.ins (C.ca c) dx [])) a = n1.H a := fun a m => by
      rw [upd_ne ((si2.same (o := .own x) hdx).ne_new hx2 a m), upd_ne (si2.ne_new hdx a m)]
    have rx : Ro C n1.Z (upd (upd n1.H dx (.own x)) x (.ins (C.ca c) dx [])) (.ins []) (.ref x) (.ins c []) [x] := .ins (fs := []) (ds := []) upd_same rfl .nil
    have rc2 : RoE C n1.Z (upd (upd n1.H dx (.own x)) x (.ins (C.ca c) dx [])) (((Ty.ins [], D.ins c []) :: (cs ++ dds.map fun d => (Ty.sh, d))).map some) ((V.ref x :: (vs ++ us)).map some) ([x] ++ Sc) := by
      have := (rc.app hd).keep kzn fun a m => same a (List.mem_append_left _ m)
      exact .fl rx (by simpa [List.map_append, Function.comp_def] using this)
    have pm3 : ((Sc ++ Sr) ++ [x]).Perm (([x] ++ Sc) ++ Sr) := by
      rw [List.append_assoc [x]]
      exact List.perm_append_comm
    have si4 := si3.perm pm3
    have rr3 : RoE C n1.Z (upd (upd n1.H dx (.own x)) x (.ins (C.ca c) dx [])) δ1 σ Sr := rr.keep kzn fun a m => same a (List.mem_append_right _ m)
    have kc : Sn.Ok C ((V.ref x :: (vs ++ us)).map some) ⟨n1.Z, upd (upd n1.H dx (.own x)) x (.ins (C.ca c) dx []), [x] ++ Sc, ((Ty.ins [], D.ins c []) :: (cs ++ dds.map fun d => (Ty.sh, d))).map some⟩ := ⟨rc2, si4.sub (List.sublist_append_left _ _)⟩
    have stn : Step n1.Z n1.H (Sc ++ Sr) n1.Z (upd (upd n1.H dx (.own x)) x (.ins (C.ca c) dx [])) ((Sc ++ Sr) ++ [x]) := by
      refine ((Step.new (S := Sc ++ Sr) hdx).sub fun a m => List.mem_append_left _ m).trans (Step.new hx2)
    have st0 : Step n.Z n.H n.S n1.Z n1.H (Sc ++ Sr) := x1.st.sub fun a m => pm.mem_iff.mpr m
    have xc : Tr false n ⟨n1.Z, upd (upd n1.H dx (.own x)) x (.ins (C.ca c) dx []), [x] ++ Sc, ((Ty.ins [], D.ins c []) :: (cs ++ dds.map fun d => (Ty.sh, d))).map some⟩ Sr :=
      ⟨(st0.trans stn).sub fun a m => pm3.mem_iff.mpr m, si4, fun z => nomatch z⟩
    refine ⟨⟨n1.Z, upd (upd n1.H dx (.own x)) x (.ins (C.ca c) dx []), [x] ++ Sc, ((Ty.ins [], D.ins c []) :: (cs ++ dds.map fun d => (Ty.sh, d))).map some⟩, (Ty.ins [], D.ins c []) :: (cs ++ dds.map fun d => (Ty.sh, d)), rfl, rfl, kc, ?_⟩
    cases ef : f ((Ty.ins [], D.ins c []) :: (cs ++ dds.map fun d => (Ty.sh, d))) with
    | bad => rw [ef] at hp; exact hp.elim
    | ex c fs => rw [ef] at hp; exact ExP.tr xc hp
    | ok a os =>
      rw [ef] at hp
      obtain ⟨ta, da⟩ := a
      match da, os, ef, hp with
      | .non, some a0 :: os, ef, hp =>
        dsimp only at hp
        cases eg : cPut as os δ1 with
        | none => rw [eg] at hp; exact hp.elim
        | some δ2 =>
          rw [eg] at hp
          intro v n' Sw e' k' x' r'
          have two := xc.two x'
          have aw := xc.away x'
          have ev : v = V.non := by
            cases r'.any with
            | non => rfl
          refine ⟨ev, ?_⟩
          have ken := k'.en
          rw [e'] at ken
          obtain ⟨S1, S0, eS, h0, c0⟩ := roE_cons ken
          have rr' : RoE C n'.Z n'.H δ1 σ Sr := rr3.keep (x'.kz kc) fun a m => (aw a m).2.2.1
          obtain ⟨S2, S', s, pm', rf⟩ := cPut_ok b c0 rr' eg
          -- the instance's own goes out, the rest back to the slots; Sw is dropped
          have sl : ((S1 ++ S2) ++ Sr).Sublist (n'.S ++ (Sr ++ Sw)) := by
            rw [eS]
            exact (s.append_left S1).append (List.sublist_append_left Sr Sw)
          have pf : (S' ++ S1).Perm ((S1 ++ S2) ++ Sr) := by
            rw [List.append_assoc]
            exact List.perm_append_comm.trans (List.Perm.append_left S1 pm')
          have sif : Sit n'.Z n'.H (S' ++ S1) := (two.si.sub sl).perm pf.symm
          exact hp (.ref x) ⟨n'.Z, n'.H, S', δ2⟩ S1 rfl ⟨rf, sif.sub (List.sublist_append_left _ _)⟩ ⟨two.st.sub fun a m => sl.subset (pf.mem_iff.mp m), sif, fun z => nomatch z⟩ h0
      | .non, [], ef, hp => exact hp.elim
      | .non, none :: os, ef, hp => exact hp.elim
      | .bl _, _, ef, hp => exact hp.elim
      | .int _, _, ef, hp => exact hp.elim
      | .str _, _, ef, hp => exact hp.elim
      | .lst _, _, ef, hp => exact hp.elim
      | .tup _, _, ef, hp => exact hp.elim
      | .dic _, _, ef, hp => exact hp.elim
      | .ins _ _, _, ef, hp => exact hp.elim
end
end VS

end

section
set_option Elab.async false
set_option linter.all false
set_option maxRecDepth 100000
set_option maxHeartbeats 2000000
/-! VS6: operators, tests, displays, subscripts. -/
namespace VS
open PySem L2

/-- two expressions, both looked at -/
def t2 (ta tb : TE) : St → Hp → (V → V → Hp → Prop) → Prop := fun σ H R => ta σ H fun x H1 => tb σ H1 fun y H2 => R x y H2
def m2 (a b : M (Ty × D)) : M ((Ty × D) × (Ty × D)) := mBind a fun x => mBind b fun y => mPure (x, y)
def Sim2 (C : Ct) (E : St → XK) (pu : Bool) (m : M ((Ty × D) × (Ty × D))) (t : St → Hp → (V → V → Hp → Prop) → Prop) : Prop := ∀ (σ : St) (n : Sn) (R : V → V → Hp → Prop), n.Ok C σ →
  (m n.δ).P (fun a δ' => ∀ v w n' Sv S0 S1, n'.δ = δ' → n'.Ok C σ → Tr pu n n' Sv → Ro C n'.Z n'.H a.1.1 v a.1.2 S0 → Ro C n'.Z n'.H a.2.1 w a.2.2 S1 → (∀ x ∈ S0, x ∈ n'.S ++ Sv) → (∀ x ∈ S1, x ∈ n'.S ++ Sv) → R v w n'.H) (ExP C (E σ) n) → t σ n.H R
section
variable {C : Ct} {E : St → XK} {p q : Bool} {σ σ1 : St} {n n1 : Sn} {a b m : M (Ty × D)} {ta tb : TE}
/-- the first may be anything that is owned by nobody or beside -/
theorem k2v (ha : SimV C E p a ta) (hb : SimK C E q b tb) : Sim2 C E (p && q) (m2 a b) (t2 ta tb) := fun σ n R k hp => by
  refine ha σ n _ k ((P_bind hp).imp (fun x δ1 _ h v n1 Sv e1 k1 x1 r1 => ?_) fun _ _ z => z)
  subst e1
  refine hb σ n1 _ k1 ((P_bind h).imp (fun y δ2 _ h2 w n2 Sw S1 e2 k2 x2 r2 s2 => ?_) fun _ _ z => z.tr x1)
  refine h2 v w n2 (Sv ++ Sw) Sv S1 e2 k2 (x1.two x2) (x1.ro x2 k1 r1) r2 (fun x m => List.mem_append_right _ (List.mem_append_left _ m)) fun x m => ?_
  rcases List.mem_append.mp (s2 x m) with z | z
  · exact List.mem_append_left _ z
  · exact List.mem_append_right _ (List.mem_append_right _ z)
/-- the second changes nothing -/
theorem k2p (ha : SimK C E p a ta) (hb : SimK C E true b tb) : Sim2 C E (p && true) (m2 a b) (t2 ta tb) := fun σ n R k hp => by
  refine ha σ n _ k ((P_bind hp).imp (fun x δ1 _ h v n1 Sv S0 e1 k1 x1 r1 s1 => ?_) fun _ _ z => z)
  subst e1
  refine hb σ n1 _ k1 ((P_bind h).imp (fun y δ2 _ h2 w n2 Sw S1 e2 k2 x2 r2 s2 => ?_) fun _ _ z => z.tr x1)
  obtain ⟨r3, s3⟩ := x1.look x2 k1 r1 s1
  refine h2 v w n2 (Sv ++ Sw) S0 S1 e2 k2 (x1.two x2) r3 r2 s3 fun x m => ?_
  rcases List.mem_append.mp (s2 x m) with z | z
  · exact List.mem_append_left _ z
  · exact List.mem_append_right _ (List.mem_append_right _ z)
/-- nothing owned beside is wanted any more -/
theorem val_sc {d : D} {v : V} {Sv : List Addr} {δ' : Env} {Q : VK} {k' : n1.Ok C σ} (hd : Sc d v) (x : Tr p n n1 Sv) (e : n1.δ = δ') (h : ∀ v n' Sv, n'.δ = δ' → n'.Ok C σ → Tr p n n' Sv → Ro C n'.Z n'.H .sh v d Sv → Q v n'.H) : Q v n1.H :=
  h v n1 [] e k' x.drop (.sh hd.rz)

/-! ### operators whose answer is a scalar -/
def Sem2 (C : Ct) (f : D → D → Option D) (r : R2) : Prop := ∀ (H : Hp) (v w : V) (x y d : D), Rz C Any H v x → Rz C Any H w y → f x y = some d → ∃ u, Sc d u ∧ ∀ Q : VK, Q u H → r v w H Q
def mOp2 (f : D → D → Option D) (m : M ((Ty × D) × (Ty × D))) : M (Ty × D) := mBind m fun a => match f a.1.2 a.2.2 with
  | some d => mPure (.sh, d)
  | none => mBad
theorem simOp2 {f : D → D → Option D} {r : R2} {m : M ((Ty × D) × (Ty × D))} (hs : Sem2 C f r) (h : Sim2 C E p m (t2 ta tb)) : SimV C E p (mOp2 f m) (tOp r ta tb) := fun σ n Q k hp => by
  refine h σ n (fun x y H => r x y H Q) k ((P_bind hp).imp (fun a δ1 _ h1 v w n1 Sv S0 S1 e1 k1 x1 r0 r1 _ _ => ?_) fun _ _ z => z)
  cases e : f a.1.2 a.2.2 with
  | none => rw [e] at h1; exact h1.elim
  | some d =>
    rw [e] at h1
    obtain ⟨u, hu, hq⟩ := hs n1.H v w _ _ d r0.any r1.any e
    exact hq Q (h1 u n1 [] e1 k1 x1.drop (.sh hu.rz))
/-- ints -/
def fI (c : Int → Int → Bool) (g : Int → Int → D) : D → D → Option D
  | .int i, .int j => if c i j then some (g i j) else none
  | _, _ => none
theorem semI {c : Int → Int → Bool} {P : Int → Int → Prop} {g : Int → Int → D} {g' : Int → Int → V} (hc : ∀ i j, c i j = true → P i j) (hg : ∀ i j, Sc (g i j) (g' i j)) : Sem2 C (fI c g) (rI P g') := by
  intro H v w x y d hx hy h
  cases hx <;> cases hy <;> simp only [fI] at h <;> try (cases h; done)
  split at h
  · rename_i i j hcc
    cases h
    exact ⟨_, hg _ _, fun Q q => ⟨_, _, rfl, rfl, hc _ _ hcc, q⟩⟩
  · cases h
theorem semI0 {g : Int → Int → D} {g' : Int → Int → V} (hg : ∀ i j, Sc (g i j) (g' i j)) : Sem2 C (fI (fun _ _ => true) g) (rI0 g') := by
  intro H v w x y d hx hy h
  cases hx <;> cases hy <;> simp only [fI] at h <;> try (cases h; done)
  cases h
  exact ⟨_, hg _ _, fun Q q => ⟨_, _, rfl, rfl, q⟩⟩
def fAdd := fI (fun _ _ => true) fun i j => .int (i + j)
def fSub := fI (fun _ _ => true) fun i j => .int (i - j)
def cMul (i j : Int) : Bool := (decide (-(2 ^ 64) < i) && decide (i < 2 ^ 64)) || (decide (-(2 ^ 64) < j) && decide (j < 2 ^ 64))
def fMul := fI cMul fun i j => .int (i * j)
def cDiv (i j : Int) : Bool := decide (j ≠ 0) && decide (j.natAbs < 1073741824)
def fDiv := fI cDiv fun i j => .int (i.fdiv j)
def fMod := fI (fun _ j => decide (j ≠ 0)) fun i j => .int (i.fmod j)
def cPow (i j : Int) : Bool := decide (0 ≤ j) && decide (j ≤ 1000000) && decide (i.natAbs < 2 ^ 64)
def fPow := fI cPow fun i j => .int (i ^ j.toNat)
def fShl := fI cPow fun i j => .int (i * 2 ^ j.toNat)
def fShr := fI (fun _ j => decide (0 ≤ j)) fun i j => .int (i / 2 ^ j.toNat)
def fAnd := fI (fun _ _ => true) fun i j => .int (Builtin.bitAnd i j)
def fOr := fI (fun _ _ => true) fun i j => .int (Builtin.bitOr i j)
def fXor := fI (fun _ _ => true) fun i j => .int (Builtin.bitXor i j)
def fLt := fI (fun _ _ => true) fun i j => .bl (decide (i < j))
def fLe := fI (fun _ _ => true) fun i j => .bl (decide (i ≤ j))
def fGt := fI (fun _ _ => true) fun i j => .bl (decide (j < i))
def fGe := fI (fun _ _ => true) fun i j => .bl (decide (j ≤ i))
theorem semAdd : Sem2 C fAdd (rI0 fun i j => .int (i + j)) := semI0 fun _ _ => .int _
theorem semSub : Sem2 C fSub (rI0 fun i j => .int (i - j)) := semI0 fun _ _ => .int _
theorem semMul : Sem2 C fMul (rI CMul fun i j => .int (i * j)) := semI (fun i j h => by
  unfold cMul at h
  simp only [Bool.or_eq_true, Bool.and_eq_true, decide_eq_true_eq] at h
  exact h) fun _ _ => .int _
theorem semDiv : Sem2 C fDiv (rI CDivN fun i j => .int (i.fdiv j)) := semI (fun i j h => by
  unfold cDiv at h
  simp only [Bool.and_eq_true, decide_eq_true_eq] at h
  exact h) fun _ _ => .int _
theorem semMod : Sem2 C fMod (rI (fun _ j => j ≠ 0) fun i j => .int (i.fmod j)) := semI (fun i j h => by simpa using h) fun _ _ => .int _
theorem cPow_ok (i j : Int) (h : cPow i j = true) : CPow i j := by
  unfold cPow at h
  simp only [Bool.and_eq_true, decide_eq_true_eq] at h
  exact ⟨h.1.1, h.1.2, h.2⟩
theorem semPow : Sem2 C fPow (rI CPow fun i j => .int (i ^ j.toNat)) := semI cPow_ok fun _ _ => .int _
theorem semShl : Sem2 C fShl (rI CPow fun i j => .int (i * 2 ^ j.toNat)) := semI cPow_ok fun _ _ => .int _
theorem semShr : Sem2 C fShr (rI (fun _ j => 0 ≤ j) fun i j => .int (i / 2 ^ j.toNat)) := semI (fun i j h => by simpa using h) fun _ _ => .int _
theorem semAnd : Sem2 C fAnd (rI0 fun i j => .int (Builtin.bitAnd i j)) := semI0 fun _ _ => .int _
theorem semOr : Sem2 C fOr (rI0 fun i j => .int (Builtin.bitOr i j)) := semI0 fun _ _ => .int _
theorem semXor : Sem2 C fXor (rI0 fun i j => .int (Builtin.bitXor i j)) := semI0 fun _ _ => .int _
theorem semLt : Sem2 C fLt (rI0 fun i j => .bl (decide (i < j))) := semI0 fun _ _ => .bl _
theorem semLe : Sem2 C fLe (rI0 fun i j => .bl (decide (i ≤ j))) := semI0 fun _ _ => .bl _
theorem semGt : Sem2 C fGt (rI0 fun i j => .bl (decide (j < i))) := semI0 fun _ _ => .bl _
theorem semGe : Sem2 C fGe (rI0 fun i j => .bl (decide (j ≤ i))) := semI0 fun _ _ => .bl _
/-- texts -/
def fCat : D → D → Option D
  | .str x, .str y => if x.length + y.length ≤ sizeLine then some (.str (x ++ y)) else none
  | _, _ => none
theorem semCat : Sem2 C fCat (fun x y H Q => ∃ i j, x = .str i ∧ y = .str j ∧ i.length + j.length ≤ sizeLine ∧ Q (.str (i ++ j)) H) := by
  intro H v w x y d hx hy h
  cases hx <;> cases hy <;> simp only [fCat] at h <;> try (cases h; done)
  split at h
  · rename_i hl
    cases h
    exact ⟨_, .str _, fun Q q => ⟨_, _, rfl, rfl, hl, q⟩⟩
  · cases h
/-! ### == of data -/
mutual
/-- as the library's data; an instance or a dict has none -/
def toPy : D → Option PyData
  | .non => some .none
  | .bl b => some (.bool b)
  | .int i => some (.int i)
  | .str x => some (.str x)
  | .lst xs => (toPyL xs).map .list
  | .tup xs => (toPyL xs).map .tuple
  | .dic _ => none
  | .ins _ _ => none
  | .err _ _ _ _ => none
def toPyL : List D → Option (List PyData)
  | [] => some []
  | d :: r => match toPy d, toPyL r with
    | some e, some es => some (e :: es)
    | _, _ => none
end
mutual
theorem rz_dp {Z : Addr → Prop} {H : Hp} : ∀ {v : V} {d : D} {e : PyData}, Rz C Z H v d → toPy d = some e → Dp C.K H v e
  | _, _, _, .non, h => by simp [toPy] at h; subst h; exact .non
  | _, _, _, .bl b, h => by simp [toPy] at h; subst h; exact .bl b
  | _, _, _, .int i, h => by simp [toPy] at h; subst h; exact .int i
  | _, _, _, .str x, h => by simp [toPy] at h; subst h; exact .str x
  | _, _, _, .lst z e l, h => by
    simp [toPy] at h
    obtain ⟨es, h1, rfl⟩ := h
    exact .lst (.inl (.inl e)) (rz_dpL l h1)
  | _, _, _, .frz e l, h => by
    simp [toPy] at h
    obtain ⟨es, h1, rfl⟩ := h
    exact .lst (.inl (.inr ⟨_, e⟩)) (rz_dpL l h1)
  | _, _, _, .tup e l, h => by
    simp [toPy] at h
    obtain ⟨es, h1, rfl⟩ := h
    exact .tup (.inl (.inl e)) (rz_dpL l h1)
  | _, _, _, .ktup e l, h => by
    simp [toPy] at h
    obtain ⟨es, h1, rfl⟩ := h
    exact .tup (.inr e) (rz_dpL l h1)
  | _, _, _, .klst e l, h => by
    simp [toPy] at h
    obtain ⟨es, h1, rfl⟩ := h
    exact .lst (.inr e) (rz_dpL l h1)
  | _, _, _, .dK _ _ _ _, h => by simp [toPy] at h
  | _, _, _, .dT _ _ _ _, h => by simp [toPy] at h
  | _, _, _, .ins _ _ _ _, h => by simp [toPy] at h
theorem rz_dpL {Z : Addr → Prop} {H : Hp} : ∀ {vs : List V} {ds : List D} {es : List PyData}, RzL C Z H vs ds → toPyL ds = some es → DpAll C.K H vs es
  | _, _, _, .nil, h => by simp [toPyL] at h; subst h; exact .nil
  | _, _, _, .cons (d := d) (ds := ds) x l, h => by
    unfold toPyL at h
    cases h1 : toPy d with
    | none => rw [h1] at h; cases h
    | some e =>
      cases h2 : toPyL ds with
      | none => rw [h1, h2] at h; cases h
      | some es' =>
        rw [h1, h2] at h
        cases h
        exact .cons (rz_dp x h1) (rz_dpL l h2)
end
def fEqB (x y : D) : Option Bool := match toPy x, toPy y with
  | some d, some e => if SeqAt.shaped d && SeqAt.shaped e then some (PyData.eqv d e) else none
  | _, _ => none
def fEq (x y : D) : Option D := (fEqB x y).map .bl
def fNe (x y : D) : Option D := (fEqB x y).map fun b => .bl (!b)
theorem fEqB_ok {H : Hp} {v w : V} {x y : D} {b : Bool} (hx : Rz C Any H v x) (hy : Rz C Any H w y) (h : fEqB x y = some b) : ∃ d e, Dp C.K H v d ∧ Dp C.K H w e ∧ SeqAt.shaped d = true ∧ SeqAt.shaped e = true ∧ PyData.eqv d e = b := by
  unfold fEqB at h
  cases h1 : toPy x with
  | none => rw [h1] at h; cases h
  | some d =>
    cases h2 : toPy y with
    | none => rw [h1, h2] at h; cases h
    | some e =>
      rw [h1, h2] at h
      dsimp only at h
      split at h
      · rename_i hs
        rw [Bool.and_eq_true] at hs
        exact ⟨d, e, rz_dp hx h1, rz_dp hy h2, hs.1, hs.2, Option.some.inj h⟩
      · cases h
theorem semEq : Sem2 C fEq (rEqD C.K) := by
  intro H v w x y d hx hy h
  unfold fEq at h
  rw [Option.map_eq_some_iff] at h
  obtain ⟨b, h1, rfl⟩ := h
  obtain ⟨d, e, a1, a2, a3, a4, rfl⟩ := fEqB_ok hx hy h1
  exact ⟨_, .bl _, fun Q q => ⟨d, e, a1, a2, a3, a4, q⟩⟩
theorem semNe : Sem2 C fNe (rNeD C.K) := by
  intro H v w x y d hx hy h
  unfold fNe at h
  rw [Option.map_eq_some_iff] at h
  obtain ⟨b, h1, rfl⟩ := h
  obtain ⟨d, e, a1, a2, a3, a4, rfl⟩ := fEqB_ok hx hy h1
  exact ⟨_, .bl _, fun Q q => ⟨d, e, a1, a2, a3, a4, q⟩⟩
/-- is None -/
def isNon : D → Bool
  | .non => true
  | _ => false
theorem isNon_ok {Z : Addr → Prop} {H : Hp} {v : V} {d : D} (h : Rz C Z H v d) : decide (v = .non) = isNon d := by
  cases h <;> simp [isNon]
def fIsN (x y : D) : Option D := match y with
  | .non => some (.bl (isNon x))
  | _ => none
def fNotN (x y : D) : Option D := match y with
  | .non => some (.bl (!isNon x))
  | _ => none
theorem semIsN : Sem2 C fIsN (fun x y H Q => y = .non ∧ Q (.bl (decide (x = .non))) H) := by
  intro H v w x y d hx hy h
  unfold fIsN at h
  cases hy <;> try (cases h; done)
  cases h
  exact ⟨_, .bl _, fun Q q => ⟨rfl, by rw [isNon_ok hx]; exact q⟩⟩
theorem semNotN : Sem2 C fNotN (fun x y H Q => y = .non ∧ Q (.bl (!decide (x = .non))) H) := by
  intro H v w x y d hx hy h
  unfold fNotN at h
  cases hy <;> try (cases h; done)
  cases h
  exact ⟨_, .bl _, fun Q q => ⟨rfl, by rw [isNon_ok hx]; exact q⟩⟩

/-! ### tests -/
def mBl (m : M (Ty × D)) : M Bool := mBind m fun a => match a.2 with
  | .bl b => mPure b
  | _ => mBad
theorem simBlT {t : TE} (h : SimK C E p m t) : SimT C E p (mBl m) (fun σ H Q => t σ H fun x H1 => ∃ c, x = .bl c ∧ Q c H1) := fun σ n Q k hp => by
  refine h σ n _ k ((P_bind hp).imp (fun a δ1 _ h1 v n1 Sv S0 e1 k1 x1 r1 _ => ?_) fun _ _ z => z)
  obtain ⟨ty, d⟩ := a
  dsimp only at h1 r1
  cases d <;> try (exact h1.elim)
  cases r1.any
  exact ⟨_, rfl, h1 n1 e1 k1 x1.drop⟩
theorem simTest {t : TE} (h : SimK C E p m t) : SimT C E p (mBl m) (tTest t) := simBlT h
theorem simTB {t : TE} (h : SimK C E p m t) : SimT C E p (mBl m) (tB t) := simBlT h
/-- truth -/
def truD : D → Option Bool
  | .non => some false
  | .bl b => some b
  | .int i => some (i != 0)
  | .str x => if x.length ≤ sizeLine then some ((x.length : Int) != 0) else none
  | .lst xs => some (!xs.isEmpty)
  | .tup xs => some (!xs.isEmpty)
  | _ => none
theorem RzL.emp {Z : Addr → Prop} {H : Hp} {vs : List V} {ds : List D} (h : RzL C Z H vs ds) : vs.isEmpty = ds.isEmpty := by cases h <;> rfl
theorem truD_ok {Z : Addr → Prop} {H : Hp} {v : V} {d : D} {b : Bool} (h : Rz C Z H v d) (e : truD d = some b) : TruV C.K v H b := by
  cases h with
  | non => cases e; rfl
  | bl b => cases e; rfl
  | int i => cases e; rfl
  | str x =>
    have e' : (if x.length ≤ sizeLine then some ((x.length : Int) != 0) else none) = some b := e
    by_cases hl : x.length ≤ sizeLine
    · rw [if_pos hl] at e'; cases e'; exact ⟨hl, rfl⟩
    · rw [if_neg hl] at e'; cases e'
  | lst z q l => cases e; exact .inl ⟨_, .inl (.inl q), by rw [l.emp]⟩
  | frz q l => cases e; exact .inl ⟨_, .inl (.inr ⟨_, q⟩), by rw [l.emp]⟩
  | tup q l => cases e; exact .inr (.inl ⟨_, .inl (.inl q), by rw [l.emp]⟩)
  | ktup q l => cases e; exact .inr (.inl ⟨_, .inr q, by rw [l.emp]⟩)
  | klst q l => cases e; exact .inl ⟨_, .inr q, by rw [l.emp]⟩
  | dK _ _ _ _ => cases e
  | dT _ _ _ _ => cases e
  | ins _ _ _ _ => cases e
  | err0 _ _ => cases e
  | err1 _ _ _ _ _ => cases e
def mTru (m : M (Ty × D)) : M Bool := mBind m fun a => mOf (truD a.2)
theorem simTru {t : TE} (h : SimK C E p m t) : SimT C E p (mTru m) (fun σ H Q => t σ H fun x H1 => ∃ k, TruV C.K x H1 k ∧ Q k H1) := fun σ n Q k hp => by
  refine h σ n _ k ((P_bind hp).imp (fun a δ1 _ h1 v n1 Sv S0 e1 k1 x1 r1 _ => ?_) fun _ _ z => z)
  obtain ⟨b, eb, h2⟩ := P_of h1
  exact ⟨b, truD_ok r1.any eb, h2 n1 e1 k1 x1.drop⟩
def mNot (m : M Bool) : M Bool := mBind m fun b => mPure (!b)
theorem simNot {m : M Bool} {t : TT} (h : SimT C E p m t) : SimT C E p (mNot m) (tNot t) := fun σ n Q k hp =>
  h σ n _ k ((P_bind hp).imp (fun b δ1 _ h1 n1 e1 k1 x1 => h1 n1 e1 k1 x1) fun _ _ z => z)
def mAnd (a b : M Bool) : M Bool := mBind a fun x => match x with
  | true => b
  | false => mPure false
def mOr (a b : M Bool) : M Bool := mBind a fun x => match x with
  | true => mPure true
  | false => b
theorem simAnd {a b : M Bool} {ta tb : TT} (ha : SimT C E p a ta) (hb : SimT C E q b tb) : SimT C E (p && q) (mAnd a b) (tAnd ta tb) := fun σ n Q k hp => by
  refine ha σ n _ k ((P_bind hp).imp (fun x δ1 _ h n1 e1 k1 x1 => ?_) fun _ _ z => z)
  subst e1
  cases x with
  | true =>
    rw [if_pos rfl]
    exact hb σ n1 _ k1 (h.imp (fun y δ2 _ h2 n2 e2 k2 x2 => h2 n2 e2 k2 (x1.seq x2)) fun _ _ z => z.tr x1)
  | false =>
    rw [if_neg Bool.false_ne_true]
    exact h n1 rfl k1 (x1.pu fun z => (Bool.and_eq_true_iff.mp z).1)
theorem simOr {a b : M Bool} {ta tb : TT} (ha : SimT C E p a ta) (hb : SimT C E q b tb) : SimT C E (p && q) (mOr a b) (tOr ta tb) := fun σ n Q k hp => by
  refine ha σ n _ k ((P_bind hp).imp (fun x δ1 _ h n1 e1 k1 x1 => ?_) fun _ _ z => z)
  subst e1
  cases x with
  | false =>
    rw [if_neg Bool.false_ne_true]
    exact hb σ n1 _ k1 (h.imp (fun y δ2 _ h2 n2 e2 k2 x2 => h2 n2 e2 k2 (x1.seq x2)) fun _ _ z => z.tr x1)
  | true =>
    rw [if_pos rfl]
    exact h n1 rfl k1 (x1.pu fun z => (Bool.and_eq_true_iff.mp z).1)
/-! ### not, and, or, if-else as values -/
def mNotV (m : M Bool) : M (Ty × D) := mBind m fun b => mPure (.sh, .bl (!b))
theorem simNotV {t : TE} (h : SimK C E p m t) : SimV C E p (mNotV (mBl m)) (tNotV t) := fun σ n Q k hp =>
  simBlT h σ n _ k ((P_bind hp).imp (fun b δ1 _ h1 n1 e1 k1 x1 => h1 (.bl (!b)) n1 [] e1 k1 x1 (.sh (.bl _))) fun _ _ z => z)
theorem simNotTV {t : TE} (h : SimK C E p m t) : SimV C E p (mNotV (mTru m)) (tNotT C.K t) := fun σ n Q k hp =>
  simTru h σ n _ k ((P_bind hp).imp (fun b δ1 _ h1 n1 e1 k1 x1 => h1 (.bl (!b)) n1 [] e1 k1 x1 (.sh (.bl _))) fun _ _ z => z)
def mAndV (a : M Bool) (b : M (Ty × D)) : M (Ty × D) := mBind a fun x => match x with
  | true => b
  | false => mPure (.sh, .bl false)
def mOrV (a : M Bool) (b : M (Ty × D)) : M (Ty × D) := mBind a fun x => match x with
  | true => mPure (.sh, .bl true)
  | false => b
theorem simAndV (ha : SimK C E p a ta) (hb : SimV C E q b tb) : SimV C E (p && q) (mAndV (mBl a) b) (tAndV ta tb) := fun σ n Q k hp => by
  refine simBlT ha σ n (fun c H1 => if c = true then tb σ H1 Q else Q (.bl false) H1) k ((P_bind hp).imp (fun x δ1 _ h n1 e1 k1 x1 => ?_) fun _ _ z => z)
  subst e1
  cases x with
  | true =>
    rw [if_pos rfl]
    exact hb σ n1 _ k1 (h.imp (fun y δ2 _ h2 v n2 Sv e2 k2 x2 r2 => h2 v n2 Sv e2 k2 (x1.seq x2) r2) fun _ _ z => z.tr x1)
  | false =>
    rw [if_neg Bool.false_ne_true]
    exact h (.bl false) n1 [] rfl k1 (x1.pu fun z => (Bool.and_eq_true_iff.mp z).1) (.sh (.bl _))
theorem simOrV (ha : SimK C E p a ta) (hb : SimV C E q b tb) : SimV C E (p && q) (mOrV (mBl a) b) (tOrV ta tb) := fun σ n Q k hp => by
  refine simBlT ha σ n (fun c H1 => if c = true then Q (.bl true) H1 else tb σ H1 Q) k ((P_bind hp).imp (fun x δ1 _ h n1 e1 k1 x1 => ?_) fun _ _ z => z)
  subst e1
  cases x with
  | false =>
    rw [if_neg Bool.false_ne_true]
    exact hb σ n1 _ k1 (h.imp (fun y δ2 _ h2 v n2 Sv e2 k2 x2 r2 => h2 v n2 Sv e2 k2 (x1.seq x2) r2) fun _ _ z => z.tr x1)
  | true =>
    rw [if_pos rfl]
    exact h (.bl true) n1 [] rfl k1 (x1.pu fun z => (Bool.and_eq_true_iff.mp z).1) (.sh (.bl _))
/-- x or y, x and y by truth: the value is x or y itself -/
def mOrT (a b : M (Ty × D)) : M (Ty × D) := mBind a fun x => match truD x.2 with
  | some true => mPure x
  | some false => b
  | none => mBad
def mAndT (a b : M (Ty × D)) : M (Ty × D) := mBind a fun x => match truD x.2 with
  | some false => mPure x
  | some true => b
  | none => mBad
theorem simOrT (ha : SimV C E p a ta) (hb : SimV C E q b tb) : SimV C E (p && q) (mOrT a b) (tOrT C.K ta tb) := fun σ n Q k hp => by
  refine ha σ n _ k ((P_bind hp).imp (fun x δ1 _ h v n1 Sv e1 k1 x1 r1 => ?_) fun _ _ z => z)
  subst e1
  cases e : truD x.2 with
  | none => rw [e] at h; exact h.elim
  | some c =>
    rw [e] at h
    refine ⟨c, truD_ok r1.any e, ?_⟩
    cases c with
    | true =>
      rw [if_pos rfl]
      exact h v n1 Sv rfl k1 (x1.pu fun z => (Bool.and_eq_true_iff.mp z).1) r1
    | false =>
      rw [if_neg Bool.false_ne_true]
      exact hb σ n1 _ k1 (h.imp (fun y δ2 _ h2 v n2 Sv e2 k2 x2 r2 => h2 v n2 Sv e2 k2 (x1.seq x2) r2) fun _ _ z => z.tr x1)
theorem simAndTV (ha : SimV C E p a ta) (hb : SimV C E q b tb) : SimV C E (p && q) (mAndT a b) (tAndT C.K ta tb) := fun σ n Q k hp => by
  refine ha σ n _ k ((P_bind hp).imp (fun x δ1 _ h v n1 Sv e1 k1 x1 r1 => ?_) fun _ _ z => z)
  subst e1
  cases e : truD x.2 with
  | none => rw [e] at h; exact h.elim
  | some c =>
    rw [e] at h
    refine ⟨c, truD_ok r1.any e, ?_⟩
    cases c with
    | false =>
      rw [if_neg Bool.false_ne_true]
      exact h v n1 Sv rfl k1 (x1.pu fun z => (Bool.and_eq_true_iff.mp z).1) r1
    | true =>
      rw [if_pos rfl]
      exact hb σ n1 _ k1 (h.imp (fun y δ2 _ h2 v n2 Sv e2 k2 x2 r2 => h2 v n2 Sv e2 k2 (x1.seq x2) r2) fun _ _ z => z.tr x1)
def mIf (c : M Bool) (a b : M (Ty × D)) : M (Ty × D) := mBind c fun x => match x with
  | true => a
  | false => b
theorem simIf {c : M Bool} {tc : TT} {q' : Bool} (hc : SimT C E p c tc) (ha : SimV C E q a ta) (hb : SimV C E q' b tb) : SimV C E (p && (q && q')) (mIf c a b) (tIf tc ta tb) := fun σ n Q k hp => by
  refine hc σ n _ k ((P_bind hp).imp (fun x δ1 _ h n1 e1 k1 x1 => ?_) fun _ _ z => z)
  subst e1
  cases x with
  | true =>
    rw [if_pos rfl]
    exact ha σ n1 _ k1 (h.imp (fun y δ2 _ h2 v n2 Sv e2 k2 x2 r2 => h2 v n2 Sv e2 k2 ((x1.seq x2).pu fun z => by
      simp only [Bool.and_eq_true] at z ⊢; exact ⟨z.1, z.2.1⟩) r2) fun _ _ z => z.tr x1)
  | false =>
    rw [if_neg Bool.false_ne_true]
    exact hb σ n1 _ k1 (h.imp (fun y δ2 _ h2 v n2 Sv e2 k2 x2 r2 => h2 v n2 Sv e2 k2 ((x1.seq x2).pu fun z => by
      simp only [Bool.and_eq_true] at z ⊢; exact ⟨z.1, z.2.2⟩) r2) fun _ _ z => z.tr x1)
/-- -a -/
def mNeg (m : M (Ty × D)) : M (Ty × D) := mBind m fun a => match a.2 with
  | .int i => mPure (.sh, .int (-i))
  | _ => mBad
theorem simNeg {t : TE} (h : SimK C E p m t) : SimV C E p (mNeg m) (tUn (rU fun i => .int (-i)) t) := fun σ n Q k hp => by
  refine h σ n _ k ((P_bind hp).imp (fun a δ1 _ h1 v n1 Sv S0 e1 k1 x1 r1 _ => ?_) fun _ _ z => z)
  obtain ⟨ty, d⟩ := a
  dsimp only at h1 r1
  cases d <;> try (exact h1.elim)
  cases r1.any
  exact ⟨_, rfl, h1 (.int _) n1 [] e1 k1 x1.drop (.sh (.int _))⟩
end
end VS

end

section
set_option Elab.async false
set_option linter.all false
set_option maxRecDepth 100000
set_option maxHeartbeats 2000000
/-! VS7: displays, subscripts, slices, built-in functions. -/
namespace VS
open PySem L2

section
variable {C : Ct} {E : St → XK} {p q : Bool} {σ σ1 : St} {n n1 : Sn} {a b m : M (Ty × D)} {ta tb : TE} {Sv : List Addr}
/-! ### new objects, at a moment -/
/-- what is owned beside is frozen -/
def Sn.fz (n : Sn) (Sv : List Addr) : Sn := { n with Z := zAdd n.Z Sv }
theorem Tr.fz (x : Tr p n n1 Sv) (k : n1.Ok C σ) : Tr p n (n1.fz Sv) [] ∧ (n1.fz Sv).Ok C σ := by
  have kz : Kz n1.Z n1.H (zAdd n1.Z Sv) n1.H := Kz.add
  refine ⟨⟨?_, by rw [List.append_nil]; exact x.si.freeze, x.pr⟩, ⟨k.en.keep kz fun _ _ => rfl, x.si.freeze⟩⟩
  rw [List.append_nil]
  exact x.st.freeze
theorem RoL.fz {ts : List Ty} {vs : List V} {ds : List D} (h : RoL C n1.Z n1.H ts vs ds Sv) : RzL C (n1.fz Sv).Z (n1.fz Sv).H vs ds := h.rz (fun _ z => .inl z) fun _ z => .inr z
theorem Ro.fz {t : Ty} {v : V} {d : D} (h : Ro C n1.Z n1.H t v d Sv) : Rz C (n1.fz Sv).Z (n1.fz Sv).H v d := h.frozen
/-- a new object that nobody owns -/
def Sn.nw (n : Sn) (x : Addr) (o : HO) : Sn := { n with H := upd n.H x o }
theorem Tr.newSh {x : Addr} {o : HO} (y : Tr p n n1 Sv) (k : n1.Ok C σ) (h : n1.H x = none) : Tr p n (n1.nw x o) Sv ∧ (n1.nw x o).Ok C σ := by
  have st : Step n1.Z n1.H (n1.S ++ Sv) n1.Z (upd n1.H x o) (n1.S ++ Sv) := (Step.new h).sub fun a m => List.mem_append_left _ m
  have si : Sit n1.Z (upd n1.H x o) (n1.S ++ Sv) := y.si.same h
  refine ⟨⟨y.st.trans st, si, fun z => ?_⟩, ⟨k.en.new k.si h, si.sub (List.sublist_append_left _ _)⟩⟩
  obtain ⟨a1, a2, a3⟩ := y.pr z
  exact ⟨a1, a2, fun a m => (upd_ne (k.si.ne_new h a (by rw [a2]; exact m))).trans (a3 a m)⟩
theorem Tr.newOwn {x : Addr} {o : HO} (y : Tr p n n1 Sv) (k : n1.Ok C σ) (h : n1.H x = none) (ho : Own (some o)) : Tr p n (n1.nw x o) (x :: Sv) ∧ (n1.nw x o).Ok C σ := by
  have pm : ((n1.S ++ Sv) ++ [x]).Perm (n1.S ++ (x :: Sv)) := by
    rw [List.append_assoc]
    exact List.Perm.append_left _ List.perm_append_comm
  have st : Step n1.Z n1.H (n1.S ++ Sv) n1.Z (upd n1.H x o) (n1.S ++ (x :: Sv)) := (Step.new h).sub fun a m => pm.mem_iff.mpr m
  have si : Sit n1.Z (upd n1.H x o) (n1.S ++ (x :: Sv)) := (y.si.new h ho).perm pm
  refine ⟨⟨y.st.trans st, si, fun z => ?_⟩, ⟨k.en.new k.si h, si.sub (List.sublist_append_left _ _)⟩⟩
  obtain ⟨a1, a2, a3⟩ := y.pr z
  exact ⟨a1, a2, fun a m => (upd_ne (k.si.ne_new h a (by rw [a2]; exact m))).trans (a3 a m)⟩
theorem kz_nw {x : Addr} {o : HO} (h : n1.H x = none) : Kz n1.Z n1.H (n1.nw x o).Z (n1.nw x o).H := Kz.new h
theorem len_line {k : Nat} (h : k ≤ 1000) : k ≤ sizeLine := Nat.le_trans h (by rw [sizeLine_eq]; decide)

/-! ### displays -/
def mTup (m : M (List (Ty × D))) : M (Ty × D) := mBind m fun as => if as.length ≤ 1000 then mPure (.sh, .tup (as.map (·.2))) else mBad
theorem RoL.len {Z : Addr → Prop} {H : Hp} : ∀ {ts : List Ty} {vs : List V} {ds : List D} {S : List Addr}, RoL C Z H ts vs ds S → vs.length = ds.length ∧ ts.length = ds.length
  | _, _, _, _, .nil => ⟨rfl, rfl⟩
  | _, _, _, _, .cons _ t => by simp [RoL.len t]
theorem simTup {m : M (List (Ty × D))} {t : TA} (h : SimA C E p m t) : SimV C E p (mTup m) (tTup t) := fun σ n Q k hp => by
  refine h σ n _ k ((P_bind hp).imp (fun as δ1 _ h1 vs n1 Sv e1 k1 x1 r1 => ?_) fun _ _ z => z)
  have hl : vs.length = as.length := by simpa using r1.len.1
  by_cases hc : as.length ≤ 1000
  · rw [if_pos hc] at h1
    obtain ⟨x2, k2⟩ := x1.fz k1
    refine ⟨len_line (by omega), fun x hx => ?_⟩
    obtain ⟨x3, k3⟩ := x2.newSh (o := .tup vs) k2 hx
    exact h1 (.ref x) ((n1.fz Sv).nw x (.tup vs)) [] e1 k3 x3 (.sh (.tup upd_same (r1.fz.keep (kz_nw (n1 := n1.fz Sv) hx))))
  · rw [if_neg hc] at h1; exact h1.elim
/-- [..]: the items frozen -/
def mLstZ (m : M (List (Ty × D))) : M (Ty × D) := mBind m fun as => if as.length ≤ 1000 then mPure (.lst .sh, .lst (as.map (·.2))) else mBad
theorem rzl_rol {Z : Addr → Prop} {H : Hp} : ∀ {vs : List V} {ds : List D}, RzL C Z H vs ds → RoL C Z H (List.replicate vs.length .sh) vs ds []
  | _, _, .nil => .nil
  | _, _, .cons h t => by
    have := RoL.cons (Ro.sh h) (rzl_rol t)
    simpa [List.replicate_succ] using this
theorem simLstZ {m : M (List (Ty × D))} {t : TA} (h : SimA C E p m t) : SimV C E p (mLstZ m) (tLst t) := fun σ n Q k hp => by
  refine h σ n _ k ((P_bind hp).imp (fun as δ1 _ h1 vs n1 Sv e1 k1 x1 r1 => ?_) fun _ _ z => z)
  have hl : vs.length = as.length := by simpa using r1.len.1
  by_cases hc : as.length ≤ 1000
  · rw [if_pos hc] at h1
    obtain ⟨x2, k2⟩ := x1.fz k1
    refine ⟨len_line (by omega), fun x hx => ?_⟩
    obtain ⟨x3, k3⟩ := x2.newOwn (o := .lst vs) k2 hx trivial
    exact h1 (.ref x) ((n1.fz Sv).nw x (.lst vs)) [x] e1 k3 x3 (.lst upd_same (rzl_rol (r1.fz.keep (kz_nw (n1 := n1.fz Sv) hx))))
  · rw [if_neg hc] at h1; exact h1.elim
/-- [..]: each item held as it comes -/
def mLstH (m : M (List (Ty × D))) : M (Ty × D) := mBind m fun as => if as.length ≤ 1000 then mPure (.hls (as.map (·.1)), .lst (as.map (·.2))) else mBad
theorem simLstH {m : M (List (Ty × D))} {t : TA} (h : SimA C E p m t) : SimV C E p (mLstH m) (tLst t) := fun σ n Q k hp => by
  refine h σ n _ k ((P_bind hp).imp (fun as δ1 _ h1 vs n1 Sv e1 k1 x1 r1 => ?_) fun _ _ z => z)
  have hl : vs.length = as.length := by simpa using r1.len.1
  by_cases hc : as.length ≤ 1000
  · rw [if_pos hc] at h1
    refine ⟨len_line (by omega), fun x hx => ?_⟩
    obtain ⟨x3, k3⟩ := x1.newOwn (o := .lst vs) k1 hx trivial
    exact h1 (.ref x) (n1.nw x (.lst vs)) (x :: Sv) e1 k3 x3 (.hls upd_same (r1.keep (kz_nw hx) fun a m => upd_ne (x1.si.ne_new hx a (List.mem_append_right _ m))))
  · rw [if_neg hc] at h1; exact h1.elim
/-- []: to hold items of t -/
def mLstE (t : Ty) : M (Ty × D) := mPure (.lst t, .lst [])
theorem simLstE (t : Ty) : SimV C E true (mLstE t) (tLst tNil) := fun σ n Q k hp => by
  refine ⟨len_line (by decide), fun x hx => ?_⟩
  obtain ⟨x3, k3⟩ := (Tr.refl (p := true) k).newOwn (o := .lst []) k hx trivial
  exact hp (.ref x) (n.nw x (.lst [])) [x] rfl k3 x3 (.lst (xs := []) upd_same .nil)
/-- {}: a dict whose keys are ints and texts, or tuples -/
def mDicE (t : Ty) : M (Ty × D) := mPure (.dic t, .dic [])
theorem simDicK (t : Ty) : SimV C E true (mDicE t) tDNewK := fun σ n Q k hp => fun x hx => by
  obtain ⟨x3, k3⟩ := (Tr.refl (p := true) k).newOwn (o := .dK []) k hx trivial
  exact hp (.ref x) (n.nw x (.dK [])) [x] rfl k3 x3 (.dK (kvs := []) (ds := []) upd_same rfl .nil)
theorem simDicT (t : Ty) : SimV C E true (mDicE t) tDNewT := fun σ n Q k hp => fun x hx => by
  obtain ⟨x3, k3⟩ := (Tr.refl (p := true) k).newOwn (o := .dT []) k hx trivial
  exact hp (.ref x) (n.nw x (.dT [])) [x] rfl k3 x3 (.dT (kvs := []) (ds := []) upd_same rfl .nil)

/-! ### a[i] -/
theorem RzL.get {Z : Addr → Prop} {H : Hp} : ∀ {vs : List V} {ds : List D} {j : Nat} {d : D}, RzL C Z H vs ds → ds[j]? = some d → ∃ v, vs[j]? = some v ∧ Rz C Z H v d
  | _, _, _, _, .nil, e => by simp at e
  | _, _, 0, _, .cons h t, e => by simp at e; subst e; exact ⟨_, rfl, h⟩
  | _, _, j + 1, _, .cons h t, e => by
    obtain ⟨v, e1, r⟩ := RzL.get (j := j) t (by simpa using e)
    exact ⟨v, by simpa using e1, r⟩
theorem RoL.get {Z : Addr → Prop} {H : Hp} : ∀ {ts : List Ty} {vs : List V} {ds : List D} {S : List Addr} {j : Nat} {d : D}, RoL C Z H ts vs ds S → ds[j]? = some d → ∃ t v S1, ts[j]? = some t ∧ vs[j]? = some v ∧ Ro C Z H t v d S1 ∧ ∀ x ∈ S1, x ∈ S
  | _, _, _, _, _, _, .nil, e => by simp at e
  | _, _, _, _, 0, _, .cons h t, e => by simp at e; subst e; exact ⟨_, _, _, rfl, rfl, h, fun x m => List.mem_append_left _ m⟩
  | _, _, _, _, j + 1, _, .cons h t, e => by
    obtain ⟨t', v, S1, e0, e1, r, s⟩ := RoL.get (j := j) t (by simpa using e)
    exact ⟨t', v, S1, by simpa using e0, by simpa using e1, r, fun x m => List.mem_append_right _ (s x m)⟩
/-- how the j-th item is held -/
def itemTy : Ty → Nat → Option Ty
  | .sh, _ => some .sh
  | .lst t, _ => some t
  | .hls ts, j => ts[j]?
  | _, _ => none
def fIx (a : Ty × D) (i : D) : Option (Ty × D) := match a.2, i with
  | .lst ds, .int i => (ixN ds.length i).bind fun j => ds[j]?.bind fun d => (itemTy a.1 j).map fun t => (t, d)
  | .tup ds, .int i => (ixN ds.length i).bind fun j => ds[j]?.bind fun d => (itemTy a.1 j).map fun t => (t, d)
  | .str z, .int i => if z.length ≤ sizeLine then (atI z.cps.toList i).map fun c => (.sh, .str ⟨#[c]⟩) else none
  | _, _ => none
theorem fIx_seq {t t' : Ty} {ds : List D} {i : Int} {d' : D} (h : ((ixN ds.length i).bind fun j => ds[j]?.bind fun d => (itemTy t j).map fun t => (t, d)) = some (t', d')) : ∃ j, ixN ds.length i = some j ∧ ds[j]? = some d' ∧ itemTy t j = some t' := by
  rw [Option.bind_eq_some_iff] at h
  obtain ⟨j, e1, h⟩ := h
  rw [Option.bind_eq_some_iff] at h
  obtain ⟨d, e2, h⟩ := h
  rw [Option.map_eq_some_iff] at h
  obtain ⟨t2, e3, e4⟩ := h
  cases e4
  exact ⟨j, e1, e2, e3⟩
theorem repl_get {α : Type} {k j : Nat} {x y : α} (h : (List.replicate k x)[j]? = some y) : y = x := by
  rw [List.getElem?_replicate] at h
  split at h
  · exact (Option.some.inj h).symm
  · cases h
theorem ro_ix {Z : Addr → Prop} {H : Hp} {t t' : Ty} {v : V} {d d' : D} {i : Int} {S0 : List Addr} (r : Ro C Z H t v d S0) (h : fIx (t, d) (.int i) = some (t', d')) :
    ∃ u S1, Ro C Z H t' u d' S1 ∧ (∀ x ∈ S1, x ∈ S0) ∧ ∀ Q : VK, Q u H → rIx C.K v (.int i) H Q := by
  have lst : ∀ {a : Addr} {xs : List V} {ds : List D} {j : Nat} {u : V}, SqL C.K H a xs → xs.length = ds.length → ixN ds.length i = some j → xs[j]? = some u → ∀ Q : VK, Q u H → rIx C.K (.ref a) (.int i) H Q := fun {a xs ds j u} sq hl e1 e2 Q q =>
    .inl ⟨a, xs, i, u, rfl, rfl, sq, by unfold atI; rw [hl, e1]; exact e2, q⟩
  have tup : ∀ {a : Addr} {xs : List V} {ds : List D} {j : Nat} {u : V}, SqT C.K H a xs → xs.length = ds.length → ixN ds.length i = some j → xs[j]? = some u → ∀ Q : VK, Q u H → rIx C.K (.ref a) (.int i) H Q := fun {a xs ds j u} sq hl e1 e2 Q q =>
    .inr (.inl ⟨a, xs, i, u, rfl, rfl, sq, by unfold atI; rw [hl, e1]; exact e2, q⟩)
  cases r with
  | sh r =>
    cases r with
    | str z =>
      have h' : (if z.length ≤ sizeLine then (atI z.cps.toList i).map fun c => ((.sh, .str ⟨#[c]⟩) : Ty × D) else none) = some (t', d') := h
      by_cases hl : z.length ≤ sizeLine
      · rw [if_pos hl, Option.map_eq_some_iff] at h'
        obtain ⟨c, e1, e2⟩ := h'
        cases e2
        exact ⟨_, [], .sh (.str _), fun _ m => absurd m (by simp), fun Q q => .inr (.inr ⟨z, i, c, rfl, rfl, hl, e1, q⟩)⟩
      · rw [if_neg hl] at h'; cases h'
    | lst z e l =>
      obtain ⟨j, e1, e2, e3⟩ := fIx_seq h
      cases e3
      obtain ⟨u, e4, ru⟩ := l.get e2
      exact ⟨u, [], .sh ru, fun _ m => absurd m (by simp), lst (.inl (.inl e)) l.len e1 e4⟩
    | frz e l =>
      obtain ⟨j, e1, e2, e3⟩ := fIx_seq h
      cases e3
      obtain ⟨u, e4, ru⟩ := l.get e2
      exact ⟨u, [], .sh ru, fun _ m => absurd m (by simp), lst (.inl (.inr ⟨_, e⟩)) l.len e1 e4⟩
    | tup e l =>
      obtain ⟨j, e1, e2, e3⟩ := fIx_seq h
      cases e3
      obtain ⟨u, e4, ru⟩ := l.get e2
      exact ⟨u, [], .sh ru, fun _ m => absurd m (by simp), tup (.inl (.inl e)) l.len e1 e4⟩
    | ktup e l =>
      obtain ⟨j, e1, e2, e3⟩ := fIx_seq h
      cases e3
      obtain ⟨u, e4, ru⟩ := l.get e2
      exact ⟨u, [], .sh ru, fun _ m => absurd m (by simp), tup (.inr e) l.len e1 e4⟩
    | klst e l =>
      obtain ⟨j, e1, e2, e3⟩ := fIx_seq h
      cases e3
      obtain ⟨u, e4, ru⟩ := l.get e2
      exact ⟨u, [], .sh ru, fun _ m => absurd m (by simp), lst (.inr e) l.len e1 e4⟩
    | non => cases h
    | bl _ => cases h
    | int _ => cases h
    | dK _ _ _ _ => cases h
    | dT _ _ _ _ => cases h
    | ins _ _ _ _ => cases h
    | err0 _ _ => cases h
    | err1 _ _ _ _ _ => cases h
  | lst e l =>
    obtain ⟨j, e1, e2, e3⟩ := fIx_seq h
    obtain ⟨t2, u, S1, e5, e4, ru, s⟩ := l.get e2
    have et := repl_get e5
    cases e3
    subst et
    exact ⟨u, S1, ru, fun x m => List.mem_cons_of_mem _ (s x m), lst (.inl (.inl e)) l.len.1 e1 e4⟩
  | hls e l =>
    obtain ⟨j, e1, e2, e3⟩ := fIx_seq h
    obtain ⟨t2, u, S1, e5, e4, ru, s⟩ := l.get e2
    have e3' : itemTy (.hls _) j = some t' := e3
    simp only [itemTy] at e3'
    rw [e5] at e3'
    cases e3'
    exact ⟨u, S1, ru, fun x m => List.mem_cons_of_mem _ (s x m), lst (.inl (.inl e)) l.len.1 e1 e4⟩
  | dK _ _ _ => cases h
  | dT _ _ _ => cases h
  | ins _ _ _ => cases h
theorem fIx_int {a : Ty × D} {i : D} {x : Ty × D} (h : fIx a i = some x) : ∃ k, i = .int k := by
  obtain ⟨t, d⟩ := a
  unfold fIx at h
  dsimp only at h
  cases d <;> cases i <;> first | exact ⟨_, rfl⟩ | cases h
def mIxK (m : M ((Ty × D) × (Ty × D))) : M (Ty × D) := mBind m fun a => mOf (fIx a.1 a.2.2)
def mIx (m : M ((Ty × D) × (Ty × D))) : M (Ty × D) := mBind m fun a => match fIx a.1 a.2.2 with
  | some (.sh, d) => mPure (.sh, d)
  | _ => mBad
theorem simIxK {m : M ((Ty × D) × (Ty × D))} (h : Sim2 C E p m (t2 ta tb)) : SimK C E p (mIxK m) (tOp (rIx C.K) ta tb) := fun σ n Q k hp => by
  refine h σ n (fun x y H => rIx C.K x y H Q) k ((P_bind hp).imp (fun a δ1 _ h1 v w n1 Sv S0 S1 e1 k1 x1 r0 r1 s0 s1 => ?_) fun _ _ z => z)
  obtain ⟨x, ex, h2⟩ := P_of h1
  obtain ⟨i, ei⟩ := fIx_int ex
  rw [ei] at ex r1
  cases r1.any
  obtain ⟨u, S2, ru, s2, f⟩ := ro_ix r0 ex
  exact f Q (h2 u n1 Sv S2 e1 k1 x1 ru fun y m => s0 y (s2 y m))
theorem simIx {m : M ((Ty × D) × (Ty × D))} (h : Sim2 C E p m (t2 ta tb)) : SimV C E p (mIx m) (tOp (rIx C.K) ta tb) := fun σ n Q k hp => by
  refine h σ n (fun x y H => rIx C.K x y H Q) k ((P_bind hp).imp (fun a δ1 _ h1 v w n1 Sv S0 S1 e1 k1 x1 r0 r1 s0 s1 => ?_) fun _ _ z => z)
  cases ex : fIx a.1 a.2.2 with
  | none => rw [ex] at h1; exact h1.elim
  | some x =>
    rw [ex] at h1
    obtain ⟨i, ei⟩ := fIx_int ex
    rw [ei] at ex r1
    cases r1.any
    obtain ⟨t', d'⟩ := x
    obtain ⟨u, S2, ru, s2, f⟩ := ro_ix r0 ex
    cases t' with
    | sh =>
      obtain ⟨rfl, rz⟩ := ro_sh ru
      exact f Q (h1 u n1 [] e1 k1 x1.drop (.sh rz))
    | _ => exact h1.elim

/-! ### slices -/
def cutD {α : Type} (xs : List α) (lo hi : Option Int) : List α := (xs.drop (HT.sIx xs.length 0 lo)).take (HT.sIx xs.length xs.length hi - HT.sIx xs.length 0 lo)
theorem RzL.drop {Z : Addr → Prop} {H : Hp} : ∀ {vs : List V} {ds : List D} (k : Nat), RzL C Z H vs ds → RzL C Z H (vs.drop k) (ds.drop k)
  | _, _, 0, r => r
  | _, _, _ + 1, .nil => .nil
  | _, _, k + 1, .cons _ t => RzL.drop k t
theorem RzL.take {Z : Addr → Prop} {H : Hp} : ∀ {vs : List V} {ds : List D} (k : Nat), RzL C Z H vs ds → RzL C Z H (vs.take k) (ds.take k)
  | _, _, 0, _ => .nil
  | _, _, _ + 1, .nil => .nil
  | _, _, k + 1, .cons h t => .cons h (RzL.take k t)
theorem RzL.cut {Z : Addr → Prop} {H : Hp} {vs : List V} {ds : List D} (h : RzL C Z H vs ds) (lo hi : Option Int) : RzL C Z H (cutV vs lo hi) (cutD ds lo hi) := by
  unfold cutV cutD
  rw [h.len]
  exact (h.drop _).take _
/-- the slice's ends -/
def SimO (C : Ct) (E : St → XK) (pu : Bool) (m : M (Option Int)) (t : TO) : Prop := ∀ (σ : St) (n : Sn) (Q : Option Int → Hp → Prop), n.Ok C σ →
  (m n.δ).P (fun o δ' => ∀ n', n'.δ = δ' → n'.Ok C σ → Tr pu n n' [] → Q o n'.H) (ExP C (E σ) n) → t σ n.H Q
theorem simNoPart : SimO C E true (mPure none) tNoPart := fun σ n Q k hp => hp n rfl k (Tr.refl k)
def mPart (m : M (Ty × D)) : M (Option Int) := mBind m fun a => match a.2 with
  | .int i => mPure (some i)
  | _ => mBad
theorem simPart {t : TE} (h : SimK C E p m t) : SimO C E p (mPart m) (tPart t) := fun σ n Q k hp => by
  refine h σ n _ k ((P_bind hp).imp (fun a δ1 _ h1 v n1 Sv S0 e1 k1 x1 r1 _ => ?_) fun _ _ z => z)
  obtain ⟨ty, d⟩ := a
  dsimp only at h1 r1
  cases d <;> try (exact h1.elim)
  cases r1.any
  exact ⟨_, rfl, h1 n1 e1 k1 x1.drop⟩
/-- the items of a sequence that nobody owns -/
def itemsSh : Ty × D → Option (List D)
  | (.sh, .lst ds) => some ds
  | (.lst .sh, .lst ds) => some ds
  | (.sh, .tup ds) => some ds
  | _ => none
theorem rol_sh {Z : Addr → Prop} {H : Hp} : ∀ {k : Nat} {vs : List V} {ds : List D} {S : List Addr}, RoL C Z H (List.replicate k .sh) vs ds S → RzL C Z H vs ds ∧ S = []
  | 0, _, _, _, .nil => ⟨.nil, rfl⟩
  | k + 1, _, _, _, h => by
    rw [List.replicate_succ] at h
    cases h with
    | cons h t =>
      obtain ⟨rfl, r⟩ := ro_sh h
      obtain ⟨l, rfl⟩ := rol_sh t
      exact ⟨.cons r l, rfl⟩
theorem items_ok {Z : Addr → Prop} {H : Hp} {a : Ty × D} {v : V} {S : List Addr} {ds : List D} (r : Ro C Z H a.1 v a.2 S) (h : itemsSh a = some ds) : ∃ b xs, v = .ref b ∧ RzL C Z H xs ds ∧ ((SqL C.K H b xs ∧ a.2 = .lst ds) ∨ (SqT C.K H b xs ∧ a = (.sh, .tup ds))) := by
  unfold itemsSh at h
  split at h
  · cases h
    obtain ⟨_, rz⟩ := ro_sh r
    obtain ⟨b, xs, rfl, sq, l⟩ := rz_lst rz
    exact ⟨b, xs, rfl, l, .inl ⟨sq, rfl⟩⟩
  · cases h
    cases r with
    | lst e l => exact ⟨_, _, rfl, (rol_sh l).1, .inl ⟨.inl (.inl e), rfl⟩⟩
  · cases h
    obtain ⟨_, rz⟩ := ro_sh r
    obtain ⟨b, xs, rfl, sq, l⟩ := rz_tup rz
    exact ⟨b, xs, rfl, l, .inr ⟨sq, rfl⟩⟩
  · cases h
def fSl (a : Ty × D) (lo hi : Option Int) : Option (Ty × D) := match itemsSh a with
  | some ds => match a.2 with
    | .lst _ => some (.lst .sh, .lst (cutD ds lo hi))
    | _ => some (.sh, .tup (cutD ds lo hi))
  | none => match a with
    | (.sh, .str z) => if z.length ≤ sizeLine then some (.sh, .str (cutS z lo hi)) else none
    | _ => none
def rSl (K : PySem.W.Frag) : V → Option Int → Option Int → Hp → VK → Prop := fun x lo hi H Q => rSlL K x lo hi H Q ∨ (rSlA K x lo hi H Q ∨ rSlS x lo hi H Q)
theorem sl_any {X : Cx} : SlR X (rSl X.K) := sl_list.or (sl_tupA.or sl_str)
/-- a[lo:hi]; the ends change nothing -/
def mSl (m : M (Ty × D)) (lo hi : M (Option Int)) : M (Ty × D) := mBind m fun a => mBind lo fun l => mBind hi fun h => mOf (fSl a l h)
theorem simSl {lo hi : M (Option Int)} {tl th : TO} (h : SimK C E p m ta) (hl : SimO C E true lo tl) (hh : SimO C E true hi th) : SimV C E p (mSl m lo hi) (tSl (rSl C.K) ta tl th) := fun σ n Q k hp => by
  refine h σ n _ k ((P_bind hp).imp (fun a δ1 _ h1 v n1 Sv S0 e1 k1 x1 r1 s1 => ?_) fun _ _ z => z)
  subst e1
  refine hl σ n1 _ k1 ((P_bind h1).imp (fun l δ2 _ h2 n2 e2 k2 x2 => ?_) fun _ _ z => z.tr x1)
  subst e2
  obtain ⟨r2, s2⟩ := x1.look x2 k1 r1 s1
  have x12 : Tr p n n2 (Sv ++ []) := (x1.two x2).pu fun z => by simp [z]
  refine hh σ n2 _ k2 ((P_bind h2).imp (fun u δ3 _ h3 n3 e3 k3 x3 => ?_) fun _ _ z => (z.tr x12))
  subst e3
  obtain ⟨r3, s3⟩ := x12.look x3 k2 r2 s2
  have x13 : Tr p n n3 [] := ((x12.two x3).pu fun z => by simp [z]).drop
  obtain ⟨b, eb, h4⟩ := P_of h3
  unfold fSl at eb
  cases ei : itemsSh a with
  | none =>
    rw [ei] at eb
    dsimp only at eb
    split at eb
    · rename_i z e
      obtain ⟨_, rz⟩ := ro_sh r3
      cases rz
      by_cases hz : z.length ≤ sizeLine
      · rw [if_pos hz] at eb
        cases eb
        exact .inr (.inr ⟨z, rfl, hz, h4 (.str _) n3 [] rfl k3 x13 (.sh (.str _))⟩)
      · rw [if_neg hz] at eb; cases eb
    · cases eb
  | some ds =>
    rw [ei] at eb
    dsimp only at eb
    obtain ⟨c, xs, rfl, l3, hc⟩ := items_ok r3 ei
    rcases hc with ⟨sq, ea⟩ | ⟨sq, ea⟩
    · rw [ea] at eb
      cases eb
      refine .inl ⟨c, xs, rfl, sq, fun x hx => ?_⟩
      obtain ⟨x4, k4⟩ := x13.newOwn (o := .lst (cutV xs l u)) k3 hx trivial
      exact h4 (.ref x) (n3.nw x (.lst (cutV xs l u))) [x] rfl k4 x4 (.lst upd_same (rzl_rol ((l3.cut l u).keep (kz_nw hx))))
    · subst ea
      cases eb
      refine .inr (.inl ⟨c, xs, rfl, sq, fun hw => ?_, fun hw x hx => ?_⟩)
      · have e1 : cutD ds l u = ds := by
          unfold cutD
          rw [← l3.len, hw.1, hw.2]
          simp [l3.len]
        rw [e1] at h4
        obtain ⟨_, rz⟩ := ro_sh r3
        exact h4 (.ref c) n3 [] rfl k3 x13 (.sh rz)
      · obtain ⟨x4, k4⟩ := x13.newSh (o := .tup (cutV xs l u)) k3 hx
        exact h4 (.ref x) (n3.nw x (.tup (cutV xs l u))) [] rfl k4 x4 (.sh (.tup upd_same ((l3.cut l u).keep (kz_nw hx))))
/-! ### built-in functions of one, of two things, whose answer is a scalar -/
def Sem1 (C : Ct) (f : D → Option D) (r : List V → Hp → VK → Prop) : Prop := ∀ (H : Hp) (v : V) (x d : D), Rz C Any H v x → f x = some d → ∃ u, Sc d u ∧ ∀ Q : VK, Q u H → r [v] H Q
def mB1 (f : D → Option D) (m : M (Ty × D)) : M (Ty × D) := mBind m fun a => match f a.2 with
  | some d => mPure (.sh, d)
  | none => mBad
theorem simB1 {f : D → Option D} {r : List V → Hp → VK → Prop} (hs : Sem1 C f r) (h : SimK C E p m ta) : SimV C E p (mB1 f m) (tCB r (tCons ta tNil)) := fun σ n Q k hp => by
  refine h σ n _ k ((P_bind hp).imp (fun a δ1 _ h1 v n1 Sv S0 e1 k1 x1 r1 _ => ?_) fun _ _ z => z)
  cases e : f a.2 with
  | none => rw [e] at h1; exact h1.elim
  | some d =>
    rw [e] at h1
    obtain ⟨u, hu, hq⟩ := hs n1.H v _ _ r1.any e
    exact hq Q (h1 u n1 [] e1 k1 x1.drop (.sh hu.rz))
def SemB2 (C : Ct) (f : D → D → Option D) (r : List V → Hp → VK → Prop) : Prop := ∀ (H : Hp) (v w : V) (x y d : D), Rz C Any H v x → Rz C Any H w y → f x y = some d → ∃ u, Sc d u ∧ ∀ Q : VK, Q u H → r [v, w] H Q
theorem simB2 {f : D → D → Option D} {r : List V → Hp → VK → Prop} {m : M ((Ty × D) × (Ty × D))} (hs : SemB2 C f r) (h : Sim2 C E p m (t2 ta tb)) : SimV C E p (mOp2 f m) (tCB r (tCons ta (tCons tb tNil))) := fun σ n Q k hp => by
  refine h σ n (fun x y H => r [x, y] H Q) k ((P_bind hp).imp (fun a δ1 _ h1 v w n1 Sv S0 S1 e1 k1 x1 r0 r1 _ _ => ?_) fun _ _ z => z)
  cases e : f a.1.2 a.2.2 with
  | none => rw [e] at h1; exact h1.elim
  | some d =>
    rw [e] at h1
    obtain ⟨u, hu, hq⟩ := hs n1.H v w _ _ d r0.any r1.any e
    exact hq Q (h1 u n1 [] e1 k1 x1.drop (.sh hu.rz))
def fLen : D → Option D
  | .str x => if x.length ≤ sizeLine then some (.int (x.length : Nat)) else none
  | .lst xs => some (.int (xs.length : Nat))
  | .tup xs => some (.int (xs.length : Nat))
  | _ => none
theorem semLen : Sem1 C fLen (fun xs H Q => ∃ x n, xs = [x] ∧ LenV C.K x H n ∧ Q (.int n) H) := by
  intro H v x d hx h
  cases hx with
  | str x =>
    have h' : (if x.length ≤ sizeLine then some (D.int (x.length : Nat)) else none) = some d := h
    by_cases hl : x.length ≤ sizeLine
    · rw [if_pos hl] at h'; cases h'; exact ⟨_, .int _, fun Q q => ⟨_, _, rfl, ⟨hl, rfl⟩, q⟩⟩
    · rw [if_neg hl] at h'; cases h'
  | lst z e l => cases h; exact ⟨_, .int _, fun Q q => ⟨_, _, rfl, .inl ⟨_, .inl (.inl e), rfl⟩, by rw [l.len]; exact q⟩⟩
  | frz e l => cases h; exact ⟨_, .int _, fun Q q => ⟨_, _, rfl, .inl ⟨_, .inl (.inr ⟨_, e⟩), rfl⟩, by rw [l.len]; exact q⟩⟩
  | tup e l => cases h; exact ⟨_, .int _, fun Q q => ⟨_, _, rfl, .inr ⟨_, .inl (.inl e), rfl⟩, by rw [l.len]; exact q⟩⟩
  | ktup e l => cases h; exact ⟨_, .int _, fun Q q => ⟨_, _, rfl, .inr ⟨_, .inr e, rfl⟩, by rw [l.len]; exact q⟩⟩
  | klst e l => cases h; exact ⟨_, .int _, fun Q q => ⟨_, _, rfl, .inl ⟨_, .inr e, rfl⟩, by rw [l.len]; exact q⟩⟩
  | _ => cases h
def fInt : D → Option D
  | .int i => some (.int i)
  | .bl b => some (.int (if b then 1 else 0))
  | _ => none
theorem semInt : Sem1 C fInt (fun xs H Q => (∃ i, xs = [.int i] ∧ Q (.int i) H) ∨ ∃ k, xs = [.bl k] ∧ Q (.int (if k then 1 else 0)) H) := by
  intro H v x d hx h
  cases hx with
  | int i => cases h; exact ⟨_, .int _, fun Q q => .inl ⟨_, rfl, q⟩⟩
  | bl b => cases h; exact ⟨_, .int _, fun Q q => .inr ⟨_, rfl, q⟩⟩
  | _ => cases h
def fStrI : D → Option D
  | .int i => if i.natAbs.log2 < 1920 then some (.str (toString i)) else none
  | _ => none
theorem semStrI : Sem1 C fStrI (fun xs H Q => ∃ i : Int, xs = [.int i] ∧ i.natAbs.log2 < 1920 ∧ Q (.str (toString i)) H) := by
  intro H v x d hx h
  cases hx with
  | int i =>
    have h' : (if i.natAbs.log2 < 1920 then some (D.str (toString i)) else none) = some d := h
    by_cases hl : i.natAbs.log2 < 1920
    · rw [if_pos hl] at h'; cases h'; exact ⟨_, .str _, fun Q q => ⟨_, rfl, hl, q⟩⟩
    · rw [if_neg hl] at h'; cases h'
  | _ => cases h
def fAbs : D → Option D
  | .int i => some (.int (if i < 0 then -i else i))
  | _ => none
theorem semAbs : Sem1 C fAbs (fun xs H Q => ∃ i : Int, xs = [.int i] ∧ Q (.int (if i < 0 then -i else i)) H) := by
  intro H v x d hx h
  cases hx with
  | int i => cases h; exact ⟨_, .int _, fun Q q => ⟨_, rfl, q⟩⟩
  | _ => cases h
def fMax2 := fI (fun _ _ => true) fun i j => .int (if j > i then j else i)
def fMin2 := fI (fun _ _ => true) fun i j => .int (if j < i then j else i)
theorem semMax2 : SemB2 C fMax2 (fun xs H Q => ∃ i j : Int, xs = [.int i, .int j] ∧ Q (.int (if j > i then j else i)) H) := by
  intro H v w x y d hx hy h
  cases hx <;> cases hy <;> simp only [fMax2, fI] at h <;> try (cases h; done)
  cases h
  exact ⟨_, .int _, fun Q q => ⟨_, _, rfl, q⟩⟩
theorem semMin2 : SemB2 C fMin2 (fun xs H Q => ∃ i j : Int, xs = [.int i, .int j] ∧ Q (.int (if j < i then j else i)) H) := by
  intro H v w x y d hx hy h
  cases hx <;> cases hy <;> simp only [fMin2, fI] at h <;> try (cases h; done)
  cases h
  exact ⟨_, .int _, fun Q q => ⟨_, _, rfl, q⟩⟩
/-- rows of truths, rows of ints -/
def blsD : List D → Option (List Bool)
  | [] => some []
  | .bl b :: r => (blsD r).map (b :: ·)
  | _ :: _ => none
def intsD : List D → Option (List Int)
  | [] => some []
  | .int i :: r => (intsD r).map (i :: ·)
  | _ :: _ => none
theorem blsD_ok {Z : Addr → Prop} {H : Hp} : ∀ {vs : List V} {ds : List D} {bs : List Bool}, RzL C Z H vs ds → blsD ds = some bs → vs = bs.map V.bl
  | _, _, _, .nil, h => by simp [blsD] at h; subst h; rfl
  | _, _, _, .cons (d := d) r l, h => by
    cases r <;> try (simp [blsD] at h; done)
    simp only [blsD, Option.map_eq_some_iff] at h
    obtain ⟨bs, e, rfl⟩ := h
    simp [blsD_ok l e]
theorem intsD_ok {Z : Addr → Prop} {H : Hp} : ∀ {vs : List V} {ds : List D} {ns : List Int}, RzL C Z H vs ds → intsD ds = some ns → vs = ns.map V.int
  | _, _, _, .nil, h => by simp [intsD] at h; subst h; rfl
  | _, _, _, .cons (d := d) r l, h => by
    cases r <;> try (simp [intsD] at h; done)
    simp only [intsD, Option.map_eq_some_iff] at h
    obtain ⟨bs, e, rfl⟩ := h
    simp [intsD_ok l e]
def fAny : D → Option D
  | .lst ds => (blsD ds).map fun bs => .bl (bs.any id)
  | _ => none
def fAll : D → Option D
  | .lst ds => (blsD ds).map fun bs => .bl (bs.all id)
  | _ => none
def fSum : D → Option D
  | .lst ds => (intsD ds).map fun ns => .int ns.sum
  | _ => none
theorem lstB {H : Hp} {v : V} {ds : List D} {bs : List Bool} (hx : Rz C Any H v (.lst ds)) (e : blsD ds = some bs) : ∃ a, v = .ref a ∧ SqL C.K H a (bs.map V.bl) := by
  obtain ⟨a, xs, rfl, sq, l⟩ := rz_lst hx
  rw [blsD_ok l e] at sq
  exact ⟨a, rfl, sq⟩
theorem lstI {H : Hp} {v : V} {ds : List D} {ns : List Int} (hx : Rz C Any H v (.lst ds)) (e : intsD ds = some ns) : ∃ a, v = .ref a ∧ SqL C.K H a (ns.map V.int) := by
  obtain ⟨a, xs, rfl, sq, l⟩ := rz_lst hx
  rw [intsD_ok l e] at sq
  exact ⟨a, rfl, sq⟩
theorem semAny : Sem1 C fAny (rAny C.K) := by
  intro H v x d hx h
  cases x <;> try (cases h; done)
  simp only [fAny, Option.map_eq_some_iff] at h
  obtain ⟨bs, e, rfl⟩ := h
  obtain ⟨a, rfl, sq⟩ := lstB hx e
  exact ⟨_, .bl _, fun Q q => ⟨a, bs, rfl, sq, q⟩⟩
theorem semAll : Sem1 C fAll (rAll C.K) := by
  intro H v x d hx h
  cases x <;> try (cases h; done)
  simp only [fAll, Option.map_eq_some_iff] at h
  obtain ⟨bs, e, rfl⟩ := h
  obtain ⟨a, rfl, sq⟩ := lstB hx e
  exact ⟨_, .bl _, fun Q q => ⟨a, bs, rfl, sq, q⟩⟩
theorem semSum : Sem1 C fSum (rSum C.K) := by
  intro H v x d hx h
  cases x <;> try (cases h; done)
  simp only [fSum, Option.map_eq_some_iff] at h
  obtain ⟨bs, e, rfl⟩ := h
  obtain ⟨a, rfl, sq⟩ := lstI hx e
  exact ⟨_, .int _, fun Q q => ⟨a, bs, rfl, sq, q⟩⟩
/-! ### isinstance, of a built-in class -/
def tyN : D → Option String
  | .non => some "NoneType" | .bl _ => some "bool" | .int _ => some "int" | .str _ => some "str" | .lst _ => some "list" | .tup _ => some "tuple" | .dic _ => some "dict" | .ins _ _ => none | .err _ _ _ _ => none
/-- a's type is T, or under it -/
def isiT (a T : String) : Bool := a == T || (a == "bool" && T == "int")
def isiNames : List String := ["NoneType", "bool", "int", "str", "list", "tuple", "dict"]
theorem isiT_ok : ∀ a ∈ isiNames, ∀ T ∈ ["bool", "int", "str", "list", "tuple"], kitB a T = some (isiT a T) := by
  decide +kernel
theorem tyN_in {d : D} {a : String} (h : tyN d = some a) : a ∈ isiNames := by
  cases d <;> simp [tyN] at h <;> subst h <;> decide
theorem tyN_ok {Z : Addr → Prop} {H : Hp} {v : V} {d : D} {a : String} (r : Rz C Z H v d) (h : tyN d = some a) : TyX C.K H v (.type a) := by
  cases r with
  | non => cases h; exact .base .non
  | bl b => cases h; exact .base (.bl b)
  | int i => cases h; exact .base (.int i)
  | str x => cases h; exact .base (.str x)
  | lst z e l => cases h; exact .base (.lst e)
  | frz e l => cases h; exact .base (.frz e)
  | tup e l => cases h; exact .base (.tup e)
  | ktup e l =>
    cases h
    obtain ⟨o, its, k, e1, e2, _⟩ := e
    exact .kTuple e1 e2
  | klst e l =>
    cases h
    obtain ⟨o, its, k, e1, e2, _⟩ := e
    exact .kList e1 e2
  | dK z e q l => cases h; exact .base (.dK e)
  | dT z e q l => cases h; exact .base (.dT e)
  | ins _ _ _ _ => cases h
  | err0 _ _ => cases h
  | err1 _ _ _ _ _ => cases h
def fIsi (T : String) (d : D) : Option D := (tyN d).map fun a => .bl (isiT a T)
/-- isinstance(x, T): the class is written there -/
def tIsi (K : PySem.W.Frag) (T : String) (ta : TE) : TE := tCB (rIsi K) (tCons ta (tCons (tC (.ty T)) tNil))
theorem simIsi {T : String} (hT : T ∈ ["bool", "int", "str", "list", "tuple"]) (h : SimK C E p m ta) : SimV C E p (mB1 (fIsi T) m) (tIsi C.K T ta) := fun σ n Q k hp => by
  refine h σ n _ k ((P_bind hp).imp (fun a δ1 _ h1 v n1 Sv S0 e1 k1 x1 r1 _ => ?_) fun _ _ z => z)
  cases e : fIsi T a.2 with
  | none => rw [e] at h1; exact h1.elim
  | some d =>
    rw [e] at h1
    unfold fIsi at e
    rw [Option.map_eq_some_iff] at e
    obtain ⟨ty, e2, rfl⟩ := e
    exact ⟨v, .ty T, .type ty, .type T, isiT ty T, rfl, .ty T, tyN_ok r1.any e2, kit_ty (isiT_ok ty (tyN_in e2) T hT), h1 (.bl _) n1 [] e1 k1 x1.drop (.sh (.bl _))⟩
/-! ### list(x), tuple(x) -/
def mList (m : M (Ty × D)) : M (Ty × D) := mBind m fun a => match itemsSh a with
  | some ds => mPure (.lst .sh, .lst ds)
  | none => mBad
theorem simList (h : SimK C E p m ta) : SimV C E p (mList m) (tCB (fun xs H Q => ∃ p ys, xs = [.ref p] ∧ (SqL C.K H p ys ∨ SqT C.K H p ys) ∧ ∀ l, H l = none → Q (.ref l) (upd H l (.lst ys))) (tCons ta tNil)) := fun σ n Q k hp => by
  refine h σ n _ k ((P_bind hp).imp (fun a δ1 _ h1 v n1 Sv S0 e1 k1 x1 r1 _ => ?_) fun _ _ z => z)
  cases e : itemsSh a with
  | none => rw [e] at h1; exact h1.elim
  | some ds =>
    rw [e] at h1
    obtain ⟨b, xs, rfl, l, hc⟩ := items_ok r1 e
    refine ⟨b, xs, rfl, hc.imp (·.1) (·.1), fun x hx => ?_⟩
    obtain ⟨x4, k4⟩ := x1.drop.newOwn (o := .lst xs) k1 hx trivial
    exact h1 (.ref x) (n1.nw x (.lst xs)) [x] e1 k4 x4 (.lst upd_same (rzl_rol (l.keep (kz_nw hx))))
def mTuple (m : M (Ty × D)) : M (Ty × D) := mBind m fun a => match itemsSh a with
  | some ds => mPure (.sh, .tup ds)
  | none => mBad
theorem simTuple (h : SimK C E p m ta) : SimV C E p (mTuple m) (tCB (fun xs H Q => ∃ p ys, xs = [.ref p] ∧ ((SqL C.K H p ys ∧ ∀ l, H l = none → Q (.ref l) (upd H l (.tup ys))) ∨ (SqT C.K H p ys ∧ Q (.ref p) H))) (tCons ta tNil)) := fun σ n Q k hp => by
  refine h σ n _ k ((P_bind hp).imp (fun a δ1 _ h1 v n1 Sv S0 e1 k1 x1 r1 _ => ?_) fun _ _ z => z)
  cases e : itemsSh a with
  | none => rw [e] at h1; exact h1.elim
  | some ds =>
    rw [e] at h1
    obtain ⟨b, xs, rfl, l, hc⟩ := items_ok r1 e
    refine ⟨b, xs, rfl, hc.imp (fun z => ⟨z.1, fun x hx => ?_⟩) fun z => ⟨z.1, ?_⟩⟩
    · obtain ⟨x4, k4⟩ := x1.drop.newSh (o := .tup xs) k1 hx
      exact h1 (.ref x) (n1.nw x (.tup xs)) [] e1 k4 x4 (.sh (.tup upd_same (l.keep (kz_nw hx))))
    · obtain ⟨sq, ea⟩ := z
      subst ea
      obtain ⟨_, rz⟩ := ro_sh r1
      exact h1 (.ref b) n1 [] e1 k1 x1.drop (.sh rz)
end
end VS

end

section
set_option Elab.async false
set_option linter.all false
set_option maxRecDepth 100000
set_option maxHeartbeats 2000000
/-! VS8: places, what changes them. -/
namespace VS
open PySem L2

mutual
def tyEq : Ty → Ty → Bool
  | .sh, .sh => true
  | .lst a, .lst b => tyEq a b
  | .dic a, .dic b => tyEq a b
  | .hls as, .hls bs => tyEqL as bs
  | .ins as, .ins bs => tyEqL as bs
  | _, _ => false
def tyEqL : List Ty → List Ty → Bool
  | [], [] => true
  | a :: as, b :: bs => tyEq a b && tyEqL as bs
  | _, _ => false
end
mutual
theorem tyEq_ok : ∀ {a b : Ty}, tyEq a b = true → a = b
  | .sh, .sh, _ => rfl
  | .lst a, .lst b, h => by rw [tyEq_ok (a := a) (b := b) (by simpa [tyEq] using h)]
  | .dic a, .dic b, h => by rw [tyEq_ok (a := a) (b := b) (by simpa [tyEq] using h)]
  | .hls as, .hls bs, h => by rw [tyEqL_ok (as := as) (bs := bs) (by simpa [tyEq] using h)]
  | .ins as, .ins bs, h => by rw [tyEqL_ok (as := as) (bs := bs) (by simpa [tyEq] using h)]
  | .sh, .lst _, h => by simp [tyEq] at h
  | .sh, .dic _, h => by simp [tyEq] at h
  | .sh, .hls _, h => by simp [tyEq] at h
  | .sh, .ins _, h => by simp [tyEq] at h
  | .lst _, .sh, h => by simp [tyEq] at h
  | .lst _, .dic _, h => by simp [tyEq] at h
  | .lst _, .hls _, h => by simp [tyEq] at h
  | .lst _, .ins _, h => by simp [tyEq] at h
  | .dic _, .sh, h => by simp [tyEq] at h
  | .dic _, .lst _, h => by simp [tyEq] at h
  | .dic _, .hls _, h => by simp [tyEq] at h
  | .dic _, .ins _, h => by simp [tyEq] at h
  | .hls _, .sh, h => by simp [tyEq] at h
  | .hls _, .lst _, h => by simp [tyEq] at h
  | .hls _, .dic _, h => by simp [tyEq] at h
  | .hls _, .ins _, h => by simp [tyEq] at h
  | .ins _, .sh, h => by simp [tyEq] at h
  | .ins _, .lst _, h => by simp [tyEq] at h
  | .ins _, .dic _, h => by simp [tyEq] at h
  | .ins _, .hls _, h => by simp [tyEq] at h
theorem tyEqL_ok : ∀ {as bs : List Ty}, tyEqL as bs = true → as = bs
  | [], [], _ => rfl
  | a :: as, b :: bs, h => by
    simp only [tyEqL, Bool.and_eq_true] at h
    rw [tyEq_ok h.1, tyEqL_ok h.2]
  | [], _ :: _, h => by simp [tyEqL] at h
  | _ :: _, [], h => by simp [tyEqL] at h
end

/-- a step down from a list to an item, from an instance to a field -/
inductive PS1 where
  | ix (k : Nat)
  | fld (f : Str)
/-- from v down to u -/
def Walk (H : Hp) : V → List PS1 → V → Prop
  | v, [], u => v = u
  | v, .ix k :: r, u => ∃ a xs w, v = .ref a ∧ H a = some (.lst xs) ∧ xs[k]? = some w ∧ Walk H w r u
  | v, .fld f :: r, u => ∃ a c dx fs w, v = .ref a ∧ H a = some (.ins c dx fs) ∧ fs.lookup f = some w ∧ Walk H w r u
theorem Walk.inj {H : Hp} : ∀ {π : List PS1} {v u w : V}, Walk H v π u → Walk H v π w → u = w
  | [], _, _, _, h, h' => h.symm.trans h'
  | .ix k :: r, _, _, _, ⟨a, xs, x, e, h1, h2, h3⟩, ⟨b, ys, y, e', h1', h2', h3'⟩ => by
    subst e
    cases e'
    rw [h1] at h1'
    cases h1'
    rw [h2] at h2'
    cases h2'
    exact Walk.inj h3 h3'
  | .fld f :: r, _, _, _, ⟨a, c, dx, fs, x, e, h1, h2, h3⟩, ⟨b, c', dx', gs, y, e', h1', h2', h3'⟩ => by
    subst e
    cases e'
    rw [h1] at h1'
    cases h1'
    rw [h2] at h2'
    cases h2'
    exact Walk.inj h3 h3'
theorem Walk.snoc {H : Hp} : ∀ {π : List PS1} {v u w : V} {s : PS1}, Walk H v π u → Walk H u [s] w → Walk H v (π ++ [s]) w
  | [], _, _, _, _, h, h' => by cases h; exact h'
  | .ix k :: r, _, _, _, _, ⟨a, xs, x, e, h1, h2, h3⟩, h' => ⟨a, xs, x, e, h1, h2, Walk.snoc h3 h'⟩
  | .fld f :: r, _, _, _, _, ⟨a, c, dx, fs, x, e, h1, h2, h3⟩, h' => ⟨a, c, dx, fs, x, e, h1, h2, Walk.snoc h3 h'⟩
/-- the place of a name among fields -/
def fIdx (f : Str) : List Str → Option Nat
  | [] => none
  | g :: r => if g = f then some 0 else (fIdx f r).map (· + 1)
def getP : Ty × D → List PS1 → Option (Ty × D)
  | a, [] => some a
  | (.lst t, .lst ds), .ix k :: r => ds[k]?.bind fun d => getP (t, d) r
  | (.hls ts, .lst ds), .ix k :: r => ts[k]?.bind fun t => ds[k]?.bind fun d => getP (t, d) r
  | (.ins ts, .ins _ fs), .fld f :: r => (fIdx f (fs.map (·.1))).bind fun k => ts[k]?.bind fun t => fs[k]?.bind fun d => getP (t, d.2) r
  | _, _ => none
def setP : D → List PS1 → D → D
  | _, [], e => e
  | .lst ds, .ix k :: r, e => match ds[k]? with
    | some d => .lst (ds.set k (setP d r e))
    | none => .lst ds
  | .ins c fs, .fld f :: r, e => match fIdx f (fs.map (·.1)) with
    | some k => (match fs[k]? with
      | some d => .ins c (fs.set k (d.1, setP d.2 r e))
      | none => .ins c fs)
    | none => .ins c fs
  | d, _, _ => d

section
variable {C : Ct} {E : St → XK} {p q : Bool} {σ σ1 : St} {n n1 : Sn} {a b m : M (Ty × D)} {ta tb : TE} {Sv : List Addr}
/-- an item of a row, the rest, and the row with another item -/
theorem RoL.at {Z : Addr → Prop} {H : Hp} : ∀ {k : Nat} {ts : List Ty} {vs : List V} {ds : List D} {S : List Addr} {t : Ty} {d : D}, RoL C Z H ts vs ds S → ts[k]? = some t → ds[k]? = some d →
    ∃ v S1 S2, vs[k]? = some v ∧ Ro C Z H t v d S1 ∧ S.Perm (S1 ++ S2) ∧
      ∀ {Z' : Addr → Prop} {H' : Hp} {d' : D} {S1' : List Addr}, Kz Z H Z' H' → (∀ x ∈ S2, H' x = H x) → Ro C Z' H' t v d' S1' → ∃ S', S'.Perm (S1' ++ S2) ∧ RoL C Z' H' ts vs (ds.set k d') S'
  | _, _, _, _, _, _, _, .nil, e, _ => by simp at e
  | 0, _, _, _, _, _, _, .cons (S1 := T1) (S2 := T2) h l, e1, e2 => by
    simp at e1 e2
    subst e1 e2
    refine ⟨_, T1, T2, rfl, h, List.Perm.refl _, fun {Z' H' d' S1'} kz same r => ⟨S1' ++ T2, List.Perm.refl _, .cons r (l.keep kz same)⟩⟩
  | k + 1, _, _, _, _, _, _, .cons (S1 := T1) (S2 := T2) h l, e1, e2 => by
    obtain ⟨v, S1, S2, e3, r, pm, f⟩ := RoL.at (k := k) l (by simpa using e1) (by simpa using e2)
    refine ⟨v, S1, T1 ++ S2, by simpa using e3, r, ?_, fun {Z' H' d' S1'} kz same r' => ?_⟩
    · exact (List.Perm.append_left T1 pm).trans (List.perm_append_comm_assoc T1 S1 S2)
    · obtain ⟨S', pm', l'⟩ := f kz (fun x m => same x (List.mem_append_right _ m)) r'
      refine ⟨T1 ++ S', ?_, .cons (h.keep kz fun x m => same x (List.mem_append_left _ m)) l'⟩
      exact (List.Perm.append_left T1 pm').trans (List.perm_append_comm_assoc T1 S1' S2)
theorem fIdx_lookup {α : Type} : ∀ {fs : List (Str × α)} {f : Str} {k : Nat} {x : Str × α}, fIdx f (fs.map (·.1)) = some k → fs[k]? = some x → fs.lookup f = some x.2
  | [], _, _, _, h, _ => by simp [fIdx] at h
  | (g, y) :: r, f, k, x, h, e => by
    simp only [List.map_cons, fIdx] at h
    by_cases hg : g = f
    · rw [if_pos hg] at h
      cases h
      simp at e
      subst e
      simp [List.lookup, hg]
    · rw [if_neg hg, Option.map_eq_some_iff] at h
      obtain ⟨j, e1, rfl⟩ := h
      have := fIdx_lookup (fs := r) e1 (by simpa using e)
      have hb : (f == g) = false := by simpa using fun z => hg z.symm
      simp [List.lookup, hb, this]
theorem map_get {α β : Type} {f : α → β} {xs : List α} {k : Nat} {y : β} (h : (xs.map f)[k]? = some y) : ∃ x, xs[k]? = some x ∧ f x = y := by
  rw [List.getElem?_map, Option.map_eq_some_iff] at h
  exact h
/-- what stands at a place, the rest, and the whole with something else at the place -/
theorem Ro.at {Z : Addr → Prop} {H : Hp} : ∀ {π : List PS1} {t t' : Ty} {v : V} {d d' : D} {S : List Addr}, Ro C Z H t v d S → getP (t, d) π = some (t', d') →
    ∃ u S1 S2, Walk H v π u ∧ Ro C Z H t' u d' S1 ∧ S.Perm (S1 ++ S2) ∧
      ∀ {Z' : Addr → Prop} {H' : Hp} {e : D} {S1' : List Addr}, Kz Z H Z' H' → (∀ x ∈ S2, H' x = H x) → Ro C Z' H' t' u e S1' → ∃ S', S'.Perm (S1' ++ S2) ∧ Ro C Z' H' t v (setP d π e) S'
  | [], _, _, v, _, _, S, r, h => by
    simp [getP] at h
    obtain ⟨rfl, rfl⟩ := h
    exact ⟨v, S, [], rfl, r, by simp, fun {Z' H' e S1'} _ _ r' => ⟨S1', by simp, by simpa [setP] using r'⟩⟩
  | .ix k :: π, _, t', _, _, d', _, .lst (t := t) (a := a) (xs := xs) (ds := ds) (S := S0) e l, h => by
    simp only [getP] at h
    rw [Option.bind_eq_some_iff] at h
    obtain ⟨d0, e0, h⟩ := h
    have hk : k < ds.length := by
      rcases Nat.lt_or_ge k ds.length with z | z
      · exact z
      · rw [List.getElem?_eq_none z] at e0; cases e0
    obtain ⟨w, S1, S2, e1, r1, pm1, f1⟩ := l.at (k := k) (t := t) (by rw [List.getElem?_replicate, if_pos (by rw [l.len.1]; exact hk)]) e0
    obtain ⟨u, S3, S4, wk, r2, pm2, f2⟩ := Ro.at (π := π) r1 h
    refine ⟨u, S3, S4 ++ (a :: S2), ⟨a, xs, w, rfl, e, e1, wk⟩, r2, ?_, fun {Z' H' e' S1'} kz same r' => ?_⟩
    · have h1 : (a :: S0).Perm (S1 ++ (a :: S2)) := (List.Perm.cons a pm1).trans List.perm_middle.symm
      refine h1.trans ((pm2.append_right _).trans ?_)
      rw [List.append_assoc]
    · obtain ⟨S5, pm5, r5⟩ := f2 kz (fun x m => same x (List.mem_append_left _ m)) r'
      obtain ⟨S6, pm6, r6⟩ := f1 kz (fun x m => same x (List.mem_append_right _ (List.mem_cons_of_mem _ m))) r5
      have ea : H' a = some (.lst xs) := (same a (List.mem_append_right _ List.mem_cons_self)).trans e
      refine ⟨a :: S6, ?_, ?_⟩
      · refine (List.Perm.cons a (pm6.trans (pm5.append_right S2))).trans ?_
        rw [List.append_assoc, ← List.append_assoc S1']
        refine List.Perm.trans ?_ (List.Perm.of_eq (List.append_assoc _ _ _))
        refine List.perm_middle.symm.trans ?_
        exact List.Perm.refl _
      · simp only [setP]
        rw [e0]
        exact .lst ea r6
  | .ix k :: π, _, t', _, _, d', _, .hls (ts := ts) (a := a) (xs := xs) (ds := ds) (S := S0) e l, h => by
    simp only [getP] at h
    rw [Option.bind_eq_some_iff] at h
    obtain ⟨t0, et, h⟩ := h
    rw [Option.bind_eq_some_iff] at h
    obtain ⟨d0, e0, h⟩ := h
    obtain ⟨w, S1, S2, e1, r1, pm1, f1⟩ := l.at (k := k) et e0
    obtain ⟨u, S3, S4, wk, r2, pm2, f2⟩ := Ro.at (π := π) r1 h
    refine ⟨u, S3, S4 ++ (a :: S2), ⟨a, xs, w, rfl, e, e1, wk⟩, r2, ?_, fun {Z' H' e' S1'} kz same r' => ?_⟩
    · have h1 : (a :: S0).Perm (S1 ++ (a :: S2)) := (List.Perm.cons a pm1).trans List.perm_middle.symm
      refine h1.trans ((pm2.append_right _).trans ?_)
      rw [List.append_assoc]
    · obtain ⟨S5, pm5, r5⟩ := f2 kz (fun x m => same x (List.mem_append_left _ m)) r'
      obtain ⟨S6, pm6, r6⟩ := f1 kz (fun x m => same x (List.mem_append_right _ (List.mem_cons_of_mem _ m))) r5
      have ea : H' a = some (.lst xs) := (same a (List.mem_append_right _ List.mem_cons_self)).trans e
      refine ⟨a :: S6, ?_, ?_⟩
      · refine (List.Perm.cons a (pm6.trans (pm5.append_right S2))).trans ?_
        refine List.perm_middle.symm.trans ?_
        rw [List.append_assoc]
      · simp only [setP]
        rw [e0]
        exact .hls ea r6
  | .fld f :: π, _, t', _, _, d', _, .ins (ts := ts) (a := a) (dx := dx) (c := c) (fs := fs) (ds := ds) (S := S0) e q l, h => by
    simp only [getP] at h
    rw [Option.bind_eq_some_iff] at h
    obtain ⟨k, ek, h⟩ := h
    rw [Option.bind_eq_some_iff] at h
    obtain ⟨t0, et, h⟩ := h
    rw [Option.bind_eq_some_iff] at h
    obtain ⟨d0, e0, h⟩ := h
    obtain ⟨w, S1, S2, e1, r1, pm1, f1⟩ := l.at (k := k) (d := d0.2) et (by rw [List.getElem?_map, e0]; rfl)
    obtain ⟨u, S3, S4, wk, r2, pm2, f2⟩ := Ro.at (π := π) r1 h
    obtain ⟨fk, efk, e2⟩ := map_get e1
    have lk : fs.lookup f = some w := by
      rw [← e2]
      rw [q] at ek
      exact fIdx_lookup ek efk
    refine ⟨u, S3, S4 ++ (a :: S2), ⟨a, _, dx, fs, w, rfl, e, lk, wk⟩, r2, ?_, fun {Z' H' e' S1'} kz same r' => ?_⟩
    · have h1 : (a :: S0).Perm (S1 ++ (a :: S2)) := (List.Perm.cons a pm1).trans List.perm_middle.symm
      refine h1.trans ((pm2.append_right _).trans ?_)
      rw [List.append_assoc]
    · obtain ⟨S5, pm5, r5⟩ := f2 kz (fun x m => same x (List.mem_append_left _ m)) r'
      obtain ⟨S6, pm6, r6⟩ := f1 kz (fun x m => same x (List.mem_append_right _ (List.mem_cons_of_mem _ m))) r5
      have ea : H' a = some (.ins (C.ca c) dx fs) := (same a (List.mem_append_right _ List.mem_cons_self)).trans e
      refine ⟨a :: S6, ?_, ?_⟩
      · refine (List.Perm.cons a (pm6.trans (pm5.append_right S2))).trans ?_
        refine List.perm_middle.symm.trans ?_
        rw [List.append_assoc]
      · simp only [setP]
        rw [ek]
        dsimp only
        rw [e0]
        have hset : ∀ {xs : List (Str × D)} {k : Nat} {y : Str × D}, xs[k]? = some d0 → y.1 = d0.1 → (xs.set k y).map (·.1) = xs.map (·.1) := by
          intro xs k y e1 e2
          rw [List.map_set, e2]
          refine List.ext_getElem? fun j => ?_
          by_cases hj : k = j
          · subst hj
            rw [List.getElem?_set]
            simp only [if_true]
            rw [List.getElem?_map, e1]
            have : k < (xs.map (·.1)).length := by
              rw [List.length_map]
              rcases Nat.lt_or_ge k xs.length with z | z
              · exact z
              · rw [List.getElem?_eq_none z] at e1; cases e1
            rw [if_pos this]
            rfl
          · rw [List.getElem?_set_ne hj]
        refine .ins ea ((hset (y := (d0.1, setP d0.2 π e')) e0 rfl).trans q) ?_
        rw [List.map_set]
        exact r6
  | .fld _ :: _, _, _, _, _, _, _, .lst _ _, h => by simp [getP] at h
  | .fld _ :: _, _, _, _, _, _, _, .hls _ _, h => by simp [getP] at h
  | .ix _ :: _, _, _, _, _, _, _, .ins _ _ _, h => by simp [getP] at h
  | .ix _ :: _, _, _, _, _, _, _, .sh _, h => by simp [getP] at h
  | .fld _ :: _, _, _, _, _, _, _, .sh _, h => by simp [getP] at h
  | .ix _ :: _, _, _, _, _, _, _, .dK _ _ _, h => by simp [getP] at h
  | .fld _ :: _, _, _, _, _, _, _, .dK _ _ _, h => by simp [getP] at h
  | .ix _ :: _, _, _, _, _, _, _, .dT _ _ _, h => by simp [getP] at h
  | .fld _ :: _, _, _, _, _, _, _, .dT _ _ _, h => by simp [getP] at h
end
end VS

end

section
set_option Elab.async false
set_option linter.all false
set_option maxRecDepth 100000
set_option maxHeartbeats 2000000
/-! VS9: lists that change, by places. -/
namespace VS
open PySem L2

section
variable {C : Ct} {E : St → XK} {p q : Bool} {σ σ1 : St} {n n1 n2 : Sn} {a b m : M (Ty × D)} {ta tb : TE} {Sv Sw : List Addr}
/-- while nothing that was there changes -/
theorem Tr.all (x : Tr true n n1 Sv) : ∀ b o, n.H b = some o → n1.H b = some o := fun b o e => by
  by_cases h : b ∈ n.S
  · rw [(x.pr rfl).2.2 b h]; exact e
  · exact x.st.keep b o e h
theorem Walk.keep {H H' : Hp} (k : ∀ b o, H b = some o → H' b = some o) : ∀ {π : List PS1} {v u : V}, Walk H v π u → Walk H' v π u
  | [], _, _, h => h
  | .ix i :: r, _, _, ⟨a, xs, x, e, h1, h2, h3⟩ => ⟨a, xs, x, e, k _ _ h1, h2, Walk.keep k h3⟩
  | .fld f :: r, _, _, ⟨a, c, dx, fs, x, e, h1, h2, h3⟩ => ⟨a, c, dx, fs, x, e, k _ _ h1, h2, Walk.keep k h3⟩
/-- a place: a slot and a way down -/
def SimL (C : Ct) (E : St → XK) (pu : Bool) (m : M (Nat × List PS1)) (t : TE) : Prop := ∀ (σ : St) (n : Sn) (Q : VK), n.Ok C σ →
  (m n.δ).P (fun a δ' => ∀ v v0 n', n'.δ = δ' → n'.Ok C σ → Tr pu n n' [] → σ[a.1]? = some (some v0) → Walk n'.H v0 a.2 v → Q v n'.H) (ExP C (E σ) n) → t σ n.H Q
def slotP (δ : Env) (i : Nat) (π : List PS1) : Option (Ty × D) := match δ[i]? with
  | some (some c) => getP c π
  | _ => none
def mSlot (i : Nat) : M (Nat × List PS1) := fun δ => match δ[i]? with
  | some (some _) => .ok (i, []) δ
  | _ => .bad
theorem simSlot (i : Nat) : SimL C E true (mSlot i) (tVar i) := fun σ n Q k hp => by
  unfold mSlot at hp
  cases e : n.δ[i]? with
  | none => rw [e] at hp; exact hp.elim
  | some o =>
    rw [e] at hp
    cases o with
    | none => exact hp.elim
    | some a =>
      obtain ⟨v, S1, S2, e1, r, pm, r2⟩ := k.en.take e
      exact ⟨v, e1, hp v v n rfl k (Tr.refl k) e1 rfl⟩
/-- one step further, to an item -/
def pIx (a : Nat × List PS1) (x : Ty × D) : M (Nat × List PS1) := fun δ => match slotP δ a.1 a.2, x.2 with
  | some (_, .lst ds), .int k => (match ixN ds.length k with
    | some j => (match slotP δ a.1 (a.2 ++ [.ix j]) with
      | some _ => .ok (a.1, a.2 ++ [.ix j]) δ
      | none => .bad)
    | none => .bad)
  | _, _ => .bad
def mPlIx (b : M (Nat × List PS1)) (e : M (Ty × D)) : M (Nat × List PS1) := mBind b fun a => mBind e (pIx a)
theorem slotP_ok {i : Nat} {π : List PS1} {c : Ty × D} {v0 : V} (k : n.Ok C σ) (e : slotP n.δ i π = some c) (ev : σ[i]? = some (some v0)) : ∃ u S0, Walk n.H v0 π u ∧ Ro C n.Z n.H c.1 u c.2 S0 ∧ ∀ x ∈ S0, x ∈ n.S := by
  unfold slotP at e
  cases q : n.δ[i]? with
  | none => rw [q] at e; cases e
  | some o =>
    rw [q] at e
    cases o with
    | none => cases e
    | some c0 =>
      obtain ⟨v, S1, S2, e1, r, pm, r2⟩ := k.en.take q
      rw [ev] at e1
      cases e1
      obtain ⟨u, S3, S4, wk, r3, pm3, _⟩ := r.at e
      exact ⟨u, S3, wk, r3, fun x m => pm.mem_iff.mpr (List.mem_append_left _ (pm3.mem_iff.mpr (List.mem_append_left _ m)))⟩
theorem getP_last : ∀ {π : List PS1} {a c : Ty × D} {s : PS1}, getP a (π ++ [s]) = some c → ∃ b, getP a π = some b ∧ getP b [s] = some c
  | [], a, c, s, h => ⟨a, rfl, h⟩
  | .ix k :: r, (.lst t, .lst ds), c, s, h => by
    simp only [List.cons_append, getP] at h ⊢
    rw [Option.bind_eq_some_iff] at h
    obtain ⟨d, e, h⟩ := h
    obtain ⟨b, h1, h2⟩ := getP_last h
    exact ⟨b, by rw [e]; exact h1, h2⟩
  | .ix k :: r, (.hls ts, .lst ds), c, s, h => by
    simp only [List.cons_append, getP] at h ⊢
    rw [Option.bind_eq_some_iff] at h
    obtain ⟨t, et, h⟩ := h
    rw [Option.bind_eq_some_iff] at h
    obtain ⟨d, e, h⟩ := h
    obtain ⟨b, h1, h2⟩ := getP_last h
    exact ⟨b, by rw [et, e]; exact h1, h2⟩
  | .fld f :: r, (.ins ts, .ins c' fs), c, s, h => by
    simp only [List.cons_append, getP] at h ⊢
    rw [Option.bind_eq_some_iff] at h
    obtain ⟨k, ek, h⟩ := h
    rw [Option.bind_eq_some_iff] at h
    obtain ⟨t, et, h⟩ := h
    rw [Option.bind_eq_some_iff] at h
    obtain ⟨d, e, h⟩ := h
    obtain ⟨b, h1, h2⟩ := getP_last h
    exact ⟨b, by rw [ek]; simp only [Option.bind_some]; rw [et, e]; exact h1, h2⟩
  | .ix _ :: _, (.sh, _), _, _, h => by simp [getP] at h
  | .ix _ :: _, (.dic _, _), _, _, h => by simp [getP] at h
  | .ix _ :: _, (.ins _, _), _, _, h => by simp [getP] at h
  | .ix _ :: _, (.lst _, .non), _, _, h => by simp [getP] at h
  | .ix _ :: _, (.lst _, .bl _), _, _, h => by simp [getP] at h
  | .ix _ :: _, (.lst _, .int _), _, _, h => by simp [getP] at h
  | .ix _ :: _, (.lst _, .str _), _, _, h => by simp [getP] at h
  | .ix _ :: _, (.lst _, .tup _), _, _, h => by simp [getP] at h
  | .ix _ :: _, (.lst _, .dic _), _, _, h => by simp [getP] at h
  | .ix _ :: _, (.lst _, .ins _ _), _, _, h => by simp [getP] at h
  | .ix _ :: _, (.hls _, .non), _, _, h => by simp [getP] at h
  | .ix _ :: _, (.hls _, .bl _), _, _, h => by simp [getP] at h
  | .ix _ :: _, (.hls _, .int _), _, _, h => by simp [getP] at h
  | .ix _ :: _, (.hls _, .str _), _, _, h => by simp [getP] at h
  | .ix _ :: _, (.hls _, .tup _), _, _, h => by simp [getP] at h
  | .ix _ :: _, (.hls _, .dic _), _, _, h => by simp [getP] at h
  | .ix _ :: _, (.hls _, .ins _ _), _, _, h => by simp [getP] at h
  | .fld _ :: _, (.sh, _), _, _, h => by simp [getP] at h
  | .fld _ :: _, (.dic _, _), _, _, h => by simp [getP] at h
  | .fld _ :: _, (.lst _, _), _, _, h => by simp [getP] at h
  | .fld _ :: _, (.hls _, _), _, _, h => by simp [getP] at h
  | .fld _ :: _, (.ins _, .non), _, _, h => by simp [getP] at h
  | .fld _ :: _, (.ins _, .bl _), _, _, h => by simp [getP] at h
  | .fld _ :: _, (.ins _, .int _), _, _, h => by simp [getP] at h
  | .fld _ :: _, (.ins _, .str _), _, _, h => by simp [getP] at h
  | .fld _ :: _, (.ins _, .tup _), _, _, h => by simp [getP] at h
  | .fld _ :: _, (.ins _, .dic _), _, _, h => by simp [getP] at h
  | .fld _ :: _, (.ins _, .lst _), _, _, h => by simp [getP] at h
/-- behind base and index, where the way to the base still leads to v -/
theorem pIx_ok {a0 : Nat × List PS1} {x : Ty × D} {v v0 w : V} {S1 : List Addr} {Q : VK} (k2 : n2.Ok C σ) (e0 : σ[a0.1]? = some (some v0)) (wk : Walk n2.H v0 a0.2 v) (rx : Ro C n2.Z n2.H x.1 w x.2 S1)
    (hp : (pIx a0 x n2.δ).P (fun a δ' => ∀ v v0 n', n'.δ = δ' → n'.Ok C σ → Tr p n n' [] → σ[a.1]? = some (some v0) → Walk n'.H v0 a.2 v → Q v n'.H) (ExP C (E σ) n)) (x2 : Tr p n n2 []) : rIx C.K v w n2.H Q := by
  unfold pIx at hp
  cases es : slotP n2.δ a0.1 a0.2 with
  | none => rw [es] at hp; exact hp.elim
  | some c =>
    obtain ⟨t, d⟩ := c
    rw [es] at hp
    cases d with
    | lst ds =>
      obtain ⟨tx, dx⟩ := x
      cases dx with
      | int i =>
        dsimp only at hp rx
        cases ej : ixN ds.length i with
        | none => rw [ej] at hp; exact hp.elim
        | some j =>
          rw [ej] at hp
          dsimp only at hp
          cases e2 : slotP n2.δ a0.1 (a0.2 ++ [.ix j]) with
          | none => rw [e2] at hp; exact hp.elim
          | some c2 =>
            rw [e2] at hp
            cases rx.any
            obtain ⟨u, S0, wk1, r1, _⟩ := slotP_ok k2 es e0
            obtain ⟨u2, S2, wk2, r2, _⟩ := slotP_ok k2 e2 e0
            have eu := wk1.inj wk
            subst eu
            -- the last step
            have last : ∃ aa xs, u = .ref aa ∧ n2.H aa = some (.lst xs) ∧ xs.length = ds.length := by
              unfold slotP at es e2
              cases qq : n2.δ[a0.1]? with
              | none => rw [qq] at es; cases es
              | some oo =>
                rw [qq] at es e2
                cases oo with
                | none => cases es
                | some c0 =>
                  obtain ⟨bb, hb1, hb2⟩ := getP_last e2
                  have hb3 : getP c0 a0.2 = some (t, D.lst ds) := es
                  rw [hb1] at hb3
                  cases hb3
                  cases r1 with
                  | lst e l => exact ⟨_, _, rfl, e, l.len.1⟩
                  | hls e l => exact ⟨_, _, rfl, e, l.len.1⟩
                  | sh r => simp [getP] at hb2
            obtain ⟨aa, xs, rfl, ea, el⟩ := last
            have hj : ∃ wv, xs[j]? = some wv := by
              have : j < ds.length := by
                unfold ixN at ej
                split at ej
                · split at ej
                  · cases ej; omega
                  · cases ej
                · split at ej
                  · cases ej; omega
                  · cases ej
              exact ⟨xs[j]'(by omega), by simp [el, this]⟩
            obtain ⟨wv, ew⟩ := hj
            refine .inl ⟨aa, xs, i, wv, rfl, rfl, .inl (.inl ea), by unfold atI; rw [el, ej]; exact ew, ?_⟩
            exact hp wv v0 n2 rfl k2 x2 e0 (wk.snoc ⟨aa, xs, wv, rfl, ea, ew, rfl⟩)
      | _ => exact hp.elim
    | _ => exact hp.elim
theorem simPlIx {b : M (Nat × List PS1)} {e : M (Ty × D)} (hb : SimL C E p b tb) (he : SimK C E true e ta) : SimL C E p (mPlIx b e) (tOp (rIx C.K) tb ta) := fun σ n Q k hp => by
  refine hb σ n (fun x H1 => ta σ H1 fun y H2 => rIx C.K x y H2 Q) k ((P_bind hp).imp (fun a0 δ1 _ h1 v v0 n1 e1 k1 x1 e0 wk => ?_) fun _ _ z => z)
  subst e1
  refine he σ n1 _ k1 ((P_bind h1).imp (fun x δ2 _ h2 w n2 Sv S0 e2 k2 x2 r2 s2 => ?_) fun _ _ z => z.tr x1)
  subst e2
  exact pIx_ok k2 e0 (wk.keep x2.all) r2 h2 ((x1.seq x2.drop).pu fun z => by simp [z])
/-- an item of a slot's list, the index may change other things -/
theorem simPlIx0 {i : Nat} {e : M (Ty × D)} (he : SimK C E p e ta) : SimL C E p (mPlIx (mSlot i) e) (tOp (rIx C.K) (tVar i) ta) := fun σ n Q k hp => by
  have h0 := P_bind hp
  unfold mSlot at h0
  cases es : n.δ[i]? with
  | none => rw [es] at h0; exact h0.elim
  | some o =>
    rw [es] at h0
    cases o with
    | none => exact h0.elim
    | some c =>
      obtain ⟨v, S1, S2, e1, r, pm, r2⟩ := k.en.take es
      refine ⟨v, e1, ?_⟩
      refine he σ n (fun y H2 => rIx C.K v y H2 Q) k ((P_bind (show (mBind e (pIx (i, [])) n.δ).P _ _ from h0)).imp (fun x δ2 _ h2 w n2 Sv S0 e2 k2 x2 r2 s2 => ?_) fun _ _ z => z)
      subst e2
      exact pIx_ok (a0 := (i, [])) (v0 := v) k2 e1 rfl r2 h2 x2.drop
/-- to a field -/
def mPlFld (c : String) (f : Str) (b : M (Nat × List PS1)) : M (Nat × List PS1) := mBind b fun a δ => match slotP δ a.1 a.2 with
  | some (_, .ins c' _) => if c' = c then (match slotP δ a.1 (a.2 ++ [.fld f]) with
    | some _ => .ok (a.1, a.2 ++ [.fld f]) δ
    | none => .bad) else .bad
  | _ => .bad
theorem simPlFld {c : String} {f : Str} {b : M (Nat × List PS1)} (cl : Cls C.K (C.ca c)) (na : NoAttr C.K (C.ca c) f) (hb : SimL C E p b tb) : SimL C E p (mPlFld c f b) (tFld C.K tb f) := fun σ n Q k hp => by
  refine hb σ n _ k ((P_bind hp).imp (fun a0 δ1 _ h1 v v0 n1 e1 k1 x1 e0 wk => ?_) fun _ _ z => z)
  subst e1
  cases es : slotP n1.δ a0.1 a0.2 with
  | none => rw [es] at h1; exact h1.elim
  | some cc =>
    obtain ⟨t, d⟩ := cc
    rw [es] at h1
    cases d with
    | ins c' ds =>
      dsimp only at h1
      by_cases hc : c' = c
      · subst hc
        rw [if_pos rfl] at h1
        cases e2 : slotP n1.δ a0.1 (a0.2 ++ [.fld f]) with
        | none => rw [e2] at h1; exact h1.elim
        | some c2 =>
          rw [e2] at h1
          obtain ⟨u, S0, wk1, r1, _⟩ := slotP_ok k1 es e0
          obtain ⟨u2, S2, wk2, r2, _⟩ := slotP_ok k1 e2 e0
          have eu := wk1.inj wk
          subst eu
          have last : ∃ aa dx fs w, u = .ref aa ∧ n1.H aa = some (.ins (C.ca c') dx fs) ∧ fs.lookup f = some w := by
            unfold slotP at es e2
            cases qq : n1.δ[a0.1]? with
            | none => rw [qq] at es; cases es
            | some oo =>
              rw [qq] at es e2
              cases oo with
              | none => cases es
              | some c0 =>
                obtain ⟨bb, hb1, hb2⟩ := getP_last e2
                have hb3 : getP c0 a0.2 = some (t, D.ins c' ds) := es
                rw [hb1] at hb3
                cases hb3
                cases r1 with
                | ins e q l =>
                  simp only [getP] at hb2
                  rw [Option.bind_eq_some_iff] at hb2
                  obtain ⟨kk, ek, hb2⟩ := hb2
                  rw [Option.bind_eq_some_iff] at hb2
                  obtain ⟨tt, et, hb2⟩ := hb2
                  rw [Option.bind_eq_some_iff] at hb2
                  obtain ⟨dd, ed, hb2⟩ := hb2
                  rw [q] at ek
                  obtain ⟨t2, v2, S3, f0, f1, f2, _⟩ := l.get (j := kk) (d := dd.2) (by rw [List.getElem?_map, ed]; rfl)
                  obtain ⟨fk, efk, e4⟩ := map_get f1
                  exact ⟨_, _, _, fk.2, rfl, e, fIdx_lookup ek efk⟩
                | sh r => simp [getP] at hb2
          obtain ⟨aa, dx, fs, w, rfl, ea, el⟩ := last
          exact ⟨aa, C.ca c', dx, fs, w, rfl, ea, cl, na, el, h1 w v0 n1 rfl k1 x1 e0 (wk.snoc ⟨aa, _, dx, fs, w, rfl, ea, el, rfl⟩)⟩
      · rw [if_neg hc] at h1; exact h1.elim
    | _ => exact h1.elim

/-! ### an owned list changes -/
/-- what an operation makes of an owned list and its arguments -/
abbrev LOp := Ty → List D → List (Ty × D) → Option ((Ty × D) × List D)
def SemL (C : Ct) (op : LOp) (r : V → List V → Hp → VK → Prop) : Prop := ∀ (Z : Addr → Prop) (H : Hp) (a : Addr) (t : Ty) (ds ds' : List D) (args : List (Ty × D)) (vs : List V) (S1 Sv : List Addr) (res : Ty × D),
  Ro C Z H t (.ref a) (.lst ds) S1 → RoL C Z H (args.map (·.1)) vs (args.map (·.2)) Sv → Sit Z H (S1 ++ Sv) → op t ds args = some (res, ds') →
  ∃ (u : V) (xs' : List V) (Z' : Addr → Prop) (S1' Sp : List Addr), a ∈ S1 ∧ (∀ x, Z x → Z' x) ∧ (∀ x, Z' x → Z x ∨ x ∈ S1 ++ Sv) ∧ (∃ L, (S1' ++ Sp).Perm L ∧ L.Sublist (S1 ++ Sv)) ∧ (∀ x ∈ S1' ++ Sp, ¬ Z' x) ∧
    Ro C Z' (upd H a (.lst xs')) t (.ref a) (.lst ds') S1' ∧ Ro C Z' (upd H a (.lst xs')) res.1 u res.2 Sp ∧ ∀ Q : VK, Q u (upd H a (.lst xs')) → r (.ref a) vs H Q
def pUpd (a : Nat × List PS1) (op : LOp) (xs : List (Ty × D)) : M (Ty × D) := fun δ => match δ[a.1]? with
  | some (some (t0, d0)) => (match getP (t0, d0) a.2 with
    | some (t, .lst ds) => (match op t ds xs with
      | some (res, ds') => .ok res (δ.set a.1 (some (t0, setP d0 a.2 (.lst ds'))))
      | none => .bad)
    | _ => .bad)
  | _ => .bad
theorem pUpd_ok {op : LOp} {r : V → List V → Hp → VK → Prop} (hs : SemL C op r) {a0 : Nat × List PS1} {args : List (Ty × D)} {v v0 : V} {vs : List V} {Q : VK} (k2 : n2.Ok C σ) (e0 : σ[a0.1]? = some (some v0)) (wk : Walk n2.H v0 a0.2 v)
    (si : Sit n2.Z n2.H (n2.S ++ Sv)) (st : Step n.Z n.H n.S n2.Z n2.H (n2.S ++ Sv)) (ra : RoL C n2.Z n2.H (args.map (·.1)) vs (args.map (·.2)) Sv)
    (hp : (pUpd a0 op args n2.δ).P (fun a δ' => ∀ v n' Sv, n'.δ = δ' → n'.Ok C σ → Tr false n n' Sv → Ro C n'.Z n'.H a.1 v a.2 Sv → Q v n'.H) (ExP C (E σ) n)) : r v vs n2.H Q := by
  unfold pUpd at hp
  cases es : n2.δ[a0.1]? with
  | none => rw [es] at hp; exact hp.elim
  | some oo =>
    rw [es] at hp
    cases oo with
    | none => exact hp.elim
    | some c0 =>
      obtain ⟨t0, d0⟩ := c0
      dsimp only at hp
      cases eg : getP (t0, d0) a0.2 with
      | none => rw [eg] at hp; exact hp.elim
      | some c1 =>
        obtain ⟨t, d⟩ := c1
        rw [eg] at hp
        cases d with
        | lst ds =>
          dsimp only at hp
          cases eo : op t ds args with
          | none => rw [eo] at hp; exact hp.elim
          | some y =>
            obtain ⟨res, ds'⟩ := y
            rw [eo] at hp
            dsimp only at hp
            obtain ⟨v', Sw1, S2, e1, r0, pm, r2⟩ := k2.en.take es
            rw [e0] at e1
            cases e1
            obtain ⟨u, Sp1, Sr, wk1, r1, pm1, put⟩ := r0.at eg
            have eu := wk1.inj wk
            subst eu
            -- u is an address
            have hu : ∃ aa, u = .ref aa := by
              cases r1 with
              | sh r => cases r with
                | lst z e l => exact ⟨_, rfl⟩
                | frz e l => exact ⟨_, rfl⟩
                | klst e l => exact ⟨_, rfl⟩
              | lst e l => exact ⟨_, rfl⟩
              | hls e l => exact ⟨_, rfl⟩
            obtain ⟨aa, rfl⟩ := hu
            -- all that is owned: the place's, the rest of the slot's, the other slots', beside
            have pall : (n2.S ++ Sv).Perm ((Sp1 ++ Sv) ++ (Sr ++ S2)) := by
              refine ((pm.trans (pm1.append_right S2)).append_right Sv).trans ?_
              simp only [List.append_assoc]
              refine List.Perm.append_left Sp1 ?_
              rw [← List.append_assoc Sr]
              exact List.perm_append_comm.trans (List.Perm.of_eq rfl)
            have sall := si.perm pall
            obtain ⟨w, xs', Z', S1', Sp, ha, z1, z2, ⟨L, pL, sL⟩, dj, rn, rw', fin⟩ := hs n2.Z n2.H aa t ds ds' args vs Sp1 Sv res r1 ra (sall.sub (List.sublist_append_left _ _)) eo
            have nd := sall.nd
            have apart : ∀ x ∈ Sr ++ S2, x ∉ Sp1 ++ Sv := fun x m z => (List.nodup_append.mp nd).2.2 x z x m rfl
            have same : ∀ x ∈ Sr ++ S2, (upd n2.H aa (.lst xs')) x = n2.H x := fun x m => upd_ne fun z => apart x m (z ▸ List.mem_append_left _ ha)
            have kz : Kz n2.Z n2.H Z' (upd n2.H aa (.lst xs')) := by
              refine ⟨z1, fun x o e h => ?_⟩
              have : x ≠ aa := fun z => by
                subst z
                rcases h with h | h
                · exact sall.dj x (List.mem_append_left _ (List.mem_append_left _ ha)) h
                · have := sall.mu x (List.mem_append_left _ (List.mem_append_left _ ha))
                  rw [e] at this
                  exact not_own_imm h this
              rw [upd_ne this]; exact e
            obtain ⟨Sn1, pmn, rN⟩ := put kz (fun x m => same x (List.mem_append_left _ m)) rn
            have r2' := r2.keep kz fun x m => same x (List.mem_append_right _ m)
            have hi : a0.1 < n2.δ.length := by
              rcases Nat.lt_or_ge a0.1 n2.δ.length with z | z
              · exact z
              · rw [List.getElem?_eq_none z] at es; cases es
            obtain ⟨Sf, pmf, rf⟩ := r2'.put (i := a0.1) (by simp [hi]) e0 rN
            rw [List.set_set] at rf
            -- the new whole
            have pnew : (Sf ++ Sp).Perm ((S1' ++ Sp) ++ (Sr ++ S2)) := by
              refine ((pmf.trans (pmn.append_right S2)).append_right Sp).trans ?_
              simp only [List.append_assoc]
              refine List.Perm.append_left S1' ?_
              rw [← List.append_assoc Sr]
              exact List.perm_append_comm.trans (List.Perm.of_eq rfl)
            have ndnew : ((S1' ++ Sp) ++ (Sr ++ S2)).Nodup := by
              have h1 : (L ++ (Sr ++ S2)).Nodup := nd.sublist (sL.append_right _)
              exact (pL.append_right (Sr ++ S2)).nodup_iff.mpr h1
            have old : ∀ x ∈ (S1' ++ Sp) ++ (Sr ++ S2), x ∈ n2.S ++ Sv := fun x m => by
              refine pall.mem_iff.mpr ?_
              rcases List.mem_append.mp m with m | m
              · exact List.mem_append_left _ (sL.subset (pL.mem_iff.mp m))
              · exact List.mem_append_right _ m
            have sinew : Sit Z' (upd n2.H aa (.lst xs')) (Sf ++ Sp) := by
              refine Sit.perm ⟨ndnew, fun x m z => ?_, fun x m => ?_, fun x z => ?_⟩ pnew.symm
              · rcases List.mem_append.mp m with m | m
                · exact dj x m z
                · rcases z2 x z with z | z
                  · exact sall.dj x (List.mem_append_right _ m) z
                  · exact apart x m z
              · by_cases e : x = aa
                · rw [e, upd_same]; trivial
                · rw [upd_ne e]; exact si.mu x (old x m)
              · by_cases e : x = aa
                · exact ⟨_, by rw [e, upd_same]⟩
                · rw [upd_ne e]
                  rcases z2 x z with z | z
                  · exact si.zh x z
                  · have := sall.mu x (List.mem_append_left _ z)
                    cases q : n2.H x with
                    | none => rw [q] at this; exact this.elim
                    | some o => exact ⟨o, rfl⟩
            have stp : Step n2.Z n2.H (n2.S ++ Sv) Z' (upd n2.H aa (.lst xs')) (Sf ++ Sp) := by
              refine ⟨fun x o e h => ?_, z1, fun x z => ?_, fun x m => .inl (old x (pnew.mem_iff.mp m))⟩
              · rw [upd_ne fun z => h (pall.mem_iff.mpr (List.mem_append_left _ (List.mem_append_left _ (by rw [z]; exact ha))))]; exact e
              · rcases z2 x z with z | z
                · exact .inl z
                · exact .inr (.inl (pall.mem_iff.mpr (List.mem_append_left _ z)))
            exact fin Q (hp w ⟨Z', upd n2.H aa (.lst xs'), Sf, n2.δ.set a0.1 (some (t0, setP d0 a0.2 (.lst ds')))⟩ Sp rfl ⟨rf, sinew.sub (List.sublist_append_left _ _)⟩ ⟨st.trans stp, sinew, fun z => nomatch z⟩ rw')
        | _ => exact hp.elim
/-- the receiver is a list now -/
def isLst : Option (Ty × D) → Bool
  | some (.lst _, .lst _) => true
  | some (.hls _, .lst _) => true
  | _ => false
theorem isLst_ok {c : Ty × D} {u : V} {S0 : List Addr} {Z : Addr → Prop} {H : Hp} (h : isLst (some c) = true) (r : Ro C Z H c.1 u c.2 S0) : tyV C.K "list" u H := by
  obtain ⟨t, d⟩ := c
  cases r with
  | lst e l => exact .inl ⟨rfl, _, .inl (.inl e)⟩
  | hls e l => exact .inl ⟨rfl, _, .inl (.inl e)⟩
  | sh r => cases d <;> simp [isLst] at h
  | dK _ _ _ => simp [isLst] at h
  | dT _ _ _ => simp [isLst] at h
  | ins _ _ _ => simp [isLst] at h
/-- P.m(args): the arguments change nothing -/
def mMethP (pl : M (Nat × List PS1)) (args : M (List (Ty × D))) (op : LOp) : M (Ty × D) := mBind pl fun a δ => match isLst (slotP δ a.1 a.2) with
  | true => (mBind args (pUpd a op)) δ
  | false => .bad
theorem simMethP {pl : M (Nat × List PS1)} {args : M (List (Ty × D))} {op : LOp} {r : V → List V → Hp → VK → Prop} {tpl : TE} {t : TA} (hs : SemL C op r) (hpl : SimL C E p pl tpl) (ha : SimA C E true args t) :
    SimV C E false (mMethP pl args op) (tBM C.K "list" r tpl t) := fun σ n Q k hp => by
  refine hpl σ n _ k ((P_bind hp).imp (fun a0 δ1 _ h1 v v0 n1 e1 k1 x1 e0 wk => ?_) fun _ _ z => z)
  subst e1
  cases es : slotP n1.δ a0.1 a0.2 with
  | none => rw [es] at h1; exact h1.elim
  | some c =>
    rw [es] at h1
    cases el : isLst (some c) with
    | false => rw [el] at h1; exact h1.elim
    | true =>
      rw [el] at h1
      dsimp only at h1
      obtain ⟨u, S0, wk1, r1, _⟩ := slotP_ok k1 es e0
      have eu := wk1.inj wk
      subst eu
      refine ⟨isLst_ok el r1, ?_⟩
      refine ha σ n1 _ k1 ((P_bind h1).imp (fun xs δ2 _ h2 vs n2 Sv e2 k2 x2 r2 => ?_) fun _ _ z => z.tr x1)
      subst e2
      exact pUpd_ok hs k2 e0 (wk.keep x2.all) x2.si (x1.seq' x2).st r2 h2
/-- x.m(args), x a slot -/
theorem simMeth0 {i : Nat} {args : M (List (Ty × D))} {op : LOp} {r : V → List V → Hp → VK → Prop} {t : TA} (hs : SemL C op r) (ha : SimA C E p args t) :
    SimV C E false (mMethP (mSlot i) args op) (tBM C.K "list" r (tVar i) t) := fun σ n Q k hp => by
  have h0 := P_bind hp
  unfold mSlot at h0
  cases es : n.δ[i]? with
  | none => rw [es] at h0; exact h0.elim
  | some o =>
    rw [es] at h0
    cases o with
    | none => exact h0.elim
    | some c =>
      obtain ⟨v, S1, S2, e1, r1, pm, r2⟩ := k.en.take es
      have h1 : ((match isLst (slotP n.δ i []) with
        | true => (mBind args (pUpd (i, []) op)) n.δ
        | false => .bad)).P _ _ := h0
      have e2 : slotP n.δ i [] = some c := by unfold slotP; rw [es]; rfl
      rw [e2] at h1
      cases el : isLst (some c) with
      | false => rw [el] at h1; exact h1.elim
      | true =>
        rw [el] at h1
        dsimp only at h1
        refine ⟨v, e1, isLst_ok el r1, ?_⟩
        refine ha σ n _ k ((P_bind h1).imp (fun xs δ2 _ h2 vs n2 Sv e3 k2 x2 r3 => ?_) fun _ _ z => z)
        subst e3
        exact pUpd_ok (a0 := (i, [])) hs k2 e1 rfl x2.si x2.st r3 h2
/-- P.m() -/
theorem simMethP0 {pl : M (Nat × List PS1)} {op : LOp} {r : V → List V → Hp → VK → Prop} {tpl : TE} (hs : SemL C op r) (hpl : SimL C E p pl tpl) : SimV C E false (mMethP pl mNil op) (tBM0 C.K "list" r tpl) := fun σ n Q k hp => by
  refine hpl σ n _ k ((P_bind hp).imp (fun a0 δ1 _ h1 v v0 n1 e1 k1 x1 e0 wk => ?_) fun _ _ z => z)
  subst e1
  cases es : slotP n1.δ a0.1 a0.2 with
  | none => rw [es] at h1; exact h1.elim
  | some c =>
    rw [es] at h1
    cases el : isLst (some c) with
    | false => rw [el] at h1; exact h1.elim
    | true =>
      rw [el] at h1
      dsimp only at h1
      obtain ⟨u, S0, wk1, r1, _⟩ := slotP_ok k1 es e0
      have eu := wk1.inj wk
      subst eu
      refine ⟨isLst_ok el r1, ?_⟩
      exact pUpd_ok (args := []) (Sv := []) hs k1 e0 wk (by rw [List.append_nil]; exact k1.si) x1.st .nil h1
end
end VS

end

section
set_option Elab.async false
set_option linter.all false
set_option maxRecDepth 100000
set_option maxHeartbeats 2000000
/-! VS10: the lists' methods, stores, fields. -/
namespace VS
open PySem L2

section
variable {C : Ct} {E : St → XK} {p q : Bool} {σ σ1 : St} {n n1 n2 : Sn} {a b m : M (Ty × D)} {ta tb : TE} {Sv Sw : List Addr} {Z : Addr → Prop} {H : Hp}
theorem RoL.app : ∀ {ts ts' : List Ty} {vs vs' : List V} {ds ds' : List D} {S S' : List Addr}, RoL C Z H ts vs ds S → RoL C Z H ts' vs' ds' S' → RoL C Z H (ts ++ ts') (vs ++ vs') (ds ++ ds') (S ++ S')
  | _, _, _, _, _, _, _, _, .nil, r => r
  | _, _, _, _, _, _, _, _, .cons h t, r => by
    rw [List.append_assoc]
    exact .cons h (RoL.app t r)
theorem RoL.rem : ∀ {k : Nat} {ts : List Ty} {vs : List V} {ds : List D} {S : List Addr} {t : Ty} {d : D}, RoL C Z H ts vs ds S → ts[k]? = some t → ds[k]? = some d →
    ∃ v S1 S2, vs[k]? = some v ∧ Ro C Z H t v d S1 ∧ S.Perm (S1 ++ S2) ∧ RoL C Z H (ts.eraseIdx k) (vs.eraseIdx k) (ds.eraseIdx k) S2
  | _, _, _, _, _, _, _, .nil, e, _ => by simp at e
  | 0, _, _, _, _, _, _, .cons h l, e1, e2 => by
    simp at e1 e2
    subst e1 e2
    exact ⟨_, _, _, rfl, h, List.Perm.refl _, by simpa using l⟩
  | k + 1, _, _, _, _, _, _, .cons (S1 := T1) h l, e1, e2 => by
    obtain ⟨v, S1, S2, e3, r, pm, l'⟩ := RoL.rem (k := k) l (by simpa using e1) (by simpa using e2)
    exact ⟨v, S1, T1 ++ S2, by simpa using e3, r, (List.Perm.append_left T1 pm).trans (List.perm_append_comm_assoc T1 S1 S2), by simpa using RoL.cons h l'⟩
theorem RoL.ins {t : Ty} {v : V} {d : D} {S1 : List Addr} (h : Ro C Z H t v d S1) : ∀ {k : Nat} {ts : List Ty} {vs : List V} {ds : List D} {S : List Addr}, RoL C Z H ts vs ds S →
    ∃ S', S'.Perm (S1 ++ S) ∧ RoL C Z H (ts.take k ++ [t] ++ ts.drop k) (vs.take k ++ [v] ++ vs.drop k) (ds.take k ++ [d] ++ ds.drop k) S'
  | 0, _, _, _, S, l => ⟨S1 ++ S, List.Perm.refl _, by simpa using RoL.cons h l⟩
  | k + 1, _, _, _, _, .nil => ⟨S1 ++ [], List.Perm.refl _, by simpa using RoL.cons h .nil⟩
  | k + 1, _, _, _, _, .cons (S1 := T1) h0 l => by
    obtain ⟨S', pm, l'⟩ := RoL.ins h (k := k) l
    exact ⟨T1 ++ S', (List.Perm.append_left T1 pm).trans (List.perm_append_comm_assoc T1 S1 _), by simpa using RoL.cons h0 l'⟩
theorem RoL.rev : ∀ {ts : List Ty} {vs : List V} {ds : List D} {S : List Addr}, RoL C Z H ts vs ds S → ∃ S', S'.Perm S ∧ RoL C Z H ts.reverse vs.reverse ds.reverse S'
  | _, _, _, _, .nil => ⟨[], List.Perm.refl _, .nil⟩
  | _, _, _, _, .cons (S1 := S1) (S2 := S2) h l => by
    obtain ⟨S', pm, l'⟩ := RoL.rev l
    have := l'.app (RoL.cons h .nil)
    refine ⟨S' ++ (S1 ++ []), ?_, by simpa using this⟩
    rw [List.append_nil]
    exact List.perm_append_comm.trans (List.Perm.append_left S1 pm)
theorem RzL.app : ∀ {vs vs' : List V} {ds ds' : List D}, RzL C Z H vs ds → RzL C Z H vs' ds' → RzL C Z H (vs ++ vs') (ds ++ ds')
  | _, _, _, _, .nil, r => r
  | _, _, _, _, .cons h t, r => .cons h (RzL.app t r)
/-- a list's items may be held as ty -/
def hold : Ty → Ty × D → Bool
  | .sh, _ => true
  | t, a => tyEq a.1 t
/-- the store of an item: it is frozen where the list's items are, else it goes on being owned -/
theorem hold_ok {ty : Ty} {x : Ty × D} {v : V} {S : List Addr} (h : hold ty x = true) (r : Ro C Z H x.1 v x.2 S) : (∃ Z', Z' = zAdd Z S ∧ Ro C Z' H ty v x.2 []) ∨ Ro C Z H ty v x.2 S := by
  cases ty with
  | sh => exact .inl ⟨_, rfl, .sh r.frozen⟩
  | _ => exact .inr (by rw [← tyEq_ok (show tyEq x.1 _ = true from h)]; exact r)
/-- the list at a written -/
theorem own_lst {a : Addr} {xs xs' : List V} {S : List Addr} {Z' : Addr → Prop} (h : H a = some (.lst xs)) (k : ∀ x, Z x → Z' x) (na : ¬ Z a) : Kz Z H Z' (upd H a (.lst xs')) :=
  ⟨k, fun x o e q => by
    by_cases z : x = a
    · subst z
      rcases q with q | q
      · exact absurd q na
      · rw [h] at e; cases e; exact q.elim
    · rw [upd_ne z]; exact e⟩
theorem repl_app (k : Nat) (t : Ty) : List.replicate k t ++ [t] = List.replicate (k + 1) t := by
  induction k with
  | zero => rfl
  | succ k ih => rw [List.replicate_succ, List.cons_append, ih]; rfl
def oAppend : LOp := fun t ds args => match t, args with
  | .lst ty, [x] => if ds.length < sizeLine ∧ hold ty x = true then some ((.sh, .non), ds ++ [x.2]) else none
  | _, _ => none
theorem lAppend : SemL C oAppend rAppend := by
  intro Z H a t ds ds' args vs S1 Sv res r ra si ho
  unfold oAppend at ho
  split at ho
  · rename_i ty x
    split at ho
    · rename_i hc
      cases ho
      cases r with
      | @lst _ _ xs _ S0 e l =>
        cases ra with
        | @cons _ _ v _ _ _ S1' S2' h0 t0 =>
          cases t0
          rw [List.append_nil] at si ⊢
          have na : ¬ Z a := si.dj a (List.mem_append_left _ List.mem_cons_self)
          have hn : ∀ x ∈ S0 ++ S1', x ≠ a := fun x m z => by
            have := si.nd
            rw [List.cons_append, List.nodup_cons] at this
            exact this.1 (z ▸ m)
          have len : xs.length = ds.length := l.len.1
          have fin : ∀ Q : VK, Q .non (upd H a (.lst (xs ++ [v]))) → rAppend (.ref a) [v] H Q := fun Q q => ⟨a, xs, v, rfl, rfl, e, by rw [len]; exact hc.1, q⟩
          have rep : List.replicate (xs ++ [v]).length ty = List.replicate xs.length ty ++ [ty] := by simp [repl_app]
          rcases hold_ok hc.2 h0 with ⟨Z', rfl, h1⟩ | h1
          · have kz : Kz Z H (zAdd Z S1') (upd H a (.lst (xs ++ [v]))) := own_lst (S := []) e (fun _ z => .inl z) na
            refine ⟨.non, xs ++ [v], zAdd Z S1', a :: S0, [], List.mem_cons_self, fun _ z => .inl z, fun x z => z.imp id fun z => List.mem_append_right _ z, ⟨a :: S0, by simp, List.sublist_append_left _ _⟩, fun x m z => ?_, ?_, .sh .non, fin⟩
            · rw [List.append_nil] at m
              rcases z with z | z
              · exact si.dj x (List.mem_append_left _ m) z
              · exact (List.nodup_append.mp si.nd).2.2 x m x z rfl
            · refine .lst upd_same ?_
              rw [rep]
              have l1 := l.keep kz fun x m => upd_ne (hn x (List.mem_append_left _ m))
              have h2 : Ro C (zAdd Z S1') (upd H a (.lst (xs ++ [v]))) ty v x.2 [] := h1.keep ⟨fun _ z => z, fun y o e2 q => by
                by_cases z : y = a
                · subst z
                  rcases q with q | q
                  · rcases q with q | q
                    · exact absurd q na
                    · exact absurd rfl (hn y (List.mem_append_right _ q))
                  · rw [e] at e2; cases e2; exact q.elim
                · rw [upd_ne z]; exact e2⟩ fun _ m => absurd m (by simp)
              have := l1.app (RoL.cons h2 .nil)
              simpa using this
          · have kz : Kz Z H Z (upd H a (.lst (xs ++ [v]))) := own_lst (S := []) e (fun _ z => z) na
            refine ⟨.non, xs ++ [v], Z, a :: (S0 ++ S1'), [], List.mem_cons_self, fun _ z => z, fun x z => .inl z, ⟨a :: (S0 ++ S1'), by simp, by simp⟩, fun x m z => ?_, ?_, .sh .non, fin⟩
            · rw [List.append_nil] at m
              exact si.dj x (by simpa using m) z
            · refine .lst upd_same ?_
              rw [rep]
              have l1 := l.keep kz fun x m => upd_ne (hn x (List.mem_append_left _ m))
              have h2 := h1.keep kz fun x m => upd_ne (hn x (List.mem_append_right _ m))
              have := l1.app (RoL.cons h2 .nil)
              simpa using this
    · cases ho
  · cases ho
theorem repl_erase {k j : Nat} {t : Ty} (h : j < k) : (List.replicate k t).eraseIdx j = List.replicate (k - 1) t := by
  refine List.ext_getElem? fun i => ?_
  rw [List.getElem?_eraseIdx]
  split
  · rw [List.getElem?_replicate, List.getElem?_replicate]; split <;> split <;> first | rfl | omega
  · rw [List.getElem?_replicate, List.getElem?_replicate]; split <;> split <;> first | rfl | omega
/-- the j-th item goes out -/
theorem rem_lst {a : Addr} {ty : Ty} {ds : List D} {S1 : List Addr} {j : Nat} {d : D} (r : Ro C Z H (.lst ty) (.ref a) (.lst ds) S1) (si : Sit Z H S1) (ed : ds[j]? = some d) :
    ∃ (xs : List V) (u : V) (S1' Sp : List Addr), H a = some (.lst xs) ∧ xs.length = ds.length ∧ xs[j]? = some u ∧ a ∈ S1 ∧ (S1' ++ Sp).Perm S1 ∧ Ro C Z (upd H a (.lst (xs.eraseIdx j))) (.lst ty) (.ref a) (.lst (ds.eraseIdx j)) S1' ∧ Ro C Z (upd H a (.lst (xs.eraseIdx j))) ty u d Sp := by
  cases r with
  | @lst _ _ xs _ S0 e l =>
    have hj : j < ds.length := by
      rcases Nat.lt_or_ge j ds.length with z | z
      · exact z
      · rw [List.getElem?_eq_none z] at ed; cases ed
    have len : xs.length = ds.length := l.len.1
    obtain ⟨u, S2, S3, eu, ru, pm, l'⟩ := l.rem (k := j) (t := ty) (by rw [List.getElem?_replicate, if_pos (by omega)]) ed
    have na : ¬ Z a := si.dj a List.mem_cons_self
    have hn : ∀ x ∈ S0, x ≠ a := fun x m z => (List.nodup_cons.mp si.nd).1 (z ▸ m)
    have kz : Kz Z H Z (upd H a (.lst (xs.eraseIdx j))) := own_lst (S := []) e (fun _ z => z) na
    refine ⟨xs, u, a :: S3, S2, e, len, eu, List.mem_cons_self, ?_, .lst upd_same ?_, ru.keep kz fun x m => upd_ne (hn x (pm.mem_iff.mpr (List.mem_append_left _ m)))⟩
    · exact List.Perm.cons a (List.perm_append_comm.trans pm.symm)
    · have l2 := l'.keep kz fun x m => upd_ne (hn x (pm.mem_iff.mpr (List.mem_append_right _ m)))
      rw [repl_erase (by omega)] at l2
      have : (xs.eraseIdx j).length = xs.length - 1 := List.length_eraseIdx_of_lt (by omega)
      rw [this]
      exact l2
def oPop : LOp := fun t ds args => match t, args with
  | .lst ty, [] => (ds[ds.length - 1]?).map fun d => ((ty, d), ds.dropLast)
  | _, _ => none
theorem dropLast_erase {α : Type} (xs : List α) : xs.dropLast = xs.eraseIdx (xs.length - 1) := by
  cases xs with
  | nil => rfl
  | cons x r =>
    refine List.ext_getElem? fun i => ?_
    rw [List.getElem?_dropLast, List.getElem?_eraseIdx]
    split
    · rfl
    · rw [List.getElem?_eq_none (by simp at *; omega)]
theorem lPop : SemL C oPop rPop := by
  intro Z H a t ds ds' args vs S1 Sv res r ra si ho
  unfold oPop at ho
  split at ho
  · rename_i ty
    rw [Option.map_eq_some_iff] at ho
    obtain ⟨d, ed, ho⟩ := ho
    cases ho
    cases ra
    rw [List.append_nil] at si ⊢
    obtain ⟨xs, u, S1', Sp, e, len, eu, ha, pm, r1, r2⟩ := rem_lst r si ed
    refine ⟨u, xs.dropLast, Z, S1', Sp, ha, fun _ z => z, fun x z => .inl z, ⟨S1, pm, List.Sublist.refl _⟩, fun x m z => si.dj x (pm.mem_iff.mp m) z, ?_, ?_, fun Q q => ⟨a, xs, u, rfl, rfl, e, by rw [len]; exact eu, q⟩⟩
    · rw [dropLast_erase, dropLast_erase, len]; exact r1
    · rw [dropLast_erase, len]; exact r2
  · cases ho
def oPopAt : LOp := fun t ds args => match t, args with
  | .lst ty, [(_, .int i)] => if -(2 ^ 63) ≤ i ∧ i < 2 ^ 63 then ((seqIndex? i ds.length).bind fun j => ds[j]?.map fun d => ((ty, d), ds.eraseIdx j)) else none
  | _, _ => none
theorem lPopAt : SemL C oPopAt rPopAt := by
  intro Z H a t ds ds' args vs S1 Sv res r ra si ho
  unfold oPopAt at ho
  split at ho
  · rename_i ty t0 i
    split at ho
    · rename_i hc
      rw [Option.bind_eq_some_iff] at ho
      obtain ⟨j, ej, ho⟩ := ho
      rw [Option.map_eq_some_iff] at ho
      obtain ⟨d, ed, ho⟩ := ho
      cases ho
      cases ra with
      | @cons _ _ v _ _ _ S2 S3 h0 t1 =>
        cases t1
        rw [List.append_nil] at si ⊢
        have ev : v = .int i := by cases h0.any; rfl
        subst ev
        obtain ⟨xs, u, S1', Sp, e, len, eu, ha, pm, r1, r2⟩ := rem_lst r (si.sub (List.sublist_append_left _ _)) ed
        exact ⟨u, xs.eraseIdx j, Z, S1', Sp, ha, fun _ z => z, fun x z => .inl z, ⟨S1, pm, List.sublist_append_left _ _⟩, fun x m z => si.dj x (List.mem_append_left _ (pm.mem_iff.mp m)) z, r1, r2,
          fun Q q => ⟨a, xs, i, j, u, rfl, rfl, e, hc.1, hc.2, by rw [len]; exact ej, eu, q⟩⟩
    · cases ho
  · cases ho
/-- ints and such take nothing with them -/
theorem sc_own {t : Ty} {v : V} {i : Int} {S : List Addr} (h : Ro C Z H t v (.int i) S) : S = [] ∧ v = .int i := by
  cases h with
  | sh r => cases r; exact ⟨rfl, rfl⟩
def oInsert : LOp := fun t ds args => match t, args with
  | .lst ty, [(_, .int i), x] => if ds.length < sizeLine ∧ 0 ≤ i ∧ i < 2 ^ 63 ∧ hold ty x = true then some ((.sh, .non), ds.take i.toNat ++ [x.2] ++ ds.drop i.toNat) else none
  | _, _ => none
theorem repl_ins (k i : Nat) (t : Ty) : (List.replicate k t).take i ++ [t] ++ (List.replicate k t).drop i = List.replicate (k + 1) t := by
  rw [List.take_replicate, List.drop_replicate, repl_app, List.replicate_append_replicate]
  congr 1
  omega
theorem lInsert : SemL C oInsert (fun x vs H Q => ∃ (l : Addr) (xs : List V) (i : Int) (y : V), x = .ref l ∧ vs = [.int i, y] ∧ H l = some (.lst xs) ∧ xs.length < sizeLine ∧ 0 ≤ i ∧ i < 2 ^ 63 ∧ Q .non (upd H l (.lst (xs.take i.toNat ++ [y] ++ xs.drop i.toNat)))) := by
  intro Z H a t ds ds' args vs S1 Sv res r ra si ho
  unfold oInsert at ho
  split at ho
  · rename_i ty t0 i x
    split at ho
    · rename_i hc
      cases ho
      cases r with
      | @lst _ _ xs _ S0 e l =>
        cases ra with
        | @cons _ _ vi _ _ _ Si S2' hi t0 =>
          cases t0 with
          | @cons _ _ v _ _ _ S1' S2'' h0 t1 =>
            cases t1
            obtain ⟨rfl, rfl⟩ := sc_own hi
            rw [List.append_nil, List.nil_append] at si ⊢
            have na : ¬ Z a := si.dj a (List.mem_append_left _ List.mem_cons_self)
            have hn : ∀ x ∈ S0 ++ S1', x ≠ a := fun x m z => by
              have := si.nd
              rw [List.cons_append, List.nodup_cons] at this
              exact this.1 (z ▸ m)
            have len : xs.length = ds.length := l.len.1
            have fin : ∀ Q : VK, Q .non (upd H a (.lst (xs.take i.toNat ++ [v] ++ xs.drop i.toNat))) → ∃ (l : Addr) (xs : List V) (i_1 : Int) (y : V), V.ref a = .ref l ∧ [V.int i, v] = [.int i_1, y] ∧ H l = some (.lst xs) ∧ xs.length < sizeLine ∧ 0 ≤ i_1 ∧ i_1 < 2 ^ 63 ∧ Q .non (upd H l (.lst (xs.take i_1.toNat ++ [y] ++ xs.drop i_1.toNat))) :=
              fun Q q => ⟨a, xs, i, v, rfl, rfl, e, by rw [len]; exact hc.1, hc.2.1, hc.2.2.1, q⟩
            have rep : List.replicate (xs.take i.toNat ++ [v] ++ xs.drop i.toNat).length ty = (List.replicate xs.length ty).take i.toNat ++ [ty] ++ (List.replicate xs.length ty).drop i.toNat := by
              rw [repl_ins]
              congr 1
              simp
              omega
            rcases hold_ok hc.2.2.2 h0 with ⟨Z', rfl, h1⟩ | h1
            · have kz : Kz Z H (zAdd Z S1') (upd H a (.lst (xs.take i.toNat ++ [v] ++ xs.drop i.toNat))) := own_lst (S := []) e (fun _ z => .inl z) na
              have l1 := l.keep kz fun x m => upd_ne (hn x (List.mem_append_left _ m))
              have h2 : Ro C (zAdd Z S1') (upd H a (.lst (xs.take i.toNat ++ [v] ++ xs.drop i.toNat))) ty v x.2 [] := h1.keep ⟨fun _ z => z, fun y o e2 q => by
                by_cases z : y = a
                · subst z
                  rcases q with q | q
                  · rcases q with q | q
                    · exact absurd q na
                    · exact absurd rfl (hn y (List.mem_append_right _ q))
                  · rw [e] at e2; cases e2; exact q.elim
                · rw [upd_ne z]; exact e2⟩ fun _ m => absurd m (by simp)
              obtain ⟨S', pm, l3⟩ := RoL.ins h2 (k := i.toNat) l1
              rw [List.nil_append] at pm
              refine ⟨.non, _, zAdd Z S1', a :: S', [], List.mem_cons_self, fun _ z => .inl z, fun x z => z.imp id fun z => List.mem_append_right _ z, ⟨a :: S0, by simpa using pm, List.sublist_append_left _ _⟩, fun x m z => ?_, .lst upd_same (by rw [rep]; exact l3), .sh .non, fin⟩
              rw [List.append_nil] at m
              have m2 : x ∈ a :: S0 := (List.Perm.cons a pm).mem_iff.mp m
              rcases z with z | z
              · exact si.dj x (List.mem_append_left _ m2) z
              · exact (List.nodup_append.mp si.nd).2.2 x m2 x z rfl
            · have kz : Kz Z H Z (upd H a (.lst (xs.take i.toNat ++ [v] ++ xs.drop i.toNat))) := own_lst (S := []) e (fun _ z => z) na
              have l1 := l.keep kz fun x m => upd_ne (hn x (List.mem_append_left _ m))
              have h2 := h1.keep kz fun x m => upd_ne (hn x (List.mem_append_right _ m))
              obtain ⟨S', pm, l3⟩ := RoL.ins h2 (k := i.toNat) l1
              have pm2 : (a :: S').Perm ((a :: S0) ++ S1') := List.Perm.cons a (pm.trans List.perm_append_comm)
              refine ⟨.non, _, Z, a :: S', [], List.mem_cons_self, fun _ z => z, fun x z => .inl z, ⟨(a :: S0) ++ S1', by rw [List.append_nil]; exact pm2, List.Sublist.refl _⟩, fun x m z => ?_, .lst upd_same (by rw [rep]; exact l3), .sh .non, fin⟩
              rw [List.append_nil] at m
              exact si.dj x (pm2.mem_iff.mp m) z
    · cases ho
  · cases ho
def oClear : LOp := fun t _ args => match t, args with
  | .lst _, [] => some ((.sh, .non), [])
  | _, _ => none
theorem lClear : SemL C oClear rClear := by
  intro Z H a t ds ds' args vs S1 Sv res r ra si ho
  unfold oClear at ho
  split at ho
  · cases ho
    cases ra
    cases r with
    | @lst _ _ xs _ S0 e l =>
      rw [List.append_nil] at si ⊢
      refine ⟨.non, [], Z, [a], [], List.mem_cons_self, fun _ z => z, fun x z => .inl z, ⟨[a], by simp, by simp⟩, fun x m z => ?_, .lst (xs := []) upd_same .nil, .sh .non, fun Q q => ⟨a, xs, rfl, rfl, e, q⟩⟩
      have : x = a := by simpa using m
      exact si.dj x (this ▸ List.mem_cons_self) z
  · cases ho
def oReverse : LOp := fun t ds args => match t, args with
  | .lst _, [] => some ((.sh, .non), ds.reverse)
  | _, _ => none
theorem lReverse : SemL C oReverse rReverse := by
  intro Z H a t ds ds' args vs S1 Sv res r ra si ho
  unfold oReverse at ho
  split at ho
  · cases ho
    cases ra
    cases r with
    | @lst _ _ xs _ S0 e l =>
      rw [List.append_nil] at si ⊢
      have na : ¬ Z a := si.dj a List.mem_cons_self
      have hn : ∀ x ∈ S0, x ≠ a := fun x m z => (List.nodup_cons.mp si.nd).1 (z ▸ m)
      have kz : Kz Z H Z (upd H a (.lst xs.reverse)) := own_lst (S := []) e (fun _ z => z) na
      obtain ⟨S', pm, l2⟩ := (l.keep kz fun x m => upd_ne (hn x m)).rev
      rw [List.reverse_replicate] at l2
      refine ⟨.non, xs.reverse, Z, a :: S', [], List.mem_cons_self, fun _ z => z, fun x z => .inl z, ⟨a :: S0, by simpa using pm, List.Sublist.refl _⟩, fun x m z => ?_, .lst upd_same (by rw [List.length_reverse]; exact l2), .sh .non, fun Q q => ⟨a, xs, rfl, rfl, e, q⟩⟩
      rw [List.append_nil] at m
      exact si.dj x ((List.Perm.cons a pm).mem_iff.mp m) z
  · cases ho
/-- extend by a list whose items nobody owns -/
def oExtend : LOp := fun t ds args => match t, args with
  | .lst .sh, [(.lst .sh, .lst es)] => if ds.length + es.length ≤ sizeLine then some ((.sh, .non), ds ++ es) else none
  | _, _ => none
theorem lExtend : SemL C oExtend rExtend := by
  intro Z H a t ds ds' args vs S1 Sv res r ra si ho
  unfold oExtend at ho
  split at ho
  · rename_i es
    split at ho
    · rename_i hc
      cases ho
      cases r with
      | @lst _ _ xs _ S0 e l =>
        cases ra with
        | @cons _ _ v _ _ _ S1' S2' h0 t0 =>
          cases t0
          cases h0 with
          | @lst _ b zs _ T0 e2 l2 =>
            obtain ⟨z1, rfl⟩ := rol_sh l
            obtain ⟨z2, rfl⟩ := rol_sh l2
            have na : ¬ Z a := si.dj a (by simp)
            have kz : Kz Z H Z (upd H a (.lst (xs ++ zs))) := own_lst (S := []) e (fun _ z => z) na
            refine ⟨.non, xs ++ zs, Z, [a], [], by simp, fun _ z => z, fun x z => .inl z, ⟨[a], by simp, by simp⟩, fun x m z => ?_, .lst upd_same (rzl_rol ((z1.app z2).keep kz)), .sh .non,
              fun Q q => ⟨a, b, xs, zs, rfl, rfl, e, e2, by rw [z1.len, z2.len]; exact hc, q⟩⟩
            have : x = a := by simpa using m
            exact si.dj x (by simp [this]) z
    · cases ho
  · cases ho
/-! ### P[i] = e -/
def sStore : Ty → List D → Int → Ty × D → Option (List D) := fun t ds i x => (ixN ds.length i).bind fun j => match t with
  | .lst ty => if hold ty x = true then some (ds.set j x.2) else none
  | .hls ts => (match ts[j]? with
    | some ty => if hold ty x = true then some (ds.set j x.2) else none
    | none => none)
  | _ => none
def gSet (pl : M (Nat × List PS1)) (ix : M (Ty × D)) (x : Ty × D) : Env → Option Env := fun δ => match pl δ with
  | .ok a δ1 => (match ix δ1 with
    | .ok (_, .int i) δ2 => (match δ2[a.1]? with
      | some (some (t0, d0)) => (match getP (t0, d0) a.2 with
        | some (t, .lst ds) => (match sStore t ds i x with
          | some ds' => some (δ2.set a.1 (some (t0, setP d0 a.2 (.lst ds'))))
          | none => none)
        | _ => none)
      | _ => none)
    | _ => none)
  | _ => none
/-- beside, without a beginning -/
theorem Sit.away (s : Sit n1.Z n1.H (n1.S ++ Sv)) (y : Tr q n1 n2 Sw) : ∀ a ∈ Sv, a ∉ n2.S ++ Sw ∧ ¬ n2.Z a ∧ n2.H a = n1.H a ∧ a ∉ n1.S := fun a m => by
  have nS : a ∉ n1.S := fun z => (List.nodup_append.mp s.nd).2.2 a z a m rfl
  have ow := s.mu a (List.mem_append_right _ m)
  have nH : n1.H a ≠ none := fun z => by rw [z] at ow; exact ow
  refine ⟨fun z => ?_, fun z => ?_, ?_, nS⟩
  · rcases y.st.sn a z with z | z
    · exact nS z
    · exact nH z
  · rcases y.st.zn a z with z | z | z
    · exact s.dj a (List.mem_append_right _ m) z
    · exact nS z
    · exact nH z
  · cases e : n1.H a with
    | none => exact absurd e nH
    | some o => exact y.st.keep a o e nS
theorem Sit.two (s : Sit n1.Z n1.H (n1.S ++ Sv)) (y : Tr q n1 n2 []) : Sit n2.Z n2.H (n2.S ++ Sv) ∧ Step n1.Z n1.H (n1.S ++ Sv) n2.Z n2.H (n2.S ++ Sv) := by
  have aw := s.away y
  have y1 : Sit n2.Z n2.H n2.S := y.si.sub (List.sublist_append_left _ _)
  refine ⟨⟨?_, fun a m => ?_, fun a m => ?_, y.si.zh⟩, ?_⟩
  · rw [List.nodup_append]
    refine ⟨y1.nd, (List.nodup_append.mp s.nd).2.1, fun a m b hb e => (aw b hb).1 (List.mem_append_left _ (e ▸ m))⟩
  · rcases List.mem_append.mp m with m | m
    · exact y1.dj a m
    · exact (aw a m).2.1
  · rcases List.mem_append.mp m with m | m
    · exact y1.mu a m
    · rw [(aw a m).2.2.1]; exact s.mu a (List.mem_append_right _ m)
  · have := y.st.frame (F := Sv)
    rw [List.append_nil] at this
    exact this
theorem set_lst {ty : Ty} {x : Ty × D} {v : V} {Z' : Addr → Prop} {H' : Hp} {S1 : List Addr} (hx : Ro C Z' H' ty v x.2 S1) (kz : Kz Z H Z' H') : ∀ {j : Nat} {tys : List Ty} {xs : List V} {ds : List D} {S : List Addr}, RoL C Z H tys xs ds S → tys[j]? = some ty → (∀ x ∈ S, H' x = H x) →
    ∃ S2 S', S2.Sublist S ∧ S'.Perm (S1 ++ S2) ∧ RoL C Z' H' tys (xs.set j v) (ds.set j x.2) S'
  | _, _, _, _, _, .nil, hj, _ => by simp at hj
  | 0, _, _, _, _, .cons (S1 := T1) (S2 := T2) h t0, hj, same => by
    simp at hj
    subst hj
    exact ⟨T2, S1 ++ T2, List.sublist_append_right _ _, List.Perm.refl _, .cons hx (t0.keep kz fun y m => same y (List.mem_append_right _ m))⟩
  | j + 1, _, _, _, _, .cons (S1 := T1) (S2 := T2) h t0, hj, same => by
    obtain ⟨S2, S', s, pm, l'⟩ := set_lst hx kz (j := j) t0 (by simpa using hj) fun y m => same y (List.mem_append_right _ m)
    refine ⟨T1 ++ S2, T1 ++ S', s.append_left T1, ?_, .cons (h.keep kz fun y m => same y (List.mem_append_left _ m)) l'⟩
    exact (List.Perm.append_left T1 pm).trans (List.perm_append_comm_assoc T1 S1 S2)
/-- the store into an owned list, at a moment, the value owned beside -/
theorem store_ok {a0 : Nat × List PS1} {i : Int} {x : Ty × D} {u v0 : V} {vi : V} {v : V} {t0 t : Ty} {d0 : D} {ds ds' : List D} {Q : St → Hp → Prop} (k2 : n2.Ok C σ) (e0 : σ[a0.1]? = some (some v0)) (wk : Walk n2.H v0 a0.2 u)
    (si : Sit n2.Z n2.H (n2.S ++ Sv)) (ra : Ro C n2.Z n2.H x.1 v x.2 Sv) (hv : vi = .int i) (es : n2.δ[a0.1]? = some (some (t0, d0))) (eg : getP (t0, d0) a0.2 = some (t, .lst ds)) (eo : sStore t ds i x = some ds')
    (hp : ∀ (σ' : St) (n' : Sn), n'.δ = n2.δ.set a0.1 (some (t0, setP d0 a0.2 (.lst ds'))) → n'.Ok C σ' → Step n2.Z n2.H (n2.S ++ Sv) n'.Z n'.H n'.S → Wr [] σ σ' → Q σ' n'.H) : rSetL u vi v n2.H fun H3 => Q σ H3 := by
  obtain ⟨v', Sw1, S2, e1, r0, pm, r2⟩ := k2.en.take es
  rw [e0] at e1
  cases e1
  obtain ⟨u', Sp1, Sr, wk1, r1, pm1, put⟩ := r0.at eg
  have eu := wk1.inj wk
  subst eu
  unfold sStore at eo
  rw [Option.bind_eq_some_iff] at eo
  obtain ⟨j, ej, eo⟩ := eo
  -- the item's type, and that the value may be held so
  have hz : ∃ aa xs S0 tys ty, u' = .ref aa ∧ n2.H aa = some (.lst xs) ∧ Sp1 = aa :: S0 ∧ RoL C n2.Z n2.H tys xs ds S0 ∧ tys[j]? = some ty ∧ hold ty x = true ∧ ds' = ds.set j x.2 ∧
      ∀ {Z' : Addr → Prop} {H' : Hp} {xs' : List V} {S0' : List Addr}, xs'.length = xs.length → H' aa = some (.lst xs') → RoL C Z' H' tys xs' ds' S0' → Ro C Z' H' t (.ref aa) (.lst ds') (aa :: S0') := by
    have jl : j < ds.length := by
      unfold ixN at ej
      split at ej
      · split at ej
        · cases ej; omega
        · cases ej
      · split at ej
        · cases ej; omega
        · cases ej
    cases r1 with
    | @lst ty aa xs _ S0 e l =>
      dsimp only at eo
      split at eo
      · rename_i hh
        cases eo
        exact ⟨aa, xs, S0, _, ty, rfl, e, rfl, l, by rw [List.getElem?_replicate, if_pos (by rw [l.len.1]; exact jl)], hh, rfl, fun {Z' H' xs' S0'} el e' l' => .lst e' (by rw [el]; exact l')⟩
      · cases eo
    | @hls tys aa xs _ S0 e l =>
      dsimp only at eo
      cases et : tys[j]? with
      | none => rw [et] at eo; cases eo
      | some ty =>
        rw [et] at eo
        dsimp only at eo
        split at eo
        · rename_i hh
          cases eo
          exact ⟨aa, xs, S0, tys, ty, rfl, e, rfl, l, et, hh, rfl, fun {Z' H' xs' S0'} el e' l' => .hls e' l'⟩
        · cases eo
    | sh r => cases eo
  obtain ⟨aa, xs, S0, tys, ty, rfl, ea, rfl, l, et, hh, rfl, mk⟩ := hz
  have len : xs.length = ds.length := l.len.1
  refine ⟨aa, xs, i, j, rfl, hv, ea, by rw [len]; exact ej, ?_⟩
  have pall : (n2.S ++ Sv).Perm (((aa :: S0) ++ Sv) ++ (Sr ++ S2)) := by
    refine ((pm.trans (pm1.append_right S2)).append_right Sv).trans ?_
    simp only [List.append_assoc]
    refine List.Perm.append_left (aa :: S0) ?_
    rw [← List.append_assoc Sr]
    exact List.perm_append_comm.trans (List.Perm.of_eq rfl)
  have sall := si.perm pall
  have nd := sall.nd
  have apart : ∀ y ∈ Sr ++ S2, y ∉ (aa :: S0) ++ Sv := fun y m z => (List.nodup_append.mp nd).2.2 y z y m rfl
  have na : ¬ n2.Z aa := sall.dj aa (by simp)
  have hn : ∀ y ∈ S0 ++ Sv, y ≠ aa := fun y m z => by
    have h1 := (List.nodup_append.mp nd).1
    rw [List.cons_append, List.nodup_cons] at h1
    exact h1.1 (z ▸ m)
  have same : ∀ y ∈ Sr ++ S2, (upd n2.H aa (.lst (xs.set j v))) y = n2.H y := fun y m => upd_ne fun z => apart y m (by simp [z])
  -- frozen or owned
  have hv2 : ∃ (Z' : Addr → Prop) (S1 : List Addr), (∀ y, n2.Z y → Z' y) ∧ (∀ y, Z' y → n2.Z y ∨ y ∈ Sv) ∧ S1.Sublist Sv ∧ (∀ y ∈ S1, ¬ Z' y) ∧ Ro C Z' (upd n2.H aa (.lst (xs.set j v))) ty v x.2 S1 := by
    rcases hold_ok hh ra with ⟨Z', rfl, h1⟩ | h1
    · refine ⟨zAdd n2.Z Sv, [], fun _ z => .inl z, fun _ z => z, List.nil_sublist _, fun _ m => absurd m (by simp), ?_⟩
      refine h1.keep ⟨fun _ z => z, fun y o e2 q => ?_⟩ fun _ m => absurd m (by simp)
      by_cases z : y = aa
      · subst z
        rcases q with q | q
        · rcases q with q | q
          · exact absurd q na
          · exact absurd rfl (hn y (List.mem_append_right _ q))
        · rw [ea] at e2; cases e2; exact q.elim
      · rw [upd_ne z]; exact e2
    · exact ⟨n2.Z, Sv, fun _ z => z, fun _ z => .inl z, List.Sublist.refl _, fun y m => sall.dj y (by simp [m]), h1.keep (own_lst (S := []) ea (fun _ z => z) na) fun y m => upd_ne (hn y (List.mem_append_right _ m))⟩
  obtain ⟨Z', S1, z1, z2, s1, d1, hx⟩ := hv2
  have kz : Kz n2.Z n2.H Z' (upd n2.H aa (.lst (xs.set j v))) := own_lst (S := []) ea z1 na
  obtain ⟨S3, S4, s3, pm4, l4⟩ := set_lst hx kz l et fun y m => upd_ne (hn y (List.mem_append_left _ m))
  have rn := mk (by simp) upd_same l4
  obtain ⟨Sn1, pmn, rN⟩ := put kz (fun y m => same y (List.mem_append_left _ m)) rn
  have r2' := r2.keep kz fun y m => same y (List.mem_append_right _ m)
  have hi : a0.1 < n2.δ.length := by
    rcases Nat.lt_or_ge a0.1 n2.δ.length with z | z
    · exact z
    · rw [List.getElem?_eq_none z] at es; cases es
  obtain ⟨Sf, pmf, rf⟩ := r2'.put (i := a0.1) (by simp [hi]) e0 rN
  rw [List.set_set] at rf
  have pnew : Sf.Perm ((aa :: (S3 ++ S1)) ++ (Sr ++ S2)) := by
    refine (pmf.trans (pmn.append_right S2)).trans ?_
    rw [List.append_assoc]
    exact (List.Perm.cons aa (pm4.trans List.perm_append_comm)).append_right _
  have slN : ((aa :: (S3 ++ S1)) ++ (Sr ++ S2)).Sublist (((aa :: S0) ++ Sv) ++ (Sr ++ S2)) := by
    refine List.Sublist.append_right ?_ _
    rw [List.cons_append]
    exact (s3.append s1).cons_cons aa
  have old : ∀ y ∈ Sf, y ∈ n2.S ++ Sv := fun y m => pall.mem_iff.mpr (slN.subset (pnew.mem_iff.mp m))
  have sinew : Sit Z' (upd n2.H aa (.lst (xs.set j v))) Sf := by
    refine Sit.perm (S := (aa :: (S3 ++ S1)) ++ (Sr ++ S2)) ⟨nd.sublist slN, fun y m z => ?_, fun y m => ?_, fun y z => ?_⟩ pnew.symm
    · rcases z2 y z with z' | z'
      · exact sall.dj y (slN.subset m) z'
      · -- a frozen part of the value: not among these
        rcases List.mem_append.mp m with m | m
        · rcases List.mem_cons.mp m with m | m
          · exact hn y (List.mem_append_right _ z') m
          · rcases List.mem_append.mp m with m | m
            · exact (List.nodup_append.mp (List.nodup_append.mp nd).1).2.2 y (List.mem_cons_of_mem _ (s3.subset m)) y z' rfl
            · exact d1 y m z
        · exact apart y m (List.mem_append_right _ z')
    · by_cases e : y = aa
      · rw [e, upd_same]; trivial
      · rw [upd_ne e]; exact sall.mu y (slN.subset m)
    · by_cases e : y = aa
      · exact ⟨_, by rw [e, upd_same]⟩
      · rw [upd_ne e]
        rcases z2 y z with z | z
        · exact si.zh y z
        · have := si.mu y (List.mem_append_right _ z)
          cases q : n2.H y with
          | none => rw [q] at this; exact this.elim
          | some o => exact ⟨o, rfl⟩
  refine hp σ ⟨Z', upd n2.H aa (.lst (xs.set j v)), Sf, _⟩ rfl ⟨rf, sinew⟩ ⟨fun y o e h => ?_, z1, fun y z => ?_, fun y m => .inl (old y m)⟩ Wr.refl
  · show upd n2.H aa (.lst (xs.set j v)) y = some o
    rw [upd_ne fun z => h (pall.mem_iff.mpr (by simp [z]))]; exact e
  · exact (z2 y z).imp id fun z => .inl (List.mem_append_right _ z)
/-- P[i] = .. -/
theorem simSet {pl : M (Nat × List PS1)} {ix : M (Ty × D)} {tpl ti : TE} (hpl : SimL C E p pl tpl) (hi : SimK C E true ix ti) : SimG C [] (gSet pl ix) (gSub tpl ti rSetL) := fun σ n v x Sv Q δ' k si r hf hp => by
  unfold gSet at hf
  cases e1 : pl n.δ with
  | bad => rw [e1] at hf; cases hf
  | ex c fs => rw [e1] at hf; cases hf
  | ok a0 δ1 =>
    rw [e1] at hf
    dsimp only at hf
    cases e2 : ix δ1 with
    | bad => rw [e2] at hf; cases hf
    | ex c fs => rw [e2] at hf; cases hf
    | ok y δ2 =>
      rw [e2] at hf
      obtain ⟨ty, dy⟩ := y
      cases dy with
      | int i =>
        dsimp only at hf
        refine hpl σ n _ k (by
          rw [e1]
          intro u v0 n1 en1 k1 x1 e0 wk
          subst en1
          refine hi σ n1 _ k1 (by
            rw [e2]
            intro vi n2 Sw S0 en2 k2 x2 ri s2
            subst en2
            have x2' := x2.drop
            obtain ⟨si1, st1⟩ := si.two x1
            obtain ⟨si2, st2⟩ := si1.two x2'
            have r1 : Ro C n1.Z n1.H x.1 v x.2 Sv := r.keep (x1.kz k) fun b m => (si.away x1 b m).2.2.1
            have r2 : Ro C n2.Z n2.H x.1 v x.2 Sv := r1.keep (x2'.kz k1) fun b m => (si1.away x2' b m).2.2.1
            have hvi : vi = .int i := by cases ri.any; rfl
            cases es : n2.δ[a0.1]? with
            | none => rw [es] at hf; cases hf
            | some oo =>
              rw [es] at hf
              cases oo with
              | none => cases hf
              | some c0 =>
                obtain ⟨t0, d0⟩ := c0
                dsimp only at hf
                cases eg : getP (t0, d0) a0.2 with
                | none => rw [eg] at hf; cases hf
                | some c1 =>
                  obtain ⟨t, d⟩ := c1
                  rw [eg] at hf
                  cases d with
                  | lst ds =>
                    dsimp only at hf
                    cases eo : sStore t ds i x with
                    | none => rw [eo] at hf; cases hf
                    | some ds' =>
                      rw [eo] at hf
                      obtain rfl := Option.some.inj hf
                      exact store_ok k2 e0 (wk.keep x2.all) si2 r2 hvi es eg eo fun σ' n' en' k' st' w' => hp σ' n' en' k' ((st1.trans st2).trans st') w'
                  | _ => cases hf))
      | _ => cases hf
end
end VS

end

section
set_option Elab.async false
set_option linter.all false
set_option maxRecDepth 100000
set_option maxHeartbeats 2000000
/-! VSR: rules of the machine that the hand layer lacks: enumerate of a tuple; of a list or a tuple, whichever comes. -/
namespace VS
open PySem L2
open PySem.Spec PyProof.Rows

/-- two rules for what is walked: by cases -/
theorem PI.or {X : Cx} {tg iter : Expr} {w w' : TI} (h : PI X tg iter w) (h' : PI X tg iter w') : PI X tg iter (fun σ H R => w σ H R ∨ w' σ H R) :=
  ⟨fun pins s σ H R I q => q.elim (h.run pins s σ H R I) (h'.run pins s σ H R I)⟩
section
variable {prog : Program} {w : World} {A : Around} {E : Value → Shared → Prop} {s : Shared}
set_option maxHeartbeats 4000000 in
theorem meets_enum_newT (l : Addr) (items : Array Value) (n : Nat) (dct : Option Addr) (sl : Array (Option Value)) :
    Meets (Builtin.«enumerate.__new__» ⟨[.type "enumerate", .ref l], []⟩) (fun _ R s => s.heap.get? l = some { cls := .type "tuple", dict := dct, data := .seq items n, slots := sl } ∧
      R (.ok (.ret (.ref (s.heap.push { cls := .type "tuple_iterator", data := .fields #[.ref l, .int 0 0] }).objs.size)))
        { s with heap := (s.heap.push { cls := .type "tuple_iterator", data := .fields #[.ref l, .int 0 0] }).push { cls := .type "enumerate", data := .fields #[.none, .bool false, .ref s.heap.objs.size, rawInt 0, .none, .none] } }) :=
  .of_wp fun prog w A R s h => by
    obtain ⟨hp, g, d, tk, os⟩ := s; obtain ⟨hl, h⟩ := h
    have isub := sub_enumerate
    have tup : Heap.IsTuple (Shared.heap ⟨hp, g, d, tk, os⟩) l items := ⟨_, hl, rfl, n, rfl⟩
    wp_walk using AutoSeq1.wpAny_loadPart' hl
    refine wpAny_stack_any fun st => wpAny_pure ?_
    split
    · rename_i c _ _ _ _ _
      cases (c == Value.type "enumerate")
      · wp_walk using AutoSeq1.wpAny_loadPart' hl, wpAny_pyIter_tuple tup
        exact ⟨_, rfl, h⟩
      · wp_walk using AutoSeq1.wpAny_loadPart' hl, wpAny_pyIter_tuple tup
        exact ⟨_, rfl, h⟩
    · wp_walk using AutoSeq1.wpAny_loadPart' hl, wpAny_pyIter_tuple tup
      exact ⟨_, rfl, h⟩
theorem call_enum_tuple {l : Addr} {items : Array Value} {Q : Value → Shared → Prop} (hL : s.heap.IsTuple l items)
    (h : ∀ h', IsEnum h' (s.heap.objs.size + 1) s.heap.objs.size 0 .none → h'.IsTupleIter s.heap.objs.size l 0 → (∀ b o, s.heap.get? b = some o → h'.get? b = some o) → Q (.ref (s.heap.objs.size + 1)) { s with heap := h' }) :
    wpAny (model prog w) A (call (.type "enumerate") [.ref l]) Q E s := by
  obtain ⟨⟨c, dct, dt, sl⟩, hl, hc, n, hd⟩ := hL
  have hc' : c = .type "tuple" := hc
  have hd' : dt = .seq items n := hd
  subst hc' hd'
  refine callType_new F.called_enumerate (by decide) (F.typeCall_enumerate_1 _) (F.newCall_enumerate_1 _) (fun obj => F.args_object_init_2 obj _) F.entry_enumerate_new (meets_enum_newT l items n dct sl) ⟨hl, ?_⟩
  have hz : (s.heap.push { cls := .type "tuple_iterator", data := .fields #[.ref l, .int 0 0] }).objs.size = s.heap.objs.size + 1 := Heap.size_push ..
  show _ ∧ _
  rw [hz]
  have he : IsEnum ((s.heap.push { cls := .type "tuple_iterator", data := .fields #[.ref l, .int 0 0] }).push { cls := .type "enumerate", data := .fields #[.none, .bool false, .ref s.heap.objs.size, rawInt 0, .none, .none] }) (s.heap.objs.size + 1) s.heap.objs.size 0 .none := by
    have q := Heap.get?_push_size (s.heap.push { cls := .type "tuple_iterator", data := .fields #[.ref l, .int 0 0] }) (o := { cls := .type "enumerate", data := .fields #[.none, .bool false, .ref s.heap.objs.size, rawInt 0, .none, .none] }) rfl
    rw [hz] at q; exact q
  exact ⟨⟨_, he, rfl⟩, h _ he ⟨_, Heap.get?_push_of_some _ (Heap.get?_push_size _ rfl), rfl, rfl⟩ fun b o x => Heap.get?_push_of_some _ (Heap.get?_push_of_some _ x)⟩
end
/-- the tuple at a, each item in a new pair -/
def IteT (K : PySem.W.Frag) (a : Addr) : It :=
  ⟨fun i H => ∃ (xs : List V) (x : V), SqT K H a xs ∧ xs[i]? = some x, fun i H v H' => ∃ T x, v = .ref T ∧ H T = none ∧ H' = upd H T (.tup [.int (i : Nat), x]) ∧ ∀ xs, SqT K H a xs → xs[i]? = some x, fun i H => ∃ xs : List V, SqT K H a xs ∧ xs.length ≤ i⟩
theorem tup_ne {h : Heap} {e a : Addr} {its : Array Value} {o : Obj} (he : h.get? e = some o) (hc : o.cls ≠ .type "tuple") (ha : IsTup h a its) : a ≠ e := fun z => by
  obtain ⟨o2, q1, q2, _⟩ := ha
  rw [z, he] at q1
  cases q1
  exact hc q2
theorem turn_enumT {P : Program} {w : World} {K : PySem.W.Frag} {elts : List Expr} {kk : Nat} {tpos : Pos} (a e it : Addr) :
    Turn P w K (.Tuple elts kk tpos) (IteT K a) [e, it] e (fun i h => (∃ old, IsEnum h e it ((i : Nat) : Int) old) ∧ h.IsTupleIter it a i ∧ e ≠ it) where
  mem := by simp
  obj := fun i h st b hb => by
    obtain ⟨⟨old, he⟩, ⟨o, ho, hc, hd⟩, _⟩ := st
    rcases (show b = e ∨ b = it by simpa using hb) with z | z
    · rw [z]; exact ⟨_, he, fun v q => nomatch q⟩
    · rw [z]; exact ⟨o, ho, fun v q => by rw [hd] at q; cases q⟩
  keep := fun i h h' st k => let ⟨⟨old, he⟩, hi, hne⟩ := st; ⟨⟨old, k e (by simp) _ he⟩, hi.at fun o q => k it (by simp) o q, hne⟩
  item := by
    intro X hP hw hK hc i pins s σ H E I hf st hg
    subst hP hw hK
    obtain ⟨⟨old, he⟩, hit, hne⟩ := st
    obtain ⟨xs, x, hq, hx⟩ := hg
    obtain ⟨its, rv, p, hz⟩ := I.tuple hq
    obtain ⟨u, hu, ru⟩ := rv.get hx
    have hel : e < s.heap.objs.size := Heap.lt_size he
    have hil : it < s.heap.objs.size := by obtain ⟨_, q, _⟩ := hit; exact Heap.lt_size q
    have nae : a ≠ e := tup_ne he (fun z => absurd (Value.type.inj z) (by decide)) p
    have nai : a ≠ it := by
      obtain ⟨o, q1, q2, _⟩ := id hit
      exact tup_ne q1 (by rw [q2]; exact fun z => absurd (Value.type.inj z) (by decide)) p
    have il : i < its.toArray.size := by
      have := (List.getElem?_eq_some_iff.mp hu).1
      simpa using this
    refine wpAny_pyNext_enum_itemD (Draws.tuple (A := X.A.in1) (I.ok.hd hc) it a nai its.toArray) he ⟨hit, show s.heap.IsTuple a its.toArray from p⟩ il hne (by simp [hne, Ne.symm nae]) fun x' h' tk hP ho hit' hT hsz hk => ?_
    have ex : x' = u := by
      rw [List.getElem?_toArray, hu] at hP
      exact (Option.some.inj hP).symm
    subst ex
    refine ⟨_, rfl, wpAny_letOwnedTupleGo_enum (s := { s with heap := h', toks := tk + 1 }) ho fun h2 he2 sb => ?_⟩
    have hT2 : h2.get? s.heap.objs.size = some { cls := .type "tuple", data := .seq #[.int i tk, x'] } := (sb.2 _ (Nat.ne_of_gt hel)).trans hT
    have nw : ObjOk X.prog X.w (upd H s.heap.objs.size (.tup [.int (i : Nat), x])) h2 s.heap.objs.size (.tup [.int (i : Nat), x]) :=
      ⟨by show 2 ≤ sizeLine; decide, [.int i tk, x'], .cons ⟨_, rfl⟩ (.cons ru .nil), ⟨_, hT2, rfl, _, rfl⟩⟩
    have I1 : Inv X pins σ (upd H s.heap.objs.size (.tup [.int (i : Nat), x])) { s with heap := h2, toks := tk + 1 } :=
      I.turnedNew (ch := [e, it]) (fun b ob hb q => (sb.2 b (fun z => hb (by simp [z]))).trans (hk b ob (fun z => hb (by simp [z])) (fun z => hb (by simp [z])) q)) hf (Nat.le_refl _) nw
    refine ⟨.ref s.heap.objs.size, _, I1, rfl, ⟨_, x, rfl, I.hok.fresh (Nat.le_refl _), rfl, fun ys hy => by rw [I.tuple_inj hy hq]; exact hx⟩, ⟨⟨x', ?_⟩, hit'.1.at fun o q => (sb.2 it (Ne.symm hne)).trans q, hne⟩, fun b hb => ?_⟩
    · rw [show ((i + 1 : Nat) : Int) = (i : Int) + 1 by omega]; exact he2
    · have hb' : b < s.heap.objs.size := by
        rcases (show b = e ∨ b = it by simpa using hb) with z | z
        · rw [z]; exact hel
        · rw [z]; exact hil
      rw [upd_ne (Nat.ne_of_lt hb')]
      exact (hf b hb).1
  done := by
    intro X hP hw hK hc i pins s σ H E I hf st hg
    subst hP hw hK
    obtain ⟨⟨old, he⟩, hit, hne⟩ := st
    obtain ⟨xs, hq, hx⟩ := hg
    obtain ⟨its, rv, p, hz⟩ := I.tuple hq
    obtain ⟨f0, f1, f2, f3, f4, f5⟩ := hf it (by simp)
    have hl := rv.length
    have nai : a ≠ it := by
      obtain ⟨o, q1, q2, _⟩ := id hit
      exact tup_ne q1 (by rw [q2]; exact fun z => absurd (Value.type.inj z) (by decide)) p
    have hTe : s.TypeIs (.ref e) "enumerate" := ⟨_, he, rfl⟩
    unfold pyNext
    refine wpAny_bind (wpAny_attempt (wpAny_callSpecial?_slot (name := Str.ofString "__next__") hTe F.slot_enumerate_next (wpAny_call_entry F.slot_enumerate_next hTe F.entry_enumerate_next ?_ (F.args_enumerate_next_1 _))))
    show wpAny _ _ (field (.ref e) 2 >>= _) _ _ _
    refine wpAny_bind (wpAny_field he rfl (x := .ref it) rfl ?_)
    refine wpAny_bind (wpAny_nextOf_tuple_end (A := _) (I.ok.hd hc) hit (show s.heap.IsTuple a its.toArray from p) (by simp; omega) fun h' x he' hx' => ?_)
    obtain ⟨o, ho, hc'⟩ := hx'
    refine wpAny_bind (wpAny_isInstance (T := "StopIteration") (b := true) ⟨o, ho, hc'⟩ isSubtype_stop ?_)
    exact wpAny_pure ⟨rfl, I.turned (t' := s.toks) (fun b o hb q => he' b o hb q) f0 f1 f3 f4 f5⟩
  self := fun A i s Q E st h => let ⟨⟨_, he⟩, _⟩ := st; wpAny_pyIter_enum he h
def iEnumT (K : PySem.W.Frag) (ta : TA) : TI := fun σ H R => ta σ H fun vs H1 => ∃ a xs, vs = [.ref a] ∧ SqT K H1 a xs ∧ R (IteT K a) H1
theorem pi_enumT {X : Cx} {e : Expr} {ta : TA} {p pos tpos : Pos} {elts : List Expr} {kk : Nat} (hg : Gl X "enumerate") (hm : X.mg "enumerate" = none) (ha : PA X [e] ta) (hs : starEach [e] X.env = [(false, eval e X.env)] := by rfl) :
    PI X (.Tuple elts kk tpos) (.Call (.Name "enumerate" p) [e] [] pos) (iEnumT X.K ta) := by
  refine ⟨fun pins s σ H R I h => ?_⟩
  refine Call_ (ld_blt I hg hm PyProof.Rows.boot_enumerate (PyProof.Rows.callWith_type1 (thn (ha.run pos pins s σ H _ I h) fun us s1 ⟨vs, H1, I1, r1, q1⟩ => ?_) hs rfl))
  obtain ⟨a, xs, ex, hq, q⟩ := q1
  subst ex
  cases r1 with
  | cons r rr =>
    cases rr
    cases r
    obtain ⟨its, rv, pt, hz⟩ := I1.tuple hq
    refine call_enum_tuple (show s1.heap.IsTuple a its.toArray from pt) fun h' he hit hk => wpAny_pyIter_enum he ?_
    have I2 : Inv X pins σ H1 { s1 with heap := h' } := I1.kept (t' := s1.toks) hk
    refine ⟨s1.heap.objs.size + 1, [s1.heap.objs.size + 1, s1.heap.objs.size], _, _, H1, rfl, I2, turn_enumT a (s1.heap.objs.size + 1) s1.heap.objs.size, ⟨⟨.none, he⟩, hit, Nat.succ_ne_self _⟩, fun b hb => ?_, q⟩
    have hle : s1.heap.objs.size ≤ b := by
      rcases (show b = s1.heap.objs.size + 1 ∨ b = s1.heap.objs.size by simpa using hb) with z | z
      · rw [z]; exact Nat.le_add_right _ _
      · rw [z]; exact Nat.le_refl _
    exact I1.fpOk hle (I1.hok.fresh hle)
end VS

end

section
set_option Elab.async false
set_option linter.all false
set_option maxRecDepth 100000
set_option maxHeartbeats 2000000
/-! VS11: what is walked: rows, ranges, enumerate, zip, texts. -/
namespace VS
open PySem L2

section
variable {C : Ct} {E : St → XK} {p q : Bool} {σ σ1 : St} {n n1 : Sn} {a b m : M (Ty × D)} {ta tb : TE}
theorem P_of_ok {α : Type} {x : M α} {δ : Env} {k : α → Env → Prop} {e : String → List (Str × D) → Prop} {a : α} {δ' : Env} (h : x δ = .ok a δ') (hp : (x δ).P k e) : k a δ' := by rw [h] at hp; exact hp
/-- the items of a frozen row -/
def mItems (m : M (Ty × D)) : M (List D) := mBind m fun a => match a with
  | (.sh, .lst ds) => mPure ds
  | (.sh, .tup ds) => mPure ds
  | _ => mBad
def iSeq (K : PySem.W.Frag) (t : TE) : TI := fun σ H R => iList K t σ H R ∨ iTup K t σ H R
theorem itOk_list {Z0 : Addr → Prop} {H0 : Hp} {v : V} {x : Addr} {ds : List D} (h : Rz C Z0 H0 (.ref x) (.lst ds)) : ItOk C Z0 H0 (Itl C.K x) ds := fun Z H kz i => by
  obtain ⟨x', xs, e, sq, l⟩ := rz_lst (h.keep kz)
  cases e
  refine ⟨fun d e => ?_, fun hl => ⟨xs, sq, by rw [l.len]; exact hl⟩⟩
  obtain ⟨u, eu, ru⟩ := l.get e
  refine ⟨⟨xs, u, sq, eu⟩, fun y H' hy => ?_⟩
  obtain ⟨rfl, hq⟩ := hy
  have := hq xs sq
  rw [eu] at this
  cases this
  exact ⟨fun _ _ e => e, ru⟩
theorem itOk_tup {Z0 : Addr → Prop} {H0 : Hp} {v : V} {x : Addr} {ds : List D} (h : Rz C Z0 H0 (.ref x) (.tup ds)) : ItOk C Z0 H0 (Itt C.K x) ds := fun Z H kz i => by
  obtain ⟨x', xs, e, sq, l⟩ := rz_tup (h.keep kz)
  cases e
  refine ⟨fun d e => ?_, fun hl => ⟨xs, sq, by rw [l.len]; exact hl⟩⟩
  obtain ⟨u, eu, ru⟩ := l.get e
  refine ⟨⟨xs, u, sq, eu⟩, fun y H' hy => ?_⟩
  obtain ⟨rfl, hq⟩ := hy
  have := hq xs sq
  rw [eu] at this
  cases this
  exact ⟨fun _ _ e => e, ru⟩
/-- which of two rules goes by the value -/
theorem simItems {t : TE} (h : SimV C E p m t) : SimI C E (mItems m) (iSeq C.K t) := fun σ n R k hp => by
  have h0 := P_bind hp
  have key : ∀ {Q : VK}, (m n.δ).P (fun a δ' => ∀ v n' Sv, n'.δ = δ' → n'.Ok C σ → Tr p n n' Sv → Ro C n'.Z n'.H a.1 v a.2 Sv → Q v n'.H) (ExP C (E σ) n) → t σ n.H Q := fun {Q} hq => h σ n Q k hq
  cases e : m n.δ with
  | bad => rw [e] at h0; exact h0.elim
  | ex c fs =>
    rw [e] at h0
    exact .inl (key (by rw [e]; exact h0))
  | ok a δ1 =>
    rw [e] at h0
    obtain ⟨ty, d⟩ := a
    have h1 : ((match (ty, d) with
      | (.sh, .lst ds) => mPure ds
      | (.sh, .tup ds) => mPure ds
      | _ => mBad : M (List D)) δ1).P _ _ := h0
    cases ty <;> try (exact h1.elim)
    cases d <;> try (exact h1.elim)
    · refine .inl (key ?_)
      rw [e]
      intro v n1 Sv e1 k1 x1 r1
      obtain ⟨rfl, rz⟩ := ro_sh r1
      obtain ⟨x, xs, rfl, sq, l⟩ := rz_lst rz
      exact ⟨x, rfl, ⟨xs, sq⟩, h1 (Itl C.K x) n1 e1 k1 x1.imp (itOk_list (v := .ref x) rz)⟩
    · refine .inr (key ?_)
      rw [e]
      intro v n1 Sv e1 k1 x1 r1
      obtain ⟨rfl, rz⟩ := ro_sh r1
      obtain ⟨x, xs, rfl, sq, l⟩ := rz_tup rz
      exact ⟨x, rfl, ⟨xs, sq⟩, h1 (Itt C.K x) n1 e1 k1 x1.imp (itOk_tup (v := .ref x) rz)⟩
theorem pi_seq {X : Cx} {tg l : Expr} {tl : TE} (hl : PE X l tl) : PI X tg l (iSeq X.K tl) := PI.or (pi_list hl) (pi_tup hl)
/-! ### enumerate -/
def enumFrom : Nat → List D → List D
  | _, [] => []
  | i, d :: r => .tup [.int (i : Nat), d] :: enumFrom (i + 1) r
def enumD (ds : List D) : List D := enumFrom 0 ds
theorem enumFrom_get : ∀ {ds : List D} {k i : Nat}, (enumFrom k ds)[i]? = (ds[i]?).map fun d => .tup [.int ((k + i : Nat) : Int), d]
  | [], _, _ => by simp [enumFrom]
  | d :: r, k, 0 => by simp [enumFrom]
  | d :: r, k, i + 1 => by
    simp only [enumFrom, List.getElem?_cons_succ]
    rw [enumFrom_get, show k + 1 + i = k + (i + 1) by omega]
theorem enumFrom_len : ∀ {ds : List D} {k : Nat}, (enumFrom k ds).length = ds.length
  | [], _ => rfl
  | _ :: r, k => by simp [enumFrom, enumFrom_len]
theorem enum_get {ds : List D} {i : Nat} {d : D} (h : (enumD ds)[i]? = some d) : ∃ e, ds[i]? = some e ∧ d = .tup [.int (i : Nat), e] := by
  unfold enumD at h
  rw [enumFrom_get, Option.map_eq_some_iff] at h
  obtain ⟨e, h1, h2⟩ := h
  exact ⟨e, h1, by rw [← h2, Nat.zero_add]⟩
def mEnum (m : M (Ty × D)) : M (List D) := mBind (mItems m) fun ds => mPure (enumD ds)
theorem itOk_enumL {Z0 : Addr → Prop} {H0 : Hp} {x : Addr} {ds : List D} (h : Rz C Z0 H0 (.ref x) (.lst ds)) : ItOk C Z0 H0 (Ite C.K x) (enumD ds) := fun Z H kz i => by
  obtain ⟨x', xs, e, sq, l⟩ := rz_lst (h.keep kz)
  cases e
  refine ⟨fun d e => ?_, fun hl => ⟨xs, sq, by rw [l.len]; rwa [show (enumD ds).length = ds.length from enumFrom_len] at hl⟩⟩
  obtain ⟨d0, e0, rfl⟩ := enum_get e
  obtain ⟨u, eu, ru⟩ := l.get e0
  refine ⟨⟨xs, u, sq, eu⟩, fun y H' hy => ?_⟩
  obtain ⟨T, w, rfl, hT, rfl, hq⟩ := hy
  have := hq xs sq
  rw [eu] at this
  cases this
  exact ⟨Same.upd_new hT, .tup upd_same (.cons (.int _) (.cons (ru.keep (Kz.new hT)) .nil))⟩
theorem itOk_enumT {Z0 : Addr → Prop} {H0 : Hp} {x : Addr} {ds : List D} (h : Rz C Z0 H0 (.ref x) (.tup ds)) : ItOk C Z0 H0 (IteT C.K x) (enumD ds) := fun Z H kz i => by
  obtain ⟨x', xs, e, sq, l⟩ := rz_tup (h.keep kz)
  cases e
  refine ⟨fun d e => ?_, fun hl => ⟨xs, sq, by rw [l.len]; rwa [show (enumD ds).length = ds.length from enumFrom_len] at hl⟩⟩
  obtain ⟨d0, e0, rfl⟩ := enum_get e
  obtain ⟨u, eu, ru⟩ := l.get e0
  refine ⟨⟨xs, u, sq, eu⟩, fun y H' hy => ?_⟩
  obtain ⟨T, w, rfl, hT, rfl, hq⟩ := hy
  have := hq xs sq
  rw [eu] at this
  cases this
  exact ⟨Same.upd_new hT, .tup upd_same (.cons (.int _) (.cons (ru.keep (Kz.new hT)) .nil))⟩
def iEnumA (K : PySem.W.Frag) (ta : TA) : TI := fun σ H R => iEnum K ta σ H R ∨ iEnumT K ta σ H R
theorem pi_enumA {X : Cx} {e : Expr} {ta : TA} {p pos tpos : Pos} {elts : List Expr} {kk : Nat} (hg : Gl X "enumerate") (hm : X.mg "enumerate" = none) (ha : PA X [e] ta) (hs : starEach [e] X.env = [(false, eval e X.env)] := by rfl) :
    PI X (.Tuple elts kk tpos) (.Call (.Name "enumerate" p) [e] [] pos) (iEnumA X.K ta) := PI.or (pi_enum hg hm ha hs) (pi_enumT hg hm ha hs)
theorem simEnum {t : TE} (h : SimV C E p m t) : SimI C E (mEnum m) (iEnumA C.K (tCons t tNil)) := fun σ n R k hp => by
  have h0 := P_bind (P_bind hp)
  have key : ∀ {Q : VK}, (m n.δ).P (fun a δ' => ∀ v n' Sv, n'.δ = δ' → n'.Ok C σ → Tr p n n' Sv → Ro C n'.Z n'.H a.1 v a.2 Sv → Q v n'.H) (ExP C (E σ) n) → t σ n.H Q := fun {Q} hq => h σ n Q k hq
  cases e : m n.δ with
  | bad => rw [e] at h0; exact h0.elim
  | ex c fs =>
    rw [e] at h0
    exact .inl (key (by rw [e]; exact h0))
  | ok a δ1 =>
    rw [e] at h0
    obtain ⟨ty, d⟩ := a
    have h1 : ((match (ty, d) with
      | (.sh, .lst ds) => mPure ds
      | (.sh, .tup ds) => mPure ds
      | _ => mBad : M (List D)) δ1).P _ _ := h0
    cases ty <;> try (exact h1.elim)
    cases d <;> try (exact h1.elim)
    · refine .inl (key ?_)
      rw [e]
      intro v n1 Sv e1 k1 x1 r1
      obtain ⟨rfl, rz⟩ := ro_sh r1
      obtain ⟨x, xs, rfl, sq, l⟩ := rz_lst rz
      exact ⟨x, xs, rfl, sq, h1 (Ite C.K x) n1 e1 k1 x1.imp (itOk_enumL rz)⟩
    · refine .inr (key ?_)
      rw [e]
      intro v n1 Sv e1 k1 x1 r1
      obtain ⟨rfl, rz⟩ := ro_sh r1
      obtain ⟨x, xs, rfl, sq, l⟩ := rz_tup rz
      exact ⟨x, xs, rfl, sq, h1 (IteT C.K x) n1 e1 k1 x1.imp (itOk_enumT rz)⟩
/-! ### ranges -/
def rngD (lo : Int) (k : Nat) : List D := (List.range k).map fun i => .int (lo + (i : Nat))
theorem itOk_rng {Z0 : Addr → Prop} {H0 : Hp} {lo : Int} {k : Nat} : ItOk C Z0 H0 (Itr lo k) (rngD lo k) := fun Z H kz i => by
  refine ⟨fun d e => ?_, fun hl => by
    have hl : (rngD lo k).length ≤ i := hl
    show k ≤ i
    simpa [rngD] using hl⟩
  unfold rngD at e
  rw [List.getElem?_map, Option.map_eq_some_iff] at e
  obtain ⟨j, ej, rfl⟩ := e
  by_cases hj : i < k
  · rw [List.getElem?_range hj] at ej
    cases ej
    refine ⟨hj, fun y H' hy => ?_⟩
    obtain ⟨rfl, rfl⟩ := hy
    exact ⟨fun _ _ e => e, .int _⟩
  · rw [List.getElem?_eq_none (by simpa using hj)] at ej; cases ej
def mRng1 (m : M (Ty × D)) : M (List D) := mBind m fun a => match a.2 with
  | .int j => if -(2 ^ 62) ≤ j ∧ j < 2 ^ 62 then mPure (rngD 0 j.toNat) else mBad
  | _ => mBad
theorem simRng1 {t : TE} (h : SimK C E p m t) : SimI C E (mRng1 m) (iRng1 (tCons t tNil)) := fun σ n R k hp => by
  refine h σ n _ k ((P_bind hp).imp (fun a δ1 _ h1 v n1 Sv S0 e1 k1 x1 r1 _ => ?_) fun _ _ z => z)
  obtain ⟨ty, d⟩ := a
  dsimp only at h1 r1
  cases d <;> try (exact h1.elim)
  rename_i j _
  dsimp only at h1
  by_cases hj : -(2 ^ 62) ≤ j ∧ j < 2 ^ 62
  · rw [if_pos hj] at h1
    cases r1.any
    exact ⟨j, rfl, hj.1, hj.2, h1 (Itr 0 j.toNat) n1 e1 k1 x1.drop.imp itOk_rng⟩
  · rw [if_neg hj] at h1; exact h1.elim
def mRng2 (m : M ((Ty × D) × (Ty × D))) : M (List D) := mBind m fun a => match a.1.2, a.2.2 with
  | .int i, .int j => if -(2 ^ 62) ≤ i ∧ i < 2 ^ 62 ∧ -(2 ^ 62) ≤ j ∧ j < 2 ^ 62 then mPure (rngD i (j - i).toNat) else mBad
  | _, _ => mBad
theorem simRng2 {m : M ((Ty × D) × (Ty × D))} (h : Sim2 C E p m (t2 ta tb)) : SimI C E (mRng2 m) (iRng2 (tCons ta (tCons tb tNil))) := fun σ n R k hp => by
  refine h σ n (fun x y H => ∃ i j : Int, [x, y] = [.int i, .int j] ∧ (-(2 ^ 62) ≤ i ∧ i < 2 ^ 62 ∧ -(2 ^ 62) ≤ j ∧ j < 2 ^ 62) ∧ R (Itr i (j - i).toNat) H) k ((P_bind hp).imp (fun a δ1 _ h1 v w n1 Sv S0 S1 e1 k1 x1 r0 r1 _ _ => ?_) fun _ _ z => z)
  obtain ⟨⟨ty, d⟩, ⟨ty', d'⟩⟩ := a
  dsimp only at h1 r0 r1
  cases d <;> try (exact h1.elim)
  cases d' <;> try (exact h1.elim)
  rename_i i j _
  dsimp only at h1
  by_cases hj : -(2 ^ 62) ≤ i ∧ i < 2 ^ 62 ∧ -(2 ^ 62) ≤ j ∧ j < 2 ^ 62
  · rw [if_pos hj] at h1
    cases r0.any
    cases r1.any
    exact ⟨i, j, rfl, hj, h1 (Itr i (j - i).toNat) n1 e1 k1 x1.drop.imp itOk_rng⟩
  · rw [if_neg hj] at h1; exact h1.elim
/-! ### a text's signs -/
def signsD (x : Str) : List D := x.cps.toList.map fun c => .str ⟨#[c]⟩
theorem itOk_str {Z0 : Addr → Prop} {H0 : Hp} {x : Str} : ItOk C Z0 H0 (Its x) (signsD x) := fun Z H kz i => by
  refine ⟨fun d e => ?_, fun hl => by
    show x.cps.size ≤ i
    simpa [signsD] using hl⟩
  unfold signsD at e
  rw [List.getElem?_map, Option.map_eq_some_iff] at e
  obtain ⟨c, ec, rfl⟩ := e
  have ec' : x.cps[i]? = some c := by simpa using ec
  refine ⟨(Array.getElem?_eq_some_iff.mp ec').1, fun y H' hy => ?_⟩
  obtain ⟨rfl, c', e', rfl⟩ := hy
  rw [ec'] at e'
  cases e'
  exact ⟨fun _ _ e => e, .str _⟩
def mSigns (m : M (Ty × D)) : M (List D) := mBind m fun a => match a.2 with
  | .str x => mPure (signsD x)
  | _ => mBad
theorem simSigns {t : TE} (h : SimK C E p m t) : SimI C E (mSigns m) (iStr t) := fun σ n R k hp => by
  refine h σ n _ k ((P_bind hp).imp (fun a δ1 _ h1 v n1 Sv S0 e1 k1 x1 r1 _ => ?_) fun _ _ z => z)
  obtain ⟨ty, d⟩ := a
  dsimp only at h1 r1
  cases d <;> try (exact h1.elim)
  cases r1.any
  exact ⟨_, rfl, h1 (Its _) n1 e1 k1 x1.drop.imp itOk_str⟩
/-! ### zip -/
def zipD : List D → List D → List D
  | x :: xs, y :: ys => .tup [x, y] :: zipD xs ys
  | _, _ => []
theorem zipD_get : ∀ {xs ys : List D} {i : Nat} {d : D}, (zipD xs ys)[i]? = some d → ∃ x y, xs[i]? = some x ∧ ys[i]? = some y ∧ d = .tup [x, y]
  | x :: xs, y :: ys, 0, d, h => by simp [zipD] at h; exact ⟨x, y, rfl, rfl, h.symm⟩
  | x :: xs, y :: ys, i + 1, d, h => by
    obtain ⟨a, b, e1, e2, e3⟩ := zipD_get (xs := xs) (ys := ys) (i := i) (by simpa [zipD] using h)
    exact ⟨a, b, by simpa using e1, by simpa using e2, e3⟩
  | [], _, _, _, h => by simp [zipD] at h
  | _ :: _, [], _, _, h => by simp [zipD] at h
theorem zipD_len : ∀ {xs ys : List D}, (zipD xs ys).length = min xs.length ys.length
  | x :: xs, y :: ys => by
    simp only [zipD, List.length_cons, zipD_len]
    omega
  | [], _ => by simp [zipD]
  | _ :: _, [] => by simp [zipD]
end
end VS

end

section
set_option Elab.async false
set_option linter.all false
set_option maxRecDepth 100000
set_option maxHeartbeats 2000000
/-! VS12: list comprehensions of one for. -/
namespace VS
open PySem L2

def wipeE : List Nat → Env → Env
  | [], δ => δ
  | v :: r, δ => (wipeE r δ).set v none
/-- frozen contents of the wiped slots stand again behind it -/
def backE (δ1 : Env) : List Nat → Env → Env
  | [], δ => δ
  | v :: r, δ => match δ1[v]?, δ[v]? with
    | some (some (.sh, d)), some none => backE δ1 r (δ.set v (some (.sh, d)))
    | _, _ => backE δ1 r δ
def mLcLoop (t : Ty) (vs : List Nat) (f : Ty × D → Env → Option Env) (c : M Bool) (e : M (Ty × D)) : List D → List D → M (List D)
  | [], acc => fun δ => .ok acc δ
  | d :: r, acc => fun δ => match f (.sh, d) δ with
    | none => .bad
    | some δ1 => match c δ1 with
      | .ok true δ2 => (match e δ2 with
        | .ok a δ3 => if tyEq a.1 t = true ∧ acc.length < sizeLine then mLcLoop t vs f c e r (acc ++ [a.2]) (wipeE vs δ3) else .bad
        | _ => .bad)
      | .ok false δ2 => mLcLoop t vs f c e r acc (wipeE vs δ2)
      | _ => .bad
def mLc (t : Ty) (vs : List Nat) (mi : M (List D)) (f : Ty × D → Env → Option Env) (c : M Bool) (e : M (Ty × D)) : M (Ty × D) := mBind mi fun ds δ1 => match mLcLoop t vs f c e ds [] (wipeE vs δ1) with
  | .ok acc δ2 => .ok (.lst t, .lst acc) (backE δ1 vs δ2)
  | _ => .bad

section
variable {C : Ct} {E : St → XK} {p q : Bool} {σ σ1 : St} {n n1 : Sn} {a b m : M (Ty × D)} {ta tb : TE}
theorem RoE.empty {Z : Addr → Prop} {H : Hp} {x : Option V} : ∀ {i : Nat} {δ : Env} {σ : St} {S : List Addr}, RoE C Z H δ σ S → ∃ S', S'.Sublist S ∧ RoE C Z H (δ.set i none) (σ.set i x) S'
  | _, _, _, _, .nil => ⟨_, List.Sublist.refl _, .nil⟩
  | 0, _, _, _, .em r => ⟨_, List.Sublist.refl _, .em r⟩
  | 0, _, _, _, .fl h r => ⟨_, List.sublist_append_right _ _, .em r⟩
  | i + 1, _, _, _, .em r => by
    obtain ⟨S', s, r'⟩ := RoE.empty (i := i) r
    exact ⟨S', s, .em r'⟩
  | i + 1, _, _, _, .fl (S1 := T1) h r => by
    obtain ⟨S', s, r'⟩ := RoE.empty (i := i) r
    exact ⟨T1 ++ S', s.append_left T1, .fl h r'⟩
theorem RoE.wipe {Z : Addr → Prop} {H : Hp} {δ : Env} {σ : St} {S : List Addr} (r : RoE C Z H δ σ S) : ∀ vs, ∃ S', S'.Sublist S ∧ RoE C Z H (wipeE vs δ) (wipe σ vs) S'
  | [] => ⟨S, List.Sublist.refl _, r⟩
  | v :: vs => by
    obtain ⟨S', s, r'⟩ := RoE.wipe r vs
    obtain ⟨S2, s2, r2⟩ := RoE.empty (i := v) (x := none) r'
    exact ⟨S2, s2.trans s, r2⟩
/-- the same contents over other slots' values where nothing is told -/
theorem RoE.over {Z : Addr → Prop} {H : Hp} : ∀ {δ : Env} {σ σ' : St} {S : List Addr}, RoE C Z H δ σ S → σ'.length = σ.length → (∀ (i : Nat) (c : Ty × D), δ[i]? = some (some c) → σ'[i]? = σ[i]?) → RoE C Z H δ σ' S
  | _, _, [], _, .nil, _, _ => .nil
  | _, _, _ :: _, _, .nil, hl, _ => by simp at hl
  | _, _, [], _, .em _, hl, _ => by simp at hl
  | _, _, [], _, .fl _ _, hl, _ => by simp at hl
  | _, _, x :: σ', _, .em r, hl, h => .em (RoE.over r (by simpa using hl) fun i c e => by simpa using h (i + 1) c (by simpa using e))
  | _, _, x :: σ', _, .fl h0 r, hl, h => by
    have := h 0 _ rfl
    simp at this
    subst this
    exact .fl h0 (RoE.over r (by simpa using hl) fun i c e => by simpa using h (i + 1) c (by simpa using e))
theorem wipe_in {σ : St} {i : Nat} : ∀ {vs : List Nat}, i ∈ vs → (wipe σ vs)[i]? = if i < σ.length then some none else none
  | v :: vs, h => by
    unfold wipe
    by_cases e : v = i
    · subst e
      rw [List.getElem?_set]
      simp [wipe_length]
    · rw [List.getElem?_set_ne e]
      exact wipe_in (by
        rcases List.mem_cons.mp h with z | z
        · exact absurd z.symm e
        · exact z)
theorem wipe_out' {σ : St} {i : Nat} : ∀ {vs : List Nat}, i ∉ vs → (wipe σ vs)[i]? = σ[i]?
  | [], _ => rfl
  | v :: vs, h => by
    unfold wipe
    rw [List.getElem?_set_ne fun e => h (by simp [e])]
    exact wipe_out' fun z => h (List.mem_cons_of_mem _ z)
theorem wipe_wr {σ σ2 : St} {wr vs : List Nat} (w : Wr wr (wipe σ vs) σ2) (h : ∀ i ∈ wr, i ∈ vs) : wipe σ2 vs = wipe σ vs := by
  refine List.ext_getElem? fun i => ?_
  have hl := w.1
  rw [wipe_length] at hl
  by_cases hi : i ∈ vs
  · rw [wipe_in hi, wipe_in hi, hl]
  · rw [wipe_out' hi, w.2 i fun z => hi (h i z)]
theorem wipeE_none {δ : Env} {i : Nat} : ∀ {vs : List Nat} {c : Ty × D}, (wipeE vs δ)[i]? = some (some c) → i ∉ vs
  | [], _, _ => by simp
  | v :: vs, c, h => by
    unfold wipeE at h
    by_cases e : v = i
    · subst e
      rw [List.getElem?_set] at h
      simp at h
    · rw [List.getElem?_set_ne e] at h
      have := wipeE_none (vs := vs) h
      simp [this, Ne.symm e]
theorem backE_ok {Z Z1 : Addr → Prop} {H H1 : Hp} {δ1 : Env} {σ : St} {S1 : List Addr} (r1 : RoE C Z1 H1 δ1 σ S1) (kz : Kz Z1 H1 Z H) : ∀ {vs : List Nat} {δ : Env} {S : List Addr}, RoE C Z H δ σ S → ∃ S', S'.Perm S ∧ RoE C Z H (backE δ1 vs δ) σ S'
  | [], _, S, r => ⟨S, List.Perm.refl _, r⟩
  | v :: vs, δ, S, r => by
    unfold backE
    split
    · rename_i d e1 e2
      obtain ⟨u, S3, S4, ev, ru, pm, _⟩ := r1.take e1
      obtain ⟨rfl, rz⟩ := ro_sh ru
      obtain ⟨S5, pm5, r5⟩ := r.put e2 ev (Ro.sh (rz.keep kz))
      obtain ⟨S6, pm6, r6⟩ := backE_ok r1 kz (vs := vs) r5
      exact ⟨S6, pm6.trans (by simpa using pm5), r6⟩
    · exact backE_ok r1 kz r
theorem bad_P {α : Type} {k : α → Env → Prop} {e : String → List (Str × D) → Prop} (h : (Res.bad : Res α).P k e) : False := h
/-- THE RULE for a comprehension; what it does inside can't raise -/
theorem simLc {E0 : XK} {t : Ty} {vs wr : List Nat} {mi : M (List D)} {f : Ty × D → Env → Option Env} {c : M Bool} {e : M (Ty × D)} {wi : TI} {g : TG} {tt : TT} {te : TE} (hi : SimI C E mi wi) (hg : SimG C wr f g) (hw : ∀ i ∈ wr, i ∈ vs)
    (hc : SimT C (fun _ => E0) p c tt) (he : SimV C (fun _ => E0) q e te) : SimV C E false (mLc t vs mi f c e) (tLc wi g tt te vs) := fun σ n Q k hp => by
  refine hi σ n _ k ((P_bind hp).imp (fun ds δ1 _ h1 J n1 e1 k1 x1 ok => ?_) fun _ _ z => z)
  subst e1
  intro Dl hD
  -- what is asked at the end
  let Post : List D → Env → Prop := fun acc δ2 => ∀ v n' Sv, n'.δ = backE n1.δ vs δ2 → n'.Ok C σ → Tr false n n' Sv → Ro C n'.Z n'.H (.lst t) v (.lst acc) Sv → Q v n'.H
  let NoEx : String → List (Str × D) → Prop := fun _ _ => False
  have h1' : (mLcLoop t vs f c e ds [] (wipeE vs n1.δ)).P Post NoEx := by
    revert h1
    cases mLcLoop t vs f c e ds [] (wipeE vs n1.δ) with
    | ok acc δ2 => exact fun h => h
    | ex c fs => exact fun h => h.elim
    | bad => exact fun h => h.elim
  let Inv : Nat → Sn → Prop := fun i n2 => ∃ (acc : List D) (Sw : List Addr), n2.Ok C (wipe σ vs) ∧ Tr false n n2 Sw ∧ Kz n1.Z n1.H n2.Z n2.H ∧ Ro C n2.Z n2.H (.lst t) (.ref Dl) (.lst acc) Sw ∧
    (mLcLoop t vs f c e (ds.drop i) acc n2.δ).P Post NoEx ∧ ∀ j c, n2.δ[j]? = some (some c) → j ∉ vs
  refine ⟨fun i m H => ∃ n2 : Sn, n2.H = H ∧ m = ds.length - i ∧ Inv i n2, ⟨ds.length, ?_⟩, ?_⟩
  · -- the beginning
    obtain ⟨x2, k2⟩ := x1.newOwn (o := .lst []) k1 hD trivial
    obtain ⟨S', s', r'⟩ := k2.en.wipe vs
    have sl : (S' ++ [Dl]).Sublist (n1.S ++ [Dl]) := s'.append_right _
    refine ⟨⟨n1.Z, upd n1.H Dl (.lst []), S', wipeE vs n1.δ⟩, rfl, by simp, [], [Dl], ⟨r', k2.si.sub s'⟩, ⟨x2.st.sub fun a m => sl.subset m, x2.si.sub sl, fun z => nomatch z⟩, kz_nw hD, .lst (xs := []) upd_same .nil, by simpa using h1', fun j c e => wipeE_none e⟩
  · rintro i m H ⟨n2, rfl, rfl, acc, Sw, k2, x2, kz2, racc, h2, emp⟩
    have io := ok n2.Z n2.H kz2 i
    cases ed0 : ds[i]? with
    | none =>
      have hl := List.getElem?_eq_none_iff.mp ed0
      rw [List.drop_eq_nil_of_le hl] at h2
      have r3 : RoE C n2.Z n2.H n2.δ σ n2.S := k2.en.over (wipe_length _ _).symm fun j c e => (wipe_out' (emp j c e)).symm
      obtain ⟨S4, pm4, r4⟩ := backE_ok k1.en kz2 (vs := vs) r3
      have si4 : Sit n2.Z n2.H (S4 ++ Sw) := x2.si.perm (pm4.symm.append_right Sw)
      refine .inl ⟨io.2 hl, h2 (.ref Dl) ⟨n2.Z, n2.H, S4, backE n1.δ vs n2.δ⟩ Sw rfl ⟨r4, si4.sub (List.sublist_append_left _ _)⟩ ⟨x2.st.sub fun a m => (pm4.append_right Sw).mem_iff.mp m, si4, fun z => nomatch z⟩ racc⟩
    | some d =>
      obtain ⟨go, yl⟩ := io.1 d ed0
      have hlt : i < ds.length := by
        rcases Nat.lt_or_ge i ds.length with z | z
        · exact z
        · rw [List.getElem?_eq_none z] at ed0; cases ed0
      have ed : ds.drop i = d :: ds.drop (i + 1) := by
        rw [List.drop_eq_getElem_cons hlt]
        rw [List.getElem?_eq_getElem hlt] at ed0
        rw [Option.some.inj ed0]
      rw [ed] at h2
      refine .inr ⟨go, fun H3 => ∃ n3 : Sn, n3.H = H3 ∧ Inv (i + 1) n3, fun H3 ⟨n3, e3, z⟩ => ⟨ds.length - (i + 1), by omega, n3, e3, rfl, z⟩, fun x H' y => ?_⟩
      obtain ⟨sm, rx⟩ := yl x H' y
      have k2' := k2.same sm
      have t2 := Tr.same k2 sm
      have x2' : Tr false n { n2 with H := H' } (Sw ++ []) := x2.two t2
      have kz2' : Kz n1.Z n1.H n2.Z H' := kz2.trans ⟨fun _ z => z, fun a o q _ => sm a o q⟩
      have racc2 : Ro C n2.Z H' (.lst t) (.ref Dl) (.lst acc) Sw := x2.ro t2 k2 racc
      rw [List.append_nil] at x2'
      unfold mLcLoop at h2
      cases ef : f (.sh, d) n2.δ with
      | none => rw [ef] at h2; exact (bad_P h2).elim
      | some δ3 =>
        rw [ef] at h2
        dsimp only at h2
        refine hg (wipe σ vs) { n2 with H := H' } x (.sh, d) [] _ δ3 k2' (by rw [List.append_nil]; exact k2'.si) (.sh rx) ef fun σ3 n3 e3 k3 st3 w3 => ⟨wipe_wr w3 hw, ?_⟩
        rw [List.append_nil] at st3
        have t3 : Tr false { n2 with H := H' } n3 [] := ⟨by rw [List.append_nil]; exact st3, by rw [List.append_nil]; exact k3.si, fun z => nomatch z⟩
        have x3 : Tr false n n3 (Sw ++ []) := x2'.two t3
        have racc3 : Ro C n3.Z n3.H (.lst t) (.ref Dl) (.lst acc) Sw := x2'.ro t3 k2' racc2
        rw [List.append_nil] at x3
        have kz3 := kz2'.trans (st3.kz k2'.si)
        have ws : wipe σ3 vs = wipe σ vs := wipe_wr w3 hw
        subst e3
        refine hc σ3 n3 _ k3 ?_
        -- the test
        revert h2
        cases ec : c n3.δ with
        | ex c0 fs => exact fun h => h.elim
        | bad => exact fun h => h.elim
        | ok b0 δ4 =>
          intro h2 n4 e4 k4 t4
          subst e4
          have x4 : Tr false n n4 (Sw ++ []) := (x3.two t4).imp
          have racc4 : Ro C n4.Z n4.H (.lst t) (.ref Dl) (.lst acc) Sw := x3.ro t4 k3 racc3
          rw [List.append_nil] at x4
          have kz4 := kz3.trans (t4.kz k3)
          cases b0 with
          | false =>
            rw [if_neg Bool.false_ne_true]
            obtain ⟨S5, s5, r5⟩ := k4.en.wipe vs
            rw [ws] at r5
            have sl : (S5 ++ Sw).Sublist (n4.S ++ Sw) := s5.append_right _
            exact ⟨⟨n4.Z, n4.H, S5, wipeE vs n4.δ⟩, rfl, acc, Sw, ⟨r5, k4.si.sub s5⟩, ⟨x4.st.sub fun a m => sl.subset m, x4.si.sub sl, fun z => nomatch z⟩, kz4, racc4, h2, fun j c e => wipeE_none e⟩
          | true =>
            rw [if_pos rfl]
            dsimp only at h2
            refine he σ3 n4 _ k4 ?_
            revert h2
            cases ee : e n4.δ with
            | ex c0 fs => exact fun h => h.elim
            | bad => exact fun h => h.elim
            | ok a0 δ5 =>
              intro h2 yv n5 Sy e5 k5 t5 ry
              subst e5
              dsimp only at h2
              by_cases hcond : tyEq a0.1 t = true ∧ acc.length < sizeLine
              · rw [if_pos hcond] at h2
                have ety := tyEq_ok hcond.1
                have x5 : Tr false n n5 (Sw ++ Sy) := (x4.two t5).imp
                have racc5 : Ro C n5.Z n5.H (.lst t) (.ref Dl) (.lst acc) Sw := x4.ro t5 k4 racc4
                have kz5 := kz4.trans (t5.kz k4)
                cases racc5 with
                | @lst _ _ xs _ S0 eD l =>
                  have hlen := l.len.1
                  refine ⟨xs, eD, by rw [hlen]; exact hcond.2, ?_⟩
                  have nd := x5.si.nd
                  have hDin : Dl ∈ n5.S ++ (Dl :: S0 ++ Sy) := by simp
                  have kzp : Kz n5.Z n5.H n5.Z (upd n5.H Dl (.lst (xs ++ [yv]))) := Kz.put x5.si hDin
                  have nS : ∀ a ∈ n5.S, a ≠ Dl := fun a m z => (List.nodup_append.mp nd).2.2 a m Dl (by simp) z
                  have nd2 : (Dl :: (S0 ++ Sy)).Nodup := (List.nodup_append.mp nd).2.1
                  have n0 : ∀ a ∈ S0 ++ Sy, a ≠ Dl := fun a m z => (List.nodup_cons.mp nd2).1 (by rw [← z]; exact m)
                  obtain ⟨S5, s5, r5⟩ := (k5.en.keep kzp fun a m => upd_ne (nS a m)).wipe vs
                  rw [ws] at r5
                  have sl : (S5 ++ (Dl :: S0 ++ Sy)).Sublist (n5.S ++ (Dl :: S0 ++ Sy)) := s5.append_right _
                  have si6 : Sit n5.Z (upd n5.H Dl (.lst (xs ++ [yv]))) (n5.S ++ (Dl :: S0 ++ Sy)) := x5.si.put trivial
                  have st6 := x5.st.trans (Step.put (o := .lst (xs ++ [yv])) hDin)
                  have l1 := l.keep kzp fun a m => upd_ne (n0 a (List.mem_append_left _ m))
                  have ry1 := ry.keep kzp fun a m => upd_ne (n0 a (List.mem_append_right _ m))
                  have l2 := RoL.app l1 (RoL.cons ry1 RoL.nil)
                  rw [ety, List.append_nil] at l2
                  refine ⟨⟨n5.Z, upd n5.H Dl (.lst (xs ++ [yv])), S5, wipeE vs n5.δ⟩, rfl, acc ++ [a0.2], Dl :: S0 ++ Sy, ⟨r5, (si6.sub sl).sub (List.sublist_append_left _ _)⟩, ⟨st6.sub fun a m => sl.subset m, si6.sub sl, fun z => nomatch z⟩, kz5.trans kzp, ?_, h2, fun j c e => wipeE_none e⟩
                  refine .lst upd_same ?_
                  rw [List.length_append, List.length_singleton, ← repl_app]
                  exact l2
              · rw [if_neg hcond] at h2; exact h2.elim
end
end VS

end

section
set_option Elab.async false
set_option linter.all false
set_option maxRecDepth 100000
set_option maxHeartbeats 2000000
/-! VS13: errors: raised, caught, asked. -/
namespace VS
open PySem L2

/-! ### __init__ of an own error class: fields set one by one -/
def tInit (K : PySem.W.Frag) : List (Str × Nat) → TS
  | [] => tNext
  | (f, i) :: r => tSeq (tOst K f (tVar 0) (tVar i)) (tInit K r)
def idxFrom : Nat → List Str → List (Str × Nat)
  | _, [] => []
  | k, f :: r => (f, k) :: idxFrom (k + 1) r
def SlotsAre (σ : St) : List (Str × Nat) → List V → Prop
  | [], [] => True
  | p :: r, y :: ys => σ[p.2]? = some (some y) ∧ SlotsAre σ r ys
  | _, _ => False
theorem slotsAre_idx {σ : St} : ∀ {flds : List Str} {ys : List V} {k : Nat}, ys.length = flds.length → (∀ j y, ys[j]? = some y → σ[k + j]? = some (some y)) → SlotsAre σ (idxFrom k flds) ys
  | [], [], _, _, _ => trivial
  | [], _ :: _, _, h, _ => by simp at h
  | _ :: _, [], _, h, _ => by simp at h
  | f :: r, y :: ys, k, h, q => ⟨by simpa using q 0 y rfl, slotsAre_idx (by simpa using h) fun j z e => by
      have := q (j + 1) z (by simpa using e)
      rwa [show k + (j + 1) = k + 1 + j by omega] at this⟩
theorem idxFrom_fst : ∀ {flds : List Str} {k : Nat}, (idxFrom k flds).map (·.1) = flds
  | [], _ => rfl
  | f :: r, k => by simp [idxFrom, idxFrom_fst]
/-- what such an __init__ does -/
def spExI (K : PySem.W.Frag) (flds : List Str) : Sp := fun vs H Q _ => ∃ (a Cl : Addr) (ys : List V), vs = .ref a :: ys ∧ ys.length = flds.length ∧ flds ≠ [] ∧ flds.length ≤ 900 ∧ OexC K Cl ∧
  (∀ f ∈ flds, PySem.W.findIn K (.ref Cl) f = some none) ∧ H a = some (exo a Cl none) ∧ ∀ dx, H dx = none → dx ≠ a → Q .non (upd (upd H dx (exd dx (flds.zip ys).reverse)) a (exo a Cl (some dx)))
theorem upd_mid {H : Hp} {a dx : Addr} {o o' u : HO} (h : dx ≠ a) : upd (upd (upd H dx o) a u) dx o' = upd (upd H dx o') a u := by
  funext b
  by_cases e1 : b = dx
  · subst e1
    rw [upd_same, upd_ne h, upd_same]
  · rw [upd_ne e1]
    by_cases e2 : b = a
    · subst e2
      rw [upd_same, upd_same]
    · rw [upd_ne e2, upd_ne e2, upd_ne e1, upd_ne e1]
theorem init_more {K : PySem.W.Frag} {σ : St} {H : Hp} {Dn : Ends} {a Cl dx : Addr} (T : OexC K Cl) (h0 : σ[0]? = some (some (.ref a))) (ne : dx ≠ a) : ∀ {fs : List (Str × Nat)} {ys : List V} {acc : List (Str × V)}, SlotsAre σ fs ys → (∀ f ∈ fs.map (·.1), PySem.W.findIn K (.ref Cl) f = some none) → acc.length + fs.length ≤ 900 →
    Dn.nx σ (upd (upd H dx (exd dx (((fs.map (·.1)).zip ys).reverse ++ acc))) a (exo a Cl (some dx))) → tInit K fs Dn σ (upd (upd H dx (exd dx acc)) a (exo a Cl (some dx)))
  | [], [], acc, _, _, _, q => by simpa [tInit, tNext] using q
  | [], _ :: _, _, s, _, _, _ => s.elim
  | _ :: _, [], _, s, _, _, _ => s.elim
  | (f, i) :: r, y :: ys, acc, s, hf, hl, q => by
    refine ⟨y, s.1, .ref a, h0, a, Cl, rfl, T, hf f (by simp), .inr ⟨dx, acc, upd_same, by rw [upd_ne ne, upd_same], by simp at hl; omega, ?_⟩⟩
    rw [upd_mid ne]
    refine init_more T h0 ne s.2 (fun g m => hf g (List.mem_cons_of_mem _ m)) (by simp at hl ⊢; omega) ?_
    simpa using q
theorem init_ok {K : PySem.W.Frag} {flds N : List Str} {vs : List V} {H : Hp} {Q : VK} {E : XK} (hN : N.length = flds.length + 1) (h : spExI K flds vs H Q E) : tInit K (idxFrom 1 flds) { nx := fun _ H' => Q .non H', rt := Q } (L2.start N vs) H := by
  obtain ⟨a, Cl, ys, rfl, hl, hne, hz, T, hf, ha, q⟩ := h
  have e1 : L2.start N (.ref a :: ys) = (.ref a :: ys).map some := by
    unfold L2.start
    rw [hN]
    simp [hl]
  have hs : ∀ j y, ys[j]? = some y → (L2.start N (.ref a :: ys))[1 + j]? = some (some y) := fun j y e => by
    rw [e1, Nat.add_comm 1 j]
    simp [e]
  have h0 : (L2.start N (.ref a :: ys))[0]? = some (some (.ref a)) := by rw [e1]; rfl
  match flds, ys, hl, hne, hf, hz, q, hs with
  | [], _, _, hne, _, _, _, _ => exact absurd rfl hne
  | f :: r, [], hl, _, _, _, _, _ => simp at hl
  | f :: r, y :: ys, hl, _, hf, hz, q, hs =>
    refine ⟨y, hs 0 y rfl, .ref a, h0, a, Cl, rfl, T, hf f (by simp), .inl ⟨ha, fun dx hd ne => ?_⟩⟩
    refine init_more (acc := [(f, y)]) T h0 ne (slotsAre_idx (k := 2) (by simpa using hl) fun j z e => by
      have := hs (j + 1) z (by simpa using e)
      rwa [show 1 + (j + 1) = 2 + j by omega] at this) (fun g m => hf g (by rw [idxFrom_fst] at m; exact List.mem_cons_of_mem _ m)) (by
        have : (idxFrom 2 r).length = r.length := by rw [← List.length_map (f := (·.1)), idxFrom_fst]
        simp [this] at hz ⊢; omega) ?_
    have := q dx hd ne
    rw [idxFrom_fst]
    simpa using this
theorem len_exI {K : PySem.W.Frag} {flds ps : List Str} (h : ps.length = flds.length + 1) : ∀ vs H Q E, spExI K flds vs H Q E → vs.length = ps.length := fun vs H Q E ⟨a, Cl, ys, e, hl, _⟩ => by rw [e, h]; simp [hl]

section
variable {C : Ct} {E : St → XK} {p q : Bool} {σ σ1 : St} {n n1 : Sn} {a b m : M (Ty × D)} {ta tb : TE}
theorem RzL.rev {Z : Addr → Prop} {H : Hp} : ∀ {vs : List V} {ds : List D}, RzL C Z H vs ds → RzL C Z H vs.reverse ds.reverse
  | _, _, .nil => .nil
  | _, _, .cons h t => by
    rw [List.reverse_cons, List.reverse_cons]
    exact RzL.app (RzL.rev t) (.cons h .nil)
theorem zip_fst {α β : Type} : ∀ {xs : List α} {ys : List β}, ys.length = xs.length → (xs.zip ys).map (·.1) = xs
  | [], [], _ => rfl
  | [], _ :: _, h => by simp at h
  | _ :: _, [], h => by simp at h
  | x :: xs, y :: ys, h => by simp [zip_fst (xs := xs) (ys := ys) (by simpa using h)]
theorem zip_snd {α β : Type} : ∀ {xs : List α} {ys : List β}, ys.length = xs.length → (xs.zip ys).map (·.2) = ys
  | [], [], _ => rfl
  | [], _ :: _, h => by simp at h
  | _ :: _, [], h => by simp at h
  | x :: xs, y :: ys, h => by simp [zip_snd (xs := xs) (ys := ys) (by simpa using h)]
/-- raise c(..) -/
def mRaise (c : String) (flds : List Str) (m : M (List (Ty × D))) : M Fl := mBind m fun as _ => if as.length = flds.length then .ex c ((flds.zip (as.map (·.2))).reverse) else .bad
theorem simRaise {c : String} {flds : List Str} {m : M (List (Ty × D))} {t : TA} (hne : flds ≠ []) (hl : flds.length ≤ 900) (T : OexC C.K (C.ca c)) (hf : ∀ f ∈ flds, PySem.W.findIn C.K (.ref (C.ca c)) f = some none) (h : SimA C E p m t) :
    SimS C E [] (mRaise c flds m) (fun _ σ H => tMkO (C.ca c) (spExI C.K flds) [] t σ H fun cls d H' => E σ cls d H') := fun σ n Dn k hp => by
  refine h σ n _ k ((P_bind hp).imp (fun as δ1 _ h1 vs n1 Sv e1 k1 x1 r1 => ?_) fun _ _ z => z.now)
  have hlen : vs.length = as.length := by simpa using r1.len.1
  by_cases hc : as.length = flds.length
  · rw [if_pos hc] at h1
    refine ⟨by omega, fun a ha => ⟨a, C.ca c, vs, by simp, by omega, hne, hl, T, hf, upd_same, fun dx hdx ne => ?_⟩⟩
    rw [upd_ne ne] at hdx
    refine ⟨rfl, dx, (flds.zip vs).reverse, upd_same, by rw [upd_ne ne, upd_same], hdx, ?_⟩
    have eH : upd (del (upd (upd (upd n1.H a (exo a (C.ca c) none)) dx (exd dx (flds.zip vs).reverse)) a (exo a (C.ca c) (some dx))) a) dx (.xd (flds.zip vs).reverse) = upd n1.H dx (.xd (flds.zip vs).reverse) := by
      funext b
      by_cases e1 : b = dx
      · subst e1
        rw [upd_same, upd_same]
      · rw [upd_ne e1, upd_ne e1]
        by_cases e2 : b = a
        · subst e2
          rw [del_same, ha]
        · rw [del_ne e2, upd_ne e2, upd_ne e1, upd_ne e2]
    rw [eH]
    obtain ⟨x2, k2⟩ := x1.fz k1
    obtain ⟨x3, k3⟩ := x2.newSh (o := .xd (flds.zip vs).reverse) k2 (x := dx) hdx
    have l1 : (as.map (·.2)).length = flds.length := by rw [List.length_map]; exact hc
    have l2 : vs.length = flds.length := hlen.trans hc
    have h2 : ExP C (E σ) n c (flds.zip (as.map (·.2))).reverse := ExS.now h1
    refine h2 _ _ _ _ (x3.st.sub fun _ m => absurd m (by simp)) x3.si.zh ⟨rfl, .inr ⟨dx, _, rfl, upd_same, ?_, ?_⟩⟩
    · rw [List.map_reverse, List.map_reverse, zip_fst l1, zip_fst l2]
    · rw [List.map_reverse, List.map_reverse, zip_snd l1, zip_snd l2]
      exact (r1.fz.keep (kz_nw (n1 := n1.fz Sv) hdx)).rev
  · rw [if_neg hc] at h1; exact h1.elim

/-! ### try -/
/-- what stands when an error has come out: what was frozen, in slots that were not stored to -/
def shOnly (wr : List Nat) : Nat → Env → Env
  | _, [] => []
  | i, o :: r => (if wr.contains i then none else match o with
    | some (.sh, d) => some (.sh, d)
    | _ => none) :: shOnly wr (i + 1) r
theorem shOnly_len {wr : List Nat} : ∀ {δ : Env} {i : Nat}, (shOnly wr i δ).length = δ.length
  | [], _ => rfl
  | _ :: r, i => by simp [shOnly, shOnly_len]
theorem RoE.shOnly {wr : List Nat} {Z Z' : Addr → Prop} {H H' : Hp} (kz : Kz Z H Z' H') : ∀ {δ : Env} {σ σ' : St} {S : List Addr} (i : Nat), RoE C Z H δ σ S → σ'.length = σ.length → (∀ j, i + j ∉ wr → σ'[j]? = σ[j]?) → RoE C Z' H' (VS.shOnly wr i δ) σ' []
  | _, _, [], _, _, .nil, _, _ => .nil
  | _, _, _ :: _, _, _, .nil, hl, _ => by simp at hl
  | _, _, [], _, _, .em _, hl, _ => by simp at hl
  | _, _, [], _, _, .fl _ _, hl, _ => by simp at hl
  | _, _, x :: σ', _, i, .em (δ := δ) r, hl, h => by
    have e0 : VS.shOnly wr i (none :: δ) = none :: VS.shOnly wr (i + 1) δ := by
      show (if wr.contains i then none else (none : Option (Ty × D))) :: _ = _
      split <;> rfl
    rw [e0]
    exact .em (RoE.shOnly kz (i + 1) r (by simpa using hl) fun j hj => by
      have := h (j + 1) (by rwa [show i + (j + 1) = i + 1 + j by omega])
      simpa using this)
  | _, _, x :: σ', _, i, .fl (t := t) (v := v) (d := d) h0 r, hl, h => by
    have rr := RoE.shOnly kz (wr := wr) (i + 1) r (σ' := σ') (by simpa using hl) fun j hj => by
      have := h (j + 1) (by rwa [show i + (j + 1) = i + 1 + j by omega])
      simpa using this
    show RoE C Z' H' ((if wr.contains i then none else match some (t, d) with
      | some (.sh, d) => some (.sh, d)
      | _ => none) :: _) (x :: σ') []
    by_cases hi : wr.contains i = true
    · rw [if_pos hi]; exact .em rr
    · rw [if_neg hi]
      have hx := h 0 (by simpa using hi)
      simp at hx
      subst hx
      cases t with
      | sh =>
        obtain ⟨_, rz⟩ := ro_sh h0
        have := RoE.fl (Ro.sh (rz.keep kz)) rr
        simpa using this
      | lst _ => exact .em rr
      | hls _ => exact .em rr
      | dic _ => exact .em rr
      | ins _ => exact .em rr
theorem ExAt.rz {Z : Addr → Prop} {H : Hp} {cls : Value} {dd : Option Addr} {c : String} {fs : List (Str × D)} (h : ExAt C Z H cls dd c fs) (a : Addr) : Rz C Z H (.ref a) (.err a dd c fs) := by
  obtain ⟨_, h⟩ := h
  rcases h with ⟨rfl, rfl⟩ | ⟨d, fv, rfl, e, q, l⟩
  · exact .err0 a c
  · exact .err1 a c e q l
/-- a suite's run with the error's places drawn -/
def hRun (i : Nat) (δ : Env) (m : M Fl) (x : D) : Res Fl := match gSt i (.sh, x) δ with
  | none => .bad
  | some δ1 => match m δ1 with
    | .ok f δ2 => .ok f (δ2.set i none)
    | _ => .bad
open Classical in
/-- try: mb, except .. as slot i: h -/
noncomputable def mTry (wr : List Nat) (i : Nat) (s : String → Option Bool) (mb : M Fl) (h : Addr → Option Addr → String → List (Str × D) → M Fl) : M Fl := fun δ => match mb δ with
  | .ok f δ' => .ok f δ'
  | .bad => .bad
  | .ex c fs => match s c with
    | none => .bad
    | some false => .ex c fs
    | some true => if ∀ a d, hRun i (shOnly wr 0 δ) (h a d c fs) (.err a d c fs) = hRun i (shOnly wr 0 δ) (h 0 none c fs) (.err 0 none c fs) then hRun i (shOnly wr 0 δ) (h 0 none c fs) (.err 0 none c fs) else .bad
theorem Sit.empty {Z : Addr → Prop} {H : Hp} (h : ∀ a, Z a → ∃ o, H a = some o) : Sit Z H [] := ⟨List.nodup_nil, fun _ m => absurd m (by simp), fun _ m => absurd m (by simp), h⟩
theorem simTryAs {E0 : XK} {Wout : WX} {wr1 wr2 : List Nat} {i : Nat} {s : String → Option Bool} {cv : Value} {mb : M Fl} {h : Addr → Option Addr → String → List (Str × D) → M Fl} {tb : WX → TS} {ts : Addr → Value → Option Addr → TS}
    (hb : ∀ W, SimS C (WE W) wr1 mb (tb W)) (hk : ∀ c b, s c = some b → PySem.W.exmOne C.K (.ref (C.ca c)) cv = some b)
    (hs : ∀ a d c fs, s c = some true → SimS C (fun _ => E0) wr2 (h a d c fs) (ts a (.ref (C.ca c)) d)) :
    SimS C (WE Wout) (i :: (wr1 ++ wr2)) (mTry wr1 i s mb h) (fun Dn σ H => tb (wAs C.K cv i ts Wout Dn) Dn σ H) := fun σ n Dn k hp => by
  have w1 : ∀ j ∈ wr1, j ∈ i :: (wr1 ++ wr2) := fun j m => List.mem_cons_of_mem _ (List.mem_append_left _ m)
  refine hb (wAs C.K cv i ts Wout Dn) σ n Dn k ?_
  unfold mTry at hp
  cases em : mb n.δ with
  | bad => rw [em] at hp; exact hp.elim
  | ok f δ' => rw [em] at hp; exact PostF.narrow w1 hp
  | ex c fs =>
    rw [em] at hp
    dsimp only at hp
    intro σ' w' Z' H' cls dd st zh ex
    obtain ⟨rfl, ex2⟩ := id ex
    cases es : s c with
    | none => rw [es] at hp; exact hp.elim
    | some b =>
      rw [es] at hp
      refine ⟨b, hk c b es, fun hb1 a ha => ?_, fun hb1 => ?_⟩
      · subst hb1
        dsimp only at hp
        split at hp
        · rename_i hall
          rw [← hall a dd] at hp
          unfold hRun at hp
          have kz : Kz n.Z n.H Z' H' := st.kz k.si
          have r0 : RoE C Z' H' (shOnly wr1 0 n.δ) σ' [] := k.en.shOnly kz 0 w'.1 fun j hj => w'.2 j (by simpa using hj)
          cases eg : gSt i (.sh, .err a dd c fs) (shOnly wr1 0 n.δ) with
          | none => rw [eg] at hp; exact hp.elim
          | some δ1 =>
            rw [eg] at hp
            dsimp only at hp
            have hi : i < (shOnly wr1 0 n.δ).length := by
              unfold gSt at eg
              split at eg
              · assumption
              · cases eg
            have eδ : δ1 = (shOnly wr1 0 n.δ).set i (some (.sh, .err a dd c fs)) := by
              unfold gSt at eg
              rw [if_pos hi] at eg
              exact (Option.some.inj eg).symm
            obtain ⟨S2, S', sl, pm, r1⟩ := r0.store (i := i) (v := .ref a) hi (Ro.sh (ex.rz a))
            have eS : S' = [] := by
              have h2 : S2 = [] := by simpa using sl
              rw [h2] at pm
              simpa using pm
            subst eS
            rw [← eδ] at r1
            have k3 : Sn.Ok C (σ'.set i (some (.ref a))) ⟨Z', H', [], δ1⟩ := ⟨r1, Sit.empty zh⟩
            have x3 : Tr false n ⟨Z', H', [], δ1⟩ [] := ⟨st, Sit.empty zh, fun z => nomatch z⟩
            have wA : Wr (i :: (wr1 ++ wr2)) σ (σ'.set i (some (.ref a))) := (w'.wide w1).more (Wr.set (i := i)) fun j m => by simp at m; simp [m]
            refine hs a dd c fs es (σ'.set i (some (.ref a))) ⟨Z', H', [], δ1⟩ _ k3 ?_
            show (h a dd c fs δ1).P _ _
            cases eh : h a dd c fs δ1 with
            | bad => rw [eh] at hp; exact hp.elim
            | ex c2 fs2 => rw [eh] at hp; exact hp.elim
            | ok f δ2 =>
              rw [eh] at hp
              dsimp only at hp
              have fin : ∀ {σ2 : St} {n2 : Sn} {Sv : List Addr}, n2.δ = δ2 → n2.Ok C σ2 → Tr false ⟨Z', H', [], δ1⟩ n2 Sv → Wr wr2 (σ'.set i (some (.ref a))) σ2 →
                  ∃ n4 : Sn, n4.H = n2.H ∧ n4.Z = n2.Z ∧ n4.δ = δ2.set i none ∧ n4.Ok C (σ2.set i none) ∧ Tr false n n4 Sv ∧ Wr (i :: (wr1 ++ wr2)) σ (σ2.set i none) := fun {σ2 n2 Sv} e2 k2 x2 w2 => by
                subst e2
                obtain ⟨S', s', r'⟩ := RoE.empty (i := i) (x := none) k2.en
                have x4 := x3.seq' x2
                have sl : (S' ++ Sv).Sublist (n2.S ++ Sv) := s'.append_right _
                refine ⟨⟨n2.Z, n2.H, S', n2.δ.set i none⟩, rfl, rfl, rfl, ⟨r', (x4.si.sub sl).sub (List.sublist_append_left _ _)⟩, ⟨x4.st.sub fun y m => sl.subset m, x4.si.sub sl, fun z => nomatch z⟩, ?_⟩
                exact (wA.more w2 fun j m => by simp [m]).more (Wr.set (i := i)) fun j m => by simp at m; simp [m]
              cases f with
              | nx =>
                intro σ2 n2 e2 k2 x2 w2
                obtain ⟨n4, eH, _, e4, k4, x4, w4⟩ := fin e2 k2 x2 w2
                have := hp (σ2.set i none) n4 e4 k4 x4 w4
                rwa [eH] at this
              | bk =>
                intro σ2 n2 e2 k2 x2 w2
                obtain ⟨n4, eH, _, e4, k4, x4, w4⟩ := fin e2 k2 x2 w2
                have := hp (σ2.set i none) n4 e4 k4 x4 w4
                rwa [eH] at this
              | ct =>
                intro σ2 n2 e2 k2 x2 w2
                obtain ⟨n4, eH, _, e4, k4, x4, w4⟩ := fin e2 k2 x2 w2
                have := hp (σ2.set i none) n4 e4 k4 x4 w4
                rwa [eH] at this
              | rt t d =>
                intro v σ2 n2 Sv e2 k2 x2 r2 w2
                obtain ⟨n4, eH, eZ, e4, k4, x4, w4⟩ := fin e2 k2 x2 w2
                have := hp v (σ2.set i none) n4 Sv e4 k4 x4 (by rw [eH, eZ]; exact r2) w4
                rwa [eH] at this
        · exact hp.elim
      · subst hb1
        have hp' : ExS C (WE Wout) (i :: (wr1 ++ wr2)) σ n c fs := hp
        exact hp' σ' (w'.wide w1) Z' H' _ dd st zh ex
/-- except without a name -/
def mTryO (wr : List Nat) (s : String → Option Bool) (mb : M Fl) (h : M Fl) : M Fl := fun δ => match mb δ with
  | .ok f δ' => .ok f δ'
  | .bad => .bad
  | .ex c fs => match s c with
    | none => .bad
    | some false => .ex c fs
    | some true => match h (shOnly wr 0 δ) with
      | .ok f δ2 => .ok f δ2
      | _ => .bad
theorem simTryO {E0 : XK} {Wout : WX} {wr1 wr2 : List Nat} {s : String → Option Bool} {cv : Value} {mb h : M Fl} {tb : WX → TS} {ts : Addr → Value → Option Addr → TS}
    (hb : ∀ W, SimS C (WE W) wr1 mb (tb W)) (hk : ∀ c b, s c = some b → PySem.W.exmOne C.K (.ref (C.ca c)) cv = some b)
    (hs : ∀ a cls d, SimS C (fun _ => E0) wr2 h (ts a cls d)) :
    SimS C (WE Wout) (wr1 ++ wr2) (mTryO wr1 s mb h) (fun Dn σ H => tb (wOnly C.K cv ts Wout Dn) Dn σ H) := fun σ n Dn k hp => by
  have w1 : ∀ j ∈ wr1, j ∈ wr1 ++ wr2 := fun j m => List.mem_append_left _ m
  refine hb (wOnly C.K cv ts Wout Dn) σ n Dn k ?_
  unfold mTryO at hp
  cases em : mb n.δ with
  | bad => rw [em] at hp; exact hp.elim
  | ok f δ' => rw [em] at hp; exact PostF.narrow w1 hp
  | ex c fs =>
    rw [em] at hp
    dsimp only at hp
    intro σ' w' Z' H' cls dd st zh ex
    obtain ⟨rfl, ex2⟩ := id ex
    cases es : s c with
    | none => rw [es] at hp; exact hp.elim
    | some b =>
      rw [es] at hp
      refine ⟨b, hk c b es, fun hb1 a ha => ?_, fun hb1 => ?_⟩
      · subst hb1
        dsimp only at hp
        have kz : Kz n.Z n.H Z' H' := st.kz k.si
        have r0 : RoE C Z' H' (shOnly wr1 0 n.δ) σ' [] := k.en.shOnly kz 0 w'.1 fun j hj => w'.2 j (by simpa using hj)
        have k3 : Sn.Ok C σ' ⟨Z', H', [], shOnly wr1 0 n.δ⟩ := ⟨r0, Sit.empty zh⟩
        have x3 : Tr false n ⟨Z', H', [], shOnly wr1 0 n.δ⟩ [] := ⟨st, Sit.empty zh, fun z => nomatch z⟩
        refine hs a _ dd σ' ⟨Z', H', [], shOnly wr1 0 n.δ⟩ Dn k3 ?_
        show (h (shOnly wr1 0 n.δ)).P _ _
        cases eh : h (shOnly wr1 0 n.δ) with
        | bad => rw [eh] at hp; exact hp.elim
        | ex c2 fs2 => rw [eh] at hp; exact hp.elim
        | ok f δ2 =>
          rw [eh] at hp
          dsimp only at hp
          have wm : ∀ {σ2 : St}, Wr wr2 σ' σ2 → Wr (wr1 ++ wr2) σ σ2 := fun {σ2} w2 => (w'.wide w1).more w2 fun j m => List.mem_append_right _ m
          cases f with
          | nx => exact fun σ2 n2 e2 k2 x2 w2 => hp σ2 n2 e2 k2 (x3.seq' x2) (wm w2)
          | bk => exact fun σ2 n2 e2 k2 x2 w2 => hp σ2 n2 e2 k2 (x3.seq' x2) (wm w2)
          | ct => exact fun σ2 n2 e2 k2 x2 w2 => hp σ2 n2 e2 k2 (x3.seq' x2) (wm w2)
          | rt t d => exact fun v σ2 n2 Sv e2 k2 x2 r2 w2 => hp v σ2 n2 Sv e2 k2 (x3.seq' x2) r2 (wm w2)
      · subst hb1
        have hp' : ExS C (WE Wout) (wr1 ++ wr2) σ n c fs := hp
        exact hp' σ' (w'.wide w1) Z' H' _ dd st zh ex

/-! ### in a suite -/
/-- e.f -/
def mXf (a : Addr) (dd : Option Addr) (c : String) (f : Str) (m : M (Ty × D)) : M (Ty × D) := mBind m fun x => match x with
  | (.sh, .err a' d' c' fs) => if a' = a ∧ d' = dd ∧ c' = c then (match fs.lookup f with
    | some d => mPure (.sh, d)
    | none => mBad) else mBad
  | _ => mBad
theorem lookup_rz {Z : Addr → Prop} {H : Hp} {f : Str} {d : D} : ∀ {fs : List (Str × D)} {fv : List (Str × V)}, fs.map (·.1) = fv.map (·.1) → RzL C Z H (fv.map (·.2)) (fs.map (·.2)) → fs.lookup f = some d → ∃ v, fv.lookup f = some v ∧ Rz C Z H v d
  | [], _, _, _, e => by simp at e
  | _ :: _, [], h, _, _ => by simp at h
  | (g, x) :: fs, (g', y) :: fv, h, l, e => by
    simp at h
    obtain ⟨rfl, h⟩ := h
    cases l with
    | cons r l =>
      simp only [List.lookup] at e ⊢
      split at e
      · cases e
        exact ⟨_, rfl, r⟩
      · exact lookup_rz (by simpa using h) l e
theorem simXf {a : Addr} {dd : Option Addr} {c : String} {f : Str} (h : SimV C E p m ta) : SimV C E p (mXf a dd c f m) (tXf a (.ref (C.ca c)) dd (C.ca c) f ta) := fun σ n Q k hp => by
  refine h σ n _ k ((P_bind hp).imp (fun x δ1 _ h1 v n1 Sv e1 k1 x1 r1 => ?_) fun _ _ z => z)
  split at h1
  · rename_i a' d' c' fs _
    split at h1
    · rename_i he
      obtain ⟨rfl, rfl, rfl⟩ := he
      cases el : fs.lookup f with
      | none => rw [el] at h1; exact h1.elim
      | some d =>
        rw [el] at h1
        obtain ⟨rfl, rz⟩ := ro_sh r1
        cases rz with
        | err0 => simp at el
        | err1 _ _ e q l =>
          obtain ⟨w, ew, rw'⟩ := lookup_rz q l el
          exact ⟨rfl, rfl, _, _, w, rfl, e, ew, h1 w n1 [] e1 k1 x1 (.sh rw')⟩
    · exact h1.elim
  · exact h1.elim
end
end VS

end

section
set_option Elab.async false
set_option linter.all false
set_option maxRecDepth 100000
set_option maxHeartbeats 2000000
/-! VS14: in, is, sorted, joined rows, isinstance of a caught error. -/
namespace VS
open PySem L2

section
variable {C : Ct} {E : St → XK} {p q : Bool} {σ σ1 : St} {n n1 : Sn} {a b m : M (Ty × D)} {ta tb : TE}
/-! ### in, of a row of scalars -/
def dV : D → Option V
  | .non => some .non
  | .bl b => some (.bl b)
  | .int i => some (.int i)
  | .str x => some (.str x)
  | _ => none
def dVs : List D → Option (List V)
  | [] => some []
  | d :: r => match dV d, dVs r with
    | some v, some vs => some (v :: vs)
    | _, _ => none
theorem dV_ok {Z : Addr → Prop} {H : Hp} {v w : V} {d : D} (r : Rz C Z H v d) (h : dV d = some w) : v = w ∧ flatV v = true := by
  cases r <;> simp only [dV] at h <;> first | (cases h; exact ⟨rfl, rfl⟩) | cases h
theorem dVs_ok {Z : Addr → Prop} {H : Hp} : ∀ {vs ws : List V} {ds : List D}, RzL C Z H vs ds → dVs ds = some ws → vs = ws ∧ vs.all flatV = true
  | _, _, _, .nil, h => by simp [dVs] at h; subst h; exact ⟨rfl, rfl⟩
  | _, _, _, .cons (d := d) (ds := ds) r l, h => by
    unfold dVs at h
    cases h1 : dV d with
    | none => rw [h1] at h; cases h
    | some w =>
      cases h2 : dVs ds with
      | none => rw [h1, h2] at h; cases h
      | some ws =>
        rw [h1, h2] at h
        cases h
        obtain ⟨rfl, f1⟩ := dV_ok r h1
        obtain ⟨rfl, f2⟩ := dVs_ok l h2
        exact ⟨rfl, by simp [f1, f2]⟩
def rowD : D → Option (List D)
  | .lst ds => some ds
  | .tup ds => some ds
  | _ => none
theorem rowD_ok {Z : Addr → Prop} {H : Hp} {v : V} {d : D} {ds : List D} (r : Rz C Z H v d) (h : rowD d = some ds) : ∃ a xs, v = .ref a ∧ (SqL C.K H a xs ∨ SqT C.K H a xs) ∧ RzL C Z H xs ds := by
  cases d <;> simp only [rowD] at h <;> try (cases h; done)
  · cases h
    obtain ⟨a, xs, rfl, sq, l⟩ := rz_lst r
    exact ⟨a, xs, rfl, .inl sq, l⟩
  · cases h
    obtain ⟨a, xs, rfl, sq, l⟩ := rz_tup r
    exact ⟨a, xs, rfl, .inr sq, l⟩
def fIn (neg : Bool) (x y : D) : Option D := match dV x, rowD y with
  | some v, some ds => (dVs ds).map fun ws => .bl (if neg then !inV v ws else inV v ws)
  | _, _ => none
theorem semIn (neg : Bool) : Sem2 C (fIn neg) (rIn C.K neg) := by
  intro H v w x y d hx hy h
  unfold fIn at h
  cases h1 : dV x with
  | none => rw [h1] at h; cases h
  | some v' =>
    cases h2 : rowD y with
    | none => rw [h1, h2] at h; cases h
    | some ds =>
      rw [h1, h2] at h
      dsimp only at h
      rw [Option.map_eq_some_iff] at h
      obtain ⟨ws, e, rfl⟩ := h
      obtain ⟨rfl, f1⟩ := dV_ok hx h1
      obtain ⟨a, xs, rfl, sq, l⟩ := rowD_ok hy h2
      obtain ⟨rfl, f2⟩ := dVs_ok l e
      exact ⟨_, .bl _, fun Q q => ⟨a, xs, rfl, sq, f1, f2, q⟩⟩
/-- a sign in a text -/
def fInS (neg : Bool) (x y : D) : Option D := match x, y with
  | .str s, .str z => match s.cps.toList with
    | [c] => some (.bl (if neg then !decide (c ∈ z.cps.toList) else decide (c ∈ z.cps.toList)))
    | _ => none
  | _, _ => none
/-! ### is, of bools -/
def fIsB (x y : D) : Option D := match x, y with
  | .bl a, .bl b => some (.bl (decide (a = b)))
  | _, _ => none
def fNotB (x y : D) : Option D := match x, y with
  | .bl a, .bl b => some (.bl (!decide (a = b)))
  | _, _ => none
theorem semIsB : Sem2 C fIsB rIsB := by
  intro H v w x y d hx hy h
  cases hx <;> cases hy <;> simp only [fIsB] at h <;> try (cases h; done)
  cases h
  exact ⟨_, .bl _, fun Q q => ⟨_, _, rfl, rfl, q⟩⟩
theorem semNotB : Sem2 C fNotB rNotB := by
  intro H v w x y d hx hy h
  cases hx <;> cases hy <;> simp only [fNotB] at h <;> try (cases h; done)
  cases h
  exact ⟨_, .bl _, fun Q q => ⟨_, _, rfl, rfl, q⟩⟩
/-! ### sorted, of ints -/
def sortI (ns : List Int) : List Int := ns.mergeSort fun a b => decide (a ≤ b)
theorem sortI_eq {ns ns' : List Int} (h : ns'.Perm ns) (s : ns'.Pairwise (· ≤ ·)) : ns' = sortI ns := by
  refine List.Perm.eq_of_pairwise (le := (· ≤ ·)) (fun a b _ _ h1 h2 => Int.le_antisymm h1 h2) s ?_ (h.trans (List.mergeSort_perm ns _).symm)
  have := List.pairwise_mergeSort (le := fun a b : Int => decide (a ≤ b)) (fun a b c h1 h2 => by simp at *; omega) (fun a b => by simp; omega) ns
  exact this.imp fun h => by simpa using h
def mSort (m : M (Ty × D)) : M (Ty × D) := mBind m fun a => match a.2 with
  | .lst ds => (match intsD ds with
    | some ns => mPure (.lst .sh, .lst ((sortI ns).map D.int))
    | none => mBad)
  | _ => mBad
theorem rzl_ints {Z : Addr → Prop} {H : Hp} : ∀ ns : List Int, RzL C Z H (ns.map V.int) (ns.map D.int)
  | [] => .nil
  | _ :: r => .cons (.int _) (rzl_ints r)
theorem simSort (h : SimK C E p m ta) : SimV C E p (mSort m) (tCB (rSortedI C.K) (tCons ta tNil)) := fun σ n Q k hp => by
  refine h σ n _ k ((P_bind hp).imp (fun a δ1 _ h1 v n1 Sv S0 e1 k1 x1 r1 _ => ?_) fun _ _ z => z)
  obtain ⟨ty, d⟩ := a
  dsimp only at h1 r1
  cases d <;> try (exact h1.elim)
  rename_i ds _
  dsimp only at h1
  cases e : intsD ds with
  | none => rw [e] at h1; exact h1.elim
  | some ns =>
    rw [e] at h1
    obtain ⟨x, rfl, sq⟩ := lstI r1.any e
    refine ⟨x, ns, rfl, sq, fun ns' y hpm hs hy => ?_⟩
    obtain rfl := sortI_eq hpm hs
    obtain ⟨x4, k4⟩ := x1.drop.newOwn (o := .lst ((sortI ns).map V.int)) k1 hy trivial
    exact h1 (.ref y) (n1.nw y (.lst ((sortI ns).map V.int))) [y] e1 k4 x4 (.lst upd_same (rzl_rol (rzl_ints _)))
/-! ### isinstance of a caught error -/
/-- what an own error class must have, to be asked so -/
structure IsXC (K : PySem.W.Frag) (Cl : Addr) : Prop where
  ga : PySem.W.findIn K (.ref Cl) "__getattribute__" = some (some (.builtin "BaseException.__getattribute__"))
  gg : PySem.W.findIn K (.ref Cl) "__getattr__" = some none
  ex : PySem.W.subIn K (.ref Cl) (.type "BaseException") = some true
  ci : (PySem.W.clsIn K Cl).isSome = true
  ca : PySem.W.findIn K (.ref Cl) "__class__" = some (some (.builtin "object.__class__"))
  sp : PySem.W.specialIn K (.builtin "object.__class__") "__get__" = some (some (.builtin "getset_descriptor.__get__"))
  tk : PySem.W.takesIn K (.builtin "object.__class__") = some true
  mr : PySem.W.mroIn K Cl (.type "object") = some true
/-- isinstance(e, c): cls is the error's class, dd its dict -/
def rIsX (K : PySem.W.Frag) (cls : Value) (a : Addr) (dd : Option Addr) : List V → Hp → VK → Prop := fun xs H Q => ∃ (Cl : Addr) (c : V) (u : Value) (b : Bool), cls = .ref Cl ∧ IsXC K Cl ∧ xs = [.ref a, c] ∧ ClsV c u ∧ PySem.W.kitOne K (.ref Cl) u = some b ∧ (∀ d, dd = some d → ∃ fs, H d = some (.xd fs)) ∧ Q (.bl b) H
theorem call_isX {X : Cx} {a : Addr} {cls : Value} {dd : Option Addr} {oe : Obj} {pn : List (Addr × Obj)} (hz : Zc cls dd oe) (hf : ∃ vs, oe.data = .fields vs) : CallR (X.suite a ((a, oe) :: pn)) (.builtin "isinstance") (rIsX X.K cls a dd) := by
  intro pins s σ H xs us Q I r h
  obtain ⟨Cl, c, cv, b, rfl, T, rfl, hcv, e, hd, q⟩ := h
  match us, r with
  | _ :: _ :: _, .cons rx (.cons rt .nil) =>
    cases rx
    have ec := hcv.eq rt
    subst ec
    obtain ⟨hget, _⟩ := I.pin (a, oe) (List.mem_append_left _ List.mem_cons_self)
    obtain ⟨vs, hv⟩ := hf
    obtain ⟨od, J⟩ : ∃ od, PySem.W.InstAt s.heap a oe Cl od := by
      obtain ⟨oc, odd, oda, osl⟩ := oe
      obtain ⟨h1, h2⟩ := hz
      dsimp only at h1 h2 hv
      subst h1 h2 hv
      cases odd with
      | none => exact ⟨none, hget, rfl, rfl, trivial⟩
      | some d =>
        obtain ⟨fs, ed⟩ := hd d rfl
        obtain ⟨o, ho⟩ := objOk_get (I.hok d _ ed)
        exact ⟨some o, hget, rfl, rfl, ho⟩
    exact PySem.W.kia_one (PySem.W.kitx_exc (od := od) T.ci T.ga T.gg T.ex T.ca T.sp T.tk T.mr) I.kIn J e (fun z => nomatch z) fun tk => ⟨.bl b, H, I.kept (t' := tk) fun _ _ z => z, rfl, q⟩
/-- c: the error's class; r: who is under the class that is asked for -/
def mIsX (a : Addr) (dd : Option Addr) (c : String) (r : List (String × Bool)) (m : M (Ty × D)) : M (Ty × D) := mBind m fun x => match x with
  | (.sh, .err a' d' _ _) => if a' = a ∧ d' = dd then (match r.lookup c with
    | some b => mPure (.sh, .bl b)
    | none => mBad) else mBad
  | _ => mBad
theorem simIsX {a : Addr} {dd : Option Addr} {c : String} {r : List (String × Bool)} {cv : V} {u : Value} (hc : ClsV cv u) (hr : ∀ b, r.lookup c = some b → IsXC C.K (C.ca c) ∧ PySem.W.kitOne C.K (.ref (C.ca c)) u = some b) (h : SimV C E p m ta) :
    SimV C E p (mIsX a dd c r m) (tCB (rIsX C.K (.ref (C.ca c)) a dd) (tCons ta (tCons (tC cv) tNil))) := fun σ n Q k hp => by
  refine h σ n _ k ((P_bind hp).imp (fun x δ1 _ h1 v n1 Sv e1 k1 x1 r1 => ?_) fun _ _ z => z)
  split at h1
  · split at h1
    · rename_i he
      obtain ⟨rfl, rfl⟩ := he
      cases er : r.lookup c with
      | none => rw [er] at h1; exact h1.elim
      | some b =>
        rw [er] at h1
        obtain ⟨rfl, rz⟩ := ro_sh r1
        obtain ⟨T, hk⟩ := hr b er
        have out := h1 (.bl b) n1 [] e1 k1 x1 (.sh (.bl b))
        cases rz with
        | err0 => exact ⟨_, cv, u, b, rfl, T, rfl, hc, hk, (fun d z => nomatch z), out⟩
        | err1 _ _ e q l => exact ⟨_, cv, u, b, rfl, T, rfl, hc, hk, (fun d z => ⟨_, by cases z; exact e⟩), out⟩
    · exact h1.elim
  · exact h1.elim
/-- e.f where the error is of class cs -/
def mXf2 (a : Addr) (dd : Option Addr) (c cs : String) (f : Str) (m : M (Ty × D)) : M (Ty × D) := if c = cs then mXf a dd cs f m else mBad
theorem simXf2 {a : Addr} {dd : Option Addr} {c cs : String} {f : Str} (h : SimV C E p m ta) : SimV C E p (mXf2 a dd c cs f m) (tXf a (.ref (C.ca c)) dd (C.ca cs) f ta) := by
  unfold mXf2
  by_cases e : c = cs
  · subst e
    rw [if_pos rfl]
    exact simXf h
  · rw [if_neg e]
    exact fun σ n Q k hp => hp.elim
/-- tables by names -/
def tabOk (P : String → Bool → Prop) : List (String × Bool) → Prop
  | [] => True
  | (c, b) :: r => P c b ∧ tabOk P r
theorem tab_ok {P : String → Bool → Prop} : ∀ {l : List (String × Bool)} {c : String} {b : Bool}, tabOk P l → l.lookup c = some b → P c b
  | [], _, _, _, h => by simp at h
  | (c', b') :: r, c, b, ⟨h1, h2⟩, h => by
    simp only [List.lookup] at h
    split at h
    · rename_i e
      cases h
      have e' : c = c' := by simpa using e
      rw [e']; exact h1
    · exact tab_ok h2 h
/-- no test -/
def mYes : M Bool := mPure true
theorem simYes : SimT C E true mYes tYes := fun σ n Q k hp => hp n rfl k (Tr.refl k)
end
end VS

end

section
set_option Elab.async false
set_option linter.all false
set_option maxRecDepth 100000
set_option maxHeartbeats 2000000
/-! VSG: defs that are called where no repr is under way (so that a repr inside them tells all). -/
namespace VS
open PySem L2
open PySem.Spec PyProof.Rows
/-- room for k levels, and no repr under way -/
structure RoomG (k : Nat) (A : Around) : Prop where
  r : Room k A
  gs : A.guards = some []
theorem RoomG.mono {j k : Nat} {A : Around} (r : RoomG k A) (h : j ≤ k) : RoomG j A := ⟨r.r.mono h, r.gs⟩
theorem RoomG.deeper {k : Nat} {A : Around} (r : RoomG (k + 1) A) (env : PySem.Env) : RoomG k (A.deeper env) := ⟨r.r.deeper env, r.gs⟩
/-- what a def promises at calls in which no repr is under way -/
structure FnG (P : Program) (w : World) (K : PySem.W.Frag) (mg : Str → Option Value) (base : Heap) (CX : CXT) (k : Nat) (f : Addr) (fd : FuncData) (ps : List Str) (sp : Sp) : Prop where
  len : ∀ vs H Q E, sp vs H Q E → vs.length = ps.length
  run : ∀ A : Around, RoomG k A → ∀ (outer : List PySem.Env) (s : Shared) (H : Hp) (args : Args) (us : List Value) (vs : List V) (Q : VK) (E : XK), Env0 P w K mg base A outer s H → BindsTo s fd args (ps.zip us) → Vals vs us → sp vs H Q E →
    codeAny (model P w) A (.call (.ref f) args) (CR CX outer P w H s Q E) s
section
variable {P : Program} {w : World} {K : PySem.W.Frag} {mg : Str → Option Value} {base : Heap} {CX : CXT} {j k : Nat} {f : Addr} {fd : FuncData} {ps : List Str} {sp : Sp}
theorem FnG.of (F : FnOk P w K mg base CX k f fd ps sp) : FnG P w K mg base CX k f fd ps sp := ⟨F.len, fun A hr outer s H args us vs Q E => F.run A outer s H args us vs Q E hr.r⟩
theorem FnG.mono (F : FnG P w K mg base CX j f fd ps sp) (h : j ≤ k) : FnG P w K mg base CX k f fd ps sp := ⟨F.len, fun A hr => F.run A (hr.mono h)⟩
theorem FnG.cx {CX' : CXT} (F : FnG P w K mg base CX k f fd ps sp) (h : ∀ outer H s E e s', CX outer H s E e s' → CX' outer H s E e s') : FnG P w K mg base CX' k f fd ps sp :=
  ⟨F.len, fun A hr outer s H args us vs Q E e0 hb r q => codeAny_mono (F.run A hr outer s H args us vs Q E e0 hb r q) fun r s' z => by
    cases r with
    | error e => exact h _ _ _ _ _ _ z
    | ok fl => cases fl <;> exact z⟩
end
/-- a def by its body's reading -/
theorem fnG_of {CX : CXT} {P : Program} {w : World} {K : PySem.W.Frag} {mg : Str → Option Value} {base : Heap} {k : Nat} {f : Addr} {x qual : Str} {params : Arguments} {body : List Stmt} {scope : Scope} {dvs : List V} {kws : List (Str × V)} {fd : FuncData} {N ps : List Str} {sp : Sp}
    (F : FunD K x qual params body scope dvs kws f fd) (S : FnScope N ps scope) (len : ∀ vs H Q E, sp vs H Q E → vs.length = ps.length)
    (hB : ∀ (cdv : Value) (A : Around) (outer : List PySem.Env) (s : Shared) (H : Hp) (vs : List V) (Q : VK) (E : XK), RoomG k (A.deeper (envOfC qual scope s.heap.objs.size f cdv)) → sp vs H Q E →
      ∃ t, PSs (cxOf CX P w K mg base N qual scope f cdv A outer s H E) body t ∧ t { nx := fun _ H' => Q .non H', rt := Q } (L2.start N vs) H) : FnG P w K mg base CX (k + 1) f fd ps sp := by
  obtain ⟨oc, od, dV, kV, doc, pm, an, cdv, ct, osl, rfl, lk, hcd, _, _⟩ := F.ex
  refine ⟨len, fun A hr outer s H args us vs Q E e0 hb r q => ?_⟩
  have inH : K.In s.heap := e0.mod.kin.keeps fun b o z => (e0.bs b o z).1
  have two : ∀ y ∈ ps.zip us, scope.names.lookup y.1 = some .local ∨ (scope.names.lookup y.1 = some .cell ∧ ((cellsFrom (s.heap.objs.size + 1) scope.names []).lookup y.1).isSome = true) := by
    rintro ⟨n, v⟩ hy
    rcases S.par n (List.of_mem_zip hy).1 with z | z
    · exact .inl z
    · exact .inr ⟨z, PySem.W.cellsFrom_some _ _ _ (.inl z)⟩
  refine codeAny_call_function hr.r.depth (inH _ _ lk) rfl S.co S.gen rfl (PySem.W.codeRec_of inH hcd) (hb _ _ _ _ ?_)
  refine wpAny_newFunctionEnv_cells S.kind two fun env he s1 x => ?_
  subst he
  refine ⟨(e0.mod.nolimit.keeps fun b o z => (e0.bs b o z).1).keeps x.toInCall.keep, codeAny_func ?_⟩
  obtain ⟨t, D, hq⟩ := hB cdv A outer s H vs Q E (hr.deeper _) q
  have I0 := inv_start (CX := CX) (E := E) S hr.r.hd e0 (len _ _ _ _ q) r x
  refine wpAny_mono (D.run [] s1 (L2.start N vs) H _ I0 hq) (fun fl s' z => ?_) fun e s' z => z
  cases fl with
  | ret u => obtain ⟨v, σ', H', J, rv, z⟩ := z; exact ⟨v, H', J.os, J.bare, J.base, J.hok, rv, z⟩
  | next => obtain ⟨σ', H', J, z⟩ := z; exact ⟨V.non, H', J.os, J.bare, J.base, J.hok, rfl, z⟩
  | brk => obtain ⟨_, _, _, z⟩ := z; exact z.elim
  | cont => obtain ⟨_, _, _, z⟩ := z; exact z.elim
section
variable {X : Cx} {CX : CXT} {k : Nat} {f C : Addr} {fd : FuncData} {ps : List Str} {sp : Sp} {dvs : List V} {ds : List Value} {x m : Str} {p pos apos : Pos} {e o : Expr} {es : List Expr} {ta : TE} {t : TA}
/-- the callee, run from a body -/
theorem runG {pins : List (Addr × Obj)} {σ : L2.St} {H : Hp} {s : Shared} {Q : VK} {us : List Value} {vs : List V} {E : XK} (F : FnG X.prog X.w X.K X.mg X.base CX k f fd ps sp) (hr : RoomG k X.A) (hb : Binds X.K fd ps ds) (hd : Vals dvs ds)
    (hx : PassesAt CX X σ E) (I : Inv X pins σ H s) (r : Vals vs us) (q : sp (vs ++ dvs) H Q E) : wpAny (model X.prog X.w) X.A (call (.ref f) us) (EP X pins σ Q) X.xe s := by
  have r2 : Vals (vs ++ dvs) (us ++ ds) := r.append hd
  have b := hb s us I.kIn (r2.length.symm.trans (F.len _ _ _ _ q))
  refine wpAny_call (codeAny_mono (F.run X.A hr X.stack s H ⟨us, []⟩ (us ++ ds) (vs ++ dvs) Q E I.env0 b r2 q) fun r s' z => ?_)
  rcases r with e | fl
  · exact hx pins H s e s' I z
  · cases fl with
    | ret u => exact I.after z
    | next => exact z.elim
    | brk => exact z.elim
    | cont => exact z.elim
theorem Passes.at {E : XK} (hx : Passes CX X E) (σ : L2.St) : PassesAt CX X σ E := fun pins H s e s' I z => hx pins σ H s e s' I z
theorem peG {E : XK} (F : FnG X.prog X.w X.K X.mg X.base CX k f fd ps sp) (hr : RoomG k X.A) (hg : Gl X x) (hm : X.mg x = some (.ref f)) (hk : PySem.W.keepIn X.K (.ref f) = true) (hb : Binds X.K fd ps ds) (hd : Vals dvs ds) (hx : Passes CX X E)
    (ha : PA X (e :: es) t) (hdb : (x == ("__debug__" : Str)) = false := by decide) (he : starEach (e :: es) X.env = (false, eval e X.env) :: starEach es X.env := by rfl) (hpl : (backTo pos (starEach es X.env)).any (·.1) = false := by rfl) :
    PE X (.Call (.Name x p) (e :: es) [] pos) (tCall sp dvs E t) :=
  ⟨fun pins s σ H Q I h => wpAny_Call_Name_kw (ld_glob I hg hm (PySem.W.callWith_K (h₀ := X.base) I.ok.mod.kin hk (thn (ha.run pos pins s σ H _ I h) fun us s1 ⟨vs, H1, I1, r, q⟩ => ⟨I1.kIn, runG F hr hb hd (Passes.at hx σ) I1 r q⟩) he hpl) hdb)⟩
theorem peG0 {E : XK} (F : FnG X.prog X.w X.K X.mg X.base CX k f fd ps sp) (hr : RoomG k X.A) (hg : Gl X x) (hm : X.mg x = some (.ref f)) (hk : PySem.W.keepIn X.K (.ref f) = true) (hb : Binds X.K fd ps ds) (hd : Vals dvs ds) (hx : Passes CX X E)
    (hdb : (x == ("__debug__" : Str)) = false := by decide) : PE X (.Call (.Name x p) [] [] pos) (tCall sp dvs E tNil) :=
  ⟨fun pins s σ H Q I h => wpAny_Call_Name_kw (ld_glob I hg hm (PySem.W.callWith_K0 I.kIn hk (runG (us := []) F hr hb hd (Passes.at hx σ) I .nil h)) hdb)⟩
theorem peGS {E : L2.St → XK} (F : FnG X.prog X.w X.K X.mg X.base CX k f fd ps sp) (hr : RoomG k X.A) (hg : Gl X x) (hm : X.mg x = some (.ref f)) (hk : PySem.W.keepIn X.K (.ref f) = true) (hb : Binds X.K fd ps []) (hx : ∀ σ, PassesAt CX X σ (E σ))
    (ha : PA X (e :: es) t) (hdb : (x == ("__debug__" : Str)) = false := by decide) (he : starEach (e :: es) X.env = (false, eval e X.env) :: starEach es X.env := by rfl) (hpl : (backTo pos (starEach es X.env)).any (·.1) = false := by rfl) :
    PE X (.Call (.Name x p) (e :: es) [] pos) (tCallS sp E t) :=
  ⟨fun pins s σ H Q I h => wpAny_Call_Name_kw (ld_glob I hg hm (PySem.W.callWith_K (h₀ := X.base) I.ok.mod.kin hk (thn (ha.run pos pins s σ H _ I h) fun us s1 ⟨vs, H1, I1, r, q⟩ => ⟨I1.kIn, runG F hr hb .nil (hx σ) I1 r (by rw [List.append_nil]; exact q)⟩) he hpl) hdb)⟩
end
section
variable {P : Program} {w : World} {K : PySem.W.Frag} {mg mb : Str → Option Value} {CX : CXT} {k : Nat} {fa a : Addr} {fd : FuncData} {x : Str} {sp : Sp} {s₁ : Shared} {vs : List Value} {ns : List Int}
/-- the law's end, where the abstract heap H holds at most the script -/
theorem lawG_at {H : Hp} (KX : K.In s₁.heap) (hns : s₁.heap.Ns mainGlobals mg) (hb : s₁.heap.Ns builtinsNs mb) (hbb : ∀ x : Str, x ≠ "__name__" → mb x = bootBuiltins x) (hlim : s₁.heap.NoLimit) (hg : s₁.gens = #[])
    (ha : s₁.heap.get? a = some { cls := .type "list", data := .seq vs.toArray }) (hr : RoomG k callerA)
    (F : ∀ base : Heap, K.In base → base.Ns mainGlobals mg → FnG P w K mg base CX k fa fd [x] sp) (bnd : ∀ (s : Shared) (u : Value), BindsTo s fd ⟨[u], []⟩ [(x, u)])
    (hsp : sp [.ref a] H (fun v _ => v = .bl true) fun _ _ _ => False) (hCX : ∀ e s', CX [] H s₁ (fun _ _ _ => False) e s' → False)
    (hO : Only H) (hok : HOk P w H s₁.heap) (one : ∀ b, H b ≠ none → b = a) (own : H a ≠ none → K.lookup a = none) :
    codeAny (model P w) callerA (.call (.ref fa) ⟨[.ref a], []⟩) (fun r s' => r = .ok (.ret (.bool true)) ∧ OldK s₁.heap s'.heap ∧ s'.os = s₁.os ∧ AllBare s'.gens) s₁ := by
  -- whatever is not the script stays in the hidden heap
  have far : ∀ {b : Addr}, b ≠ a → H b = none := fun {b} n => Classical.byContradiction fun z => n (one b z)
  have get : ∀ {b : Addr} {o : Obj}, s₁.heap.get? b = some o → H b = none → (hidT s₁.heap H).get? b = some o := fun z n => hidT_get z n
  have dict : ∀ {b : Addr} {m : Str → Option Value}, s₁.heap.Ns b m → (hidT s₁.heap H).Ns b m := fun {b m} ⟨o, es, ep, z, d, r⟩ => by
    refine ⟨o, es, ep, get z (far fun eb => ?_), d, r⟩
    rw [eb, ha] at z
    cases z
    cases d
  have inK : K.In (hidT s₁.heap H) := fun b o z => by
    by_cases hn : H b = none
    · exact get (KX b o z) hn
    · have eb := one b hn
      rw [eb] at hn z
      rw [own hn] at z
      cases z
  obtain ⟨mc, c1, c2⟩ := hlim
  have e0 : Env0 P w K mg (hidT s₁.heap H) callerA [] s₁ H :=
    ⟨rfl, ⟨inK, dict hns, ⟨mb, dict hb, hbb⟩, ⟨mc, dict c1, c2⟩⟩, fun b o z => of_hidT z, Nat.le_of_eq (hidT_size _ _), trivial, (fun b z => by cases z), hok, .of_eq hg⟩
  refine codeAny_mono ((F _ inK (dict hns)).run callerA hr [] s₁ H ⟨[.ref a], []⟩ [.ref a] [.ref a] _ _ e0 (bnd s₁ (.ref a)) (.cons rfl .nil) hsp) fun r s' z => ?_
  rcases r with e | fl
  · exact (hCX e s' z).elim
  cases fl with
  | next => exact z.elim
  | brk => exact z.elim
  | cont => exact z.elim
  | ret u =>
    obtain ⟨v, H', os, bare, un, hok', rv, q⟩ := z
    cases (q : v = .bl true)
    cases (rv : u = Value.bool true)
    refine ⟨rfl, OldK.of_keep fun b o z => ?_, os, bare⟩
    rcases hO b with n | ⟨ob, xs, n⟩
    · exact un.keep b o z n (fun y => by cases y) (by simp)
    · have g1 := (hok b _ n).1
      have g2 := (hok' b _ (un.frzs b ob _ n)).1
      exact g2.trans (g1.symm.trans z)
/-- a law's end over defs called where no repr is under way -/
theorem lawG (KX : K.In s₁.heap) (hns : s₁.heap.Ns mainGlobals mg) (hb : s₁.heap.Ns builtinsNs mb) (hbb : ∀ x : Str, x ≠ "__name__" → mb x = bootBuiltins x) (hlim : s₁.heap.NoLimit) (hg : s₁.gens = #[])
    (ha : s₁.heap.get? a = some { cls := .type "list", data := .seq vs.toArray }) (hi : IntsAre vs ns) (hl : ns.length ≤ sizeLine) (hr : RoomG k callerA)
    (F : ∀ base : Heap, K.In base → base.Ns mainGlobals mg → FnG P w K mg base CX k fa fd [x] sp) (bnd : ∀ (s : Shared) (u : Value), BindsTo s fd ⟨[u], []⟩ [(x, u)])
    (hsp : ∀ H : Hp, Only H → SqL K H a (ns.map V.int) → sp [.ref a] H (fun v _ => v = .bl true) fun _ _ _ => False) (hCX : ∀ H e s', CX [] H s₁ (fun _ _ _ => False) e s' → False) :
    codeAny (model P w) callerA (.call (.ref fa) ⟨[.ref a], []⟩) (fun r s' => r = .ok (.ret (.bool true)) ∧ OldK s₁.heap s'.heap ∧ s'.os = s₁.os ∧ AllBare s'.gens) s₁ := by
  have rv := vals_ints hi
  rcases hk : K.lookup a with _ | o
  · let H : Hp := fun b => if b = a then some (.frz { cls := .type "list", data := .seq vs.toArray } (.lst (ns.map V.int))) else none
    have hHa : H a = some (.frz { cls := .type "list", data := .seq vs.toArray } (.lst (ns.map V.int))) := if_pos rfl
    have hHn : ∀ b, b ≠ a → H b = none := fun b n => if_neg n
    have one : ∀ b, H b ≠ none → b = a := fun b n => Classical.byContradiction fun z => n (hHn b z)
    have hO : Only H := fun b => by
      by_cases z : b = a
      · exact .inr ⟨_, _, z ▸ hHa⟩
      · exact .inl (hHn b z)
    refine lawG_at (H := H) KX hns hb hbb hlim hg ha hr F bnd (hsp H hO (.inl (.inr ⟨_, hHa⟩))) (hCX H) hO (fun b u z => ?_) one fun _ => hk
    have eb := one b (by rw [z]; exact fun y => by cases y)
    subst eb
    rw [hHa] at z
    cases z
    exact ⟨ha, by rw [List.length_map]; exact hl, vs, _, rv, ha⟩
  · have z := KX a o hk
    rw [ha] at z
    cases z
    exact lawG_at (H := fun _ => none) KX hns hb hbb hlim hg ha hr F bnd (hsp _ (fun _ => .inl rfl) (.inr ⟨_, vs.toArray, _, hk, rfl, rfl, rfl, by rw [List.size_toArray, hi.length]; exact hl, by simpa using rv⟩)) (hCX _) (fun _ => .inl rfl) (fun b u y => by cases y) (fun b y => absurd rfl y) fun y => absurd rfl y
end
theorem walkG {l : PySem.W.OpenLaw} {n k : Nat} {q : Program} {loose : List Str} {XP : (Str → Option Value) → Heap → Prop} {YP : World → Heap → Prop} {d : DefRec} {CX : CXT} {x : Str}
    (hn : l.most = some n) (hn2 : n ≤ sizeLine) (hdf : d.params.defaults = []) (hr : Room k callerA)
    (F : ∀ (w : World) (mg : Str → Option Value) (fa : Addr) (h : Heap), YP w h → h.Ns mainGlobals mg → mg d.name = some (.ref fa) →
      ∃ (K : PySem.W.Frag) (fd : FuncData) (sp : Sp), K.In h ∧ (∀ (s : Shared) (u : Value), BindsTo s fd ⟨[u], []⟩ [(x, u)]) ∧
        (∀ (H : Hp) (a : Addr) (ns : List Int), ns.length ≤ n → Only H → SqL K H a (ns.map V.int) → sp [.ref a] H (fun v _ => v = .bl true) fun _ _ _ => False) ∧
        ∀ base : Heap, K.In base → base.Ns mainGlobals mg → FnG l.prog w K mg base CX k fa fd [x] sp)
    (hCX : ∀ (H : Hp) (s : Shared) (e : Value) (s' : Shared), CX [] H s (fun _ _ _ => False) e s' → False) :
    PySem.W.WalkO q loose XP YP l.row.toRowW d [] (fun f vs => PySem.call f vs) := by
  refine Att.attach_call hn hdf fun w s₀ s₁ mg mb fa o pm cd doc a vs ns G Y ho hd hcd hmg hobj hints hlen hg => ?_
  obtain ⟨K, fd, sp, KX, bnd, hsp, hF⟩ := F w mg fa _ Y G.T.g hmg
  exact lawG KX G.T.g G.T.b G.T.builtins G.T.nolimit hg hobj hints (Nat.le_trans hlen hn2) ⟨hr, rfl⟩ hF bnd (fun H hO hS => hsp H a ns hlen hO hS) fun H e s' => hCX H s₁ e s'
end VS

end

section
set_option Elab.async false
set_option linter.all false
set_option maxRecDepth 100000
set_option maxHeartbeats 2000000
/-! VS15: facts of the written part as booleans; defs in one package; the end of a law. -/
namespace VS
open PySem L2
open PySem.Spec PyProof.Rows

/-! ### booleans -/
def oexB (K : PySem.W.Frag) (Cl : Addr) : Bool :=
  (match K.lookup Cl with
  | some ⟨Value.type ty, _, Data.cls cl, sl⟩ =>
    (match cl.mro, sl.toList with
    | Value.ref c :: bm, [_, _, _, _, some (Value.builtin nw), _] => decide (ty = "type") && (decide (c = Cl) && (decide (nw = "ValueError.__new__") && (cl.hasDict && (!cl.hasDel && PySem.HandSPX.refsVE bm))))
    | _, _ => false)
  | _ => false) &&
  (He.eqO (PySem.W.findIn K (.ref Cl) "__setattr__") (some (some (.builtin "object.__setattr__"))) && (decide (PySem.W.subIn K (.ref Cl) (.type "BaseException") = some true) && (decide (PySem.W.typeIn K (.ref Cl) = some (.type "type")) && PySem.W.keepIn K (.ref Cl))))
theorem oexB_ok {K : PySem.W.Frag} {Cl : Addr} (h : oexB K Cl = true) : OexC K Cl := by
  obtain ⟨h1, h2⟩ := He.ba h
  obtain ⟨h2, h3⟩ := He.ba h2
  obtain ⟨h3, h4⟩ := He.ba h3
  obtain ⟨h4, h5⟩ := He.ba h4
  refine ⟨?_, He.eqO_ok h2, of_decide_eq_true h3, of_decide_eq_true h4, h5⟩
  split at h1
  · rename_i ty od cl sl ho
    split at h1
    · rename_i c bm k0 k1 k2 k3 nw k5 hm hs
      obtain ⟨a0, h1⟩ := He.ba h1
      obtain ⟨a1, h1⟩ := He.ba h1
      obtain ⟨a2, h1⟩ := He.ba h1
      obtain ⟨a3, h1⟩ := He.ba h1
      obtain ⟨a4, a5⟩ := He.ba h1
      have b0 := of_decide_eq_true a0
      have b1 := of_decide_eq_true a1
      have b2 := of_decide_eq_true a2
      subst b0 b1 b2
      obtain ⟨nm, bs, mro, ns, qn, hd, sn, sub, ab, col, del⟩ := cl
      dsimp only at hm a3 a4
      have a4' : del = false := by simpa using a4
      subst hm a3 a4'
      have e : sl = #[k0, k1, k2, k3, some (.builtin "ValueError.__new__"), k5] := by
        obtain ⟨l⟩ := sl
        exact congrArg Array.mk hs
      subst e
      exact ⟨nm, qn, ns, bs, bm, sn, sub, ab, col, od, k0, k1, k2, k3, k5, ho, a5⟩
    · cases h1
  · cases h1
def isxB (K : PySem.W.Frag) (Cl : Addr) : Bool := He.eqO (PySem.W.findIn K (.ref Cl) "__getattribute__") (some (some (.builtin "BaseException.__getattribute__"))) && (He.eqO (PySem.W.findIn K (.ref Cl) "__getattr__") (some none) &&
  (decide (PySem.W.subIn K (.ref Cl) (.type "BaseException") = some true) && ((PySem.W.clsIn K Cl).isSome && (He.eqO (PySem.W.findIn K (.ref Cl) "__class__") (some (some (.builtin "object.__class__"))) &&
  (He.eqO (PySem.W.specialIn K (.builtin "object.__class__") "__get__") (some (some (.builtin "getset_descriptor.__get__"))) && (decide (PySem.W.takesIn K (.builtin "object.__class__") = some true) && decide (PySem.W.mroIn K Cl (.type "object") = some true)))))))
theorem isxB_ok {K : PySem.W.Frag} {Cl : Addr} (h : isxB K Cl = true) : IsXC K Cl := by
  obtain ⟨a1, h⟩ := He.ba h
  obtain ⟨a2, h⟩ := He.ba h
  obtain ⟨a3, h⟩ := He.ba h
  obtain ⟨a4, h⟩ := He.ba h
  obtain ⟨a5, h⟩ := He.ba h
  obtain ⟨a6, h⟩ := He.ba h
  obtain ⟨a7, a8⟩ := He.ba h
  exact ⟨He.eqO_ok a1, He.eqO_ok a2, of_decide_eq_true a3, a4, He.eqO_ok a5, He.eqO_ok a6, of_decide_eq_true a7, of_decide_eq_true a8⟩
/-- the module's name x is this very object | nothing -/
def gloB (K : PySem.W.Frag) (x : Str) : Bool := He.eqO (PySem.W.nsIn K mainGlobals x) (some (some (.ref (He.ga K x))))
def freB (K : PySem.W.Frag) (x : Str) : Bool := He.eqO (PySem.W.nsIn K mainGlobals x) (some none)
def noaB (K : PySem.W.Frag) (c f : Str) : Bool := He.eqO (PySem.W.findIn K (.ref (He.ga K c)) f) (some none)
/-- class c's __init__ -/
def iniB (K : PySem.W.Frag) (c : Str) (o : Str) : Bool := He.eqO (PySem.W.findIn K (.ref (He.ga K c)) "__init__") (some (some (.ref (He.ma K (He.ga K o) "__init__")))) && decide (PySem.W.typeIn K (.ref (He.ma K (He.ga K o) "__init__")) = some (.type "function"))
def exmB (K : PySem.W.Frag) (c : Str) (t : Value) (b : Bool) : Bool := decide (PySem.W.exmOne K (.ref (He.ga K c)) t = some b)
def kitB2 (K : PySem.W.Frag) (c : Str) (t : Value) (b : Bool) : Bool := decide (PySem.W.kitOne K (.ref (He.ga K c)) t = some b)
/-- what the law's head tells -/
structure Tx (fn : List He.DefD) (ck : PySem.W.Frag → List Bool) (K : PySem.W.Frag) (mg : Str → Option Value) : Prop where
  fn : ∀ (i : Nat) (d : He.DefD), fn[i]? = some d → ∃ fd, FunD K d.name d.qual d.params d.body d.scope (d.dvs K) (d.kws K) (He.fAd K d.at_) fd
  ck : ∀ (i : Nat) (b : Bool), (ck K)[i]? = some b → b = true
  ns : ∀ (x : Str) (r : Option Value), PySem.W.nsIn K mainGlobals x = some r → mg x = r
section
variable {fn : List He.DefD} {ck : PySem.W.Frag → List Bool} {K : PySem.W.Frag} {mg : Str → Option Value}
theorem Tx.glo (T : Tx fn ck K mg) (i : Nat) {x : Str} (h : (ck K)[i]? = some (gloB K x)) : mg x = some (.ref (He.ga K x)) := T.ns _ _ (He.eqO_ok (T.ck i _ h))
theorem Tx.fre (T : Tx fn ck K mg) (i : Nat) {x : Str} (h : (ck K)[i]? = some (freB K x)) : mg x = none := T.ns _ _ (He.eqO_ok (T.ck i _ h))
end
/-- the classes by their names -/
def cts (K : PySem.W.Frag) : Ct := ⟨K, fun c => He.ga K (Str.ofString c)⟩

/-! ### defs -/
/-- a def that stands under the module's name x, ready to be called: level k -/
def Cal (P : Program) (w : World) (K : PySem.W.Frag) (mg : Str → Option Value) (base : Heap) (k : Nat) (x : Str) (ps : List Str) (sp : Sp) (dvs : List V) : Prop :=
  ∃ (f : Addr) (fd : FuncData) (ds : List Value), FnG P w K mg base (L2.CX P w) k f fd ps sp ∧ mg x = some (.ref f) ∧ PySem.W.keepIn K (.ref f) = true ∧ Binds K fd ps ds ∧ Vals dvs ds
section
variable {X : Cx} {k j : Nat} {x : Str} {ps : List Str} {sp : Sp} {dvs : List V} {E : XK} {e : Expr} {es : List Expr} {t : TA} {p pos : Pos}
theorem pe_cal (c : Cal X.prog X.w X.K X.mg X.base k x ps sp dvs) (hr : RoomG j X.A) (hk : k ≤ j) (hg : Gl X x) (hx : Passes (L2.CX X.prog X.w) X E) (ha : PA X (e :: es) t) (hdb : (x == ("__debug__" : Str)) = false := by decide)
    (he : starEach (e :: es) X.env = (false, eval e X.env) :: starEach es X.env := by rfl) (hpl : (backTo pos (starEach es X.env)).any (·.1) = false := by rfl) : PE X (.Call (.Name x p) (e :: es) [] pos) (tCall sp dvs E t) := by
  obtain ⟨f, fd, ds, F, hm, hkp, hb, hd⟩ := c
  exact peG F (hr.mono hk) hg hm hkp hb hd hx ha hdb he hpl
theorem pe_cal0 (c : Cal X.prog X.w X.K X.mg X.base k x ps sp dvs) (hr : RoomG j X.A) (hk : k ≤ j) (hg : Gl X x) (hx : Passes (L2.CX X.prog X.w) X E) (hdb : (x == ("__debug__" : Str)) = false := by decide) :
    PE X (.Call (.Name x p) [] [] pos) (tCall sp dvs E tNil) := by
  obtain ⟨f, fd, ds, F, hm, hkp, hb, hd⟩ := c
  exact peG0 F (hr.mono hk) hg hm hkp hb hd hx hdb
/-- in a try: what it raises goes to the clauses -/
theorem pe_calS {E : L2.St → XK} (c : Cal X.prog X.w X.K X.mg X.base k x ps sp []) (hr : RoomG j X.A) (hk : k ≤ j) (hg : Gl X x) (hx : ∀ σ, PassesAt (L2.CX X.prog X.w) X σ (E σ)) (ha : PA X (e :: es) t) (hdb : (x == ("__debug__" : Str)) = false := by decide)
    (he : starEach (e :: es) X.env = (false, eval e X.env) :: starEach es X.env := by rfl) (hpl : (backTo pos (starEach es X.env)).any (·.1) = false := by rfl) : PE X (.Call (.Name x p) (e :: es) [] pos) (tCallS sp E t) := by
  obtain ⟨f, fd, ds, F, hm, hkp, hb, hd⟩ := c
  cases hd
  exact peGS F (hr.mono hk) hg hm hkp hb hx ha hdb he hpl
end
theorem spM_len {C : Ct} {N k : Nat} {wr : List Nat} {b : M Fl} {vs : List V} {H : Hp} {Q : VK} {E : XK} (h : spM C (mFn N k wr b) vs H Q E) : vs.length = k := by
  obtain ⟨n, as, rfl, eδ, ok, hp⟩ := h
  unfold mFn at hp
  by_cases hl : as.length = k
  · have := ok.en.len
    rw [eδ] at this
    simpa [hl] using this.symm
  · rw [if_neg hl] at hp; exact hp.elim
section
variable {P : Program} {w : World} {K : PySem.W.Frag} {mg : Str → Option Value} {base : Heap}
/-- THE RULE for a def: its body's term, its simulation -/
theorem cal_of {d : He.DefD} {x : Str} {k : Nat} {N ps : List Str} {wr : List Nat} {b : M Fl} {C : Ct} (F : ∃ fd, FunD K d.name d.qual d.params d.body d.scope [] [] (He.ga K x) fd) (g : mg x = some (.ref (He.ga K x))) (S : FnScope N ps d.scope) (hl : ps.length ≤ N.length)
    (hb : ∀ (kV doc pm : Value) (an : Option Addr) (cdv ct : Value) (us : List Value), us.length = ps.length → bindArgs (PySem.W.fnOf d.name d.qual d.params d.body d.scope .none kV doc pm an cdv ct) ⟨us, []⟩ = pure (ps.zip us))
    (body : ∀ (cdv : Value) (A : Around) (outer : List PySem.Env) (s : Shared) (H : Hp) (E : XK), RoomG k (A.deeper (envOfC d.qual d.scope s.heap.objs.size (He.ga K x) cdv)) →
      ∃ t, PSs (cxOf (L2.CX P w) P w K mg base N d.qual d.scope (He.ga K x) cdv A outer s H E) d.body t ∧ SimS C (fun _ => E) wr b t) : Cal P w K mg base (k + 1) x ps (spM C (mFn N.length ps.length wr b)) [] := by
  obtain ⟨fd, F⟩ := F
  refine ⟨_, fd, [], fnG_of F S (fun vs H Q E h => spM_len h) (fun cdv A outer s H vs Q E hr h => ?_), g, F.kp, F.bindsN hb, .nil⟩
  obtain ⟨t, D, q⟩ := body cdv A outer s H E hr
  exact ⟨t, D, sim_fn hl q h⟩
/-- a def whose promise is its own -/
theorem cal_sp {d : He.DefD} {x : Str} {k : Nat} {N ps : List Str} {sp : Sp} (F : ∃ fd, FunD K d.name d.qual d.params d.body d.scope [] [] (He.ga K x) fd) (g : mg x = some (.ref (He.ga K x))) (S : FnScope N ps d.scope) (len : ∀ vs H Q E, sp vs H Q E → vs.length = ps.length)
    (hb : ∀ (kV doc pm : Value) (an : Option Addr) (cdv ct : Value) (us : List Value), us.length = ps.length → bindArgs (PySem.W.fnOf d.name d.qual d.params d.body d.scope .none kV doc pm an cdv ct) ⟨us, []⟩ = pure (ps.zip us))
    (body : ∀ (cdv : Value) (A : Around) (outer : List PySem.Env) (s : Shared) (H : Hp) (vs : List V) (Q : VK) (E : XK), RoomG k (A.deeper (envOfC d.qual d.scope s.heap.objs.size (He.ga K x) cdv)) → sp vs H Q E →
      ∃ t, PSs (cxOf (L2.CX P w) P w K mg base N d.qual d.scope (He.ga K x) cdv A outer s H E) d.body t ∧ t { nx := fun _ H' => Q .non H', rt := Q } (L2.start N vs) H) : Cal P w K mg base (k + 1) x ps sp [] := by
  obtain ⟨fd, F⟩ := F
  exact ⟨_, fd, [], fnG_of F S len (fun cdv A outer s H vs Q E hr h => body cdv A outer s H vs Q E hr h), g, F.kp, F.bindsN hb, .nil⟩
/-- an __init__ of an own error class, as it is called by the class -/
def Ini (P : Program) (w : World) (K : PySem.W.Frag) (mg : Str → Option Value) (base : Heap) (o : Str) (flds : List Str) : Prop :=
  ∃ (fd : FuncData) (ps : List Str), FnOk P w K mg base (L2.CX P w) 1 (He.ma K (He.ga K o) "__init__") fd ps (spExI K flds) ∧ Binds K fd ps []
theorem ini_of {d : He.DefD} {o : Str} {flds N : List Str} (F : ∃ fd, FunD K d.name d.qual d.params d.body d.scope [] [] (He.ma K (He.ga K o) "__init__") fd) (S : FnScope N N d.scope) (hN : N.length = flds.length + 1)
    (hb : ∀ (kV doc pm : Value) (an : Option Addr) (cdv ct : Value) (us : List Value), us.length = N.length → bindArgs (PySem.W.fnOf d.name d.qual d.params d.body d.scope .none kV doc pm an cdv ct) ⟨us, []⟩ = pure (N.zip us))
    (body : ∀ (cdv : Value) (A : Around) (outer : List PySem.Env) (s : Shared) (H : Hp) (E : XK), PSs (cxOf (L2.CX P w) P w K mg base N d.qual d.scope (He.ma K (He.ga K o) "__init__") cdv A outer s H E) d.body (tInit K (idxFrom 1 flds))) : Ini P w K mg base o flds := by
  obtain ⟨fd, F⟩ := F
  exact ⟨fd, N, F.ok (k := 0) S (len_exI hN) (fun cdv A outer s H vs Q E hr h => ⟨_, body cdv A outer s H E, init_ok hN h⟩), F.bindsN hb⟩
end
/-- raise c(..), c's __init__ found at class o -/
theorem ps_raiseC {X : Cx} {c o : Str} {flds : List Str} {W : WX} {e : Expr} {es : List Expr} {ta : TA} {p pos pos2 : Pos} {j : Nat} (I : Ini X.prog X.w X.K X.mg X.base o flds) (hc : X.calm = true) (tk : Takes X W) (T : oexB X.K (He.ga X.K c) = true) (hi : iniB X.K c o = true)
    (hr : RoomG j X.A) (hj : 2 ≤ j) (hg : Gl X c) (hm : X.mg c = some (.ref (He.ga X.K c))) (ha : PA X (e :: es) ta)
    (hdb : (c == ("__debug__" : Str)) = false := by decide) (he : starEach (e :: es) X.env = (false, eval e X.env) :: starEach es X.env := by rfl) (hpl : (backTo pos (starEach es X.env)).any (·.1) = false := by rfl) :
    PS X (.Raise (some (.Call (.Name c p) (e :: es) [] pos)) none pos2) (fun _ σ H => tMkO (He.ga X.K c) (spExI X.K flds) [] ta σ H fun cls d H' => W cls d σ H') := by
  obtain ⟨fd, ps, F, hb⟩ := I
  obtain ⟨h1, h2⟩ := He.ba hi
  exact ps_raise hc tk (pmk_oex (oexB_ok T) (He.eqO_ok h1) (of_decide_eq_true h2) F (hr.r.mono hj) hb .nil passL hg hm ha hdb he hpl)

/-! ### the end -/
theorem law_sp {K : PySem.W.Frag} {f : FM} {n : Nat} (h : ∀ ns : List Int, ns.length ≤ n → ∃ δ, f [(.sh, .lst (ns.map D.int))] = .ok (.sh, .bl true) δ) {C : Ct} (hC : C.K = K) (H : Hp) (a : Addr) (ns : List Int) (hl : ns.length ≤ n) (ho : Only H) (hS : SqL K H a (ns.map V.int)) :
    spM C f [.ref a] H (fun v _ => v = .bl true) fun _ _ _ => False := by
  subst hC
  obtain ⟨δ, e⟩ := h ns hl
  have rz : Rz C (fun _ => False) H (.ref a) (.lst (ns.map D.int)) := by
    rcases hS with (z | ⟨o, z⟩) | z
    · rcases ho a with q | ⟨o, xs, q⟩
      · rw [q] at z; cases z
      · rw [q] at z; cases z
    · exact .frz z (rzl_ints ns)
    · exact .klst z (rzl_ints ns)
  refine ⟨⟨fun _ => False, H, [], [some (.sh, .lst (ns.map D.int))]⟩, [(.sh, .lst (ns.map D.int))], rfl, rfl, ⟨?_, Sit.empty fun _ z => z.elim⟩, ?_⟩
  · have := RoE.fl (Ro.sh rz) RoE.nil
    simpa using this
  · rw [e]
    intro v n' Sv _ _ _ r
    cases r.any
    rfl
theorem cx_end {P : Program} {w : World} (H : Hp) (s : Shared) (e : Value) (s' : Shared) (h : L2.CX P w [] H s (fun _ _ _ => False) e s') : False := by
  obtain ⟨_, _, _, _, _, _, _, _, _, _, _, _, z⟩ := h
  exact z
end VS

end

section
set_option Elab.async false
set_option linter.all false
set_option maxRecDepth 100000
set_option maxHeartbeats 2000000
/-! VS16: what the printed texts lean on; the laws' own draws. -/
namespace VS
open PySem L2

/-- the j-th statement of a class's body -/
def mth (st : Stmt) (j : Nat) : Stmt := match st with
  | .ClassDef _ _ _ body _ _ _ _ _ _ _ => body.getD j (.Pass ⟨0, 0, 0, 0⟩)
  | _ => .Pass ⟨0, 0, 0, 0⟩
theorem hu64 {k : Nat} {A : Around} (r : RoomG k A) : A.units + 64 < cLine := by have := r.r.un; omega
theorem noa_all {P : Str → Prop} : ∀ {l : List Str} (h : ∀ (i : Nat) (f : Str), l[i]? = some f → P f), ∀ f ∈ l, P f := fun {l} h f hf => by
  obtain ⟨i, hi, e⟩ := List.mem_iff_getElem.mp hf
  exact h i f (by rw [List.getElem?_eq_getElem hi, e])
def intB (K : PySem.W.Frag) (x : Str) (n : Int) : Bool := match PySem.W.nsIn K mainGlobals x with
  | some (some (Value.int j _)) => decide (j = n)
  | _ => false
theorem Tx.int {fn : List He.DefD} {ck : PySem.W.Frag → List Bool} {K : PySem.W.Frag} {mg : Str → Option Value} (T : Tx fn ck K mg) (i : Nat) {x : Str} {n : Int} (h : (ck K)[i]? = some (intB K x n)) : ∃ u, mg x = some u ∧ RelV (.int n) u := by
  have q := T.ck i _ h
  unfold intB at q
  split at q
  · rename_i j t e
    have ej := of_decide_eq_true q
    exact ⟨_, T.ns x _ e, t, by rw [ej]⟩
  · cases q
/-! ### a module's tuple of scalars -/
def dvD : He.Dv → Option D
  | .non => some .non
  | .bl b => some (.bl b)
  | .int i => some (.int i)
  | .str x => some (.str x)
  | _ => none
def dvDs : List He.Dv → Option (List D)
  | [] => some []
  | v :: r => match dvD v, dvDs r with
    | some d, some ds => some (d :: ds)
    | _, _ => none
section
variable {C : Ct} {E : St → XK} {p q : Bool} {σ σ1 : St} {n n1 : Sn}
theorem dvDs_ok {Z : Addr → Prop} {H : Hp} : ∀ {vs : List He.Dv} {ds : List D}, dvDs vs = some ds → RzL C Z H (vs.map (He.Dv.v C.K)) ds
  | [], _, h => by simp [dvDs] at h; subst h; exact .nil
  | v :: r, ds, h => by
    unfold dvDs at h
    cases h1 : dvD v with
    | none => rw [h1] at h; cases h
    | some d =>
      cases h2 : dvDs r with
      | none => rw [h1, h2] at h; cases h
      | some ds' =>
        rw [h1, h2] at h
        cases h
        refine .cons ?_ (dvDs_ok h2)
        cases v <;> simp only [dvD] at h1 <;> first | (cases h1; first | exact .non | exact .bl _ | exact .int _ | exact .str _) | cases h1
theorem ktup_of {K : PySem.W.Frag} {x : Str} {vs : List He.Dv} (h : He.tupB K x vs = true) : KTup K (He.ga K x) (vs.map (He.Dv.v K)) := by
  rcases He.tupB_ok h (fun _ => none) with (z | ⟨o, z⟩) | z
  · cases z
  · cases z
  · exact z
theorem simGT {x : Str} {vs : List He.Dv} {ds : List D} (h : He.tupB C.K x vs = true) (hd : dvDs vs = some ds) : SimV C E true (mC (.tup ds)) (tC (.ref (He.ga C.K x))) := fun σ n Q k hp =>
  hp _ n [] rfl k (Tr.refl k) (.sh (.ktup (ktup_of h) (dvDs_ok hd)))

/-! ### the laws' draws: d = [great, seed, count] -/
/-- what is drawn of (great, seed, count), and the three behind it -/
def drawP (gs : List Int) (s c many : Int) : Int × List Int × Int × Int := match gs with
  | g :: r => (g.fmod many, (if g.fdiv (if many > 2 then many else 2) = 0 then r else g.fdiv (if many > 2 then many else 2) :: r), s, c)
  | [] => (((s * 69621 + (c + 1) * 7919 + 5).fmod 2147483647).fdiv 31 |>.fmod many, [], (s * 69621 + (c + 1) * 7919 + 5).fmod 2147483647, c + 1)
abbrev tyD : Ty := .hls [.lst .sh, .sh, .sh]
def dD (gs : List Int) (s c : Int) : D := .lst [.lst (gs.map D.int), .int s, .int c]
def fDraw : FM := fun as => match as with
  | [(.hls [.lst .sh, .sh, .sh], .lst [.lst ds, .int s, .int c]), (.sh, .int many)] => (match intsD ds with
    | some gs => if 1 ≤ many ∧ many < 1073741824 then .ok (.sh, .int (drawP gs s c many).1) [some (tyD, dD (drawP gs s c many).2.1 (drawP gs s c many).2.2.1 (drawP gs s c many).2.2.2), some (.sh, .int many)] else .bad
    | none => .bad)
  | _ => .bad
/-- the body's reading; slots d, many, great, digit -/
def t_draw (K : PySem.W.Frag) : TS :=
  tSeq (tAsg (tOp (rIx K) (tVar 0) (tC (.int 0))) (gName 2))
  (tSeq (tIfS (fun σ H Q => tVar 2 σ H fun x H1 => ∃ k, TruV K x H1 k ∧ Q k H1)
    (tSeq (tAsg (tOp (rI (fun _ j => j ≠ 0) fun i j => .int (i.fmod j)) (tCB (fun xs H Q => (∃ i, xs = [.int i] ∧ Q (.int i) H) ∨ ∃ k, xs = [.bl k] ∧ Q (.int (if k then 1 else 0)) H) (tCons (tOp (rIx K) (tVar 2) (tC (.int 0))) tNil)) (tVar 1)) (gName 3))
    (tSeq (tAsg (tOp (rI CDivN fun i j => .int (i.fdiv j)) (tOp (rIx K) (tVar 2) (tC (.int 0))) (tCB (fun xs H Q => ∃ i j, xs = [.int i, .int j] ∧ Q (.int (if j > i then j else i)) H) (tCons (tC (.int 2)) (tCons (tVar 1) tNil)))) (gSub (tVar 2) (tC (.int 0)) rSetL))
    (tSeq (tIfS (tTest (tOp (rEqD K) (tOp (rIx K) (tVar 2) (tC (.int 0))) (tC (.int 0)))) (tDrop (tBM K "list" rPopAt (tVar 2) (tCons (tC (.int 0)) tNil))) tNext)
      (tRet (tVar 3))))) tNext)
  (tSeq (tAsg (tOp (rI0 fun i j => .int (i + j)) (tOp (rIx K) (tVar 0) (tC (.int 2))) (tC (.int 1))) (gSub (tVar 0) (tC (.int 2)) rSetL))
  (tSeq (tAsg (tOp (rI (fun _ j => j ≠ 0) fun i j => .int (i.fmod j)) (tOp (rI0 fun i j => .int (i + j)) (tOp (rI0 fun i j => .int (i + j)) (tOp (rI CMul fun i j => .int (i * j)) (tOp (rIx K) (tVar 0) (tC (.int 1))) (tC (.int 69621)))
      (tOp (rI CMul fun i j => .int (i * j)) (tOp (rIx K) (tVar 0) (tC (.int 2))) (tC (.int 7919)))) (tC (.int 5))) (tC (.int 2147483647))) (gSub (tVar 0) (tC (.int 1)) rSetL))
  (tRet (tOp (rI (fun _ j => j ≠ 0) fun i j => .int (i.fmod j)) (tOp (rI CDivN fun i j => .int (i.fdiv j)) (tOp (rIx K) (tVar 0) (tC (.int 1))) (tC (.int 31))) (tVar 1))))))
theorem draw_in {H : Hp} {Z : Addr → Prop} {v0 v1 : V} {S : List Addr} {ds : List D} {gs : List Int} {s c many : Int} (e : intsD ds = some gs) (r : RoE C Z H [some (tyD, .lst [.lst ds, .int s, .int c]), some (.sh, .int many)] [some v0, some v1] S) :
    ∃ a g, v0 = .ref a ∧ v1 = .int many ∧ H a = some (.lst [.ref g, .int s, .int c]) ∧ H g = some (.lst (gs.map V.int)) ∧ S = [a, g] := by
  cases r with
  | fl h0 r =>
    cases r with
    | fl h1 r =>
      cases r
      obtain ⟨rfl, z1⟩ := ro_sh h1
      cases z1
      cases h0 with
      | hls ea l =>
        cases l with
        | cons x0 l =>
          cases l with
          | cons x1 l =>
            cases l with
            | cons x2 l =>
              cases l
              obtain ⟨rfl, z1⟩ := ro_sh x1
              obtain ⟨rfl, z2⟩ := ro_sh x2
              cases z1
              cases z2
              cases x0 with
              | lst eg lg =>
                obtain ⟨lz, rfl⟩ := rol_sh lg
                have := intsD_ok lz e
                subst this
                exact ⟨_, _, rfl, rfl, ea, eg, rfl⟩
theorem draw_out {n : Sn} {a g : Addr} {many : Int} {s c s' c' : Int} {gs gs' : List Int} {H' : Hp} (hS : n.S = [a, g]) (si : Sit n.Z n.H n.S) (ea : n.H a = some (.lst [.ref g, .int s, .int c])) (eg : n.H g = some (.lst (gs.map V.int)))
    (ea' : H' a = some (.lst [.ref g, .int s', .int c'])) (eg' : H' g = some (.lst (gs'.map V.int))) (k : ∀ b, b ≠ a → b ≠ g → H' b = n.H b) :
    Sn.Ok C [some (.ref a), some (.int many)] ⟨n.Z, H', [a, g], [some (tyD, dD gs' s' c'), some (.sh, .int many)]⟩ ∧ Tr false n ⟨n.Z, H', [a, g], [some (tyD, dD gs' s' c'), some (.sh, .int many)]⟩ [] := by
  have st : Step n.Z n.H n.S n.Z H' [a, g] := ⟨fun b o e h => by
    rw [hS] at h
    rw [k b (fun z => h (by simp [z])) (fun z => h (by simp [z]))]; exact e, fun _ z => z, fun _ z => .inl z, fun b m => .inl (by rw [hS]; exact m)⟩
  have si' : Sit n.Z H' [a, g] := by
    refine ⟨by rw [← hS]; exact si.nd, fun b m => si.dj b (by rw [hS]; exact m), fun b m => ?_, fun b z => ?_⟩
    · simp at m
      rcases m with rfl | rfl
      · rw [ea']; trivial
      · rw [eg']; trivial
    · obtain ⟨o, e⟩ := si.zh b z
      have hb : b ∉ n.S := fun m => si.dj b m z
      exact ⟨o, st.keep b o e hb⟩
  refine ⟨⟨?_, si'⟩, ⟨by rw [List.append_nil]; exact st, by rw [List.append_nil]; exact si', fun z => nomatch z⟩⟩
  have rg : Ro C n.Z H' (.lst .sh) (.ref g) (.lst (gs'.map D.int)) [g] := .lst eg' (rzl_rol (rzl_ints gs'))
  have ra : Ro C n.Z H' tyD (.ref a) (dD gs' s' c') [a, g] := by
    have := RoL.cons rg (RoL.cons (Ro.sh (Rz.int (C := C) (Z := n.Z) (H := H') s')) (RoL.cons (Ro.sh (Rz.int c')) RoL.nil))
    exact .hls ea' (by simpa using this)
  have := RoE.fl ra (RoE.fl (Ro.sh (Rz.int (C := C) (Z := n.Z) (H := H') many)) RoE.nil)
  simpa using this
theorem ix_l {K : PySem.W.Frag} {H : Hp} {a : Addr} {xs : List V} {i : Int} {x : V} {Q : VK} (e : H a = some (.lst xs)) (h : atI xs i = some x) (q : Q x H) : rIx K (.ref a) (.int i) H Q := .inl ⟨a, xs, i, x, rfl, rfl, .inl (.inl e), h, q⟩
theorem ite_t {c : Bool} {A B : Prop} (hc : c = true) (h : A) : if c = true then A else B := by rw [if_pos hc]; exact h
theorem ite_f {c : Bool} {A B : Prop} (hc : c = false) (h : B) : if c = true then A else B := by rw [hc, if_neg Bool.false_ne_true]; exact h
theorem ixN0 {n : Nat} (h : 0 < n) : ixN n 0 = some 0 := by
  unfold ixN
  simp [h]
theorem at0 {α : Type} {x : α} {r : List α} : atI (x :: r) 0 = some x := by
  unfold atI
  rw [ixN0 (by simp)]
  rfl
theorem draw_ok {vs : List V} {H : Hp} {Q : VK} {E : XK} (h : spM C fDraw vs H Q E) : t_draw C.K { nx := fun _ H' => Q .non H', rt := Q } (L2.start ["d", "many", "great", "digit"] vs) H := by
  obtain ⟨n, as, rfl, eδ, ok, hp⟩ := h
  unfold fDraw at hp
  split at hp
  · rename_i ds s c many
    cases eg : intsD ds with
    | none => rw [eg] at hp; exact hp.elim
    | some gs =>
      rw [eg] at hp
      dsimp only at hp
      by_cases hm : 1 ≤ many ∧ many < 1073741824
      · rw [if_pos hm] at hp
        have en := ok.en
        rw [eδ] at en
        obtain ⟨lv, es⟩ : ∃ v0 v1, vs = [v0, v1] := by
          have := en.len
          simp at this
          match vs, this with
          | [x, y], _ => exact ⟨x, y, rfl⟩
        obtain ⟨v1, rfl⟩ := es
        obtain ⟨a, g, rfl, rfl, ea, e2, hS⟩ := draw_in eg en
        have nag : g ≠ a := fun z => by
          have := ok.si.nd
          rw [hS] at this
          simp at this
          exact this z.symm
        have fin : ∀ {H' : Hp} {s' c' r : Int} {gs' : List Int}, H' a = some (.lst [.ref g, .int s', .int c']) → H' g = some (.lst (gs'.map V.int)) → (∀ b, b ≠ a → b ≠ g → H' b = n.H b) → drawP gs s c many = (r, gs', s', c') → Q (.int r) H' := fun {H' s' c' r gs'} h1 h2 h3 h4 => by
          obtain ⟨k', x'⟩ := draw_out (C := C) (many := many) hS ok.si ea e2 h1 h2 h3
          rw [h4] at hp
          exact hp (.int r) _ [] rfl k' x' (.sh (.int r))
        refine ⟨_, rfl, ix_l ea (x := .ref g) rfl ?_⟩
        refine ⟨_, rfl, ?_⟩
        cases gs with
        | nil =>
          refine ⟨false, .inl ⟨_, .inl (.inl e2), rfl⟩, ?_⟩
          refine ite_f rfl ?_
          refine ⟨_, rfl, ix_l ea (x := .int c) rfl ⟨_, _, rfl, rfl, ?_⟩⟩
          refine ⟨_, rfl, a, _, 2, 2, rfl, rfl, ea, rfl, ?_⟩
          have e3 : upd n.H a (.lst [.ref g, .int s, .int (c + 1)]) a = some (.lst [.ref g, .int s, .int (c + 1)]) := upd_same
          refine ⟨_, rfl, ix_l e3 (x := .int s) rfl ⟨_, _, rfl, rfl, .inr (by decide), ?_⟩⟩
          refine ⟨_, rfl, ix_l e3 (x := .int (c + 1)) rfl ⟨_, _, rfl, rfl, .inr (by decide), ?_⟩⟩
          refine ⟨_, _, rfl, rfl, _, _, rfl, rfl, _, _, rfl, rfl, (by show (2147483647 : Int) ≠ 0; decide), ?_⟩
          refine ⟨_, rfl, a, _, 1, 1, rfl, rfl, e3, rfl, ?_⟩
          have e4 : upd (upd n.H a (.lst [.ref g, .int s, .int (c + 1)])) a (.lst [.ref g, .int ((s * 69621 + (c + 1) * 7919 + 5).fmod 2147483647), .int (c + 1)]) a = some (.lst [.ref g, .int ((s * 69621 + (c + 1) * 7919 + 5).fmod 2147483647), .int (c + 1)]) := upd_same
          refine ⟨_, rfl, ix_l e4 (x := .int ((s * 69621 + (c + 1) * 7919 + 5).fmod 2147483647)) rfl ⟨_, _, rfl, rfl, ⟨by decide, by decide⟩, ?_⟩⟩
          refine ⟨_, rfl, _, _, rfl, rfl, by omega, ?_⟩
          refine fin (s' := (s * 69621 + (c + 1) * 7919 + 5).fmod 2147483647) (c' := c + 1) (gs' := []) e4 ?_ (fun b h1 h2 => ?_) rfl
          · rw [upd_ne nag, upd_ne nag]; exact e2
          · rw [upd_ne h1, upd_ne h1]
        | cons g0 gr =>
          refine ⟨true, .inl ⟨_, .inl (.inl e2), rfl⟩, ?_⟩
          refine ite_t rfl ?_
          refine ⟨_, rfl, ix_l e2 (x := .int g0) at0 (.inl ⟨_, rfl, ?_⟩)⟩
          refine ⟨_, rfl, _, _, rfl, rfl, by omega, ?_⟩
          refine ⟨_, rfl, ix_l e2 (x := .int g0) at0 ?_⟩
          refine ⟨_, rfl, _, _, rfl, ?_⟩
          refine ⟨_, _, rfl, rfl, ⟨?_, ?_⟩, ?_⟩
          · split <;> omega
          · split <;> omega
          refine ⟨_, rfl, g, _, 0, 0, rfl, rfl, e2, ixN0 (by simp), ?_⟩
          have e3 : upd n.H g (.lst (V.int (g0.fdiv (if many > 2 then many else 2)) :: gr.map V.int)) g = some (.lst (V.int (g0.fdiv (if many > 2 then many else 2)) :: gr.map V.int)) := upd_same
          refine ⟨_, rfl, ix_l e3 (x := .int (g0.fdiv (if many > 2 then many else 2))) at0 ?_⟩
          refine ⟨.int (g0.fdiv (if many > 2 then many else 2)), .int 0, .int _, .int _, rfl, rfl, ?_⟩
          have et : PyData.eqv (.int (g0.fdiv (if many > 2 then many else 2))) (.int 0) = decide (g0.fdiv (if many > 2 then many else 2) = 0) := by
            show (g0.fdiv (if many > 2 then many else 2) == 0) = _
            exact Bool.eq_iff_iff.mpr (by simp)
          rw [et]
          refine ⟨_, rfl, ?_⟩
          by_cases hz : g0.fdiv (if many > 2 then many else 2) = 0
          · refine ite_t (decide_eq_true hz) ?_
            refine ⟨_, rfl, .inl ⟨rfl, _, .inl (.inl e3)⟩, g, _, 0, 0, _, rfl, rfl, e3, by decide, by decide, (ixN_seq (ixN0 (by simp))).1, rfl, ?_⟩
            refine ⟨_, rfl, fin (s' := s) (c' := c) (gs' := gr) ?_ ?_ (fun b h1 h2 => ?_) ?_⟩
            · rw [upd_ne nag.symm, upd_ne nag.symm]; exact ea
            · rw [upd_same]; rfl
            · rw [upd_ne h2, upd_ne h2]
            · unfold drawP; dsimp only; rw [if_pos hz]
          · refine ite_f (decide_eq_false hz) ?_
            refine ⟨_, rfl, fin (s' := s) (c' := c) (gs' := g0.fdiv (if many > 2 then many else 2) :: gr) ?_ e3 (fun b h1 h2 => ?_) ?_⟩
            · rw [upd_ne nag.symm]; exact ea
            · rw [upd_ne h2]
            · unfold drawP; dsimp only; rw [if_neg hz]
      · rw [if_neg hm] at hp; exact hp.elim
  · exact hp.elim
theorem draw_len {vs : List V} {H : Hp} {Q : VK} {E : XK} (h : spM C fDraw vs H Q E) : vs.length = 2 := by
  obtain ⟨n, as, rfl, eδ, ok, hp⟩ := h
  have hl := ok.en.len
  rw [eδ] at hl
  unfold fDraw at hp
  split at hp
  · simpa using hl.symm
  · exact hp.elim
end
/-! ### the law's own def, the end -/
section
variable {P : Program} {w : World} {K : PySem.W.Frag} {mg : Str → Option Value}
/-- the law's def: f is what it answers -/
def LawFn (P : Program) (w : World) (K : PySem.W.Frag) (mg : Str → Option Value) (k : Nat) (f : FM) : Prop :=
  mg "law" = some (.ref (He.ga K "law")) ∧ ∃ fd, (∀ (s : Shared) (us : List Value), us.length = (["script"] : List Str).length → BindsTo s fd ⟨us, []⟩ ((["script"] : List Str).zip us)) ∧ ∀ base, FnG P w K mg base (L2.CX P w) k (He.ga K "law") fd ["script"] (spM (cts K) f)
theorem law_of {d : He.DefD} {k : Nat} {N : List Str} {wr : List Nat} {b : M Fl} (F : ∃ fd, FunD K d.name d.qual d.params d.body d.scope [] [] (He.ga K "law") fd) (g : mg "law" = some (.ref (He.ga K "law"))) (S : FnScope N ["script"] d.scope) (hl : 1 ≤ N.length)
    (hb : ∀ (kV doc pm : Value) (an : Option Addr) (cdv ct : Value) (us : List Value), us.length = (["script"] : List Str).length → bindArgs (PySem.W.fnOf d.name d.qual d.params d.body d.scope .none kV doc pm an cdv ct) ⟨us, []⟩ = pure ((["script"] : List Str).zip us))
    (body : ∀ (base : Heap) (cdv : Value) (A : Around) (outer : List PySem.Env) (s : Shared) (H : Hp) (E : XK), RoomG k (A.deeper (PyProof.Rows.envOfC d.qual d.scope s.heap.objs.size (He.ga K "law") cdv)) →
      ∃ t, PSs (cxOf (L2.CX P w) P w K mg base N d.qual d.scope (He.ga K "law") cdv A outer s H E) d.body t ∧ SimS (cts K) (fun _ => E) wr b t) : LawFn P w K mg (k + 1) (mFn N.length 1 wr b) := by
  obtain ⟨fd, F⟩ := F
  refine ⟨g, fd, fun s us hl => F.bindsA hb s us hl, fun base => fnG_of F S (fun vs H Q E h => spM_len h) (fun cdv A outer s H vs Q E hr h => ?_)⟩
  obtain ⟨t, D, q⟩ := body base cdv A outer s H E hr
  exact ⟨t, D, sim_fn hl q h⟩
/-- an error that came out, at some world -/
def CXw (P : Program) : CXT := fun outer H s E u s' => ∃ w, L2.CX P w outer H s E u s'
theorem FnG.cxw {base : Heap} {k : Nat} {f : Addr} {fd : FuncData} {ps : List Str} {sp : Sp} (F : FnG P w K mg base (L2.CX P w) k f fd ps sp) : FnG P w K mg base (CXw P) k f fd ps sp := F.cx fun _ _ _ _ _ _ z => ⟨w, z⟩
theorem law_end {l : PySem.W.OpenLaw} {n k : Nat} {q : Program} {loose : List Str} {XP : (Str → Option Value) → Heap → Prop} {YP : World → Heap → Prop} {d : DefRec} {fn : List He.DefD} {ck : PySem.W.Frag → List Bool} {f : FM}
    (hn : l.most = some n) (hn2 : n ≤ sizeLine) (hdf : d.params.defaults = []) (hr : Room k callerA) (hx : d.name = ("law" : Str)) (Y : ∀ (w : World) (h : Heap), YP w h → ∃ K : PySem.W.Frag, K.In h ∧ ∀ mg, h.Ns mainGlobals mg → Tx fn ck K mg)
    (F : ∀ (w : World) (K : PySem.W.Frag) (mg : Str → Option Value), Tx fn ck K mg → LawFn l.prog w K mg k f) (ht : ∀ ns : List Int, ns.length ≤ n → ∃ δ, f [(.sh, .lst (ns.map D.int))] = .ok (.sh, .bl true) δ) :
    PySem.W.WalkO q loose XP YP l.row.toRowW d [] (fun f vs => PySem.call f vs) := by
  refine walkG (CX := CXw l.prog) (x := "script") hn hn2 hdf hr (fun w mg fa h y G hmg => ?_) (fun H s e s' ⟨w, z⟩ => cx_end H s e s' z)
  obtain ⟨K, KX, T⟩ := Y w h y
  obtain ⟨g, fd, hb, hF⟩ := F w K mg (T mg G)
  rw [hx, g] at hmg
  cases hmg
  exact ⟨K, fd, spM (cts K) f, KX, fun s u => hb s [u] rfl, fun H a ns hl ho hS => law_sp ht rfl H a ns hl ho hS, fun base _ _ => FnG.cxw (hF base)⟩
end
end VS

end

section
set_option Elab.async false
set_option linter.all false
set_option maxRecDepth 100000
set_option maxHeartbeats 2000000
/-! VS17: repr of data. -/
namespace VS
open PySem L2
open PySem.Spec PyProof.Rows
/-- the text of data that can be shown -/
def fRepr (d : D) : Option D := match toPy d with
  | some e => if e.showable = true ∧ e.shown.length ≤ sizeLine ∧ e.depth + 1 ≤ 64 then some (.str e.shown) else none
  | none => none
mutual
theorem toPy_noDict : ∀ {d : D} {e : PyData}, toPy d = some e → e.hasDict = false
  | .non, _, h => by simp [toPy] at h; subst h; rfl
  | .bl _, _, h => by simp [toPy] at h; subst h; rfl
  | .int _, _, h => by simp [toPy] at h; subst h; rfl
  | .str _, _, h => by simp [toPy] at h; subst h; rfl
  | .lst _, _, h => by simp [toPy] at h; obtain ⟨es, h1, rfl⟩ := h; exact toPyL_noDict h1
  | .tup _, _, h => by simp [toPy] at h; obtain ⟨es, h1, rfl⟩ := h; exact toPyL_noDict h1
  | .dic _, _, h => by simp [toPy] at h
  | .ins _ _, _, h => by simp [toPy] at h
  | .err _ _ _ _, _, h => by simp [toPy] at h
theorem toPyL_noDict : ∀ {ds : List D} {es : List PyData}, toPyL ds = some es → PyData.hasDictAll es = false
  | [], _, h => by simp [toPyL] at h; subst h; rfl
  | d :: r, _, h => by
    unfold toPyL at h
    cases h1 : toPy d with
    | none => rw [h1] at h; cases h
    | some e =>
      cases h2 : toPyL r with
      | none => rw [h1, h2] at h; cases h
      | some es =>
        rw [h1, h2] at h
        cases h
        simp [PyData.hasDictAll, toPy_noDict h1, toPyL_noDict h2]
end
def rRepr (K : PySem.W.Frag) : List V → Hp → VK → Prop := fun xs H Q => ∃ x e, xs = [x] ∧ Dp K H x e ∧ e.hasDict = false ∧ e.showable = true ∧ e.shown.length ≤ sizeLine ∧ e.depth + 1 ≤ 64 ∧ Q (.str e.shown) H
section
variable {C : Ct}
theorem semRepr : Sem1 C fRepr (rRepr C.K) := by
  intro H v x d hx h
  unfold fRepr at h
  cases h1 : toPy x with
  | none => rw [h1] at h; cases h
  | some e =>
    rw [h1] at h
    dsimp only at h
    split at h
    · rename_i hz
      cases h
      exact ⟨_, .str _, fun Q q => ⟨v, e, rfl, rz_dp hx h1, toPy_noDict h1, hz.1, hz.2.1, hz.2.2, q⟩⟩
    · cases h
end
theorem call_reprD {X : Cx} {k : Nat} (hr : RoomG k X.A) : CallR X (.builtin "repr") (rRepr X.K) := by
  intro pins s σ H xs us Q I r h
  obtain ⟨x, e, rfl, hd, hn, hs, hz, hdp, q⟩ := h
  obtain ⟨v, rfl, rv⟩ := vals1 r
  obtain ⟨as, rd⟩ := Dp.reads I e x v hd rv
  have hu := hu64 hr
  cases hd with
  | non =>
    cases rv
    exact PySem.P.repr_of_none ⟨.str _, H, I.tok _, ⟨_, rfl⟩, q⟩
  | bl b =>
    cases rv
    exact PySem.P.repr_of_bool ⟨.str _, H, I.tok _, ⟨_, rfl⟩, q⟩
  | int i =>
    obtain ⟨t, rfl⟩ := rv
    exact PySem.P.repr_of_int (of_decide_eq_true hs) ⟨.str _, H, I.tok _, ⟨_, rfl⟩, q⟩
  | str t =>
    obtain ⟨tk, rfl⟩ := rv
    exact PySem.P.repr_of_str ⟨.str _, H, I.tok _, ⟨_, rfl⟩, q⟩ hz
  | lst _ _ =>
    cases rv
    exact repr_of_reads' rd hs (PyData.noDict_hsm hn) hr.gs (by omega) (fun _ _ z => z) (fun h' u tk hk => ⟨.str _, H, I.kept hk, ⟨_, rfl⟩, q⟩) hz
  | tup _ _ =>
    cases rv
    exact repr_of_reads' rd hs (PyData.noDict_hsm hn) hr.gs (by omega) (fun _ _ z => z) (fun h' u tk hk => ⟨.str _, H, I.kept hk, ⟨_, rfl⟩, q⟩) hz
end VS

end

section
set_option Elab.async false
set_option linter.all false
set_option maxRecDepth 100000
set_option maxHeartbeats 2000000
/-! VS18: + of numbers, texts, tuples; name op= number; a def that calls itself. -/
namespace VS
open PySem L2
open PySem.Spec PyProof.Rows
variable {C : Ct} {E : L2.St → XK} {p q : Bool} {m : M (Ty × D)} {ta tb te : TE}
/-- a + b -/
def fPl : Ty × D → Ty × D → Option (Ty × D)
  | (_, .int i), (_, .int j) => some (.sh, .int (i + j))
  | (_, .str x), (_, .str y) => if x.length + y.length ≤ sizeLine then some (.sh, .str (x ++ y)) else none
  | (.sh, .tup xs), (.sh, .tup ys) => if xs.length + ys.length ≤ sizeLine then some (.sh, .tup (xs ++ ys)) else none
  | _, _ => none
def rPl (K : PySem.W.Frag) : R2 := fun x y H Q => (rI0 fun i j => .int (i + j)) x y H Q ∨ ((∃ i j, x = .str i ∧ y = .str j ∧ i.length + j.length ≤ sizeLine ∧ Q (.str (i ++ j)) H) ∨ rCatA K x y H Q)
theorem op_pl {X : Cx} : OpR X (binaryOp .Add) (rPl X.K) := op_add.or (op_add_str.or op_catA)
def mPl (m : M ((Ty × D) × (Ty × D))) : M (Ty × D) := mBind m fun a => mOf (fPl a.1 a.2)
theorem simPl {m : M ((Ty × D) × (Ty × D))} (h : Sim2 C E p m (t2 ta tb)) : SimV C E p (mPl m) (tOp (rPl C.K) ta tb) := fun σ n Q k hp => by
  refine h σ n (fun x y H => rPl C.K x y H Q) k ((P_bind hp).imp (fun a δ1 _ h1 v w n1 Sv S0 S1 e1 k1 x1 r0 r1 _ _ => ?_) fun _ _ z => z)
  obtain ⟨⟨t0, d0⟩, t1, d1⟩ := a
  obtain ⟨b, eb, h4⟩ := P_of h1
  unfold fPl at eb
  dsimp only at eb r0 r1
  split at eb
  · rename_i i u j he1 he2
    cases he1; cases he2; cases eb
    cases r0.any; cases r1.any
    exact .inl ⟨_, _, rfl, rfl, h4 (.int _) n1 [] e1 k1 x1.drop (.sh (.int _))⟩
  · rename_i x u y he1 he2
    cases he1; cases he2
    split at eb
    · rename_i hz
      cases eb
      cases r0.any; cases r1.any
      exact .inr (.inl ⟨_, _, rfl, rfl, hz, h4 (.str _) n1 [] e1 k1 x1.drop (.sh (.str _))⟩)
    · cases eb
  · rename_i xs ys he1 he2
    cases he1; cases he2
    split at eb
    · rename_i hz
      cases eb
      obtain ⟨_, z0⟩ := ro_sh r0
      obtain ⟨_, z1⟩ := ro_sh r1
      obtain ⟨a0, us, rfl, q0, l0⟩ := rz_tup z0
      obtain ⟨a1, ws, rfl, q1, l1⟩ := rz_tup z1
      refine .inr (.inr ⟨a0, a1, us, ws, rfl, rfl, q0, q1, by rw [l0.len, l1.len]; exact hz, fun en => ?_, fun _ en => ?_, fun _ _ x hx => ?_⟩)
      · subst en; cases l0
        exact h4 (.ref a1) n1 [] e1 k1 x1.drop (.sh z1)
      · subst en; cases l1
        rw [List.append_nil] at h4
        exact h4 (.ref a0) n1 [] e1 k1 x1.drop (.sh z0)
      · obtain ⟨x4, k4⟩ := x1.drop.newSh (o := .tup (us ++ ws)) k1 hx
        exact h4 (.ref x) (n1.nw x (.tup (us ++ ws))) [] e1 k4 x4 (.sh (.tup upd_same ((l0.app l1).keep (kz_nw hx))))
    · cases eb
  · cases eb
/-! ### name op= number -/
def mAug (i : Nat) (f : Int → Int → Int) (m : M (Ty × D)) : M Fl := mBind (mVar i) fun a => mBind m fun b => match a.2, b.2 with
  | .int x, .int y => mTo (gSt i (.sh, .int (f x y)))
  | _, _ => mBad
theorem simAug {i : Nat} {f : Int → Int → Int} (h : SimK C E p m te) : SimS C E [i] (mAug i f m) (tAug i te (ipI f)) := fun σ n Dn k hp => by
  obtain ⟨v, ev, g⟩ := simVar (E := E) i σ n (fun v H => te σ H fun y H1 => ipI f v y H1 fun z H2 => Dn.nx (σ.set i (some z)) H2) k ((P_bind hp).imp (fun a δ1 _ h1 v n1 Sv e1 k1 x1 r1 => by
    subst e1
    refine h σ n1 _ k1 ((P_bind h1).imp (fun b δ2 _ h2 w n2 Sw S1 e2 k2 x2 r2 _ => ?_) fun _ _ z => ?_)
    · subst e2
      obtain ⟨ta', da⟩ := a
      obtain ⟨tb', db⟩ := b
      dsimp only at h2 r1 r2
      obtain ⟨x, rfl⟩ : ∃ x, da = .int x := by cases da <;> first | exact ⟨_, rfl⟩ | exact h2.elim
      obtain ⟨y, rfl⟩ : ∃ y, db = .int y := by cases db <;> first | exact ⟨_, rfl⟩ | exact h2.elim
      cases r2.any
      cases r1.any
      refine ⟨x, y, rfl, rfl, ?_⟩
      unfold mTo at h2
      dsimp only at h2
      cases e : gSt i (.sh, .int (f x y)) n2.δ with
      | none => rw [e] at h2; exact h2.elim
      | some δ3 =>
        rw [e] at h2
        refine simName i σ n2 (.int (f x y)) (.sh, .int (f x y)) [] (fun σ' H' => Dn.nx σ' H') δ3 k2 (x2.drop.si) (.sh (.int _)) e fun σ' n' e3 k3 st w => ?_
        have x12 := (x1.drop.seq x2.drop)
        exact h2 σ' n' e3 k3 ⟨by rw [List.append_nil]; exact x12.st.trans st, by rw [List.append_nil]; exact k3.si, fun z => nomatch z⟩ w
    · exact z.now.tr x1) fun _ _ z => z.now)
  exact ⟨v, ev, g⟩
/-! ### a def that calls itself: f 0 is not covered, f (n + 1) calls f n -/
def fBad : FM := fun _ => .bad
def fRec (F : FM → FM) : Nat → FM
  | 0 => fBad
  | n + 1 => F (fRec F n)
section
variable {P : Program} {w : World} {K : PySem.W.Frag} {mg : Str → Option Value} {base : Heap}
theorem cal_bad {d : He.DefD} {x : Str} {k : Nat} {ps : List Str} {C : Ct} (F : ∃ fd, FunD K d.name d.qual d.params d.body d.scope [] [] (He.ga K x) fd) (g : mg x = some (.ref (He.ga K x)))
    (hb : ∀ (kV doc pm : Value) (an : Option Addr) (cdv ct : Value) (us : List Value), us.length = ps.length → bindArgs (PySem.W.fnOf d.name d.qual d.params d.body d.scope .none kV doc pm an cdv ct) ⟨us, []⟩ = pure (ps.zip us)) : Cal P w K mg base k x ps (spM C fBad) [] := by
  obtain ⟨fd, F⟩ := F
  have no : ∀ {vs : List V} {H : Hp} {Q : VK} {E : XK}, ¬ spM C fBad vs H Q E := fun ⟨n, as, _, _, _, hp⟩ => hp.elim
  exact ⟨_, fd, [], ⟨fun vs H Q E h => (no h).elim, fun A hr outer s H args us vs Q E e0 bd r h => (no h).elim⟩, g, F.kp, F.bindsN hb, .nil⟩
/-- by induction over the depth -/
theorem cal_rec {x : Str} {b : Nat} {ps : List Str} {C : Ct} {F : FM → FM} (h0 : Cal P w K mg base b x ps (spM C fBad) []) (hs : ∀ (n : Nat) (g : FM), Cal P w K mg base (b + n) x ps (spM C g) [] → Cal P w K mg base (b + n + 1) x ps (spM C (F g)) []) :
    ∀ n, Cal P w K mg base (b + n) x ps (spM C (fRec F n)) []
  | 0 => h0
  | n + 1 => hs n _ (cal_rec h0 hs n)
end
end VS

end

section
set_option Elab.async false
set_option linter.all false
set_option maxRecDepth 100000
set_option maxHeartbeats 2000000
/-! VS19: x.split(), x.join(row), row[::-1], one sign in a text. -/
namespace VS
open PySem L2
open PySem.Spec PyProof.Rows
variable {C : Ct} {E : L2.St → XK} {p q : Bool} {m a b : M (Ty × D)} {ta tb te : TE}
/-! ### x.split() -/
def fWords : D → Option (Ty × D)
  | .str z => if z.length + 2 ≤ sizeLine then some (.lst .sh, .lst ((Txt.words z).map D.str)) else none
  | _ => none
def mWords (m : M (Ty × D)) : M (Ty × D) := mBind m fun a => mOf (fWords a.2)
def rWords : V → List V → Hp → VK → Prop := fun x xs H Q => ∃ a, x = .str a ∧ xs = [] ∧ a.length + 2 ≤ sizeLine ∧ rNewStrs (Txt.words a) H Q
theorem rzl_strs {Z : Addr → Prop} {H : Hp} : ∀ ys : List Str, RzL C Z H (ys.map V.str) (ys.map D.str)
  | [] => .nil
  | y :: ys => .cons (.str y) (rzl_strs ys)
theorem simWords (h : SimK C E p m te) : SimV C E p (mWords m) (tM0 rWords te) := fun σ n Q k hp => by
  refine h σ n _ k ((P_bind hp).imp (fun a δ1 _ h1 v n1 Sv S0 e1 k1 x1 r1 _ => ?_) fun _ _ z => z)
  obtain ⟨b, eb, h4⟩ := P_of h1
  unfold fWords at eb
  split at eb
  · rename_i z ez
    split at eb
    · rename_i hz
      cases eb
      rw [ez] at r1
      cases r1.any
      refine ⟨⟨_, rfl⟩, z, rfl, rfl, hz, fun x hx => ?_⟩
      obtain ⟨x4, k4⟩ := x1.drop.newOwn (o := .lst ((Txt.words z).map V.str)) k1 hx trivial
      exact h4 (.ref x) (n1.nw x (.lst ((Txt.words z).map V.str))) [x] e1 k4 x4 (.lst upd_same (rzl_rol ((rzl_strs _).keep (kz_nw hx))))
    · cases eb
  · cases eb
theorem pe_wordsT {X : Cx} {o : Expr} {to : TE} {apos pos : Pos} (ho : PE X o to) (hbase : attributeBase o "split" X.env (eval o X.env) = eval o X.env := by rfl) (hline : (apos.endLine == pos.line) = true := by rfl) :
    PE X (.Call (.Attribute o "split" apos) [] [] pos) (tM0 rWords to) := pe_m0 F.slot_str_split F.type_str_split mt_words ho hbase hline
/-! ### x.join(row) -/
def dStrs : List D → Option (List Str)
  | [] => some []
  | .str x :: r => (dStrs r).map (x :: ·)
  | _ :: _ => none
theorem dStrs_ok {Z : Addr → Prop} {H : Hp} : ∀ {xs : List V} {ds : List D} {ys : List Str}, RzL C Z H xs ds → dStrs ds = some ys → xs = ys.map V.str
  | _, _, _, .nil, h => by simp [dStrs] at h; subst h; rfl
  | _, _, _, .cons (d := d) r l, h => by
    cases d <;> simp [dStrs] at h
    obtain ⟨ys, h1, rfl⟩ := h
    cases r
    rw [dStrs_ok l h1]
    rfl
def fJoin (a : Str) (row : Ty × D) : Option D := match itemsSh row with
  | some ds => match dStrs ds with
    | some ys => if (ys.map (·.length)).sum + ys.length * a.length ≤ 16777216 then some (.str (Txt.join a ys)) else none
    | none => none
  | none => none
def mJoin (a b : M (Ty × D)) : M (Ty × D) := mBind a fun x => match x.2 with
  | .str z => mBind b fun y => mOf ((fJoin z y).map fun d => (.sh, d))
  | _ => mBad
def rJoin (K : PySem.W.Frag) : V → List V → Hp → VK → Prop := fun x xs H Q => ∃ a p, ∃ ys : List Str, x = .str a ∧ xs = [.ref p] ∧ (SqL K H p (ys.map V.str) ∨ SqT K H p (ys.map V.str)) ∧
    (ys.map (·.length)).sum + ys.length * a.length ≤ 16777216 ∧ Q (.str (Txt.join a ys)) H
theorem simJoin (ha : SimK C E p a ta) (hb : SimK C E q b tb) : SimV C E (p && q) (mJoin a b) (tM1 (rJoin C.K) ta tb) := fun σ n Q k hp => by
  refine ha σ n _ k ((P_bind hp).imp (fun x δ1 _ h1 v n1 Sv S0 e1 k1 x1 r1 _ => ?_) fun _ _ z => z)
  subst e1
  obtain ⟨t0, d0⟩ := x
  dsimp only at h1 r1
  obtain ⟨z, rfl⟩ : ∃ z, d0 = .str z := by cases d0 <;> first | exact ⟨_, rfl⟩ | exact h1.elim
  · cases r1.any
    refine ⟨⟨z, rfl⟩, hb σ n1 _ k1 ((P_bind h1).imp (fun y δ2 _ h2 w n2 Sw S1 e2 k2 x2 r2 _ => ?_) fun _ _ y => y.tr x1)⟩
    subst e2
    obtain ⟨b', eb, h4⟩ := P_of h2
    unfold fJoin at eb
    cases ei : itemsSh y with
    | none => rw [ei] at eb; cases eb
    | some ds =>
      rw [ei] at eb
      dsimp only at eb
      cases es : dStrs ds with
      | none => rw [es] at eb; cases eb
      | some ys =>
        rw [es] at eb
        dsimp only at eb
        split at eb
        · rename_i hz
          cases eb
          obtain ⟨c, xs, rfl, l, hc⟩ := items_ok r2 ei
          have ex := dStrs_ok l es
          subst ex
          exact ⟨z, c, ys, rfl, rfl, hc.imp (·.1) (·.1), hz, h4 (.str _) n2 [] rfl k2 (x1.drop.seq x2.drop) (.sh (.str _))⟩
        · cases eb
theorem pe_joinT {X : Cx} {o e : Expr} {to te : TE} {apos pos : Pos} (ho : PE X o to) (he : PE X e te) (hs : starEach [e] X.env = [(false, eval e X.env)] := by rfl)
    (hbase : attributeBase o "join" X.env (eval o X.env) = eval o X.env := by rfl) (hline : (apos.endLine == pos.line) = true := by rfl) : PE X (.Call (.Attribute o "join" apos) [e] [] pos) (tM1 (rJoin X.K) to te) :=
  pe_m1 F.slot_str_join F.type_str_join mt_join ho he hs hbase hline
/-! ### row[::-1] -/
def fRev (a : Ty × D) : Option (Ty × D) := match itemsSh a with
  | some ds => match a.2 with
    | .lst _ => some (.lst .sh, .lst ds.reverse)
    | _ => none
  | none => none
def mRev (m : M (Ty × D)) : M (Ty × D) := mBind m fun a => mOf (fRev a)
theorem simRev (h : SimK C E p m te) : SimV C E p (mRev m) (tRevL C.K te) := fun σ n Q k hp => by
  refine h σ n _ k ((P_bind hp).imp (fun a δ1 _ h1 v n1 Sv S0 e1 k1 x1 r1 _ => ?_) fun _ _ z => z)
  obtain ⟨c, ec, h4⟩ := P_of h1
  unfold fRev at ec
  cases ei : itemsSh a with
  | none => rw [ei] at ec; cases ec
  | some ds =>
    rw [ei] at ec
    dsimp only at ec
    obtain ⟨b, xs, rfl, l, hc⟩ := items_ok r1 ei
    rcases hc with ⟨sq, ea⟩ | ⟨sq, ea⟩
    · rw [ea] at ec
      cases ec
      refine ⟨b, xs, rfl, sq, fun x hx => ?_⟩
      obtain ⟨x4, k4⟩ := x1.drop.newOwn (o := .lst xs.reverse) k1 hx trivial
      exact h4 (.ref x) (n1.nw x (.lst xs.reverse)) [x] e1 k4 x4 (.lst upd_same (rzl_rol (l.rev.keep (kz_nw hx))))
    · rw [ea] at ec; cases ec
/-! ### in: an item of a row, a sign of a text -/
def fIn2 (neg : Bool) (x y : D) : Option D := match x, y with
  | .str s, .str z => if s.cps.size = 1 then some (.bl (if neg then !decide (s.cps[0]! ∈ z.cps.toList) else decide (s.cps[0]! ∈ z.cps.toList))) else none
  | _, _ => fIn neg x y
def rIn2 (K : PySem.W.Frag) (neg : Bool) : R2 := fun x y H Q => rIn K neg x y H Q ∨ (∃ (c : Nat) (z : Str), x = .str ⟨#[c]⟩ ∧ y = .str z ∧ Q (.bl (if neg then !decide (c ∈ z.cps.toList) else decide (c ∈ z.cps.toList))) H)
theorem op_in2 {X : Cx} : OpR X (compareOp .In) (rIn2 X.K false) := op_in_seq.or op_in_sign
theorem op_notIn2 {X : Cx} : OpR X (compareOp .NotIn) (rIn2 X.K true) := op_notIn_seq.or op_notIn_sign
theorem semIn2 (neg : Bool) : Sem2 C (fIn2 neg) (rIn2 C.K neg) := by
  intro H v w x y d hx hy h
  unfold fIn2 at h
  split at h
  · rename_i s z
    split at h
    · rename_i hs
      cases h
      cases hx; cases hy
      obtain ⟨cps⟩ := s
      obtain ⟨l⟩ := cps
      match l, hs with
      | [c], _ => exact ⟨_, .bl _, fun Q q => .inr ⟨c, z, rfl, rfl, q⟩⟩
    · cases h
  · obtain ⟨u, hu, hq⟩ := semIn neg H v w x y d hx hy h
    exact ⟨u, hu, fun Q q => .inl (hq Q q)⟩
end VS

end

section
set_option Elab.async false
set_option linter.all false
set_option maxRecDepth 100000
set_option maxHeartbeats 2000000
/-! VS20: an owned name ahead of an operand that changes other names. -/
namespace VS
open PySem L2
open PySem.Spec PyProof.Rows
variable {C : Ct} {E : L2.St → XK} {p q : Bool} {a b : M (Ty × D)} {ta tb te : TE}
/-- name i, then b; i's contents are what they are behind b -/
def m2n (i : Nat) (b : M (Ty × D)) : M ((Ty × D) × (Ty × D)) := mBind (mGet i) fun _ => mBind b fun y => mBind (mGet i) fun x => mPure (x, y)
theorem k2n (i : Nat) (hb : SimK C E q b tb) : Sim2 C E q (m2n i b) (t2 (tVar i) tb) := fun σ n R k hp => by
  have h := P_bind hp
  unfold mGet at h
  cases e : n.δ[i]? with
  | none => rw [e] at h; exact h.elim
  | some o =>
    rw [e] at h
    cases o with
    | none => exact h.elim
    | some x =>
      obtain ⟨v, _, _, ev, _⟩ := k.en.take e
      refine ⟨v, ev, hb σ n _ k ((P_bind h).imp (fun y δ2 _ h2 w n2 Sw S1 e2 k2 x2 r2 s2 => ?_) fun _ _ z => z)⟩
      subst e2
      have h3 := P_bind h2
      unfold mGet at h3
      cases e' : n2.δ[i]? with
      | none => rw [e'] at h3; exact h3.elim
      | some o =>
        rw [e'] at h3
        cases o with
        | none => exact h3.elim
        | some x' =>
          obtain ⟨v', S3, S4, ev', r', pm, _⟩ := k2.en.take e'
          obtain rfl : v' = v := by rw [ev] at ev'; cases ev'; rfl
          exact h3 v' w n2 Sw S3 S1 rfl k2 x2 r' r2 (fun z m => List.mem_append_left _ (pm.mem_iff.mpr (List.mem_append_left _ m))) s2
end VS

end

section
set_option Elab.async false
set_option linter.all false
set_option maxRecDepth 100000
set_option maxHeartbeats 2000000
/-! VS21: == of texts, whatever their signs. -/
namespace VS
open PySem L2
def fEq2 (x y : D) : Option D := match x, y with
  | .str a, .str b => some (.bl (decide (a = b)))
  | x, y => fEq x y
def fNe2 (x y : D) : Option D := match x, y with
  | .str a, .str b => some (.bl (!decide (a = b)))
  | x, y => fNe x y
def rEq2 (K : PySem.W.Frag) : R2 := fun x y H Q => rEq x y H Q ∨ rEqD K x y H Q
def rNe2 (K : PySem.W.Frag) : R2 := fun x y H Q => rNe x y H Q ∨ rNeD K x y H Q
theorem op_eq2 {X : Cx} (hu : X.A.units + 64 < cLine) : OpR X (compareOp .Eq) (rEq2 X.K) := op_eq.or (op_eqD hu)
theorem op_ne2 {X : Cx} (hu : X.A.units + 64 < cLine) : OpR X (compareOp .NotEq) (rNe2 X.K) := op_ne.or (op_neD hu)
theorem str_dec (a b : Str) : decide (V.str a = V.str b) = decide (a = b) := decide_eq_decide.mpr (by simp)
theorem semEq2 {C : Ct} : Sem2 C fEq2 (rEq2 C.K) := by
  intro H v w x y d hx hy h
  unfold fEq2 at h
  split at h
  · cases h
    cases hx
    cases hy
    exact ⟨_, .bl _, fun Q q => .inl ⟨rfl, by rw [str_dec]; exact q⟩⟩
  · obtain ⟨u, s, k⟩ := semEq H v w x y d hx hy h
    exact ⟨u, s, fun Q q => .inr (k Q q)⟩
theorem semNe2 {C : Ct} : Sem2 C fNe2 (rNe2 C.K) := by
  intro H v w x y d hx hy h
  unfold fNe2 at h
  split at h
  · cases h
    cases hx
    cases hy
    exact ⟨_, .bl _, fun Q q => .inl ⟨rfl, by rw [str_dec]; exact q⟩⟩
  · obtain ⟨u, s, k⟩ := semNe H v w x y d hx hy h
    exact ⟨u, s, fun Q q => .inr (k Q q)⟩
end VS

end

section
set_option Elab.async false
set_option linter.all false
set_option maxRecDepth 100000
set_option maxHeartbeats 2000000
/-! VS22: what is walked: a frozen row or a text. -/
namespace VS
open PySem L2
def mWalk (m : M (Ty × D)) : M (List D) := mBind m fun a => match a with
  | (.sh, .lst ds) => mPure ds
  | (.sh, .tup ds) => mPure ds
  | (.sh, .str x) => mPure (signsD x)
  | _ => mBad
def iWalk (K : PySem.W.Frag) (t : TE) : TI := fun σ H R => iSeq K t σ H R ∨ iStr t σ H R
theorem pi_walk {X : Cx} {tg l : Expr} {tl : TE} (hl : PE X l tl) : PI X tg l (iWalk X.K tl) := PI.or (pi_seq hl) (pi_str hl)
section
variable {C : Ct} {E : St → XK} {p q : Bool} {m : M (Ty × D)}
theorem simWalk {t : TE} (h : SimV C E p m t) : SimI C E (mWalk m) (iWalk C.K t) := fun σ n R k hp => by
  have h0 := P_bind hp
  cases e : m n.δ with
  | bad => rw [e] at h0; exact h0.elim
  | ex c fs =>
    rw [e] at h0
    exact .inl (simItems h σ n R k (by unfold mItems mBind; rw [e]; exact h0))
  | ok a δ1 =>
    rw [e] at h0
    obtain ⟨ty, d⟩ := a
    have h1 : ((match (ty, d) with
      | (.sh, .lst ds) => mPure ds
      | (.sh, .tup ds) => mPure ds
      | (.sh, .str x) => mPure (signsD x)
      | _ => mBad : M (List D)) δ1).P _ _ := h0
    cases ty <;> try (exact h1.elim)
    cases d <;> try (exact h1.elim)
    · refine .inr (simSigns (h.k) σ n R k ?_)
      unfold mSigns mBind
      rw [e]
      exact h1
    · exact .inl (simItems h σ n R k (by unfold mItems mBind; rw [e]; exact h1))
    · exact .inl (simItems h σ n R k (by unfold mItems mBind; rw [e]; exact h1))
end
end VS

end

section
set_option Elab.async false
set_option linter.all false
set_option maxRecDepth 100000
set_option maxHeartbeats 2000000
/-! VM1: reckoning with the plain functions. -/
namespace VS
open PySem L2

/-! ### bits of naturals -/
theorem not_nat (a : Nat) : Builtin.bitNot (a : Int) = -(a : Int) - 1 := by unfold Builtin.bitNot; omega
theorem not_not' (x : Int) : Builtin.bitNot (Builtin.bitNot x) = x := by unfold Builtin.bitNot; omega
theorem and_nat (a b : Nat) : Builtin.bitAnd a b = ((a &&& b : Nat) : Int) := rfl
theorem or_nat (a b : Nat) : Builtin.bitOr a b = ((a ||| b : Nat) : Int) := by
  unfold Builtin.bitOr Builtin.bitAnd
  have h1 : decide ((0 : Int) ≤ Builtin.bitNot a) = false := by rw [not_nat]; simp; omega
  have h2 : decide ((0 : Int) ≤ Builtin.bitNot b) = false := by rw [not_nat]; simp; omega
  rw [h1, h2]
  dsimp only
  rw [not_not', not_not', not_not']
  rfl
theorem or_and_xor (a b : Nat) : (a ||| b) = (a ^^^ b) + (a &&& b) := by
  induction a using Nat.strongRecOn generalizing b with
  | ind a ih =>
    by_cases h0 : a = 0
    · subst h0; simp
    · have h := ih (a / 2) (by omega) (b / 2)
      have e1 : (a ||| b) / 2 = a / 2 ||| b / 2 := Nat.or_div_two
      have e2 : (a ^^^ b) / 2 = a / 2 ^^^ b / 2 := Nat.xor_div_two
      have e3 : (a &&& b) / 2 = a / 2 &&& b / 2 := Nat.and_div_two
      have f1 : (a ||| b) % 2 = (a % 2 ||| b % 2) := Nat.or_mod_two_pow (n := 1)
      have f2 : (a ^^^ b) % 2 = (a % 2 ^^^ b % 2) := Nat.xor_mod_two_pow (n := 1)
      have f3 : (a &&& b) % 2 = (a % 2 &&& b % 2) := Nat.and_mod_two_pow (n := 1)
      have g : (a % 2 ||| b % 2) = (a % 2 ^^^ b % 2) + (a % 2 &&& b % 2) := by
        rcases Nat.mod_two_eq_zero_or_one a with q | q <;> rcases Nat.mod_two_eq_zero_or_one b with r | r <;> rw [q, r] <;> decide
      omega
theorem xor_nat (a b : Nat) : Builtin.bitXor a b = ((a ^^^ b : Nat) : Int) := by
  unfold Builtin.bitXor
  rw [or_nat, and_nat, or_and_xor a b]
  omega
/-! ### loops -/
inductive Out where
  | rt (t : Ty) (d : D)
  | ex (c : String) (fs : List (Str × D))
def OutOk (o : Option Out) (r : Res Fl) (P : Env → Prop) : Prop := match o with
  | none => ∃ δ, r = .ok .nx δ ∧ P δ
  | some (.rt t d) => ∃ δ, r = .ok (.rt t d) δ
  | some (.ex c fs) => r = .ex c fs
def findO (g : Nat → D → Option Out) : Nat → List D → Option Out
  | _, [] => none
  | k, d :: r => match g k d with
    | some o => some o
    | none => findO g (k + 1) r
theorem loop_out {f : Ty × D → Env → Option Env} {body : M Fl} (g : Nat → D → Option Out) (I : Nat → Env → Prop) : ∀ {ds : List D} {k : Nat} {δ : Env}, I k δ →
    (∀ i d δ, ds[i]? = some d → I (k + i) δ → ∃ δ1, f (.sh, d) δ = some δ1 ∧ OutOk (g (k + i) d) (body δ1) (I (k + i + 1))) → OutOk (findO g k ds) (mLoop f body ds δ) (I (k + ds.length))
  | [], k, δ, h, _ => ⟨δ, rfl, h⟩
  | d :: r, k, δ, h, hs => by
    obtain ⟨δ1, e1, h1⟩ := hs 0 d δ rfl h
    have ih : ∀ δ2, I (k + 1) δ2 → OutOk (findO g (k + 1) r) (mLoop f body r δ2) (I (k + 1 + r.length)) := fun δ2 h2 => loop_out g I h2 fun i d' δ' e' h' => by
      have := hs (i + 1) d' δ' (by simpa using e') (by rwa [show k + (i + 1) = k + 1 + i by omega])
      rwa [show k + (i + 1) = k + 1 + i by omega] at this
    unfold findO mLoop
    unfold mBind mTo
    rw [e1]
    dsimp only [Nat.add_zero] at h1 ⊢
    cases eg : g k d with
    | none =>
      rw [Nat.add_zero] at h1
      rw [eg] at h1
      obtain ⟨δ2, e2, h2⟩ := h1
      rw [e2]
      have := ih δ2 h2
      rw [List.length_cons, show k + (r.length + 1) = k + 1 + r.length by omega]
      exact this
    | some o =>
      rw [Nat.add_zero] at h1
      rw [eg] at h1
      cases o with
      | rt t d' =>
        obtain ⟨δ2, e2⟩ := h1
        rw [e2]
        exact ⟨δ2, rfl⟩
      | ex c fs =>
        have e2 : body δ1 = .ex c fs := h1
        rw [e2]
        rfl
theorem findO_none {g : Nat → D → Option Out} : ∀ {ds : List D} {k : Nat}, findO g k ds = none ↔ ∀ i d, ds[i]? = some d → g (k + i) d = none
  | [], k => by simp [findO]
  | d :: r, k => by
    unfold findO
    cases eg : g k d with
    | none =>
      simp only
      rw [findO_none]
      constructor
      · intro h i d' e
        cases i with
        | zero => simp at e; subst e; exact eg
        | succ i => rw [show k + (i + 1) = k + 1 + i by omega]; exact h i d' (by simpa using e)
      · intro h i d' e
        have := h (i + 1) d' (by simpa using e)
        rwa [show k + (i + 1) = k + 1 + i by omega] at this
    | some o =>
      simp only [reduceCtorEq, false_iff]
      intro h
      have := h 0 d rfl
      rw [Nat.add_zero, eg] at this
      cases this
theorem findO_some {g : Nat → D → Option Out} {o : Out} : ∀ {ds : List D} {k : Nat}, findO g k ds = some o → ∃ i d, ds[i]? = some d ∧ g (k + i) d = some o
  | [], k, h => by simp [findO] at h
  | d :: r, k, h => by
    unfold findO at h
    cases eg : g k d with
    | none =>
      rw [eg] at h
      obtain ⟨i, d', e, q⟩ := findO_some h
      exact ⟨i + 1, d', by simpa using e, by rwa [show k + (i + 1) = k + 1 + i by omega]⟩
    | some o' =>
      rw [eg] at h
      cases h
      exact ⟨0, d, rfl, by simpa using eg⟩
/-- a loop whose body goes on -/
theorem loop_go {f : Ty × D → Env → Option Env} {body : M Fl} (I : Nat → Env → Prop) {ds : List D} {δ : Env} (h : I 0 δ) (hs : ∀ i d δ, ds[i]? = some d → I i δ → ∃ δ1 δ2, f (.sh, d) δ = some δ1 ∧ body δ1 = .ok .nx δ2 ∧ I (i + 1) δ2) :
    ∃ δ', mLoop f body ds δ = .ok .nx δ' ∧ I ds.length δ' := by
  have := loop_out (g := fun _ _ => none) (f := f) (body := body) I (ds := ds) (k := 0) h fun i d δ e hi => by
    rw [Nat.zero_add] at hi ⊢
    obtain ⟨δ1, δ2, e1, e2, h2⟩ := hs i d δ e hi
    exact ⟨δ1, e1, δ2, e2, h2⟩
  rw [findO_none.mpr fun _ _ _ => rfl, Nat.zero_add] at this
  exact this
/-! ### comprehensions -/
theorem lc_eval {t : Ty} {vs : List Nat} {f : Ty × D → Env → Option Env} {c : M Bool} {e : M (Ty × D)} {δ : Env} (g : D → Option D) : ∀ {ds acc : List D}, (∀ d ∈ ds, ∃ δ1, f (.sh, d) δ = some δ1 ∧ match g d with
      | some r => ∃ δ2 δ3, c δ1 = .ok true δ2 ∧ e δ2 = .ok (t, r) δ3 ∧ wipeE vs δ3 = δ
      | none => ∃ δ2, c δ1 = .ok false δ2 ∧ wipeE vs δ2 = δ) → acc.length + ds.length < sizeLine → tyEq t t = true → mLcLoop t vs f c e ds acc δ = .ok (acc ++ ds.filterMap g) δ
  | [], acc, _, _, _ => by simp [mLcLoop]
  | d :: r, acc, h, hl, ht => by
    obtain ⟨δ1, e1, h1⟩ := h d (by simp)
    have hr : ∀ d ∈ r, _ := fun d m => h d (List.mem_cons_of_mem _ m)
    unfold mLcLoop
    rw [e1]
    dsimp only
    cases eg : g d with
    | none =>
      rw [eg] at h1
      obtain ⟨δ2, e2, h2⟩ := h1
      rw [e2]
      dsimp only
      rw [h2, lc_eval g hr (by simp at hl; omega) ht, List.filterMap_cons_none eg]
    | some y =>
      rw [eg] at h1
      obtain ⟨δ2, δ3, e2, e3, h3⟩ := h1
      rw [e2]
      dsimp only
      rw [e3]
      dsimp only
      rw [if_pos ⟨ht, by simp at hl; omega⟩, h3, lc_eval g hr (by simp at hl ⊢; omega) ht, List.filterMap_cons_some eg]
      simp
/-- elements that are made by deeds: what holds of them, of the slots behind them -/
theorem lc_inv {t : Ty} {vs : List Nat} {f : Ty × D → Env → Option Env} {c : M Bool} {e : M (Ty × D)} (I : Env → Prop) (R : D → Prop) : ∀ {ds acc : List D} {δ : Env}, I δ → (∀ d ∈ ds, ∀ δ, I δ → ∃ δ1 δ2 δ3 y, f (.sh, d) δ = some δ1 ∧ c δ1 = .ok true δ2 ∧ e δ2 = .ok (t, y) δ3 ∧ I (wipeE vs δ3) ∧ R y) →
    acc.length + ds.length < sizeLine → tyEq t t = true → ∃ ys δ', mLcLoop t vs f c e ds acc δ = .ok (acc ++ ys) δ' ∧ I δ' ∧ ys.length = ds.length ∧ ∀ y ∈ ys, R y
  | [], acc, δ, h, _, _, _ => ⟨[], δ, by simp [mLcLoop], h, rfl, by simp⟩
  | d :: r, acc, δ, h, hs, hl, ht => by
    obtain ⟨δ1, δ2, δ3, y, e1, e2, e3, h3, hy⟩ := hs d (by simp) δ h
    obtain ⟨ys, δ', e4, h4, l4, r4⟩ := lc_inv I R (ds := r) (acc := acc ++ [y]) h3 (fun d m => hs d (List.mem_cons_of_mem _ m)) (by simp at hl ⊢; omega) ht
    refine ⟨y :: ys, δ', ?_, h4, by simp [l4], fun z m => ?_⟩
    · unfold mLcLoop
      rw [e1]
      dsimp only
      rw [e2]
      dsimp only
      rw [e3]
      dsimp only
      rw [if_pos ⟨ht, by simp at hl; omega⟩, e4]
      simp
    · rcases List.mem_cons.mp m with rfl | m
      · exact hy
      · exact r4 z m
end VS

end

section
set_option Elab.async false
set_option linter.all false
set_option maxRecDepth 100000
set_option maxHeartbeats 2000000
/-! VM2: == of data. -/
namespace VS
open PySem L2

mutual
theorem toPy_eqv : ∀ {x : D} {d : PyData}, toPy x = some d → PyData.eqv d d = true
  | .non, d, h => by simp [toPy] at h; subst h; simp [PyData.eqv]
  | .bl b, d, h => by simp [toPy] at h; subst h; simp [PyData.eqv]
  | .int i, d, h => by simp [toPy] at h; subst h; simp [PyData.eqv]
  | .str x, d, h => by simp [toPy] at h; subst h; simp [PyData.eqv]
  | .lst xs, d, h => by
    simp [toPy] at h
    obtain ⟨es, h1, rfl⟩ := h
    simp [PyData.eqv, toPyL_eqv h1]
  | .tup xs, d, h => by
    simp [toPy] at h
    obtain ⟨es, h1, rfl⟩ := h
    simp [PyData.eqv, toPyL_eqv h1]
  | .dic _, d, h => by simp [toPy] at h
  | .ins _ _, d, h => by simp [toPy] at h
  | .err _ _ _ _, d, h => by simp [toPy] at h
theorem toPyL_eqv : ∀ {xs : List D} {ds : List PyData}, toPyL xs = some ds → PyData.eqvAll ds ds = true
  | [], _, h => by simp [toPyL] at h; subst h; simp [PyData.eqvAll]
  | x :: r, _, h => by
    unfold toPyL at h
    cases h1 : toPy x with
    | none => rw [h1] at h; cases h
    | some e =>
      cases h2 : toPyL r with
      | none => rw [h1, h2] at h; cases h
      | some es =>
        rw [h1, h2] at h
        cases h
        simp [PyData.eqvAll, toPy_eqv h1, toPyL_eqv h2]
end
theorem fEqB_self {x : D} {d : PyData} (h1 : toPy x = some d) (h2 : SeqAt.shaped d = true) : fEqB x x = some true := by
  unfold fEqB
  rw [h1]
  simp [h2, toPy_eqv h1]
theorem fEq_self {x : D} {d : PyData} (h1 : toPy x = some d) (h2 : SeqAt.shaped d = true) : fEq x x = some (.bl true) := by
  unfold fEq
  rw [fEqB_self h1 h2]
  rfl
theorem fNe_self {x : D} {d : PyData} (h1 : toPy x = some d) (h2 : SeqAt.shaped d = true) : fNe x x = some (.bl false) := by
  unfold fNe
  rw [fEqB_self h1 h2]
  rfl
theorem fEqB_int (a b : Int) : fEqB (.int a) (.int b) = some (decide (a = b)) := by
  have : (a == b) = decide (a = b) := Bool.eq_iff_iff.mpr (by simp)
  simp [fEqB, toPy, SeqAt.shaped, PyData.canLay0, PyData.depth, PyData.eqv, this]
theorem fEqB_bl (a b : Bool) : fEqB (.bl a) (.bl b) = some (decide (a = b)) := by
  simp [fEqB, toPy, SeqAt.shaped, PyData.canLay0, PyData.depth, PyData.eqv]
  cases a <;> cases b <;> rfl
theorem fEq_int (a b : Int) : fEq (.int a) (.int b) = some (.bl (decide (a = b))) := by unfold fEq; rw [fEqB_int]; rfl
theorem fEq_bl (a b : Bool) : fEq (.bl a) (.bl b) = some (.bl (decide (a = b))) := by unfold fEq; rw [fEqB_bl]; rfl
theorem fNe_int (a b : Int) : fNe (.int a) (.int b) = some (.bl (!decide (a = b))) := by unfold fNe; rw [fEqB_int]; rfl
theorem fNe_bl (a b : Bool) : fNe (.bl a) (.bl b) = some (.bl (!decide (a = b))) := by unfold fNe; rw [fEqB_bl]; rfl
theorem toPyL_ints : ∀ ns : List Int, toPyL (ns.map D.int) = some (ns.map PyData.int)
  | [] => rfl
  | n :: r => by simp [toPyL, toPy, toPyL_ints r]
theorem toPyL_bls : ∀ ns : List Bool, toPyL (ns.map D.bl) = some (ns.map PyData.bool)
  | [] => rfl
  | n :: r => by simp [toPyL, toPy, toPyL_bls r]
theorem flat_shaped {α : Type} {f : α → PyData} (hf : ∀ a, PyData.canLay0 (f a) = true ∧ PyData.depth (f a) = 0) : ∀ ns : List α, PyData.canLayAll0 (ns.map f) = true ∧ PyData.depthAll (ns.map f) = 0
  | [] => by simp [PyData.canLayAll0, PyData.depthAll]
  | n :: r => by
    obtain ⟨h1, h2⟩ := flat_shaped hf r
    simp [PyData.canLayAll0, PyData.depthAll, (hf n).1, (hf n).2, h1, h2]
theorem shaped_tupI (ns : List Int) : SeqAt.shaped (.tuple (ns.map PyData.int)) = true := by
  obtain ⟨h1, h2⟩ := flat_shaped (f := PyData.int) (fun a => ⟨by simp [PyData.canLay0], by simp [PyData.depth]⟩) ns
  simp [SeqAt.shaped, PyData.canLay0, PyData.depth, h1, h2]
theorem shaped_lstB (ns : List Bool) : SeqAt.shaped (.list (ns.map PyData.bool)) = true := by
  obtain ⟨h1, h2⟩ := flat_shaped (f := PyData.bool) (fun a => ⟨by simp [PyData.canLay0], by simp [PyData.depth]⟩) ns
  simp [SeqAt.shaped, PyData.canLay0, PyData.depth, h1, h2]
theorem fEq_tupI (ns : List Int) : fEq (.tup (ns.map D.int)) (.tup (ns.map D.int)) = some (.bl true) := fEq_self (d := .tuple (ns.map PyData.int)) (by simp [toPy, toPyL_ints]) (shaped_tupI ns)
theorem fNe_tupI (ns : List Int) : fNe (.tup (ns.map D.int)) (.tup (ns.map D.int)) = some (.bl false) := fNe_self (d := .tuple (ns.map PyData.int)) (by simp [toPy, toPyL_ints]) (shaped_tupI ns)
theorem fNe_lstB (ns : List Bool) : fNe (.lst (ns.map D.bl)) (.lst (ns.map D.bl)) = some (.bl false) := fNe_self (d := .list (ns.map PyData.bool)) (by simp [toPy, toPyL_bls]) (shaped_lstB ns)
theorem intsD_map : ∀ ns : List Int, intsD (ns.map D.int) = some ns
  | [] => rfl
  | n :: r => by simp [intsD, intsD_map r]
theorem blsD_map : ∀ ns : List Bool, blsD (ns.map D.bl) = some ns
  | [] => rfl
  | n :: r => by simp [blsD, blsD_map r]
theorem dVs_bls : ∀ ns : List Bool, dVs (ns.map D.bl) = some (ns.map V.bl)
  | [] => rfl
  | n :: r => by simp [dVs, dV, dVs_bls r]
/-- b in a row of bools -/
theorem fIn_bls (neg b : Bool) (ns : List Bool) : fIn neg (.bl b) (.lst (ns.map D.bl)) = some (.bl (if neg then !ns.contains b else ns.contains b)) := by
  have : inV (.bl b) (ns.map V.bl) = ns.contains b := by
    unfold inV
    induction ns with
    | nil => rfl
    | cons x r ih =>
      rw [List.map_cons, List.any_cons, List.contains_cons, ih]
      congr 1
      show (x == b) = (b == x)
      cases x <;> cases b <;> rfl
  simp [fIn, dV, rowD, dVs_bls, this]
end VS

end

section
set_option Elab.async false
set_option linter.all false
set_option maxRecDepth 100000
set_option maxHeartbeats 2000000
/-! VM3: steps of the plain functions. -/
namespace VS
open PySem L2

section
variable {a b x y : M Fl} {δ δ1 δ2 : Env} {t : Ty} {d : D} {c : String} {fs : List (Str × D)}
theorem seq_nx (h : a δ = .ok .nx δ1) : mSeq a b δ = b δ1 := by unfold mSeq mBind; rw [h]
theorem seq_rt (h : a δ = .ok (.rt t d) δ1) : mSeq a b δ = .ok (.rt t d) δ1 := by unfold mSeq mBind; rw [h]; rfl
theorem seq_ex (h : a δ = .ex c fs) : mSeq a b δ = .ex c fs := by unfold mSeq mBind; rw [h]
theorem asg_ok {m : M (Ty × D)} {f : Ty × D → Env → Option Env} {z : Ty × D} (h : m δ = .ok z δ1) (h2 : f z δ1 = some δ2) : mAsg f m δ = .ok .nx δ2 := by unfold mAsg mBind mTo; rw [h]; dsimp only; rw [h2]
theorem asg_ex {m : M (Ty × D)} {f : Ty × D → Env → Option Env} (h : m δ = .ex c fs) : mAsg f m δ = .ex c fs := by unfold mAsg mBind mTo; rw [h]
theorem for_eq {mi : M (List D)} {f : Ty × D → Env → Option Env} {ds : List D} (h : mi δ = .ok ds δ1) : mFor mi f x δ = mLoop f x ds δ1 := by unfold mFor mBind; rw [h]
theorem if_t {k : M Bool} (h : k δ = .ok true δ1) : mIfS k x y δ = x δ1 := by unfold mIfS mBind; rw [h]
theorem if_f {k : M Bool} (h : k δ = .ok false δ1) : mIfS k x y δ = y δ1 := by unfold mIfS mBind; rw [h]
theorem ret_ok {m : M (Ty × D)} {z : Ty × D} (h : m δ = .ok z δ1) : mRet m δ = .ok (.rt z.1 z.2) δ1 := by unfold mRet mBind mPure; rw [h]
theorem ret_ex {m : M (Ty × D)} (h : m δ = .ex c fs) : mRet m δ = .ex c fs := by unfold mRet mBind mPure; rw [h]
theorem fn_rt {N k : Nat} {wr : List Nat} {as : List (Ty × D)} (hl : as.length = k) (h : a (as.map some ++ List.replicate (N - k) none) = .ok (.rt t d) δ) : mFn N k wr a as = .ok (t, d) (mask wr 0 (δ.take k)) := by
  unfold mFn; rw [if_pos hl, h]
theorem fn_ex {N k : Nat} {wr : List Nat} {as : List (Ty × D)} (hl : as.length = k) (h : a (as.map some ++ List.replicate (N - k) none) = .ex c fs) : mFn N k wr a as = .ex c fs := by
  unfold mFn; rw [if_pos hl, h]
/-- a call by values alone -/
theorem call1 {f : FM} {m : M (Ty × D)} {z r : Ty × D} {os : Env} (h : m δ = .ok z δ1) (hf : f [z] = .ok r os) : mCall f (bVal m bNil) [] δ = .ok r δ1 := by
  simp only [mCall, mBind, bVal, bNil, mPure, h, mApp, cGet, List.map_nil, List.append_nil, hf]
  cases os <;> simp [cPut]
theorem call1_ex {f : FM} {m : M (Ty × D)} {z : Ty × D} (h : m δ = .ok z δ1) (hf : f [z] = .ex c fs) : mCall f (bVal m bNil) [] δ = .ex c fs := by
  simp only [mCall, mBind, bVal, bNil, mPure, h, mApp, cGet, List.map_nil, List.append_nil, hf]
theorem call2 {f : FM} {m m' : M (Ty × D)} {z z' r : Ty × D} {os : Env} (h : m δ = .ok z δ1) (h' : m' δ1 = .ok z' δ2) (hf : f [z, z'] = .ok r os) : mCall f (bVal m (bVal m' bNil)) [] δ = .ok r δ2 := by
  simp only [mCall, mBind, bVal, bNil, mPure, h, h', mApp, cGet, List.map_nil, List.append_nil, hf]
  match os with
  | [] => simp [cPut]
  | [_] => simp [cPut]
  | _ :: _ :: _ => simp [cPut]
theorem fz_ok {m : M (Ty × D)} {z : Ty × D} (h : m δ = .ok z δ1) : mFz m δ = .ok (.sh, z.2) δ1 := by unfold mFz mBind mPure; rw [h]
theorem fz_ex {m : M (Ty × D)} (h : m δ = .ex c fs) : mFz m δ = .ex c fs := by unfold mFz mBind; rw [h]
end
/-! ### ints that are naturals -/
theorem shl_one {t : Nat} (h : t ≤ 1000) : fShl (.int 1) (.int (t : Nat)) = some (.int ((2 ^ t : Nat) : Int)) := by
  have hc : cPow 1 (t : Int) = true := by
    unfold cPow
    simp
    omega
  unfold fShl fI
  dsimp only
  rw [if_pos hc]
  simp
theorem or_int (a b : Nat) : fOr (.int (a : Nat)) (.int (b : Nat)) = some (.int ((a ||| b : Nat) : Int)) := by unfold fOr fI; dsimp only; rw [if_pos rfl, or_nat]
theorem and_int (a b : Nat) : fAnd (.int (a : Nat)) (.int (b : Nat)) = some (.int ((a &&& b : Nat) : Int)) := by unfold fAnd fI; dsimp only; rw [if_pos rfl, and_nat]
theorem xor_int (a b : Nat) : fXor (.int (a : Nat)) (.int (b : Nat)) = some (.int ((a ^^^ b : Nat) : Int)) := by unfold fXor fI; dsimp only; rw [if_pos rfl, xor_nat]
theorem shr_int (a b : Nat) : fShr (.int (a : Nat)) (.int (b : Nat)) = some (.int ((a / 2 ^ b : Nat) : Int)) := by
  unfold fShr fI
  dsimp only
  rw [if_pos (by simp)]
  simp
theorem and_one (a : Nat) : fAnd (.int (a : Nat)) (.int 1) = some (.int ((a % 2 : Nat) : Int)) := by
  have := and_int a 1
  rw [Nat.and_one_is_mod] at this
  exact this
/-! ### rows -/
/-- a row of bools, a list or a tuple -/
def RowB (A : D) (bs : List Bool) : Prop := A = .lst (bs.map D.bl) ∨ A = .tup (bs.map D.bl)
section
variable {A : D} {bs : List Bool} {δ δ1 : Env}
theorem RowB.len (h : RowB A bs) : fLen A = some (.int (bs.length : Nat)) := by
  rcases h with rfl | rfl <;> simp [fLen]
theorem RowB.items (h : RowB A bs) {m : M (Ty × D)} (hm : m δ = .ok (.sh, A) δ1) : mItems m δ = .ok (bs.map D.bl) δ1 := by
  unfold mItems mBind
  rw [hm]
  rcases h with rfl | rfl <;> rfl
theorem RowB.enum (h : RowB A bs) {m : M (Ty × D)} (hm : m δ = .ok (.sh, A) δ1) : mEnum m δ = .ok (enumD (bs.map D.bl)) δ1 := by
  unfold mEnum mBind
  rw [h.items hm]
  rfl
theorem ix_nat {n k : Nat} (h : k < n) : ixN n (k : Int) = some k := by
  unfold ixN
  rw [if_pos (by omega), if_pos (by omega)]
  simp
theorem RowB.ix (h : RowB A bs) {k : Nat} {b : Bool} (hb : bs[k]? = some b) : fIx (.sh, A) (.int (k : Nat)) = some (.sh, .bl b) := by
  have hk : k < bs.length := (List.getElem?_eq_some_iff.mp hb).1
  rcases h with rfl | rfl <;> simp [fIx, ix_nat hk, hb, itemTy]
theorem RowB.itemsSh (h : RowB A bs) : VS.itemsSh (.sh, A) = some (bs.map D.bl) := by
  rcases h with rfl | rfl <;> rfl
end
theorem enum_bl {bs : List Bool} {i : Nat} {d : D} (h : (enumD (bs.map D.bl))[i]? = some d) : ∃ b, bs[i]? = some b ∧ d = .tup [.int (i : Nat), .bl b] := by
  obtain ⟨e, h1, rfl⟩ := enum_get h
  rw [List.getElem?_map, Option.map_eq_some_iff] at h1
  obtain ⟨b, h1, rfl⟩ := h1
  exact ⟨b, h1, rfl⟩
theorem rng_get {k : Nat} {i : Nat} {d : D} (h : (rngD 0 k)[i]? = some d) : i < k ∧ d = .int (i : Nat) := by
  unfold rngD at h
  rw [List.getElem?_map, Option.map_eq_some_iff] at h
  obtain ⟨j, h1, rfl⟩ := h
  by_cases hj : i < k
  · rw [List.getElem?_range hj] at h1
    cases h1
    exact ⟨hj, by simp⟩
  · rw [List.getElem?_eq_none (by simpa using hj)] at h1; cases h1
theorem rng_mem {k : Nat} {d : D} (h : d ∈ rngD 0 k) : ∃ i : Nat, i < k ∧ d = .int (i : Nat) := by
  unfold rngD at h
  simp at h
  obtain ⟨i, hi, rfl⟩ := h
  exact ⟨i, hi, rfl⟩
theorem rng1_ok {m : M (Ty × D)} {δ δ1 : Env} {k : Nat} {t : Ty} (h : m δ = .ok (t, .int (k : Nat)) δ1) (hk : k < 2 ^ 62) : mRng1 m δ = .ok (rngD 0 k) δ1 := by
  unfold mRng1 mBind
  rw [h]
  dsimp only
  rw [if_pos (by constructor <;> omega)]
  simp [mPure]
theorem rngD_len {lo : Int} {k : Nat} : (rngD lo k).length = k := by simp [rngD]
theorem enumD_len {ds : List D} : (enumD ds).length = ds.length := enumFrom_len
/-- a comprehension that changes nothing, its slots empty -/
theorem lc_pure {t : Ty} {vs : List Nat} {mi : M (List D)} {f : Ty × D → Env → Option Env} {c : M Bool} {e : M (Ty × D)} {δ : Env} {ds : List D} (g : D → Option D) (hmi : mi δ = .ok ds δ) (hw : wipeE vs δ = δ) (hb : backE δ vs δ = δ)
    (h : ∀ d ∈ ds, ∃ δ1, f (.sh, d) δ = some δ1 ∧ match g d with
      | some r => ∃ δ2 δ3, c δ1 = .ok true δ2 ∧ e δ2 = .ok (t, r) δ3 ∧ wipeE vs δ3 = δ
      | none => ∃ δ2, c δ1 = .ok false δ2 ∧ wipeE vs δ2 = δ) (hl : ds.length < sizeLine) (ht : tyEq t t = true) : mLc t vs mi f c e δ = .ok (.lst t, .lst (ds.filterMap g)) δ := by
  unfold mLc mBind
  rw [hmi]
  dsimp only
  rw [hw, lc_eval g h (by simpa using hl) ht]
  dsimp only
  rw [hb]
  rfl
/-- .. whose element, whose test change nothing -/
theorem lc_p {t : Ty} {vs : List Nat} {mi : M (List D)} {f : Ty × D → Env → Option Env} {c : M Bool} {e : M (Ty × D)} {δ : Env} {ds : List D} (g : D → Option D) (hmi : mi δ = .ok ds δ) (hw : wipeE vs δ = δ) (hb : backE δ vs δ = δ)
    (h : ∀ d ∈ ds, ∃ δ1, f (.sh, d) δ = some δ1 ∧ wipeE vs δ1 = δ ∧ match g d with
      | some r => c δ1 = .ok true δ1 ∧ e δ1 = .ok (t, r) δ1
      | none => c δ1 = .ok false δ1) (hl : ds.length < sizeLine) (ht : tyEq t t = true) : mLc t vs mi f c e δ = .ok (.lst t, .lst (ds.filterMap g)) δ :=
  lc_pure g hmi hw hb (fun d hd => by
    obtain ⟨δ1, h1, h2, h3⟩ := h d hd
    refine ⟨δ1, h1, ?_⟩
    cases eg : g d with
    | none => rw [eg] at h3; exact ⟨δ1, h3, h2⟩
    | some r => rw [eg] at h3; exact ⟨δ1, δ1, h3.1, h3.2, h2⟩) hl ht
/-- .. whose slot holds something frozen from before -/
theorem lc_w {t : Ty} {vs : List Nat} {mi : M (List D)} {f : Ty × D → Env → Option Env} {c : M Bool} {e : M (Ty × D)} {δ δw : Env} {ds : List D} (g : D → Option D) (hmi : mi δ = .ok ds δ) (hw : wipeE vs δ = δw) (hb : backE δ vs δw = δ)
    (h : ∀ d ∈ ds, ∃ δ1, f (.sh, d) δw = some δ1 ∧ wipeE vs δ1 = δw ∧ match g d with
      | some r => c δ1 = .ok true δ1 ∧ e δ1 = .ok (t, r) δ1
      | none => c δ1 = .ok false δ1) (hl : ds.length < sizeLine) (ht : tyEq t t = true) : mLc t vs mi f c e δ = .ok (.lst t, .lst (ds.filterMap g)) δ := by
  unfold mLc mBind
  rw [hmi]
  dsimp only
  rw [hw, lc_eval g (fun d hd => by
    obtain ⟨δ1, h1, h2, h3⟩ := h d hd
    refine ⟨δ1, h1, ?_⟩
    cases eg : g d with
    | none => rw [eg] at h3; exact ⟨δ1, h3, h2⟩
    | some r => rw [eg] at h3; exact ⟨δ1, δ1, h3.1, h3.2, h2⟩) (by simpa using hl) ht]
  dsimp only
  rw [hb]
  rfl
theorem append_ok {δ : Env} {i : Nat} {ds : List D} {d : D} {m : M (Ty × D)} (h : δ[i]? = some (some (.lst .sh, .lst ds))) (hm : m δ = .ok (.sh, d) δ) (hl : ds.length < sizeLine) :
    mDrop (mMethP (mSlot i) (mCons m mNil) oAppend) δ = .ok .nx (δ.set i (some (.lst .sh, .lst (ds ++ [d])))) := by
  simp [mDrop, mMethP, mBind, mSlot, h, slotP, getP, isLst, mCons, hm, mNil, mPure, pUpd, oAppend, hold, setP, hl]
end VS

end

section
set_option Elab.async false
set_option linter.all false
set_option maxRecDepth 100000
set_option maxHeartbeats 2000000
/-! VM4: more steps of the plain functions. -/
namespace VS
open PySem L2
section
variable {a b x y : M Fl} {δ δ1 δ2 : VS.Env} {t : Ty} {d : D}
theorem fn_some {N k : Nat} {wr : List Nat} {as : List (Ty × D)} (hl : as.length = k) (h : ∃ δ, a (as.map some ++ List.replicate (N - k) none) = .ok (.rt t d) δ) : ∃ os, mFn N k wr a as = .ok (t, d) os := by
  obtain ⟨δ, h⟩ := h
  exact ⟨_, fn_rt hl h⟩
theorem aug_ok {i : Nat} {f : Int → Int → Int} {m : M (Ty × D)} {tx ty : Ty} {u v : Int} (hx : mVar i δ = .ok (tx, .int u) δ) (h : m δ = .ok (ty, .int v) δ1) (hs : gSt i (.sh, .int (f u v)) δ1 = some δ2) : mAug i f m δ = .ok .nx δ2 := by
  unfold mAug mBind
  rw [hx]
  dsimp only
  rw [h]
  unfold mTo
  dsimp only
  rw [hs]
theorem var_ok {i : Nat} {d : D} (h : δ[i]? = some (some (.sh, d))) : mVar i δ = .ok (.sh, d) δ := by unfold mVar; rw [h]
theorem m2_ok {a b : M (Ty × D)} {z w : Ty × D} (h : a δ = .ok z δ1) (h' : b δ1 = .ok w δ2) : m2 a b δ = .ok (z, w) δ2 := by
  simp [m2, mBind, mPure, h, h']
theorem ixx_ok {a b : M (Ty × D)} {z w : Ty × D} {d : D} (h : a δ = .ok z δ1) (h' : b δ1 = .ok w δ2) (hf : fIx z w.2 = some (.sh, d)) : mIx (m2 a b) δ = .ok (.sh, d) δ2 := by
  unfold mIx mBind
  rw [m2_ok h h']
  dsimp only
  rw [hf]
  rfl
theorem pl_ok {a b : M (Ty × D)} {z w r : Ty × D} (h : a δ = .ok z δ1) (h' : b δ1 = .ok w δ2) (hf : fPl z w = some r) : mPl (m2 a b) δ = .ok r δ2 := by
  unfold mPl mBind
  rw [m2_ok h h']
  dsimp only
  rw [hf]
  rfl
theorem items_ok' {m : M (Ty × D)} {ds : List D} (h : m δ = .ok (.sh, .tup ds) δ1) : mItems m δ = .ok ds δ1 := by
  unfold mItems mBind
  rw [h]
  rfl
theorem items_ok2 {m : M (Ty × D)} {ds : List D} (h : m δ = .ok (.sh, .lst ds) δ1) : mItems m δ = .ok ds δ1 := by
  unfold mItems mBind
  rw [h]
  rfl
theorem call3 {f : FM} {m m' m'' : M (Ty × D)} {z z' z'' r : Ty × D} {os δ3 : VS.Env} (h : m δ = .ok z δ1) (h' : m' δ1 = .ok z' δ2) (h'' : m'' δ2 = .ok z'' δ3) (hf : f [z, z', z''] = .ok r os) : mCall f (bVal m (bVal m' (bVal m'' bNil))) [] δ = .ok r δ3 := by
  simp only [mCall, mBind, bVal, bNil, mPure, h, h', h'', mApp, cGet, List.map_nil, List.append_nil, hf]
  match os with
  | [] => simp [cPut]
  | [_] => simp [cPut]
  | [_, _] => simp [cPut]
  | _ :: _ :: _ :: _ => simp [cPut]
end
end VS

end

section
set_option Elab.async false
set_option linter.all false
set_option maxRecDepth 100000
set_option maxHeartbeats 2000000
/-! VX1: what expressions come to, found by instances. Side conditions are gathered in s. -/
namespace VS
open PySem L2

theorem sizeLine_val : sizeLine = 16777216 := by rw [sizeLine_eq]

/-- slot i holds d, held by t -/
class Slot (δ : Env) (i : Nat) (t : outParam Ty) (d : outParam D) : Prop where
  h : δ[i]? = some (some (t, d))
instance {t : Ty} {d : D} {l : Env} : Slot (some (t, d) :: l) 0 t d := ⟨rfl⟩
instance {a : Option (Ty × D)} {l : Env} {i : Nat} {t : Ty} {d : D} [k : Slot l i t d] : Slot (a :: l) (i + 1) t d := ⟨by simpa using k.h⟩
/-- slot i set -/
class StE (δ : Env) (i : Nat) (x : Option (Ty × D)) (δ' : outParam Env) : Prop where
  h : i < δ.length ∧ δ.set i x = δ'
instance {a x : Option (Ty × D)} {l : Env} : StE (a :: l) 0 x (x :: l) := ⟨by simp⟩
instance {a x : Option (Ty × D)} {l l' : Env} {i : Nat} [k : StE l i x l'] : StE (a :: l) (i + 1) x (a :: l') := ⟨by have := k.h; simp [this.1, this.2]⟩

class EvV (m : M (Ty × D)) (δ : Env) (t : outParam Ty) (d : outParam D) (s : outParam Prop) : Prop where
  h : s → m δ = .ok (t, d) δ
class EvT (m : M Bool) (δ : Env) (b : outParam Bool) (s : outParam Prop) : Prop where
  h : s → m δ = .ok b δ
class EvA (m : M (List (Ty × D))) (δ : Env) (ts : outParam (List Ty)) (ds : outParam (List D)) (s : outParam Prop) : Prop where
  h : s → ∃ as, m δ = .ok as δ ∧ as.map (·.1) = ts ∧ as.map (·.2) = ds
class EvI (m : M (List D)) (δ : Env) (ds : outParam (List D)) (s : outParam Prop) : Prop where
  h : s → m δ = .ok ds δ
class EvO (m : M (Option Int)) (δ : Env) (o : outParam (Option Int)) (s : outParam Prop) : Prop where
  h : s → m δ = .ok o δ
class EvB (m : M (List Arg)) (δ : Env) (as : outParam (List (Ty × D))) (s : outParam Prop) : Prop where
  h : s → m δ = .ok (as.map Arg.val) δ
/-- with a deed -/
class EvE (m : M (Ty × D)) (δ : Env) (t : outParam Ty) (d : outParam D) (δ' : outParam Env) (s : outParam Prop) : Prop where
  h : s → m δ = .ok (t, d) δ'
/-- what a def hands back -/
class Fn (f : FM) (as : List (Ty × D)) (t : outParam Ty) (d : outParam D) (s : outParam Prop) : Prop where
  h : s → ∃ os, f as = .ok (t, d) os
class Op2 (f : D → D → Option D) (x y : D) (d : outParam D) (s : outParam Prop) : Prop where
  h : s → f x y = some d
class Op1 (f : D → Option D) (x : D) (d : outParam D) (s : outParam Prop) : Prop where
  h : s → f x = some d
class Tru (d : D) (b : outParam Bool) (s : outParam Prop) : Prop where
  h : s → truD d = some b
class OpP (tx : Ty) (x : D) (ty : Ty) (y : D) (t : outParam Ty) (d : outParam D) (s : outParam Prop) : Prop where
  h : s → fPl (tx, x) (ty, y) = some (t, d)
class Ix (t : Ty) (x : D) (i : D) (t' : outParam Ty) (d : outParam D) (s : outParam Prop) : Prop where
  h : s → fIx (t, x) i = some (t', d)
class Sl (t : Ty) (x : D) (lo hi : Option Int) (t' : outParam Ty) (d : outParam D) (s : outParam Prop) : Prop where
  h : s → fSl (t, x) lo hi = some (t', d)
/-- frozen items -/
class Its (t : Ty) (x : D) (ds : outParam (List D)) : Prop where
  h : itemsSh (t, x) = some ds
/-- the target of an assignment -/
class Tg (f : Ty × D → Env → Option Env) (t : Ty) (d : D) (δ : Env) (δ' : outParam Env) (s : outParam Prop) : Prop where
  h : s → f (t, d) δ = some δ'
class Tgs (f : List D → Env → Option Env) (ds : List D) (δ : Env) (δ' : outParam Env) (s : outParam Prop) : Prop where
  h : s → f ds δ = some δ'

section
variable {δ δ' δ1 δ2 : Env} {a b m : M (Ty × D)} {t t1 t2 t3 : Ty} {x y d d1 d2 : D} {s s1 s2 s3 s4 : Prop} {i : Nat}
/-! ### expressions -/
instance : EvV (mC d) δ .sh d True := ⟨fun _ => rfl⟩
instance [k : Slot δ i .sh d] : EvV (mVar i) δ .sh d True := ⟨fun _ => by unfold mVar; rw [k.h]⟩
instance [k : Slot δ i t d] : EvV (mGet i) δ t d True := ⟨fun _ => by unfold mGet; rw [k.h]⟩
instance {f : D → D → Option D} [k1 : EvV a δ t1 x s1] [k2 : EvV b δ t2 y s2] [k3 : Op2 f x y d s3] : EvV (mOp2 f (m2 a b)) δ .sh d (s1 ∧ s2 ∧ s3) :=
  ⟨fun ⟨h1, h2, h3⟩ => by simp [mOp2, m2, mBind, mPure, k1.h h1, k2.h h2, k3.h h3]⟩
instance [k1 : EvV a δ t1 x s1] [k2 : EvV b δ t2 y s2] [k3 : OpP t1 x t2 y t d s3] : EvV (mPl (m2 a b)) δ t d (s1 ∧ s2 ∧ s3) :=
  ⟨fun ⟨h1, h2, h3⟩ => by simp [mPl, m2, mBind, mPure, mOf, k1.h h1, k2.h h2, k3.h h3]⟩
instance [k1 : EvV a δ t1 x s1] [k2 : EvV b δ t2 y s2] [k3 : Ix t1 x y .sh d s3] : EvV (mIx (m2 a b)) δ .sh d (s1 ∧ s2 ∧ s3) :=
  ⟨fun ⟨h1, h2, h3⟩ => by simp [mIx, m2, mBind, mPure, k1.h h1, k2.h h2, k3.h h3]⟩
instance [k1 : EvV a δ t1 x s1] [k2 : EvV b δ t2 y s2] [k3 : Ix t1 x y t d s3] : EvV (mIxK (m2 a b)) δ t d (s1 ∧ s2 ∧ s3) :=
  ⟨fun ⟨h1, h2, h3⟩ => by simp [mIxK, m2, mBind, mPure, mOf, k1.h h1, k2.h h2, k3.h h3]⟩
instance {f : D → D → Option D} [k1 : Slot δ i t1 x] [k2 : EvV b δ t2 y s2] [k3 : Op2 f x y d s3] : EvV (mOp2 f (m2n i b)) δ .sh d (s2 ∧ s3) :=
  ⟨fun ⟨h2, h3⟩ => by simp [mOp2, m2n, mGet, mBind, mPure, k1.h, k2.h h2, k3.h h3]⟩
instance [k1 : Slot δ i t1 x] [k2 : EvV b δ t2 y s2] [k3 : Ix t1 x y .sh d s3] : EvV (mIx (m2n i b)) δ .sh d (s2 ∧ s3) :=
  ⟨fun ⟨h2, h3⟩ => by simp [mIx, m2n, mGet, mBind, mPure, k1.h, k2.h h2, k3.h h3]⟩
instance {lo hi : M (Option Int)} {l h : Option Int} [k1 : EvV m δ t1 x s1] [k2 : EvO lo δ l s2] [k3 : EvO hi δ h s3] [k4 : Sl t1 x l h t d s4] : EvV (mSl m lo hi) δ t d (s1 ∧ s2 ∧ s3 ∧ s4) :=
  ⟨fun ⟨h1, h2, h3, h4⟩ => by simp [mSl, mBind, mPure, mOf, k1.h h1, k2.h h2, k3.h h3, k4.h h4]⟩
instance : EvO (mPure none) δ none True := ⟨fun _ => rfl⟩
instance {j : Int} [k : EvV m δ t (.int j) s] : EvO (mPart m) δ (some j) s := ⟨fun h => by simp [mPart, mBind, mPure, k.h h]⟩
instance {f : D → Option D} [k1 : EvV m δ t x s1] [k2 : Op1 f x d s2] : EvV (mB1 f m) δ .sh d (s1 ∧ s2) := ⟨fun ⟨h1, h2⟩ => by simp [mB1, mBind, mPure, k1.h h1, k2.h h2]⟩
instance [k : EvV m δ t d s] : EvV (mFz m) δ .sh d s := ⟨fun h => by simp [mFz, mBind, mPure, k.h h]⟩
instance {ds : List D} [k : EvV m δ t x s] [k2 : Its t x ds] : EvV (mList m) δ (.lst .sh) (.lst ds) s := ⟨fun h => by simp [mList, mBind, mPure, k.h h, k2.h]⟩
instance {ds : List D} [k : EvV m δ t x s] [k2 : Its t x ds] : EvV (mTuple m) δ .sh (.tup ds) s := ⟨fun h => by simp [mTuple, mBind, mPure, k.h h, k2.h]⟩
instance : EvV (mLstE t) δ (.lst t) (.lst []) True := ⟨fun _ => rfl⟩
instance {ts : List Ty} {ds : List D} {m : M (List (Ty × D))} [k : EvA m δ ts ds s] : EvV (mTup m) δ .sh (.tup ds) (s ∧ ds.length ≤ 1000) := ⟨fun ⟨h, hl⟩ => by
  obtain ⟨as, e, _, rfl⟩ := k.h h
  have : as.length ≤ 1000 := by simpa using hl
  simp [mTup, mBind, mPure, e, this]⟩
instance {ts : List Ty} {ds : List D} {m : M (List (Ty × D))} [k : EvA m δ ts ds s] : EvV (mLstZ m) δ (.lst .sh) (.lst ds) (s ∧ ds.length ≤ 1000) := ⟨fun ⟨h, hl⟩ => by
  obtain ⟨as, e, _, rfl⟩ := k.h h
  have : as.length ≤ 1000 := by simpa using hl
  simp [mLstZ, mBind, mPure, e, this]⟩
instance {ts : List Ty} {ds : List D} {m : M (List (Ty × D))} [k : EvA m δ ts ds s] : EvV (mLstH m) δ (.hls ts) (.lst ds) (s ∧ ds.length ≤ 1000) := ⟨fun ⟨h, hl⟩ => by
  obtain ⟨as, e, rfl, rfl⟩ := k.h h
  have : as.length ≤ 1000 := by simpa using hl
  simp [mLstH, mBind, mPure, e, this]⟩
instance {j : Int} [k : EvV m δ t (.int j) s] : EvV (mNeg m) δ .sh (.int (-j)) s := ⟨fun h => by simp [mNeg, mBind, mPure, k.h h]⟩
instance {c : M Bool} {v : Bool} [k1 : EvT c δ v s1] [k2 : EvV a δ t x s2] [k3 : EvV b δ t y s3] : EvV (mIf c a b) δ t (if v = true then x else y) (s1 ∧ (v = true → s2) ∧ (v = false → s3)) :=
  ⟨fun ⟨h1, h2, h3⟩ => by cases v <;> simp_all [mIf, mBind, k1.h h1, k2.h, k3.h]⟩
instance {v : Bool} {c : M Bool} [k : EvT c δ v s] : EvV (mNotV c) δ .sh (.bl (!v)) s := ⟨fun h => by simp [mNotV, mBind, mPure, k.h h]⟩
instance {u v : Bool} [k1 : EvV a δ .sh (.bl u) s1] [k2 : EvV b δ .sh (.bl v) s2] : EvV (mAndT a b) δ .sh (.bl (u && v)) (s1 ∧ (u = true → s2)) :=
  ⟨fun ⟨h1, h2⟩ => by cases u <;> simp_all [mAndT, mBind, mPure, truD, k1.h h1, k2.h]⟩
instance {u v : Bool} [k1 : EvV a δ .sh (.bl u) s1] [k2 : EvV b δ .sh (.bl v) s2] : EvV (mOrT a b) δ .sh (.bl (u || v)) (s1 ∧ (u = false → s2)) :=
  ⟨fun ⟨h1, h2⟩ => by cases u <;> simp_all [mOrT, mBind, mPure, truD, k1.h h1, k2.h]⟩
/-! ### arguments -/
instance : EvA mNil δ [] [] True := ⟨fun _ => ⟨[], rfl, rfl, rfl⟩⟩
instance {ts : List Ty} {ds : List D} {n : M (List (Ty × D))} [k1 : EvV m δ t d s1] [k2 : EvA n δ ts ds s2] : EvA (mCons m n) δ (t :: ts) (d :: ds) (s1 ∧ s2) := ⟨fun ⟨h1, h2⟩ => by
  obtain ⟨as, e, rfl, rfl⟩ := k2.h h2
  exact ⟨(t, d) :: as, by simp [mCons, mBind, mPure, k1.h h1, e], rfl, rfl⟩⟩
instance : EvB bNil δ [] True := ⟨fun _ => rfl⟩
instance {as : List (Ty × D)} {n : M (List Arg)} [k1 : EvV m δ t d s1] [k2 : EvB n δ as s2] : EvB (bVal m n) δ ((t, d) :: as) (s1 ∧ s2) := ⟨fun ⟨h1, h2⟩ => by
  simp [bVal, mBind, mPure, k1.h h1, k2.h h2]⟩
/-! ### tests -/
instance {v : Bool} [k : EvV m δ t (.bl v) s] : EvT (mBl m) δ v s := ⟨fun h => by simp [mBl, mBind, mPure, k.h h]⟩
instance {v : Bool} [k : EvV m δ t d s1] [k2 : Tru d v s2] : EvT (mTru m) δ v (s1 ∧ s2) := ⟨fun ⟨h1, h2⟩ => by simp [mTru, mBind, mPure, mOf, k.h h1, k2.h h2]⟩
instance {v : Bool} {c : M Bool} [k : EvT c δ v s] : EvT (mNot c) δ (!v) s := ⟨fun h => by simp [mNot, mBind, mPure, k.h h]⟩
instance {u v : Bool} {c e : M Bool} [k1 : EvT c δ u s1] [k2 : EvT e δ v s2] : EvT (mAnd c e) δ (u && v) (s1 ∧ (u = true → s2)) :=
  ⟨fun ⟨h1, h2⟩ => by cases u <;> simp_all [mAnd, mBind, mPure, k1.h h1, k2.h]⟩
instance {u v : Bool} {c e : M Bool} [k1 : EvT c δ u s1] [k2 : EvT e δ v s2] : EvT (mOr c e) δ (u || v) (s1 ∧ (u = false → s2)) :=
  ⟨fun ⟨h1, h2⟩ => by cases u <;> simp_all [mOr, mBind, mPure, k1.h h1, k2.h]⟩
instance : EvT mYes δ true True := ⟨fun _ => rfl⟩
/-! ### calls -/
theorem cGet_vals : ∀ {as : List (Ty × D)} {δ : Env}, cGet (as.map Arg.val) δ = some (as, δ)
  | [], _ => rfl
  | a :: as, δ => by simp [cGet, cGet_vals (as := as)]
theorem cPut_vals : ∀ {as : List (Ty × D)} {os δ : Env}, cPut (as.map Arg.val) os δ = some δ
  | [], os, δ => by simp [cPut]
  | a :: as, [], δ => by simp [cPut]
  | a :: as, o :: os, δ => by simp [cPut, cPut_vals (as := as)]
instance {f : FM} {n : M (List Arg)} {as : List (Ty × D)} [k1 : EvB n δ as s1] [k2 : Fn f as t d s2] : EvV (mCall f n []) δ t d (s1 ∧ s2) := ⟨fun ⟨h1, h2⟩ => by
  obtain ⟨os, e⟩ := k2.h h2
  simp [mCall, mBind, k1.h h1, mApp, cGet_vals, e, cPut_vals]⟩
/-! ### deeds -/
instance (priority := low) [k : EvV m δ t d s] : EvE m δ t d δ s := ⟨k.h⟩
instance [k : EvE m δ t d δ' s] : EvE (mFz m) δ .sh d δ' s := ⟨fun h => by simp [mFz, mBind, mPure, k.h h]⟩
instance {ds : List D} {d : D} {n : M (List (Ty × D))} [k1 : Slot δ i (.lst .sh) (.lst ds)] [k2 : EvA n δ [t] [d] s] [k3 : StE δ i (some (.lst .sh, .lst (ds ++ [d]))) δ'] : EvE (mMethP (mSlot i) n oAppend) δ .sh .non δ' (s ∧ ds.length < sizeLine) := ⟨fun ⟨h, hl⟩ => by
  obtain ⟨as, e, h1, h2⟩ := k2.h h
  match as, h1, h2 with
  | [a], h1, h2 =>
    simp at h2
    simp [mMethP, mBind, mSlot, k1.h, slotP, getP, isLst, e, pUpd, oAppend, hold, hl, setP, h2, k3.h.2]⟩
instance {ds : List D} {ty : Ty} [k1 : Slot δ i (.lst ty) (.lst (ds ++ [d]))] [k3 : StE δ i (some (.lst ty, .lst ds)) δ'] : EvE (mMethP (mSlot i) mNil oPop) δ ty d δ' True := ⟨fun _ => by
  simp [mMethP, mBind, mSlot, k1.h, slotP, getP, isLst, mNil, mPure, pUpd, oPop, setP, k3.h.2]⟩
instance [k1 : Slot δ i t d] [k3 : StE δ i none δ'] : EvE (mTake i) δ t d δ' True := ⟨fun _ => by simp [mTake, k1.h, k3.h.2]⟩
instance [k1 : Slot δ i t d] [k3 : StE δ i (some (.sh, d)) δ'] : EvE (mFrz i) δ .sh d δ' True := ⟨fun _ => by simp [mFrz, k1.h, k3.h.2]⟩
/-! ### what is walked -/
instance {ds : List D} : Its .sh (.lst ds) ds := ⟨rfl⟩
instance {ds : List D} : Its .sh (.tup ds) ds := ⟨rfl⟩
instance {ds : List D} : Its (.lst .sh) (.lst ds) ds := ⟨rfl⟩
class ItE (x : D) (ds : outParam (List D)) : Prop where
  h : x = .lst ds ∨ x = .tup ds
instance {ds : List D} : ItE (.lst ds) ds := ⟨.inl rfl⟩
instance {ds : List D} : ItE (.tup ds) ds := ⟨.inr rfl⟩
def oneSign (c : Nat) : Str := ⟨#[c]⟩
class WkE (x : D) (ds : outParam (List D)) : Prop where
  h : x = .lst ds ∨ x = .tup ds ∨ ∃ z, x = .str z ∧ ds = signsD z
instance (priority := low) {ds : List D} [k : ItE x ds] : WkE x ds := ⟨by rcases k.h with e | e <;> simp [e]⟩
instance {z : Str} : WkE (.str z) (z.cps.toList.map fun c => .str (oneSign c)) := ⟨.inr (.inr ⟨z, rfl, rfl⟩)⟩
instance {ds : List D} [k : EvV m δ .sh x s] [k2 : WkE x ds] : EvI (mWalk m) δ ds s := ⟨fun h => by
  rcases k2.h with e | e | ⟨z, e, e2⟩
  · subst e; simp [mWalk, mBind, mPure, k.h h]
  · subst e; simp [mWalk, mBind, mPure, k.h h]
  · subst e; simp [mWalk, mBind, mPure, k.h h, e2]⟩
theorem items_of {ds : List D} [k : EvV m δ .sh x s] [k2 : ItE x ds] (h : s) : mItems m δ = .ok ds δ := by
  rcases k2.h with e | e <;> subst e <;> simp [mItems, mBind, mPure, k.h h]
instance {ds : List D} [k : EvV m δ .sh x s] [k2 : ItE x ds] : EvI (mItems m) δ ds s := ⟨fun h => items_of h⟩
instance {α : Type} {xs : List α} {e : α → D} [k : EvI (mItems m) δ (xs.map e) s] : EvI (mEnum m) δ (xs.zipIdx.map fun p => .tup [.int (p.2 : Nat), e p.1]) s := ⟨fun h => by
  have : ∀ (l : List α) (k : Nat), enumFrom k (l.map e) = (l.zipIdx k).map fun p => .tup [.int (p.2 : Nat), e p.1] := by
    intro l
    induction l with
    | nil => intro k; rfl
    | cons a l ih => intro k; simp [enumFrom, ih, List.zipIdx_cons]
  simp [mEnum, mBind, mPure, k.h h, enumD, this]⟩
class EnumL (ds : List D) (k : Int) (es : outParam (List D)) : Prop where
  h : ∀ n : Nat, (n : Int) = k → enumFrom n ds = es
instance {k : Int} : EnumL [] k [] := ⟨fun _ _ => rfl⟩
instance {k : Int} {ds es : List D} [q : EnumL ds (k + 1) es] : EnumL (d :: ds) k (.tup [.int k, d] :: es) := ⟨fun n e => by
  subst e
  simp [enumFrom, q.h (n + 1) (by simp)]⟩
instance {es ds : List D} [k : EvI (mItems m) δ ds s] [q : EnumL ds 0 es] : EvI (mEnum m) δ es s := ⟨fun h => by
  simp [mEnum, mBind, mPure, k.h h, enumD, q.h 0 rfl]⟩
instance {j : Int} [k : EvV m δ t (.int j) s] : EvI (mRng1 m) δ ((List.range j.toNat).map fun i : Nat => D.int i) (s ∧ j < 2 ^ 62 ∧ -(2 ^ 62) ≤ j) := ⟨fun ⟨h, hl, hu⟩ => by
  simp only [mRng1, mBind, mPure, k.h h]
  rw [if_pos ⟨by omega, by omega⟩]
  simp [rngD, mPure]⟩
instance {j l : Int} [k1 : EvV a δ t1 (.int l) s1] [k2 : EvV b δ t2 (.int j) s2] : EvI (mRng2 (m2 a b)) δ ((List.range (j - l).toNat).map fun i : Nat => D.int (l + i)) (s1 ∧ s2 ∧ -(2 ^ 62) ≤ l ∧ l < 2 ^ 62 ∧ -(2 ^ 62) ≤ j ∧ j < 2 ^ 62) := ⟨fun ⟨h1, h2, a1, a2, a3, a4⟩ => by
  simp only [mRng2, m2, mBind, mPure, k1.h h1, k2.h h2]
  rw [if_pos ⟨a1, a2, a3, a4⟩]
  simp [rngD, mPure]⟩
instance {x : Str} [k : EvV m δ t (.str x) s] : EvI (mSigns m) δ (x.cps.toList.map fun c => .str (oneSign c)) s := ⟨fun h => by
  simp [mSigns, mBind, mPure, k.h h, signsD, oneSign]⟩
/-! ### targets -/
instance [k : StE δ i (some (t, d)) δ'] : Tg (gSt i) t d δ δ' True := ⟨fun _ => by simp [gSt, k.h]⟩
instance : Tgs gsNil [] δ δ True := ⟨fun _ => rfl⟩
instance {f : Ty × D → Env → Option Env} {g : List D → Env → Option Env} {ds : List D} [k1 : Tg f .sh d δ δ1 s1] [k2 : Tgs g ds δ1 δ2 s2] : Tgs (gsCons f g) (d :: ds) δ δ2 (s1 ∧ s2) := ⟨fun ⟨h1, h2⟩ => by simp [gsCons, k1.h h1, k2.h h2]⟩
class Len (ds : List D) (n : outParam Nat) : Prop where
  h : ds.length = n
instance : Len [] 0 := ⟨rfl⟩
instance {ds : List D} {n : Nat} [k : Len ds n] : Len (d :: ds) (n + 1) := ⟨by simp [k.h]⟩
instance {n m : Nat} {g : List D → Env → Option Env} {ds : List D} [k : Len ds m] [k2 : Tgs g ds δ δ' s] : Tg (gTp n g) .sh (.tup ds) δ δ' (s ∧ m = n) := ⟨fun ⟨h, hm⟩ => by subst hm; simp [gTp, k.h, k2.h h]⟩
/-- xs[j] = d -/
class SetL (ds : List D) (j : Int) (d : D) (ds' : outParam (List D)) : Prop where
  h : 0 ≤ j → j < ds.length → ds.set j.toNat d = ds'
instance (priority := low) {ds : List D} {j : Int} : SetL ds j d (ds.set j.toNat d) := ⟨fun _ _ => rfl⟩
instance {α : Type} {xs : List α} {e : α → D} {z : α} {j : Int} : SetL (xs.map e) j (e z) ((xs.set j.toNat z).map e) := ⟨fun _ _ => by simp⟩
instance {ix : M (Ty × D)} {ds ds' : List D} {j : Int} {t' : Ty} [k1 : Slot δ i (.lst .sh) (.lst ds)] [k2 : EvV ix δ t' (.int j) s] [k3 : SetL ds j d ds'] [k4 : StE δ i (some (.lst .sh, .lst ds')) δ'] : Tg (gSet (mSlot i) ix) .sh d δ δ' (s ∧ 0 ≤ j ∧ j < ds.length) := ⟨fun ⟨h, h1, h2⟩ => by
  have e1 : ixN ds.length j = some j.toNat := by
    have := ix_nat (n := ds.length) (k := j.toNat) (by omega)
    rwa [show ((j.toNat : Nat) : Int) = j by omega] at this
  have e3 := k3.h h1 h2
  simp [gSet, mSlot, k1.h, k2.h h, getP, sStore, e1, hold, setP, e3, k4.h.2]⟩
/-! ### comprehensions -/
/-- the comprehension's slots emptied; they held nothing, or something frozen -/
class Wp (δ : Env) (vs : List Nat) (δw : outParam Env) : Prop where
  h : wipeE vs δ = δw ∧ backE δ vs δw = δ ∧ ∀ v ∈ vs, v < δ.length
class Wp2 (δ : Env) (vs : List Nat) (δw : outParam Env) : Prop where
  h : wipeE vs δ = δw
instance : Wp2 δ [] δ := ⟨rfl⟩
instance {vs : List Nat} [k1 : Wp2 δ vs δ1] [k2 : StE δ1 i none δ2] : Wp2 δ (i :: vs) δ2 := ⟨by rw [wipeE, k1.h, k2.h.2]⟩
class NoS (δ : Env) (i : Nat) : Prop where
  h : δ[i]? = some none
instance {l : Env} : NoS (none :: l) 0 := ⟨rfl⟩
instance {o : Option (Ty × D)} {l : Env} [k : NoS l i] : NoS (o :: l) (i + 1) := ⟨by simpa using k.h⟩
instance : Wp δ [] δ := ⟨rfl, rfl, by simp⟩
instance {vs : List Nat} [k : NoS δ i] [k2 : Wp δ vs δ] : Wp δ (i :: vs) δ := ⟨by
  have h := k.h
  have e : δ.set i none = δ := by
    apply List.ext_getElem?
    intro j
    rw [List.getElem?_set]
    split
    · rename_i q; subst q; rw [h]; simp [(List.getElem?_eq_some_iff.mp h).1]
    · rfl
  obtain ⟨e1, e2, e3⟩ := k2.h
  refine ⟨by rw [wipeE, e1, e], by rw [backE, h]; exact e2, fun v hv => ?_⟩
  rcases List.mem_cons.mp hv with rfl | hv
  · exact (List.getElem?_eq_some_iff.mp h).1
  · exact e3 v hv⟩
theorem lcx {α : Type} {vs : List Nat} {f : Ty × D → Env → Option Env} {c : M Bool} {e : M (Ty × D)} {δw : Env} {en r : α → D} {p : α → Bool} {dx : α → Env} : ∀ {xs : List α} {acc : List D},
    (∀ x ∈ xs, f (.sh, en x) δw = some (dx x) ∧ wipeE vs (dx x) = δw ∧ c (dx x) = .ok (p x) (dx x) ∧ (p x = true → e (dx x) = .ok (.sh, r x) (dx x))) → acc.length + xs.length < sizeLine →
    mLcLoop .sh vs f c e (xs.map en) acc δw = .ok (acc ++ (xs.filter p).map r) δw
  | [], acc, _, _ => by simp [mLcLoop]
  | x :: xs, acc, h, hl => by
    obtain ⟨h1, h2, h3, h4⟩ := h x (by simp)
    have ih := fun acc hl => lcx (vs := vs) (f := f) (c := c) (e := e) (δw := δw) (en := en) (r := r) (p := p) (dx := dx) (xs := xs) (acc := acc) (fun y m => h y (List.mem_cons_of_mem _ m)) hl
    rw [List.map_cons, mLcLoop]
    dsimp only
    rw [h1]
    dsimp only
    rw [h3]
    cases ep : p x with
    | false =>
      dsimp only
      rw [h2, ih acc (by simp at hl; omega), List.filter_cons_of_neg (by simp [ep])]
    | true =>
      dsimp only
      rw [h4 ep]
      dsimp only
      rw [if_pos ⟨rfl, by simp at hl; omega⟩, h2, ih _ (by simp at hl ⊢; omega), List.filter_cons_of_pos ep]
      simp
instance {α : Type} {vs : List Nat} {mi : M (List D)} {f : Ty × D → Env → Option Env} {c : M Bool} {e : M (Ty × D)} {δw : Env} {xs : List α} {en r : α → D} {p : α → Bool} {dx : α → Env} {sc se st : α → Prop}
    [k1 : EvI mi δ (xs.map en) s] [k2 : Wp δ vs δw] [k3 : ∀ x, Tg f .sh (en x) δw (dx x) (st x)] [k4 : ∀ x, EvT c (dx x) (p x) (sc x)] [k5 : ∀ x, EvV e (dx x) .sh (r x) (se x)] [k6 : ∀ x, Wp2 (dx x) vs δw] :
    EvV (mLc .sh vs mi f c e) δ (.lst .sh) (.lst ((xs.filter p).map r)) (s ∧ xs.length < sizeLine ∧ ∀ x ∈ xs, st x ∧ sc x ∧ (p x = true → se x)) := ⟨fun ⟨h1, h2, h3⟩ => by
  obtain ⟨w1, w2, w3⟩ := k2.h
  unfold mLc mBind
  rw [k1.h h1]
  dsimp only
  rw [w1, lcx (dx := dx) (p := p) (r := r) (fun x m => ⟨(k3 x).h (h3 x m).1, (k6 x).h, (k4 x).h (h3 x m).2.1, fun ep => (k5 x).h ((h3 x m).2.2 ep)⟩) (by simpa using h2)]
  dsimp only
  rw [w2]
  rfl⟩
end
end VS

end

section
set_option Elab.async false
set_option linter.all false
set_option maxRecDepth 100000
set_option maxHeartbeats 2000000
/-! VX2: operators on known data; rules for statements, loops, defs. -/
namespace VS
open PySem L2

section
/-! ### ints -/
variable {i j k : Int} {x y : Str} {a b : Bool} {ds es : List D} {t : Ty} {d : D}
instance : Op2 fAdd (.int i) (.int j) (.int (i + j)) True := ⟨fun _ => rfl⟩
instance : Op2 fSub (.int i) (.int j) (.int (i - j)) True := ⟨fun _ => rfl⟩
instance : Op2 fMul (.int i) (.int j) (.int (i * j)) ((-(2 ^ 64) < i ∧ i < 2 ^ 64) ∨ (-(2 ^ 64) < j ∧ j < 2 ^ 64)) := ⟨fun h => by
  have : cMul i j = true := by simp only [cMul, Bool.or_eq_true, Bool.and_eq_true, decide_eq_true_eq]; exact h
  unfold fMul fI; dsimp only; rw [if_pos this]⟩
instance : Op2 fPow (.int i) (.int j) (.int (i ^ j.toNat)) (0 ≤ j ∧ j ≤ 1000000 ∧ i.natAbs < 2 ^ 64) := ⟨fun ⟨h1, h2, h3⟩ => by
  have : cPow i j = true := by simp only [cPow, Bool.and_eq_true, decide_eq_true_eq]; exact ⟨⟨h1, h2⟩, h3⟩
  unfold fPow fI; dsimp only; rw [if_pos this]⟩
instance : Op2 fDiv (.int i) (.int j) (.int (i.fdiv j)) (j ≠ 0 ∧ j.natAbs < 1073741824) := ⟨fun ⟨h1, h2⟩ => by unfold fDiv fI; dsimp only; rw [if_pos (by simp [cDiv, h1, h2])]⟩
instance : Op2 fMod (.int i) (.int j) (.int (i.fmod j)) (j ≠ 0) := ⟨fun h => by unfold fMod fI; dsimp only; rw [if_pos (by simp [h])]⟩
instance : Op2 fLt (.int i) (.int j) (.bl (decide (i < j))) True := ⟨fun _ => rfl⟩
instance : Op2 fLe (.int i) (.int j) (.bl (decide (i ≤ j))) True := ⟨fun _ => rfl⟩
instance : Op2 fGt (.int i) (.int j) (.bl (decide (j < i))) True := ⟨fun _ => rfl⟩
instance : Op2 fGe (.int i) (.int j) (.bl (decide (j ≤ i))) True := ⟨fun _ => rfl⟩
instance : Op2 fEq2 (.int i) (.int j) (.bl (decide (i = j))) True := ⟨fun _ => fEq_int i j⟩
instance : Op2 fNe2 (.int i) (.int j) (.bl (!decide (i = j))) True := ⟨fun _ => fNe_int i j⟩
instance : Op2 fEq2 (.bl a) (.bl b) (.bl (decide (a = b))) True := ⟨fun _ => fEq_bl a b⟩
instance : Op2 fNe2 (.bl a) (.bl b) (.bl (!decide (a = b))) True := ⟨fun _ => fNe_bl a b⟩
instance : Op2 fEq2 (.str x) (.str y) (.bl (decide (x = y))) True := ⟨fun _ => rfl⟩
instance : Op2 fNe2 (.str x) (.str y) (.bl (!decide (x = y))) True := ⟨fun _ => rfl⟩
theorem and_int' (i j : Nat) : Builtin.bitAnd (i : Int) (j : Int) = ((i &&& j : Nat) : Int) := and_nat i j
instance {m n : Nat} : Op2 fAnd (.int (m : Int)) (.int (n : Int)) (.int ((m &&& n : Nat) : Int)) True := ⟨fun _ => and_int m n⟩
instance {m : Nat} : Op2 fAnd (.int (m : Int)) (.int 2) (.int ((m &&& 2 : Nat) : Int)) True := ⟨fun _ => and_int m 2⟩
instance {m : Nat} : Op2 fAnd (.int (m : Int)) (.int 3) (.int ((m &&& 3 : Nat) : Int)) True := ⟨fun _ => and_int m 3⟩
instance {m : Nat} : Op2 fAnd (.int (m : Int)) (.int 4) (.int ((m &&& 4 : Nat) : Int)) True := ⟨fun _ => and_int m 4⟩
instance {m : Nat} : Op2 fAnd (.int (m : Int)) (.int 5) (.int ((m &&& 5 : Nat) : Int)) True := ⟨fun _ => and_int m 5⟩
instance {m : Nat} : Op2 fAnd (.int (m : Int)) (.int 6) (.int ((m &&& 6 : Nat) : Int)) True := ⟨fun _ => and_int m 6⟩
instance {m : Nat} : Op2 fAnd (.int (m : Int)) (.int 7) (.int ((m &&& 7 : Nat) : Int)) True := ⟨fun _ => and_int m 7⟩
instance {m : Nat} : Op2 fAnd (.int (m : Int)) (.int 8) (.int ((m &&& 8 : Nat) : Int)) True := ⟨fun _ => and_int m 8⟩
instance {m : Nat} : Op2 fAnd (.int (m : Int)) (.int 15) (.int ((m &&& 15 : Nat) : Int)) True := ⟨fun _ => and_int m 15⟩
instance {m : Nat} : Op2 fAnd (.int (m : Int)) (.int 16) (.int ((m &&& 16 : Nat) : Int)) True := ⟨fun _ => and_int m 16⟩
instance {m : Nat} : Op2 fShr (.int (m : Int)) (.int 1) (.int ((m / 2 ^ 1 : Nat) : Int)) True := ⟨fun _ => shr_int m 1⟩
instance {m : Nat} : Op2 fShr (.int (m : Int)) (.int 2) (.int ((m / 2 ^ 2 : Nat) : Int)) True := ⟨fun _ => shr_int m 2⟩
instance {m : Nat} : Op2 fShr (.int (m : Int)) (.int 3) (.int ((m / 2 ^ 3 : Nat) : Int)) True := ⟨fun _ => shr_int m 3⟩
instance {m : Nat} : Op2 fShr (.int (m : Int)) (.int 4) (.int ((m / 2 ^ 4 : Nat) : Int)) True := ⟨fun _ => shr_int m 4⟩
instance {m : Nat} : Op2 fShr (.int (m : Int)) (.int 5) (.int ((m / 2 ^ 5 : Nat) : Int)) True := ⟨fun _ => shr_int m 5⟩
instance {m n : Nat} : Op2 fOr (.int (m : Int)) (.int (n : Int)) (.int ((m ||| n : Nat) : Int)) True := ⟨fun _ => or_int m n⟩
instance {m n : Nat} : Op2 fXor (.int (m : Int)) (.int (n : Int)) (.int ((m ^^^ n : Nat) : Int)) True := ⟨fun _ => xor_int m n⟩
instance {m n : Nat} : Op2 fShr (.int (m : Int)) (.int (n : Int)) (.int ((m / 2 ^ n : Nat) : Int)) True := ⟨fun _ => shr_int m n⟩
instance (priority := high) {m : Nat} : Op2 fAnd (.int (m : Int)) (.int 1) (.int ((m % 2 : Nat) : Int)) True := ⟨fun _ => and_one m⟩
instance {n : Nat} : Op2 fShl (.int 1) (.int (n : Int)) (.int ((2 ^ n : Nat) : Int)) (n ≤ 1000) := ⟨fun h => shl_one h⟩
instance : Op2 fIsN .non .non (.bl true) True := ⟨fun _ => rfl⟩
instance : Op2 fNotN .non .non (.bl false) True := ⟨fun _ => rfl⟩
class NotN (d : D) : Prop where
  h : isNon d = false
instance : NotN (.int i) := ⟨rfl⟩
instance : NotN (.str x) := ⟨rfl⟩
instance : NotN (.bl a) := ⟨rfl⟩
instance : NotN (.tup ds) := ⟨rfl⟩
instance : NotN (.lst ds) := ⟨rfl⟩
instance [k : NotN d] : Op2 fIsN d .non (.bl false) True := ⟨fun _ => by simp [fIsN, k.h]⟩
instance [k : NotN d] : Op2 fNotN d .non (.bl true) True := ⟨fun _ => by simp [fNotN, k.h]⟩
instance : Op1 fLen (.lst ds) (.int (ds.length : Nat)) True := ⟨fun _ => rfl⟩
instance : Op1 fLen (.tup ds) (.int (ds.length : Nat)) True := ⟨fun _ => rfl⟩
instance (priority := high) {α : Type} {xs : List α} {e : α → D} : Op1 fLen (.lst (xs.map e)) (.int (xs.length : Nat)) True := ⟨fun _ => by simp [fLen]⟩
instance (priority := high) {α : Type} {xs : List α} {e : α → D} : Op1 fLen (.tup (xs.map e)) (.int (xs.length : Nat)) True := ⟨fun _ => by simp [fLen]⟩
instance : Op1 fLen (.str x) (.int (x.length : Nat)) (x.length ≤ sizeLine) := ⟨fun h => by simp [fLen, h]⟩
instance : Op1 fInt (.int i) (.int i) True := ⟨fun _ => rfl⟩
instance : Op1 fInt (.bl a) (.int (if a = true then 1 else 0)) True := ⟨fun _ => rfl⟩
instance : Tru (.bl a) a True := ⟨fun _ => rfl⟩
instance : Tru (.int i) (!decide (i = 0)) True := ⟨fun _ => by
  have : (i == 0) = decide (i = 0) := Bool.eq_iff_iff.mpr (by simp)
  simp [truD, bne, this]⟩
instance : Tru (.lst ds) (!ds.isEmpty) True := ⟨fun _ => rfl⟩
instance : Tru (.tup ds) (!ds.isEmpty) True := ⟨fun _ => rfl⟩
instance (priority := high) {α : Type} {xs : List α} {e : α → D} : Tru (.lst (xs.map e)) (!xs.isEmpty) True := ⟨fun _ => by simp [truD]⟩
instance (priority := high) {α : Type} {xs : List α} {e : α → D} : Tru (.tup (xs.map e)) (!xs.isEmpty) True := ⟨fun _ => by simp [truD]⟩
instance : Tru .non false True := ⟨fun _ => rfl⟩
instance {t t' : Ty} : OpP t (.int i) t' (.int j) .sh (.int (i + j)) True := ⟨fun _ => by cases t <;> cases t' <;> rfl⟩
instance {t t' : Ty} : OpP t (.str x) t' (.str y) .sh (.str (x ++ y)) (x.length + y.length ≤ sizeLine) := ⟨fun h => by cases t <;> cases t' <;> simp [fPl, h]⟩
instance : OpP .sh (.tup ds) .sh (.tup es) .sh (.tup (ds ++ es)) (ds.length + es.length ≤ sizeLine) := ⟨fun h => by simp [fPl, h]⟩
instance : Op2 fMax2 (.int i) (.int j) (.int (max i j)) True := ⟨fun _ => by
  have : (if j > i then j else i) = max i j := by rw [Int.max_def]; split <;> split <;> omega
  show some (D.int (if j > i then j else i)) = _; rw [this]⟩
instance : Op2 fMin2 (.int i) (.int j) (.int (min i j)) True := ⟨fun _ => by
  have : (if j < i then j else i) = min i j := by rw [Int.min_def]; split <;> split <;> omega
  show some (D.int (if j < i then j else i)) = _; rw [this]⟩
/-! ### items -/
class Nth (ds : List D) (i : Int) (d : outParam D) (s : outParam Prop) : Prop where
  h : s → ∃ j, ixN ds.length i = some j ∧ ds[j]? = some d
theorem ixN_of {n j : Nat} (h : j < n) : ixN n (j : Int) = some j := ix_nat h
instance : Nth (d :: ds) 0 d True := ⟨fun _ => ⟨0, ixN_of (j := 0) (by simp), rfl⟩⟩
instance {d0 : D} : Nth (d0 :: d :: ds) 1 d True := ⟨fun _ => ⟨1, ixN_of (j := 1) (by simp), rfl⟩⟩
instance {d0 d1 : D} : Nth (d0 :: d1 :: d :: ds) 2 d True := ⟨fun _ => ⟨2, ixN_of (j := 2) (by simp), rfl⟩⟩
instance {d0 d1 d2 : D} : Nth (d0 :: d1 :: d2 :: d :: ds) 3 d True := ⟨fun _ => ⟨3, ixN_of (j := 3) (by simp), rfl⟩⟩
instance {d0 d1 d2 d3 : D} : Nth (d0 :: d1 :: d2 :: d3 :: d :: ds) 4 d True := ⟨fun _ => ⟨4, ixN_of (j := 4) (by simp), rfl⟩⟩
/-- the item at i -/
def nth {α : Type} [Inhabited α] (xs : List α) (i : Int) : α := xs.getD i.toNat default
theorem nth_nat {α : Type} [Inhabited α] {xs : List α} {i : Nat} (h : i < xs.length) : nth xs (i : Int) = xs[i] := by simp [nth, h]
instance {α : Type} [Inhabited α] {xs : List α} {e : α → D} : Nth (xs.map e) i (e (nth xs i)) (0 ≤ i ∧ i < xs.length) := ⟨fun ⟨h1, h2⟩ => by
  have : i.toNat < xs.length := by omega
  refine ⟨i.toNat, ?_, by simp [nth, this]⟩
  have := ixN_of (n := (xs.map e).length) (j := i.toNat) (by simpa using this)
  rwa [show ((i.toNat : Nat) : Int) = i by omega] at this⟩
instance {s : Prop} [k : Nth ds i d s] : Ix .sh (.tup ds) (.int i) .sh d s := ⟨fun h => by obtain ⟨j, h1, h2⟩ := k.h h; simp [fIx, h1, h2, itemTy]⟩
instance {s : Prop} [k : Nth ds i d s] : Ix .sh (.lst ds) (.int i) .sh d s := ⟨fun h => by obtain ⟨j, h1, h2⟩ := k.h h; simp [fIx, h1, h2, itemTy]⟩
instance {s : Prop} [k : Nth ds i d s] : Ix (.lst t) (.lst ds) (.int i) t d s := ⟨fun h => by obtain ⟨j, h1, h2⟩ := k.h h; simp [fIx, h1, h2, itemTy]⟩
/-! ### slices -/
theorem cut_map {α : Type} {xs : List α} {e : α → D} {lo hi : Option Int} : cutD (xs.map e) lo hi = (cutD xs lo hi).map e := by simp [cutD]
instance (priority := high) {α : Type} {xs : List α} {e : α → D} {lo hi : Option Int} : Sl .sh (.tup (xs.map e)) lo hi .sh (.tup ((cutD xs lo hi).map e)) True := ⟨fun _ => by simp [fSl, itemsSh, cut_map]⟩
instance (priority := high) {α : Type} {xs : List α} {e : α → D} {lo hi : Option Int} : Sl .sh (.lst (xs.map e)) lo hi (.lst .sh) (.lst ((cutD xs lo hi).map e)) True := ⟨fun _ => by simp [fSl, itemsSh, cut_map]⟩
instance (priority := high) {α : Type} {xs : List α} {e : α → D} {lo hi : Option Int} : Sl (.lst .sh) (.lst (xs.map e)) lo hi (.lst .sh) (.lst ((cutD xs lo hi).map e)) True := ⟨fun _ => by simp [fSl, itemsSh, cut_map]⟩
instance {lo hi : Option Int} : Sl .sh (.tup ds) lo hi .sh (.tup (cutD ds lo hi)) True := ⟨fun _ => by simp [fSl, itemsSh]⟩
instance {lo hi : Option Int} : Sl .sh (.lst ds) lo hi (.lst .sh) (.lst (cutD ds lo hi)) True := ⟨fun _ => by simp [fSl, itemsSh]⟩
instance {lo hi : Option Int} : Sl (.lst .sh) (.lst ds) lo hi (.lst .sh) (.lst (cutD ds lo hi)) True := ⟨fun _ => by simp [fSl, itemsSh]⟩
instance {lo hi : Option Int} : Sl .sh (.str x) lo hi .sh (.str (cutS x lo hi)) (x.length ≤ sizeLine) := ⟨fun h => by simp [fSl, itemsSh, h]⟩
/-! ### in -/
theorem dVs_strs : ∀ ns : List Str, dVs (ns.map D.str) = some (ns.map V.str)
  | [] => rfl
  | n :: r => by simp [dVs, dV, dVs_strs r]
theorem dVs_ints : ∀ ns : List Int, dVs (ns.map D.int) = some (ns.map V.int)
  | [] => rfl
  | n :: r => by simp [dVs, dV, dVs_ints r]
theorem inV_strs {x : Str} : ∀ ns : List Str, inV (.str x) (ns.map V.str) = decide (x ∈ ns)
  | [] => rfl
  | z :: r => by
    have ih := inV_strs (x := x) r
    unfold inV at ih ⊢
    rw [List.map_cons, List.any_cons, ih]
    show ((z == x) || _) = _
    by_cases h : z = x
    · subst h; simp
    · have h' : ¬ x = z := fun q => h q.symm
      simp [h, h']
theorem inV_ints {x : Int} : ∀ ns : List Int, inV (.int x) (ns.map V.int) = decide (x ∈ ns)
  | [] => rfl
  | z :: r => by
    have ih := inV_ints (x := x) r
    unfold inV at ih ⊢
    rw [List.map_cons, List.any_cons, ih]
    show ((z == x) || _) = _
    by_cases h : z = x
    · subst h; simp
    · have h' : ¬ x = z := fun q => h q.symm
      simp [h, h']
class StrsD (y : D) (ns : outParam (List Str)) : Prop where
  h : rowD y = some (ns.map D.str)
instance : StrsD (.tup []) [] := ⟨rfl⟩
instance {ns : List Str} [k : StrsD (.tup ds) ns] : StrsD (.tup (.str x :: ds)) (x :: ns) := ⟨by have := k.h; simp [rowD] at this; simp [rowD, this]⟩
instance {ns : List Str} : StrsD (.tup (ns.map D.str)) ns := ⟨rfl⟩
instance {ns : List Str} : StrsD (.lst (ns.map D.str)) ns := ⟨rfl⟩
instance {ns : List Str} {y : D} [k : StrsD y ns] : Op2 (fIn false) (.str x) y (.bl (decide (x ∈ ns))) True := ⟨fun _ => by simp [fIn, dV, k.h, dVs_strs, inV_strs]⟩
instance {ns : List Str} {y : D} [k : StrsD y ns] : Op2 (fIn true) (.str x) y (.bl (!decide (x ∈ ns))) True := ⟨fun _ => by simp [fIn, dV, k.h, dVs_strs, inV_strs]⟩
instance {ns : List Int} : Op2 (fIn false) (.int i) (.lst (ns.map D.int)) (.bl (decide (i ∈ ns))) True := ⟨fun _ => by simp [fIn, dV, rowD, dVs_ints, inV_ints]⟩
instance {ns : List Int} : Op2 (fIn true) (.int i) (.lst (ns.map D.int)) (.bl (!decide (i ∈ ns))) True := ⟨fun _ => by simp [fIn, dV, rowD, dVs_ints, inV_ints]⟩
instance {ns : List Int} : Op2 (fIn false) (.int i) (.tup (ns.map D.int)) (.bl (decide (i ∈ ns))) True := ⟨fun _ => by simp [fIn, dV, rowD, dVs_ints, inV_ints]⟩
instance {ns : List Int} : Op2 (fIn true) (.int i) (.tup (ns.map D.int)) (.bl (!decide (i ∈ ns))) True := ⟨fun _ => by simp [fIn, dV, rowD, dVs_ints, inV_ints]⟩
instance {ns : List Bool} : Op2 (fIn false) (.bl a) (.lst (ns.map D.bl)) (.bl (ns.contains a)) True := ⟨fun _ => fIn_bls false a ns⟩
/-- one sign in a text -/
instance {c : Nat} : Op2 (fIn2 false) (.str (oneSign c)) (.str y) (.bl (decide (c ∈ y.cps.toList))) True := ⟨fun _ => by simp [fIn2, oneSign]⟩
instance {c : Nat} : Op2 (fIn2 true) (.str (oneSign c)) (.str y) (.bl (!decide (c ∈ y.cps.toList))) True := ⟨fun _ => by simp [fIn2, oneSign]⟩
instance {ns : List Str} {y : D} [k : StrsD y ns] : Op2 (fIn2 false) (.str x) y (.bl (decide (x ∈ ns))) True := ⟨fun _ => by
  have := k.h
  cases y <;> simp [rowD] at this <;> simp [fIn2, fIn, dV, rowD, this, dVs_strs, inV_strs]⟩
instance {ns : List Str} {y : D} [k : StrsD y ns] : Op2 (fIn2 true) (.str x) y (.bl (!decide (x ∈ ns))) True := ⟨fun _ => by
  have := k.h
  cases y <;> simp [rowD] at this <;> simp [fIn2, fIn, dV, rowD, this, dVs_strs, inV_strs]⟩
end
end VS

end

section
set_option Elab.async false
set_option linter.all false
set_option maxRecDepth 100000
set_option maxHeartbeats 2000000
/-! VX3: rules for statements, loops, defs. -/
namespace VS
open PySem L2
abbrev XP := String → List (Str × D) → Prop
def noX : XP := fun _ _ => False
abbrev FK := Fl → Env → Prop
section
variable {α : Type} {δ δ1 δ2 : Env} {a b m : M (Ty × D)} {A B : M Fl} {c : M Bool} {Q : FK} {X X' : XP} {t : Ty} {d : D} {s s1 s2 : Prop} {i : Nat} {f : Ty × D → Env → Option Env}
theorem P_ex {r : Res α} {k k' : α → Env → Prop} (h : r.P k noX) (hk : ∀ a δ, k a δ → k' a δ) : r.P k' X := h.imp (fun a δ _ z => hk a δ z) fun _ _ z => z.elim
theorem P_bind' {β : Type} {x : M α} {g : α → M β} {k : β → Env → Prop} (h : (x δ).P (fun a δ' => (g a δ').P k X) X) : (mBind x g δ).P k X := by
  unfold mBind
  cases e : x δ with
  | ok a δ' => rw [e] at h; exact h
  | ex c fs => rw [e] at h; exact h
  | bad => rw [e] at h; exact h
/-- marks: a side condition; a branch -/
def Side (p : Prop) : Prop := p
theorem side_mk {p : Prop} (h : p) : Side p := h
def OnT (v : Bool) (K : Prop) : Prop := v = true → K
def OnF (v : Bool) (K : Prop) : Prop := v = false → K
theorem ont_mk {v : Bool} {K : Prop} (h : v = true → K) : OnT v K := h
theorem onf_mk {v : Bool} {K : Prop} (h : v = false → K) : OnF v K := h
def seqK (b : M Fl) (Q : FK) (X : XP) : FK
  | .nx, δ => (b δ).P Q X
  | .bk, δ => Q .bk δ
  | .ct, δ => Q .ct δ
  | .rt t d, δ => Q (.rt t d) δ
theorem w_seq (h : (A δ).P (seqK B Q X) X) : (mSeq A B δ).P Q X := by
  refine P_bind' (h.imp (fun f δ' _ z => ?_) fun _ _ z => z)
  cases f <;> exact z
/-- with a statement of what holds between -/
def midK (R : Env → Prop) (Q : FK) : FK
  | .nx, δ => R δ
  | .bk, δ => Q .bk δ
  | .ct, δ => Q .ct δ
  | .rt t d, δ => Q (.rt t d) δ
theorem m_nx {R : Env → Prop} (h : R δ) : midK R Q .nx δ := h
theorem m_bk {R : Env → Prop} (h : Q .bk δ) : midK R Q .bk δ := h
theorem m_ct {R : Env → Prop} (h : Q .ct δ) : midK R Q .ct δ := h
theorem m_rt {R : Env → Prop} (h : Q (.rt t d) δ) : midK R Q (.rt t d) δ := h
theorem w_seqM (R : Env → Prop) (h : (A δ).P (midK R Q) X) (h2 : ∀ δ, R δ → (B δ).P Q X) : (mSeq A B δ).P Q X :=
  w_seq (h.imp (fun f δ' _ z => by cases f <;> first | exact h2 _ z | exact z) fun _ _ z => z)
theorem k_nx (h : (B δ).P Q X) : seqK B Q X .nx δ := h
theorem k_bk (h : Q .bk δ) : seqK B Q X .bk δ := h
theorem k_ct (h : Q .ct δ) : seqK B Q X .ct δ := h
theorem k_rt (h : Q (.rt t d) δ) : seqK B Q X (.rt t d) δ := h
theorem w_skip (h : Q .nx δ) : (mSkip δ).P Q X := h
theorem w_pure {k : α → Env → Prop} {x : α} (h : k x δ) : (mPure x δ).P k X := h
theorem w_ev [k : EvE m δ t d δ1 s] {K : Ty × D → Env → Prop} (hs : Side s) (h : K (t, d) δ1) : (m δ).P K X := by rw [k.h hs]; exact h
theorem w_asgP (h : (m δ).P (fun z δ1 => ∃ δ2, f z δ1 = some δ2 ∧ Q .nx δ2) X) : (mAsg f m δ).P Q X := by
  refine P_bind' (h.imp (fun z δ' _ ⟨δ2, e, q⟩ => ?_) fun _ _ z => z)
  unfold mTo
  rw [e]
  exact q
theorem w_tg [k : Tg f t d δ δ1 s] (hs : Side s) {K : Env → Prop} (h : K δ1) : ∃ δ1, f (t, d) δ = some δ1 ∧ K δ1 := ⟨_, k.h hs, h⟩
theorem w_asg [k : EvE m δ t d δ1 s1] [k2 : Tg f t d δ1 δ2 s2] (h1 : Side s1) (h2 : Side s2) (h : Q .nx δ2) : (mAsg f m δ).P Q X := w_asgP (w_ev h1 ⟨_, k2.h h2, h⟩)
theorem w_retP (h : (m δ).P (fun z δ1 => Q (.rt z.1 z.2) δ1) X) : (mRet m δ).P Q X := P_bind' h
theorem w_ret [k : EvE m δ t d δ1 s] (hs : Side s) (h : Q (.rt t d) δ1) : (mRet m δ).P Q X := w_retP (w_ev hs h)
theorem w_dropP (h : (m δ).P (fun z δ1 => Q .nx δ1) X) : (mDrop m δ).P Q X := P_bind' h
theorem w_drop [k : EvE m δ t d δ1 s] (hs : Side s) (h : Q .nx δ1) : (mDrop m δ).P Q X := w_dropP (w_ev hs h)
theorem w_fzP {K : Ty × D → Env → Prop} (h : (m δ).P (fun z δ1 => K (.sh, z.2) δ1) X) : (mFz m δ).P K X := P_bind' h
theorem w_ifP (h : (c δ).P (fun v δ1 => (v = true → (A δ1).P Q X) ∧ (v = false → (B δ1).P Q X)) X) : (mIfS c A B δ).P Q X := by
  refine P_bind' (h.imp (fun v δ' _ z => ?_) fun _ _ z => z)
  cases v
  · exact z.2 rfl
  · exact z.1 rfl
theorem w_if {v : Bool} [k : EvT c δ v s] (hs : Side s) (h1 : OnT v ((A δ).P Q X)) (h2 : OnF v ((B δ).P Q X)) : (mIfS c A B δ).P Q X := w_ifP (by rw [k.h hs]; exact ⟨h1, h2⟩)
theorem w_forP {mi : M (List D)} (h : (mi δ).P (fun ds δ1 => (mLoop f A ds δ1).P Q X) X) : (mFor mi f A δ).P Q X := P_bind' h
theorem w_for {mi : M (List D)} {ds : List D} [k : EvI mi δ ds s] (hs : Side s) (h : (mLoop f A ds δ).P Q X) : (mFor mi f A δ).P Q X := w_forP (by rw [k.h hs]; exact h)
theorem w_aug {g : Int → Int → Int} {u v : Int} {ty : Ty} [k1 : Slot δ i .sh (.int u)] [k2 : EvV m δ ty (.int v) s] [k3 : StE δ i (some (.sh, .int (g u v))) δ2] (hs : Side s) (h : Q .nx δ2) : (mAug i g m δ).P Q X := by
  have : mAug i g m δ = .ok .nx δ2 := aug_ok (var_ok k1.h) (k2.h hs) (by unfold gSt; rw [if_pos k3.h.1, k3.h.2])
  rw [this]; exact h
theorem w_raise {cl : String} {flds : List Str} {n : M (List (Ty × D))} {ts : List Ty} {ds : List D} [k : EvA n δ ts ds s] (hs : Side s) (hl : ds.length = flds.length) (h : X cl ((flds.zip ds).reverse)) : (mRaise cl flds n δ).P Q X := by
  obtain ⟨as, e, _, rfl⟩ := k.h hs
  refine P_bind' ?_
  rw [e]
  show Res.P (if as.length = flds.length then _ else _) _ _
  rw [if_pos (by simpa using hl)]
  exact h
/-! ### tests with deeds -/
theorem w_blP {K : Bool → Env → Prop} (h : (m δ).P (fun z δ1 => ∃ v, z.2 = .bl v ∧ K v δ1) X) : (mBl m δ).P K X := by
  refine P_bind' (h.imp (fun z δ' _ ⟨v, e, q⟩ => ?_) fun _ _ z => z)
  rw [e]; exact q
theorem w_truP {K : Bool → Env → Prop} (h : (m δ).P (fun z δ1 => ∃ v, truD z.2 = some v ∧ K v δ1) X) : (mTru m δ).P K X := by
  refine P_bind' (h.imp (fun z δ' _ ⟨v, e, q⟩ => ?_) fun _ _ z => z)
  rw [e]; exact q
theorem w_notP {K : Bool → Env → Prop} (h : (c δ).P (fun v δ1 => K (!v) δ1) X) : (mNot c δ).P K X := P_bind' h
theorem w_andP {K : Bool → Env → Prop} {e : M Bool} (h : (c δ).P (fun v δ1 => (v = true → (e δ1).P K X) ∧ (v = false → K false δ1)) X) : (mAnd c e δ).P K X := by
  refine P_bind' (h.imp (fun v δ' _ q => ?_) fun _ _ z => z)
  cases v
  · exact q.2 rfl
  · exact q.1 rfl
theorem w_orP {K : Bool → Env → Prop} {e : M Bool} (h : (c δ).P (fun v δ1 => (v = true → K true δ1) ∧ (v = false → (e δ1).P K X)) X) : (mOr c e δ).P K X := by
  refine P_bind' (h.imp (fun v δ' _ q => ?_) fun _ _ z => z)
  cases v
  · exact q.2 rfl
  · exact q.1 rfl
theorem w_evT {v : Bool} {K : Bool → Env → Prop} [k : EvT c δ v s] (hs : Side s) (h : K v δ) : (c δ).P K X := by rw [k.h hs]; exact h
theorem w_op2P {g : D → D → Option D} {K : Ty × D → Env → Prop} (h : (a δ).P (fun x δ1 => (b δ1).P (fun y δ2 => ∃ d, g x.2 y.2 = some d ∧ K (.sh, d) δ2) X) X) : (mOp2 g (m2 a b) δ).P K X := by
  refine P_bind' (P_bind' (h.imp (fun x δ1 _ q => P_bind' (q.imp (fun y δ2 _ q => ?_) fun _ _ z => z)) fun _ _ z => z))
  obtain ⟨d, e, q⟩ := q
  show Res.P ((match g x.2 y.2 with | some d => mPure (Ty.sh, d) | none => mBad) δ2) _ _
  rw [e]; exact q
/-! ### loops -/
def loopK (I : Env → Prop) (Q : FK) : FK
  | .nx, δ => I δ
  | .ct, δ => I δ
  | .bk, δ => Q .nx δ
  | .rt t d, δ => Q (.rt t d) δ
theorem l_nx {I : Env → Prop} (h : I δ) : loopK I Q .nx δ := h
theorem l_ct {I : Env → Prop} (h : I δ) : loopK I Q .ct δ := h
theorem l_bk {I : Env → Prop} (h : Q .nx δ) : loopK I Q .bk δ := h
theorem l_rt {I : Env → Prop} (h : Q (.rt t d) δ) : loopK I Q (.rt t d) δ := h
theorem w_loopA {en : α → D} (xs : List α) (I : List α → Env → Prop) : ∀ (post pre : List α) (δ : Env), xs = pre ++ post → I pre δ →
    (∀ pre x post δ, xs = pre ++ x :: post → I pre δ → ∃ δ1, f (.sh, en x) δ = some δ1 ∧ (A δ1).P (loopK (I (pre ++ [x])) Q) X) → (∀ δ, I xs δ → Q .nx δ) → (mLoop f A (post.map en) δ).P Q X
  | [], pre, δ, e, h, _, he => by
    rw [List.append_nil] at e
    subst e
    exact he δ h
  | x :: post, pre, δ, e, h, hs, he => by
    obtain ⟨δ1, e1, h1⟩ := hs pre x post δ e h
    rw [List.map_cons, mLoop]
    refine P_bind' ?_
    unfold mTo
    rw [e1]
    refine P_bind' (h1.imp (fun fl δ2 _ q => ?_) fun _ _ z => z)
    cases fl with
    | nx => exact w_loopA xs I post (pre ++ [x]) δ2 (by simp [e]) q hs he
    | ct => exact w_loopA xs I post (pre ++ [x]) δ2 (by simp [e]) q hs he
    | bk => exact q
    | rt t d => exact q
/-- a for: I of what is behind -/
theorem w_loop {en : α → D} {xs : List α} (I : List α → Env → Prop) (h0 : I [] δ) (hs : ∀ pre x post δ, xs = pre ++ x :: post → I pre δ → ∃ δ1, f (.sh, en x) δ = some δ1 ∧ (A δ1).P (loopK (I (pre ++ [x])) Q) X)
    (he : ∀ δ, I xs δ → Q .nx δ) : (mLoop f A (xs.map en) δ).P Q X := w_loopA xs I xs [] δ rfl h0 hs he
theorem w_loop0 (h : Q .nx δ) : (mLoop f A [] δ).P Q X := h
theorem w_loop1 {ds : List D} (h : ∃ δ1, f (.sh, d) δ = some δ1 ∧ (A δ1).P (loopK (fun δ2 => (mLoop f A ds δ2).P Q X) Q) X) : (mLoop f A (d :: ds) δ).P Q X := by
  obtain ⟨δ1, e1, h1⟩ := h
  rw [mLoop]
  refine P_bind' ?_
  unfold mTo
  rw [e1]
  refine P_bind' (h1.imp (fun fl δ2 _ q => ?_) fun _ _ z => z)
  cases fl <;> exact q
def whK (I : Nat → Env → Prop) (Q : FK) (n : Nat) : FK
  | .nx, δ => ∃ k, k < n ∧ I k δ
  | .ct, δ => ∃ k, k < n ∧ I k δ
  | .bk, δ => Q .nx δ
  | .rt t d, δ => Q (.rt t d) δ
theorem h_nx {I : Nat → Env → Prop} {n : Nat} (k : Nat) (hk : k < n) (h : I k δ) : whK I Q n .nx δ := ⟨k, hk, h⟩
theorem h_ct {I : Nat → Env → Prop} {n : Nat} (k : Nat) (hk : k < n) (h : I k δ) : whK I Q n .ct δ := ⟨k, hk, h⟩
theorem h_bk {I : Nat → Env → Prop} {n : Nat} (h : Q .nx δ) : whK I Q n .bk δ := h
theorem h_rt {I : Nat → Env → Prop} {n : Nat} (h : Q (.rt t d) δ) : whK I Q n (.rt t d) δ := h
theorem whileN_P (I : Nat → Env → Prop) (hs : ∀ n δ, I n δ → (c δ).P (fun v δ1 => (v = true → (A δ1).P (whK I Q n) X) ∧ (v = false → Q .nx δ1)) X) : ∀ (n : Nat) (δ : Env), I n δ → (mWhileN c A (n + 1) δ).P Q X := by
  intro n
  induction n using Nat.strongRecOn with
  | ind n ih =>
    intro δ h
    rw [mWhileN]
    refine P_bind' ((hs n δ h).imp (fun v δ1 _ q => ?_) fun _ _ z => z)
    cases v with
    | false => exact q.2 rfl
    | true =>
      have more : ∀ k δ2, k < n → I k δ2 → (mWhileN c A n δ2).P Q X := fun k δ2 hk hI => by
        have := ih k hk δ2 hI
        have nb : mWhileN c A (k + 1) δ2 ≠ .bad := fun e => by rw [e] at this; exact this
        have e := whileN_le (j := n - (k + 1)) nb
        rw [show k + 1 + (n - (k + 1)) = n by omega] at e
        rw [e]; exact this
      refine P_bind' ((q.1 rfl).imp (fun fl δ2 _ q => ?_) fun _ _ z => z)
      cases fl with
      | nx => obtain ⟨k, hk, hI⟩ := q; exact more k δ2 hk hI
      | ct => obtain ⟨k, hk, hI⟩ := q; exact more k δ2 hk hI
      | bk => exact q
      | rt t d => exact q
/-- a while: I n: at most n turns are left -/
theorem w_while (I : Nat → Env → Prop) (n : Nat) (h0 : I n δ) (hs : ∀ n δ, I n δ → (c δ).P (fun v δ1 => (v = true → (A δ1).P (whK I Q n) X) ∧ (v = false → Q .nx δ1)) X) : (mWhile c A δ).P Q X := by
  have h := whileN_P I hs n δ h0
  have nb : mWhileN c A (n + 1) δ ≠ .bad := fun e => by rw [e] at h; exact h
  rw [while_of nb]
  exact h
theorem w_wtest {v : Bool} {K1 K2 : Env → Prop} [k : EvT c δ v s] (hs : Side s) (h1 : OnT v (K1 δ)) (h2 : OnF v (K2 δ)) : (c δ).P (fun v δ1 => (v = true → K1 δ1) ∧ (v = false → K2 δ1)) X := by
  rw [k.h hs]; exact ⟨h1, h2⟩
/-! ### defs -/
def fnK (wr : List Nat) (k : Nat) (Φ : Ty × D → Env → Prop) : FK
  | .nx, δ => Φ (.sh, .non) (mask wr 0 (δ.take k))
  | .rt t d, δ => Φ (t, d) (mask wr 0 (δ.take k))
  | _, _ => False
theorem w_fn {N k : Nat} {wr : List Nat} {as : List (Ty × D)} {Φ : Ty × D → Env → Prop} {δ0 : Env} (hl : as.length = k) (e0 : as.map some ++ List.replicate (N - k) none = δ0) (h : (A δ0).P (fnK wr k Φ) X) : (mFn N k wr A as).P Φ X := by
  unfold mFn
  rw [if_pos hl, e0]
  cases e : A δ0 with
  | ok fl δ' =>
    rw [e] at h
    cases fl with
    | nx => exact h
    | rt t d => exact h
    | bk => exact h.elim
    | ct => exact h.elim
  | ex c fs => rw [e] at h; exact h
  | bad => rw [e] at h; exact h.elim
theorem f_rt {wr : List Nat} {k : Nat} {Φ : Ty × D → Env → Prop} (h : Φ (t, d) (mask wr 0 (δ.take k))) : fnK wr k Φ (.rt t d) δ := h
theorem f_nx {wr : List Nat} {k : Nat} {Φ : Ty × D → Env → Prop} (h : Φ (.sh, .non) (mask wr 0 (δ.take k))) : fnK wr k Φ .nx δ := h
def retK (t : Ty) (d : D) : FK
  | .rt t' d', _ => t' = t ∧ d' = d
  | .nx, _ => Ty.sh = t ∧ D.non = d
  | _, _ => False
theorem r_rt {d' : D} (h : d' = d) : retK t d (.rt t d') δ := ⟨rfl, h⟩
theorem r_nx : retK .sh .non .nx δ := ⟨rfl, rfl⟩
theorem w_fnR {N k : Nat} {wr : List Nat} {as : List (Ty × D)} {δ0 : Env} (hl : as.length = k) (e0 : as.map some ++ List.replicate (N - k) none = δ0) (h : (A δ0).P (retK t d) noX) : ∃ os, mFn N k wr A as = .ok (t, d) os := by
  have := w_fn (Φ := fun z _ => z = (t, d)) (wr := wr) (X := noX) hl e0 (h.imp (fun fl δ _ q => by
    cases fl with
    | nx => obtain ⟨rfl, rfl⟩ := q; rfl
    | rt t' d' => obtain ⟨rfl, rfl⟩ := q; rfl
    | bk => exact q
    | ct => exact q) fun _ _ z => z)
  cases e : mFn N k wr A as with
  | ok z os => rw [e] at this; have : z = (t, d) := this; subst this; exact ⟨os, rfl⟩
  | ex c fs => rw [e] at this; exact this.elim
  | bad => rw [e] at this; exact this.elim
/-! ### calls -/
theorem w_call {g : FM} {n : M (List Arg)} {as : List (Ty × D)} {K : Ty × D → Env → Prop} [k : EvB n δ as s] (hs : Side s) (h : (g as).P (fun z _ => K z δ) X) : (mCall g n [] δ).P K X := by
  refine P_bind' ?_
  rw [k.h hs]
  show (mApp g _ _ δ).P K X
  unfold mApp
  rw [cGet_vals]
  dsimp only
  rw [List.map_nil, List.append_nil]
  cases e : g as with
  | ok z os => rw [e] at h; dsimp only; rw [cPut_vals]; exact h
  | ex c fs => rw [e] at h; exact h
  | bad => rw [e] at h; exact h
/-- the first argument lent -/
theorem w_callR {g : FM} {n : M (List Arg)} {as : List (Ty × D)} {K : Ty × D → Env → Prop} [k1 : Slot δ i t d] [k : EvB n (δ.set i none) as s] [k0 : EvB n δ as s] [ks : StE δ i none δ1] (hs : Side s)
    (h : (g ((t, d) :: as)).P (fun z os => ∃ o os', os = some o :: os' ∧ K z (δ.set i (some o))) X) : (mCall g (bRef i n) [] δ).P K X := by
  refine P_bind' (P_bind' ?_)
  unfold mGet
  rw [k1.h]
  show ((mBind n fun y => mPure (.ref i :: y)) δ).P _ X
  refine P_bind' ?_
  rw [k0.h hs]
  show (mApp g _ _ δ).P K X
  unfold mApp cGet
  rw [k1.h]
  dsimp only
  rw [cGet_vals]
  dsimp only
  rw [List.map_nil, List.append_nil]
  cases e : g ((t, d) :: as) with
  | ok z os =>
    rw [e] at h
    obtain ⟨o, os', e2, q⟩ := h
    subst e2
    have hi : i < δ.length := ks.h.1
    simp [cPut, hi, cPut_vals, List.set_set]
    exact q
  | ex c fs => rw [e] at h; exact h
  | bad => rw [e] at h; exact h
end
end VS

end

section
set_option Elab.async false
set_option linter.all false
set_option maxRecDepth 100000
set_option maxHeartbeats 2000000
/-! VX4: draws; expressions with deeds. -/
namespace VS
open PySem L2
structure Dr where
  gs : List Int
  s : Int
  c : Int
def dS (q : Dr) : D := dD q.gs q.s q.c
/-- a def that draws: what comes out is e b, with P b; d is a draws' state again -/
class Drw (f : FM) (as : List (Ty × D)) {β : outParam Type} (t : outParam Ty) (e : outParam (β → D)) (P : outParam (β → Prop)) (s : outParam Prop) : Prop where
  h : s → ∀ q, (f ((tyD, dS q) :: as)).P (fun z os => ∃ b q' os', P b ∧ z = (t, e b) ∧ os = some (tyD, dS q') :: os') noX
theorem draw_range (gs : List Int) (s c many : Int) (h : 1 ≤ many) : 0 ≤ (drawP gs s c many).1 ∧ (drawP gs s c many).1 < many := by
  cases gs with
  | nil => exact ⟨Int.fmod_nonneg_of_pos _ (by omega), Int.fmod_lt_of_pos _ (by omega)⟩
  | cons g r => exact ⟨Int.fmod_nonneg_of_pos _ (by omega), Int.fmod_lt_of_pos _ (by omega)⟩
instance {many : Int} : Drw fDraw [(.sh, .int many)] .sh (fun n : Nat => D.int (n : Int)) (fun n => (n : Int) < many) (1 ≤ many ∧ many < 1073741824) := ⟨fun ⟨h1, h2⟩ q => by
  obtain ⟨a1, a2⟩ := draw_range q.gs q.s q.c many h1
  have : fDraw [(tyD, dS q), (.sh, .int many)] = .ok (.sh, .int (drawP q.gs q.s q.c many).1) [some (tyD, dD (drawP q.gs q.s q.c many).2.1 (drawP q.gs q.s q.c many).2.2.1 (drawP q.gs q.s q.c many).2.2.2), some (.sh, .int many)] := by
    unfold fDraw dS dD
    dsimp only
    rw [intsD_map]
    dsimp only
    rw [if_pos ⟨h1, h2⟩]
  rw [this]
  refine ⟨(drawP q.gs q.s q.c many).1.toNat, ⟨_, _, _⟩, _, by omega, ?_, rfl⟩
  rw [show (((drawP q.gs q.s q.c many).1.toNat : Nat) : Int) = (drawP q.gs q.s q.c many).1 by omega]⟩
section
variable {α β : Type} {δ δ1 δ2 : Env} {δ1' : Dr → Env} {a b c m : M (Ty × D)} {A B : M Fl} {Q : FK} {X X' : XP} {t t1 t2 : Ty} {d x y : D} {s s1 s2 : Prop} {i : Nat} {f : Ty × D → Env → Option Env}
/-- a value in its two parts -/
def cur (k : Ty → D → Env → Prop) : Ty × D → Env → Prop := fun z => k z.1 z.2
theorem cur_mk {k : Ty → D → Env → Prop} (h : k t d δ) : cur k (t, d) δ := h
theorem cur_of {K : Ty × D → Env → Prop} (h : (m δ).P (cur fun t d => K (t, d)) X) : (m δ).P K X := h
def AllD (P : β → Prop) (k : β → Dr → Prop) : Prop := ∀ b q', P b → k b q'
theorem alld_mk {P : β → Prop} {k : β → Dr → Prop} (h : ∀ b q', P b → k b q') : AllD P k := h
theorem len_and {n : Nat} {q : Prop} (h : Side (n ≤ 1000)) (h2 : q) : n ≤ 1000 ∧ q := ⟨h, h2⟩
theorem and_tf {v : Bool} {p q : Prop} (h : OnT v p) (h2 : OnF v q) : OnT v p ∧ OnF v q := ⟨h, h2⟩
/-! ### a call that draws -/
theorem w_draw {g : FM} {n : M (List Arg)} {as : List (Ty × D)} {e : β → D} {P : β → Prop} {K : Ty → D → Env → Prop} {q : Dr} [k1 : Slot δ i tyD (dS q)] [k0 : EvB n δ as s1] [kd : Drw g as t e P s2] (h1 : Side s1) (h2 : Side s2)
    [ks : ∀ q', StE δ i (some (tyD, dS q')) (δ1' q')] (h : AllD P fun b q' => K t (e b) (δ1' q')) : (mCall g (bRef i n) [] δ).P (cur K) X := by
  refine P_bind' (P_bind' ?_)
  unfold mGet
  rw [k1.h]
  show ((mBind n fun y => mPure (.ref i :: y)) δ).P _ X
  refine P_bind' ?_
  rw [k0.h h1]
  show (mApp g _ _ δ).P _ X
  have hg := kd.h h2 q
  unfold mApp cGet
  rw [k1.h]
  dsimp only
  rw [cGet_vals]
  dsimp only
  rw [List.map_nil, List.append_nil]
  cases e1 : g ((tyD, dS q) :: as) with
  | ok z os =>
    rw [e1] at hg
    obtain ⟨b, q', os', hb, rfl, rfl⟩ := hg
    have hi : i < δ.length := (ks q').h.1
    simp [cPut, hi, cPut_vals, List.set_set]
    have : K t (e b) (δ1' q') := h b q' hb
    rw [← (ks q').h.2] at this
    exact this
  | ex c fs => rw [e1] at hg; exact hg.elim
  | bad => rw [e1] at hg; exact hg.elim
/-- arguments with deeds: K of the arguments and the slots behind -/
def bK (g : FM) (K : Ty × D → Env → Prop) (X : XP) (pre : List Arg → List Arg) : List Arg → Env → Prop := fun as δ => (mApp g (pre as) [] δ).P K X
theorem w_callP {g : FM} {n : M (List Arg)} {K : Ty × D → Env → Prop} (h : (n δ).P (bK g K X fun r => r) X) : (mCall g n [] δ).P K X := P_bind' h
theorem w_bRef {g : FM} {n : M (List Arg)} {K : Ty × D → Env → Prop} {pre : List Arg → List Arg} [k1 : Slot δ i t d] (h : (n δ).P (bK g K X fun r => pre (.ref i :: r)) X) : (bRef i n δ).P (bK g K X pre) X := by
  refine P_bind' ?_
  unfold mGet
  rw [k1.h]
  exact P_bind' h
theorem w_bVal {g : FM} {n : M (List Arg)} {K : Ty × D → Env → Prop} {pre : List Arg → List Arg} (h : (m δ).P (cur fun t d δ1 => (n δ1).P (bK g K X fun r => pre (.val (t, d) :: r)) X) X) : (bVal m n δ).P (bK g K X pre) X := by
  refine P_bind' (h.imp (fun z δ' _ q => ?_) fun _ _ z => z)
  exact P_bind' q
theorem w_bNil {g : FM} {K : Ty × D → Env → Prop} {pre : List Arg → List Arg} (h : (mApp g (pre []) [] δ).P K X) : (bNil δ).P (bK g K X pre) X := h
class Vals (as : List Arg) (vs : outParam (List (Ty × D))) : Prop where
  h : as = vs.map Arg.val
instance : Vals [] [] := ⟨rfl⟩
instance {z : Ty × D} {as : List Arg} {vs : List (Ty × D)} [k : Vals as vs] : Vals (.val z :: as) (z :: vs) := ⟨by simp [k.h]⟩
/-- .. of a def that draws -/
theorem w_appD {g : FM} {n : List Arg} {as : List (Ty × D)} {e : β → D} {P : β → Prop} {K : Ty → D → Env → Prop} {q : Dr} [k1 : Slot δ i tyD (dS q)] [k0 : Vals n as] [kd : Drw g as t e P s2] (h2 : Side s2)
    [ks : ∀ q', StE δ i (some (tyD, dS q')) (δ1' q')] (h : AllD P fun b q' => K t (e b) (δ1' q')) : (mApp g (.ref i :: n) [] δ).P (cur K) X := by
  have hg := kd.h h2 q
  rw [k0.h]
  unfold mApp cGet
  rw [k1.h]
  dsimp only
  rw [cGet_vals]
  dsimp only
  rw [List.map_nil, List.append_nil]
  cases e1 : g ((tyD, dS q) :: as) with
  | ok z os =>
    rw [e1] at hg
    obtain ⟨b, q', os', hb, rfl, rfl⟩ := hg
    have hi : i < δ.length := (ks q').h.1
    simp [cPut, hi, cPut_vals, List.set_set]
    have : K t (e b) (δ1' q') := h b q' hb
    rw [← (ks q').h.2] at this
    exact this
  | ex c fs => rw [e1] at hg; exact hg.elim
  | bad => rw [e1] at hg; exact hg.elim
theorem w_appV {g : FM} {n : List Arg} {as : List (Ty × D)} {K : Ty → D → Env → Prop} [k0 : Vals n as] [kd : Fn g as t d s] (h2 : Side s) (h : K t d δ) : (mApp g n [] δ).P (cur K) X := by
  obtain ⟨os, e⟩ := kd.h h2
  rw [k0.h]
  unfold mApp
  rw [cGet_vals]
  dsimp only
  rw [List.map_nil, List.append_nil, e]
  dsimp only
  rw [cPut_vals]
  exact h
/-! ### expressions with deeds -/
theorem x_op2 {g : D → D → Option D} {K : Ty → D → Env → Prop} (h : (a δ).P (cur fun t1 x δ1 => (b δ1).P (cur fun t2 y δ2 => ∃ d, g x y = some d ∧ K .sh d δ2) X) X) : (mOp2 g (m2 a b) δ).P (cur K) X := w_op2P h
theorem x_op2f {g : D → D → Option D} [k : Op2 g x y d s] {K : D → Prop} (hs : Side s) (h : K d) : ∃ d, g x y = some d ∧ K d := ⟨_, k.h hs, h⟩
theorem x_pl {K : Ty → D → Env → Prop} (h : (a δ).P (cur fun t1 x δ1 => (b δ1).P (cur fun t2 y δ2 => ∃ t d, fPl (t1, x) (t2, y) = some (t, d) ∧ K t d δ2) X) X) : (mPl (m2 a b) δ).P (cur K) X := by
  refine P_bind' (P_bind' (h.imp (fun x δ1 _ q => P_bind' (q.imp (fun y δ2 _ q => ?_) fun _ _ z => z)) fun _ _ z => z))
  obtain ⟨t, d, e, q⟩ := q
  show (mOf (fPl (x.1, x.2) (y.1, y.2)) δ2).P _ _
  rw [e]; exact q
theorem x_plf [k : OpP t1 x t2 y t d s] {K : Ty → D → Prop} (hs : Side s) (h : K t d) : ∃ t d, fPl (t1, x) (t2, y) = some (t, d) ∧ K t d := ⟨_, _, k.h hs, h⟩
theorem x_ix {K : Ty → D → Env → Prop} (h : (a δ).P (cur fun t1 x δ1 => (b δ1).P (cur fun t2 y δ2 => ∃ d, fIx (t1, x) y = some (.sh, d) ∧ K .sh d δ2) X) X) : (mIx (m2 a b) δ).P (cur K) X := by
  refine P_bind' (P_bind' (h.imp (fun x δ1 _ q => P_bind' (q.imp (fun y δ2 _ q => ?_) fun _ _ z => z)) fun _ _ z => z))
  obtain ⟨d, e, q⟩ := q
  show Res.P ((match fIx (x.1, x.2) y.2 with | some (.sh, d) => mPure (Ty.sh, d) | _ => mBad) δ2) _ _
  rw [e]; exact q
theorem x_ixf [k : Ix t1 x y .sh d s] {K : D → Prop} (hs : Side s) (h : K d) : ∃ d, fIx (t1, x) y = some (.sh, d) ∧ K d := ⟨_, k.h hs, h⟩
/-- own name ahead of a draw -/
theorem x_ixn {K : Ty → D → Env → Prop} [k1 : Slot δ i t d] (h : (b δ).P (cur fun t2 y δ2 => ∃ t1 x d, δ2[i]? = some (some (t1, x)) ∧ fIx (t1, x) y = some (.sh, d) ∧ K .sh d δ2) X) : (mIx (m2n i b) δ).P (cur K) X := by
  refine P_bind' (P_bind' ?_)
  unfold mGet
  rw [k1.h]
  refine P_bind' (h.imp (fun y δ2 _ q => ?_) fun _ _ z => z)
  obtain ⟨t1, x, d, e0, e, q⟩ := q
  refine P_bind' ?_
  rw [e0]
  show Res.P ((match fIx (t1, x) y.2 with | some (.sh, d) => mPure (Ty.sh, d) | _ => mBad) δ2) _ _
  rw [e]; exact q
theorem x_ixnf [k1 : Slot δ i t1 x] [k : Ix t1 x y .sh d s] {K : D → Prop} (hs : Side s) (h : K d) : ∃ t1 x d, δ[i]? = some (some (t1, x)) ∧ fIx (t1, x) y = some (.sh, d) ∧ K d := ⟨_, _, _, k1.h, k.h hs, h⟩
theorem x_fz {K : Ty → D → Env → Prop} (h : (m δ).P (cur fun _ d => K .sh d) X) : (mFz m δ).P (cur K) X := w_fzP h
theorem x_b1 {g : D → Option D} {K : Ty → D → Env → Prop} (h : (m δ).P (cur fun _ x δ1 => ∃ d, g x = some d ∧ K .sh d δ1) X) : (mB1 g m δ).P (cur K) X := by
  refine P_bind' (h.imp (fun z δ' _ ⟨d, e, q⟩ => ?_) fun _ _ z => z)
  rw [e]; exact q
theorem x_b1f {g : D → Option D} [k : Op1 g x d s] {K : D → Prop} (hs : Side s) (h : K d) : ∃ d, g x = some d ∧ K d := ⟨_, k.h hs, h⟩
theorem x_if {v : M Bool} {K : Ty → D → Env → Prop} (h : (v δ).P (fun v δ1 => OnT v ((a δ1).P (cur K) X) ∧ OnF v ((b δ1).P (cur K) X)) X) : (mIf v a b δ).P (cur K) X := by
  refine P_bind' (h.imp (fun v δ' _ z => ?_) fun _ _ z => z)
  cases v
  · exact z.2 rfl
  · exact z.1 rfl
theorem x_bl {K : Bool → Env → Prop} (h : (m δ).P (cur fun _ x δ1 => ∃ v, x = .bl v ∧ K v δ1) X) : (mBl m δ).P K X := w_blP h
theorem x_blf {v : Bool} {K : Bool → Prop} (h : K v) : ∃ u, D.bl v = .bl u ∧ K u := ⟨v, rfl, h⟩
theorem x_tru {K : Bool → Env → Prop} (h : (m δ).P (cur fun _ x δ1 => ∃ v, truD x = some v ∧ K v δ1) X) : (mTru m δ).P K X := w_truP h
theorem x_truf {v : Bool} [k : Tru x v s] {K : Bool → Prop} (hs : Side s) (h : K v) : ∃ u, truD x = some u ∧ K u := ⟨v, k.h hs, h⟩
theorem x_not {c : M Bool} {K : Bool → Env → Prop} (h : (c δ).P (fun v δ1 => K (!v) δ1) X) : (mNot c δ).P K X := P_bind' h
theorem x_and {c e : M Bool} {K : Bool → Env → Prop} (h : (c δ).P (fun v δ1 => OnT v ((e δ1).P K X) ∧ OnF v (K false δ1)) X) : (mAnd c e δ).P K X := w_andP h
theorem x_or {c e : M Bool} {K : Bool → Env → Prop} (h : (c δ).P (fun v δ1 => OnT v (K true δ1) ∧ OnF v ((e δ1).P K X)) X) : (mOr c e δ).P K X := w_orP h
theorem x_ifS {c : M Bool} (h : (c δ).P (fun v δ1 => OnT v ((A δ1).P Q X) ∧ OnF v ((B δ1).P Q X)) X) : (mIfS c A B δ).P Q X := w_ifP h
theorem x_asg (h : (m δ).P (cur fun t d δ1 => ∃ δ2, f (t, d) δ1 = some δ2 ∧ Q .nx δ2) X) : (mAsg f m δ).P Q X := w_asgP h
theorem x_ret (h : (m δ).P (cur fun t d δ1 => Q (.rt t d) δ1) X) : (mRet m δ).P Q X := w_retP h
theorem x_drop (h : (m δ).P (cur fun _ _ δ1 => Q .nx δ1) X) : (mDrop m δ).P Q X := w_dropP h
theorem x_ev [k : EvE m δ t d δ1 s] {K : Ty → D → Env → Prop} (hs : Side s) (h : K t d δ1) : (m δ).P (cur K) X := w_ev hs h
/-- a row of values with deeds -/
def aK (K : List Ty → List D → Env → Prop) (ts : List Ty → List Ty) (ds : List D → List D) : List (Ty × D) → Env → Prop := fun as δ => K (ts (as.map (·.1))) (ds (as.map (·.2))) δ
theorem a_nil {K : List Ty → List D → Env → Prop} {ts : List Ty → List Ty} {ds : List D → List D} (h : K (ts []) (ds []) δ) : (mNil δ).P (aK K ts ds) X := h
theorem a_cons {n : M (List (Ty × D))} {K : List Ty → List D → Env → Prop} {ts : List Ty → List Ty} {ds : List D → List D} (h : (m δ).P (cur fun t d δ1 => (n δ1).P (aK K (fun r => ts (t :: r)) fun r => ds (d :: r)) X) X) : (mCons m n δ).P (aK K ts ds) X := by
  refine P_bind' (h.imp (fun z δ' _ q => ?_) fun _ _ z => z)
  exact P_bind' q
theorem x_tup {n : M (List (Ty × D))} {K : Ty → D → Env → Prop} (h : (n δ).P (aK (fun _ ds δ1 => ds.length ≤ 1000 ∧ K .sh (.tup ds) δ1) (fun r => r) fun r => r) X) : (mTup n δ).P (cur K) X := by
  refine P_bind' (h.imp (fun as δ' _ q => ?_) fun _ _ z => z)
  obtain ⟨hl, q⟩ := q
  rw [if_pos (by simpa using hl)]
  exact q
theorem x_lstZ {n : M (List (Ty × D))} {K : Ty → D → Env → Prop} (h : (n δ).P (aK (fun _ ds δ1 => ds.length ≤ 1000 ∧ K (.lst .sh) (.lst ds) δ1) (fun r => r) fun r => r) X) : (mLstZ n δ).P (cur K) X := by
  refine P_bind' (h.imp (fun as δ' _ q => ?_) fun _ _ z => z)
  obtain ⟨hl, q⟩ := q
  rw [if_pos (by simpa using hl)]
  exact q
/-- [e for x in xs], with deeds -/
def mLcR (vs : List Nat) (f : Ty × D → Env → Option Env) (c : M Bool) (e : M (Ty × D)) (ds : List D) : M (Ty × D) := fun δ1 => match mLcLoop .sh vs f c e ds [] (wipeE vs δ1) with
  | .ok acc δ2 => .ok (.lst .sh, .lst acc) (backE δ1 vs δ2)
  | _ => .bad
theorem x_lc {vs : List Nat} {mi : M (List D)} {c : M Bool} {e : M (Ty × D)} {K : Ty × D → Env → Prop} (h : (mi δ).P (fun ds δ1 => (mLcR vs f c e ds δ1).P K X) X) : (mLc .sh vs mi f c e δ).P K X := P_bind' h
theorem x_evI {mi : M (List D)} {ds : List D} {K : List D → Env → Prop} [k : EvI mi δ ds s] (hs : Side s) (h : K ds δ) : (mi δ).P K X := by rw [k.h hs]; exact h
theorem x_rng1 {K : List D → Env → Prop} (h : (m δ).P (cur fun _ d δ1 => ∃ j : Int, d = .int j ∧ (j < 2 ^ 62 ∧ -(2 ^ 62) ≤ j) ∧ K ((List.range j.toNat).map fun i : Nat => D.int i) δ1) X) : (mRng1 m δ).P K X := by
  refine P_bind' (h.imp (fun z δ' _ q => ?_) fun _ _ z => z)
  obtain ⟨j, e, ⟨h1, h2⟩, q⟩ := q
  rw [e]
  dsimp only
  rw [if_pos ⟨by omega, by omega⟩]
  have : rngD 0 j.toNat = (List.range j.toNat).map fun i : Nat => D.int i := by simp [rngD]
  rw [this]; exact q
theorem ex_int {j : Int} {A B : Int → Prop} (hs : Side (A j)) (h : B j) : ∃ i : Int, D.int j = .int i ∧ A i ∧ B i := ⟨j, rfl, hs, h⟩
theorem x_ixk {K : Ty → D → Env → Prop} (h : (a δ).P (cur fun t1 x δ1 => (b δ1).P (cur fun t2 y δ2 => ∃ t d, fIx (t1, x) y = some (t, d) ∧ K t d δ2) X) X) : (mIxK (m2 a b) δ).P (cur K) X := by
  refine P_bind' (P_bind' (h.imp (fun x δ1 _ q => P_bind' (q.imp (fun y δ2 _ q => ?_) fun _ _ z => z)) fun _ _ z => z))
  obtain ⟨t, d, e, q⟩ := q
  show (mOf (fIx (x.1, x.2) y.2) δ2).P _ _
  rw [e]; exact q
theorem x_ixkf [k : Ix t1 x y t d s] {K : Ty → D → Prop} (hs : Side s) (h : K t d) : ∃ t d, fIx (t1, x) y = some (t, d) ∧ K t d := ⟨_, _, k.h hs, h⟩
theorem x_ixkn {K : Ty → D → Env → Prop} [k1 : Slot δ i t d] (h : (b δ).P (cur fun t2 y δ2 => ∃ t1 x t d, δ2[i]? = some (some (t1, x)) ∧ fIx (t1, x) y = some (t, d) ∧ K t d δ2) X) : (mIxK (m2n i b) δ).P (cur K) X := by
  refine P_bind' (P_bind' ?_)
  unfold mGet
  rw [k1.h]
  refine P_bind' (h.imp (fun y δ2 _ q => ?_) fun _ _ z => z)
  obtain ⟨t1, x, t, d, e0, e, q⟩ := q
  refine P_bind' ?_
  rw [e0]
  show (mOf (fIx (t1, x) y.2) δ2).P _ _
  rw [e]; exact q
theorem x_ixknf [k1 : Slot δ i t1 x] [k : Ix t1 x y t d s] {K : Ty → D → Prop} (hs : Side s) (h : K t d) : ∃ t1 x t d, δ[i]? = some (some (t1, x)) ∧ fIx (t1, x) y = some (t, d) ∧ K t d := ⟨_, _, _, _, k1.h, k.h hs, h⟩
theorem x_sl {lo hi : M (Option Int)} {l h : Option Int} {K : Ty → D → Env → Prop} [k2 : ∀ δ, EvO lo δ l s1] [k3 : ∀ δ, EvO hi δ h s2] (hs1 : Side s1) (hs2 : Side s2) (hm : (m δ).P (cur fun t x δ1 => ∃ t' d, fSl (t, x) l h = some (t', d) ∧ K t' d δ1) X) : (mSl m lo hi δ).P (cur K) X := by
  refine P_bind' (hm.imp (fun z δ1 _ q => ?_) fun _ _ z => z)
  obtain ⟨t', d, e, q⟩ := q
  refine P_bind' ?_
  rw [(k2 δ1).h hs1]
  refine P_bind' ?_
  rw [(k3 δ1).h hs2]
  show (mOf (fSl (z.1, z.2) l h) δ1).P _ _
  rw [e]; exact q
theorem x_slf {l h : Option Int} [k : Sl t1 x l h t d s] {K : Ty → D → Prop} (hs : Side s) (h2 : K t d) : ∃ t d, fSl (t1, x) l h = some (t, d) ∧ K t d := ⟨_, _, k.h hs, h2⟩
/-- .. whose slots stand as before, but for I; R of each item -/
theorem x_lcd {γ : Type} {vs : List Nat} {e : M (Ty × D)} {xs : List α} {en : α → D} (I : γ → Env → Prop) (R : D → Prop) {K : Ty → D → Env → Prop} (hw : ∃ g, I g (wipeE vs δ))
    (h : ∀ x ∈ xs, ∀ g δ, I g δ → ∃ δ1, f (.sh, en x) δ = some δ1 ∧ (e δ1).P (cur fun t d δ2 => t = .sh ∧ R d ∧ ∃ g', I g' (wipeE vs δ2)) noX) (hl : xs.length < sizeLine)
    (hk : ∀ ys g δ', ys.length = xs.length → (∀ y ∈ ys, R y) → I g δ' → K (.lst .sh) (.lst ys) (backE δ vs δ')) : (mLcR vs f mYes e (xs.map en) δ).P (cur K) X := by
  obtain ⟨ys, δ2, e1, ⟨g, h2⟩, l2, r2⟩ := lc_inv (t := .sh) (vs := vs) (f := f) (c := mYes) (e := e) (fun δ => ∃ g, I g δ) R (ds := xs.map en) (acc := []) hw (fun d hd δ ⟨g, hI⟩ => by
    rw [List.mem_map] at hd
    obtain ⟨x, hx, rfl⟩ := hd
    obtain ⟨δ1, e1, h1⟩ := h x hx g δ hI
    cases e2 : e δ1 with
    | ok z δ3 =>
      rw [e2] at h1
      obtain ⟨ht, hr, hg⟩ := h1
      exact ⟨δ1, δ1, δ3, z.2, e1, rfl, by rw [← ht, e2], hg, hr⟩
    | ex c fs => rw [e2] at h1; exact h1.elim
    | bad => rw [e2] at h1; exact h1.elim) (by simpa using hl) rfl
  unfold mLcR
  rw [e1]
  exact hk _ g δ2 (by simpa using l2) (by simpa using r2) h2
/-- .. whose element, test change nothing: g tells what stands there for x -/
theorem x_lcG {vs : List Nat} {c : M Bool} {e : M (Ty × D)} {xs : List α} {en : α → D} {δw : Env} (g : α → Option D) {K : Ty → D → Env → Prop} [w : Wp δ vs δw] (hl : xs.length < sizeLine)
    (h : ∀ x ∈ xs, ∃ δ1, f (.sh, en x) δw = some δ1 ∧ wipeE vs δ1 = δw ∧ (c δ1).P (fun b δ2 => δ2 = δ1 ∧ OnT b ((e δ1).P (cur fun t r δ3 => δ3 = δ1 ∧ t = .sh ∧ g x = some r) noX) ∧ OnF b (g x = none)) noX)
    (hk : K (.lst .sh) (.lst (xs.filterMap g)) δ) : (mLcR vs f c e (xs.map en) δ).P (cur K) X := by
  obtain ⟨w1, w2, w3⟩ := w.h
  have key : ∀ (l : List α) (acc : List D), (∀ x ∈ l, x ∈ xs) → acc.length + l.length < sizeLine → mLcLoop .sh vs f c e (l.map en) acc δw = .ok (acc ++ l.filterMap g) δw := by
    intro l
    induction l with
    | nil => intro acc _ _; simp [mLcLoop]
    | cons a l ih =>
      intro acc hm hl
      obtain ⟨δ1, h1, h2, h3⟩ := h a (hm a (by simp))
      rw [List.map_cons, mLcLoop]
      dsimp only
      rw [h1]
      dsimp only
      cases ec : c δ1 with
      | ok b δ2 =>
        rw [ec] at h3
        obtain ⟨rfl, h4, h5⟩ := h3
        cases b with
        | false =>
          dsimp only
          rw [h2, ih acc (fun x m => hm x (by simp [m])) (by simp at hl; omega), List.filterMap_cons_none (h5 rfl)]
        | true =>
          have h6 := h4 rfl
          dsimp only
          cases ee : e δ2 with
          | ok z δ3 =>
            rw [ee] at h6
            obtain ⟨rfl, ht, hg⟩ := h6
            dsimp only
            rw [if_pos ⟨by rw [ht]; rfl, by simp at hl; omega⟩, h2, ih _ (fun x m => hm x (by simp [m])) (by simp at hl ⊢; omega), List.filterMap_cons_some hg]
            simp
          | ex c fs => rw [ee] at h6; exact h6.elim
          | bad => rw [ee] at h6; exact h6.elim
      | ex c fs => rw [ec] at h3; exact h3.elim
      | bad => rw [ec] at h3; exact h3.elim
  unfold mLcR
  rw [w1, key xs [] (fun x m => m) (by simpa using hl)]
  show K _ _ (backE δ vs δw)
  rw [w2]
  simpa using hk
theorem all_enc {β : Type} {e : β → D} {P : β → Prop} : ∀ {ys : List D}, (∀ y ∈ ys, ∃ b, y = e b ∧ P b) → ∃ bs : List β, ys = bs.map e ∧ bs.length = ys.length ∧ ∀ b ∈ bs, P b
  | [], _ => ⟨[], rfl, rfl, by simp⟩
  | y :: r, h => by
    obtain ⟨b, rfl, hb⟩ := h y (by simp)
    obtain ⟨bs, rfl, hl, hP⟩ := all_enc (ys := r) fun z m => h z (List.mem_cons_of_mem _ m)
    exact ⟨b :: bs, rfl, by simp, by simpa using ⟨hb, hP⟩⟩
end
end VS

end

section
set_option Elab.async false
set_option linter.all false
set_option maxRecDepth 100000
set_option maxHeartbeats 2000000
/-! VX5: repr, join, more operators. -/
namespace VS
open PySem L2 PyProof.Rows
theorem str_inj {a b : String} : (Str.ofString a = Str.ofString b) ↔ a = b := by
  constructor
  · intro h
    rw [Str.ofString_eq_toList, Str.ofString_eq_toList] at h
    have h1 : (a.toList.map Char.toNat) = (b.toList.map Char.toNat) := by simpa using h
    have inj : ∀ l r : List Char, l.map Char.toNat = r.map Char.toNat → l = r := by
      intro l
      induction l with
      | nil => intro r h; cases r with
        | nil => rfl
        | cons _ _ => simp at h
      | cons c l ih => intro r h; cases r with
        | nil => simp at h
        | cons d r => simp at h; rw [Char.toNat_inj.mp h.1, ih r h.2]
    exact String.toList_inj.mp (inj _ _ h1)
  · rintro rfl; rfl
mutual
/-- plain data: ints of at most 12 figures, texts of characters -/
def plD : D → Bool
  | .non => true | .bl _ => true
  | .int i => decide (-10 < i) && decide (i < 10 ^ 12)
  | .str x => PyData.strOk x
  | .lst xs => plDs xs
  | .tup xs => plDs xs
  | _ => false
def plDs : List D → Bool
  | [] => true
  | d :: r => plD d && plDs r
end
mutual
def wtD : D → Nat
  | .int _ => 40
  | .str x => x.cps.size
  | .lst xs => wtDs xs
  | .tup xs => wtDs xs
  | _ => 0
def wtDs : List D → Nat
  | [] => 0
  | d :: r => wtD d + 1 + wtDs r
end
mutual
def dpD : D → Nat
  | .lst xs => dpDs xs + 1
  | .tup xs => dpDs xs + 1
  | _ => 0
def dpDs : List D → Nat
  | [] => 0
  | d :: r => max (dpD d) (dpDs r)
end
/-- its repr can be told -/
def Rp (d : D) : Prop := plD d = true ∧ wtD d ≤ 2 ^ 20 ∧ dpD d ≤ 62
theorem int_len {i : Int} (h1 : -10 < i) (h2 : i < 10 ^ 12) : (PyData.shown (.int i)).length ≤ 13 := by
  by_cases h : 0 ≤ i
  · have := PyProof.Rows.toString_length_le h (k := 12) (by decide) h2
    show (Str.ofString (toString i)).length ≤ 13
    omega
  · have key : ∀ k : Fin 10, (Str.ofString (toString (-(k.val : Int)))).length ≤ 13 := by decide +kernel
    have := key ⟨(-i).toNat, by omega⟩
    rw [show (-(((-i).toNat : Nat) : Int)) = i by omega] at this
    exact this
theorem log_lt {i : Int} (h1 : -10 < i) (h2 : i < 10 ^ 12) : i.natAbs.log2 < 40 := by
  by_cases h0 : i.natAbs = 0
  · rw [h0]; decide
  · rw [Nat.log2_lt h0]
    have : (10 : Int) ^ 12 = 1000000000000 := by decide
    have h2' : (2 : Nat) ^ 40 = 1099511627776 := by decide
    omega
mutual
theorem pl_py : ∀ {d : D}, plD d = true → ∃ e, toPy d = some e ∧ e.canLay0 = true ∧ e.showable = true ∧ e.intsShort 13 = true ∧ e.weight ≤ wtD d ∧ e.depth = dpD d
  | .non, _ => ⟨_, rfl, rfl, rfl, rfl, Nat.le_refl _, rfl⟩
  | .bl b, _ => ⟨_, rfl, rfl, rfl, rfl, Nat.le_refl _, rfl⟩
  | .int i, h => by
    simp [plD] at h
    have hl := log_lt h.1 (by simpa using h.2)
    refine ⟨_, rfl, rfl, ?_, ?_, ?_, rfl⟩
    · simp [PyData.showable]; omega
    · simp only [PyData.intsShort]; exact decide_eq_true (int_len h.1 (by simpa using h.2))
    · simp only [PyData.weight, wtD]; split <;> omega
  | .str x, h => ⟨_, rfl, by simpa [PyData.canLay0, plD] using h, rfl, rfl, Nat.le_refl _, rfl⟩
  | .lst xs, h => by
    obtain ⟨es, e1, e2, e3, e4, e5, e6⟩ := pl_pys (ds := xs) (by simpa [plD] using h)
    exact ⟨.list es, by simp [toPy, e1], by simpa [PyData.canLay0] using e2, by simpa [PyData.showable] using e3, by simpa [PyData.intsShort] using e4, by simpa [PyData.weight, wtD] using e5, by simp [PyData.depth, dpD, e6]⟩
  | .tup xs, h => by
    obtain ⟨es, e1, e2, e3, e4, e5, e6⟩ := pl_pys (ds := xs) (by simpa [plD] using h)
    exact ⟨.tuple es, by simp [toPy, e1], by simpa [PyData.canLay0] using e2, by simpa [PyData.showable] using e3, by simpa [PyData.intsShort] using e4, by simpa [PyData.weight, wtD] using e5, by simp [PyData.depth, dpD, e6]⟩
  | .dic _, h => by simp [plD] at h
  | .ins _ _, h => by simp [plD] at h
  | .err _ _ _ _, h => by simp [plD] at h
theorem pl_pys : ∀ {ds : List D}, plDs ds = true → ∃ es, toPyL ds = some es ∧ PyData.canLayAll0 es = true ∧ PyData.showableAll es = true ∧ PyData.intsShortAll 13 es = true ∧ PyData.weightAll es ≤ wtDs ds ∧ PyData.depthAll es = dpDs ds
  | [], _ => ⟨[], rfl, rfl, rfl, rfl, Nat.le_refl _, rfl⟩
  | d :: r, h => by
    simp [plDs] at h
    obtain ⟨e, a1, a2, a3, a4, a5, a6⟩ := pl_py h.1
    obtain ⟨es, e1, e2, e3, e4, e5, e6⟩ := pl_pys h.2
    exact ⟨e :: es, by simp [toPyL, a1, e1], by simp [PyData.canLayAll0, a2, e2], by simp [PyData.showableAll, a3, e3], by simp [PyData.intsShortAll, a4, e4], by simp [PyData.weightAll, wtDs]; omega, by simp [PyData.depthAll, dpDs, a6, e6]⟩
end
def shD (d : D) : Str := match fRepr d with
  | some (.str x) => x
  | _ => ""
instance {d : D} : Op1 fRepr d (.str (shD d)) (Rp d) := ⟨fun ⟨h1, h2, h3⟩ => by
  obtain ⟨e, a1, a2, a3, a4, a5, a6⟩ := pl_py h1
  have hl : e.layable0 = true := by simp [PyData.layable0, a2]; omega
  have := shown_le13 hl a4
  have hr : fRepr d = some (.str e.shown) := by
    unfold fRepr
    rw [a1]
    dsimp only
    rw [if_pos ⟨a3, by rw [sizeLine_val]; omega, by omega⟩]
  rw [hr]
  unfold shD
  rw [hr]⟩
/-! rows -/
section
variable {α : Type} {xs : List α} {e : α → D}
theorem pls_map : (∀ x ∈ xs, plD (e x) = true) → plDs (xs.map e) = true := by
  induction xs with
  | nil => intro _; rfl
  | cons a l ih => intro h; simp [plDs]; exact ⟨h a (by simp), ih fun x m => h x (by simp [m])⟩
theorem wts_map {B : Nat} : (∀ x ∈ xs, wtD (e x) ≤ B) → wtDs (xs.map e) ≤ xs.length * (B + 1) := by
  induction xs with
  | nil => intro _; simp [wtDs]
  | cons a l ih =>
    intro h
    have h1 := h a (by simp)
    have h2 := ih fun x m => h x (by simp [m])
    simp [wtDs, Nat.succ_mul]; omega
theorem dps_map {B : Nat} : (∀ x ∈ xs, dpD (e x) ≤ B) → dpDs (xs.map e) ≤ B := by
  induction xs with
  | nil => intro _; simp [dpDs]
  | cons a l ih =>
    intro h
    have h1 := h a (by simp)
    have h2 := ih fun x m => h x (by simp [m])
    simp [dpDs]; omega
/-- a row of things of which each is small -/
theorem rp_tup {B dp : Nat} (h : ∀ x ∈ xs, plD (e x) = true ∧ wtD (e x) ≤ B ∧ dpD (e x) ≤ dp) (hl : xs.length * (B + 1) ≤ 2 ^ 20) (hd : dp ≤ 61) : Rp (.tup (xs.map e)) := by
  refine ⟨?_, ?_, ?_⟩
  · simp [plD]; exact pls_map fun x m => (h x m).1
  · simp only [wtD]; exact Nat.le_trans (wts_map fun x m => (h x m).2.1) hl
  · have := dps_map fun x m => (h x m).2.2
    simp only [dpD]; omega
theorem rp_lst {B dp : Nat} (h : ∀ x ∈ xs, plD (e x) = true ∧ wtD (e x) ≤ B ∧ dpD (e x) ≤ dp) (hl : xs.length * (B + 1) ≤ 2 ^ 20) (hd : dp ≤ 61) : Rp (.lst (xs.map e)) := by
  obtain ⟨h1, h2, h3⟩ := rp_tup h hl hd
  exact ⟨by simpa [plD] using h1, by simpa [wtD] using h2, by simpa [dpD] using h3⟩
theorem rp_int {i : Int} (h1 : -10 < i) (h2 : i < 10 ^ 12) : Rp (.int i) := ⟨by simp [plD, h1]; simpa using h2, by simp [wtD], by simp [dpD]⟩
end
theorem eq_nil {ds : List D} (h : plDs ds = true) (hd : dpDs ds ≤ 62) : fEq2 (.lst ds) (.lst []) = some (.bl ds.isEmpty) := by
  obtain ⟨es, e1, e2, _, _, _, e6⟩ := pl_pys h
  have hsh : SeqAt.shaped (.list es) = true := by simp [SeqAt.shaped, PyData.canLay0, PyData.depth, e2, e6]; omega
  have hs0 : SeqAt.shaped (.list []) = true := by simp [SeqAt.shaped, PyData.canLay0, PyData.canLayAll0, PyData.depth, PyData.depthAll]
  show fEq _ _ = _
  unfold fEq fEqB
  simp only [toPy, e1, toPyL, Option.map_some, hsh, hs0]
  cases ds with
  | nil => simp [toPyL] at e1; subst e1; simp [PyData.eqv, PyData.eqvAll]
  | cons d r =>
    unfold toPyL at e1
    split at e1
    · cases e1; simp [PyData.eqv, PyData.eqvAll]
    · cases e1
instance {ds : List D} : Op2 fEq2 (.lst ds) (.lst []) (.bl ds.isEmpty) (plDs ds = true ∧ dpDs ds ≤ 62) := ⟨fun ⟨h1, h2⟩ => eq_nil h1 h2⟩
instance {ds : List D} : Op2 fNe2 (.lst ds) (.lst []) (.bl (!ds.isEmpty)) (plDs ds = true ∧ dpDs ds ≤ 62) := ⟨fun ⟨h1, h2⟩ => by
  have := eq_nil h1 h2
  show fNe _ _ = _
  have h : fEq (.lst ds) (.lst []) = _ := this
  unfold fEq at h
  unfold fNe
  cases e : fEqB (.lst ds) (.lst []) with
  | none => rw [e] at h; cases h
  | some b => rw [e] at h; simp at h; simp [h]⟩
theorem w_appP {δ : Env} {X : XP} {g : FM} {n : List Arg} {as : List (Ty × D)} {K : Ty → D → Env → Prop} {Φ : Ty × D → Env → Prop} [k0 : Vals n as] (hf : (g as).P Φ noX) (h : ∀ z os, Φ z os → K z.1 z.2 δ) : (mApp g n [] δ).P (cur K) X := by
  rw [k0.h]
  unfold mApp
  rw [cGet_vals]
  dsimp only
  rw [List.map_nil, List.append_nil]
  cases e : g as with
  | ok z os =>
    rw [e] at hf
    dsimp only
    rw [cPut_vals]
    exact h z os hf
  | ex c fs => rw [e] at hf; exact hf.elim
  | bad => rw [e] at hf; exact hf.elim
/-! ### guards of the walk -/
section
variable {δ : Env} {X : XP}
theorem g_S {A : M Fl} {Q : FK} (h : (A δ).P Q X) : (A δ).P Q X := h
theorem g_C {m : M (Ty × D)} {K : Ty → D → Env → Prop} (h : (m δ).P (cur K) X) : (m δ).P (cur K) X := h
theorem g_T {c : M Bool} {K : Bool → Env → Prop} (h : (c δ).P K X) : (c δ).P K X := h
theorem g_I {c : M (List D)} {K : List D → Env → Prop} (h : (c δ).P K X) : (c δ).P K X := h
theorem g_E {α : Type} {p : α → Prop} (h : ∃ x, p x) : ∃ x, p x := h
theorem g_A {c : M (List (Ty × D))} {K : List (Ty × D) → Env → Prop} (h : (c δ).P K X) : (c δ).P K X := h
theorem g_B {c : M (List Arg)} {K : List Arg → Env → Prop} (h : (c δ).P K X) : (c δ).P K X := h
end
/-! ### == of rows of numbers -/
theorem eqv_ints : ∀ (l r : List Int), PyData.eqvAll (l.map PyData.int) (r.map PyData.int) = decide (l = r)
  | [], [] => by simp [PyData.eqvAll]
  | [], _ :: _ => by simp [PyData.eqvAll]
  | _ :: _, [] => by simp [PyData.eqvAll]
  | a :: l, b :: r => by
    have ih := eqv_ints l r
    have : (a == b) = decide (a = b) := Bool.eq_iff_iff.mpr (by simp)
    simp only [List.map_cons, PyData.eqvAll, PyData.eqv, ih, this, List.cons.injEq, Bool.decide_and]
theorem fEq_tupInts (l r : List Int) : fEqB (.tup (l.map .int)) (.tup (r.map .int)) = some (decide (l = r)) := by
  have h := shaped_tupI l
  have h' := shaped_tupI r
  simp [fEqB, toPy, toPyL_ints, h, h', PyData.eqv, eqv_ints]
instance {l r : List Int} : Op2 fEq2 (.tup (l.map .int)) (.tup (r.map .int)) (.bl (decide (l = r))) True := ⟨fun _ => by
  show fEq _ _ = _
  unfold fEq; rw [fEq_tupInts]; rfl⟩
theorem map_nat_inj : ∀ {l r : List Nat}, (l.map fun k : Nat => (k : Int)) = (r.map fun k : Nat => (k : Int)) ↔ l = r
  | [], [] => by simp
  | [], _ :: _ => by simp
  | _ :: _, [] => by simp
  | a :: l, b :: r => by
    have := map_nat_inj (l := l) (r := r)
    simp only [List.map_cons, List.cons.injEq, this]
    constructor
    · rintro ⟨h1, h2⟩; exact ⟨by omega, h2⟩
    · rintro ⟨h1, h2⟩; exact ⟨by omega, h2⟩
instance {l r : List Nat} : Op2 fEq2 (.tup (l.map fun k : Nat => D.int (k : Int))) (.tup (r.map fun k : Nat => D.int (k : Int))) (.bl (decide (l = r))) True := ⟨fun _ => by
  have := fEq_tupInts (l.map fun k : Nat => (k : Int)) (r.map fun k : Nat => (k : Int))
  rw [List.map_map, List.map_map] at this
  show fEq _ _ = _
  have h2 : fEqB (.tup (l.map fun k : Nat => D.int (k : Int))) (.tup (r.map fun k : Nat => D.int (k : Int))) = _ := this
  unfold fEq; rw [h2]
  simp [map_nat_inj]⟩
/-! ### join -/
theorem dStrs_map : ∀ ns : List Str, dStrs (ns.map D.str) = some ns
  | [] => rfl
  | n :: r => by simp [dStrs, dStrs_map r]
class StrL (t : Ty) (x : D) (ns : outParam (List Str)) : Prop where
  h : ∃ ds, itemsSh (t, x) = some ds ∧ dStrs ds = some ns
instance {ns : List Str} : StrL .sh (.tup (ns.map D.str)) ns := ⟨_, rfl, dStrs_map ns⟩
instance {ns : List Str} : StrL .sh (.lst (ns.map D.str)) ns := ⟨_, rfl, dStrs_map ns⟩
instance {ns : List Str} : StrL (.lst .sh) (.lst (ns.map D.str)) ns := ⟨_, rfl, dStrs_map ns⟩
instance {α : Type} {xs : List α} {g : α → Str} : StrL (.lst .sh) (.lst (xs.map fun x => D.str (g x))) (xs.map g) := ⟨_, rfl, by
  have := dStrs_map (xs.map g)
  rwa [List.map_map] at this⟩
theorem join_of {z : Str} {t : Ty} {x : D} {ns : List Str} [k : StrL t x ns] (h : (ns.map (·.length)).sum + ns.length * z.length ≤ 16777216) : fJoin z (t, x) = some (.str (Txt.join z ns)) := by
  obtain ⟨ds, e1, e2⟩ := k.h
  unfold fJoin
  rw [e1]
  dsimp only
  rw [e2]
  dsimp only
  rw [if_pos h]
section
variable {a b : M (Ty × D)} {δ : Env} {t t1 : Ty} {z : Str} {x : D} {ns : List Str} {s1 s2 : Prop} {X : XP}
instance [k1 : EvV a δ t1 (.str z) s1] [k2 : EvV b δ t x s2] [k3 : StrL t x ns] : EvV (mJoin a b) δ .sh (.str (Txt.join z ns)) (s1 ∧ s2 ∧ (ns.map (·.length)).sum + ns.length * z.length ≤ 16777216) := ⟨fun ⟨h1, h2, h3⟩ => by
  simp [mJoin, mBind, mPure, mOf, k1.h h1, k2.h h2, join_of h3]⟩
theorem x_join {K : Ty → D → Env → Prop} [k1 : EvV a δ t1 (.str z) s1] (hs : Side s1) (h : (b δ).P (cur fun t x δ1 => ∃ d, fJoin z (t, x) = some d ∧ K .sh d δ1) X) : (mJoin a b δ).P (cur K) X := by
  refine P_bind' ?_
  rw [k1.h hs]
  refine P_bind' (h.imp (fun y δ2 _ q => ?_) fun _ _ z => z)
  obtain ⟨d, e, q⟩ := q
  show (mOf ((fJoin z (y.1, y.2)).map fun d => (Ty.sh, d)) δ2).P _ _
  rw [e]; exact q
theorem x_joinf {K : D → Prop} [k3 : StrL t x ns] (hs : Side ((ns.map (·.length)).sum + ns.length * z.length ≤ 16777216)) (h : K (.str (Txt.join z ns))) : ∃ d, fJoin z (t, x) = some d ∧ K d := ⟨_, join_of hs, h⟩
end
/-! ### words -/
instance {m : M (Ty × D)} {δ : Env} {t : Ty} {z : Str} {s : Prop} [k : EvV m δ t (.str z) s] : EvV (mWords m) δ (.lst .sh) (.lst ((Txt.words z).map D.str)) (s ∧ z.length + 2 ≤ sizeLine) := ⟨fun ⟨h, hl⟩ => by
  simp [mWords, mBind, mPure, mOf, k.h h, fWords, hl]⟩
/-! ### a sign of a text -/
def signAt (z : Str) (i : Int) : Str := oneSign (z.cps.toList.getD i.toNat 0)
instance {z : Str} {i : Int} : Ix .sh (.str z) (.int i) .sh (.str (signAt z i)) (z.length ≤ sizeLine ∧ 0 ≤ i ∧ i < z.length) := ⟨fun ⟨h1, h2, h3⟩ => by
  have hl : z.cps.toList.length = z.length := by simp [Str.length]
  have : i.toNat < z.cps.toList.length := by omega
  have e : ixN z.cps.toList.length i = some i.toNat := by
    have := ix_nat (n := z.cps.toList.length) (k := i.toNat) this
    rwa [show ((i.toNat : Nat) : Int) = i by omega] at this
  have e2 : z.cps[i.toNat]? = some (z.cps.toList.getD i.toNat 0) := by
    rw [← Array.getElem?_toList, List.getD_eq_getElem?_getD, List.getElem?_eq_getElem this]
    rfl
  have e3 : atI z.cps.toList i = some (z.cps.toList.getD i.toNat 0) := by
    unfold atI
    rw [e]
    show z.cps.toList[i.toNat]? = _
    rw [Array.getElem?_toList]
    exact e2
  unfold fIx
  dsimp only
  rw [if_pos h1, e3]
  rfl⟩
theorem x_lstH {δ : Env} {X : XP} {n : M (List (Ty × D))} {K : Ty → D → Env → Prop} (h : (n δ).P (aK (fun ts ds δ1 => ds.length ≤ 1000 ∧ K (.hls ts) (.lst ds) δ1) (fun r => r) fun r => r) X) : (mLstH n δ).P (cur K) X := by
  refine P_bind' (h.imp (fun as δ' _ q => ?_) fun _ _ z => z)
  obtain ⟨hl, q⟩ := q
  rw [if_pos (by simpa using hl)]
  exact q
/-- xs.append(e), e with deeds -/
def AppK (i : Nat) (ds : List D) (δ : Env) (k : Env → Prop) : Prop := ∃ xs d, ds = [d] ∧ δ[i]? = some (some (.lst .sh, .lst xs)) ∧ xs.length < sizeLine ∧ k (δ.set i (some (.lst .sh, .lst (xs ++ [d]))))
theorem x_app {δ : Env} {X : XP} {i : Nat} {n : M (List (Ty × D))} {ds0 : List D} {K : Ty → D → Env → Prop} [k0 : Slot δ i (.lst .sh) (.lst ds0)] (h : (n δ).P (aK (fun _ ds δ1 => AppK i ds δ1 fun δ2 => K .sh .non δ2) (fun r => r) fun r => r) X) : (mMethP (mSlot i) n oAppend δ).P (cur K) X := by
  refine P_bind' ?_
  unfold mSlot
  rw [k0.h]
  show Res.P (match isLst (slotP δ i []) with | true => (mBind n (pUpd (i, []) oAppend)) δ | false => .bad) _ _
  have : isLst (slotP δ i []) = true := by unfold slotP; rw [k0.h]; rfl
  rw [this]
  refine P_bind' (h.imp (fun as δ1 _ q => ?_) fun _ _ z => z)
  obtain ⟨xs, d, e1, e2, hl, q⟩ := q
  match as, e1 with
  | [a], e1 =>
    simp at e1
    simp [pUpd, e2, getP, oAppend, hold, hl, setP, e1]
    exact q
theorem x_appf {δ δ2 : Env} {i : Nat} {xs : List D} {d : D} {k : Env → Prop} [k1 : Slot δ i (.lst .sh) (.lst xs)] [k2 : StE δ i (some (.lst .sh, .lst (xs ++ [d]))) δ2] (hs : Side (xs.length < sizeLine)) (h : k δ2) : AppK i [d] δ k :=
  ⟨xs, d, rfl, k1.h, hs, by rw [k2.h.2]; exact h⟩
/-! ### a second thing lent, that stays -/
class Drw2 (f : FM) (t2 : Ty) (d2 : D) (as : List (Ty × D)) {β : outParam Type} (t : outParam Ty) (e : outParam (β → D)) (P : outParam (β → Prop)) (s : outParam Prop) : Prop where
  h : s → ∀ q, (f ((tyD, dS q) :: (t2, d2) :: as)).P (fun z os => ∃ b q' os', P b ∧ z = (t, e b) ∧ os = some (tyD, dS q') :: some (t2, d2) :: os') noX
theorem w_appD2 {β : Type} {δ : Env} {δ1' : Dr → Env} {t t2 : Ty} {d2 : D} {i j : Nat} {s2 : Prop} {X : XP} {g : FM} {n : List Arg} {as : List (Ty × D)} {e : β → D} {P : β → Prop} {K : Ty → D → Env → Prop} {q : Dr} [k1 : Slot δ i tyD (dS q)] [k2 : Slot δ j t2 d2] [k0 : Vals n as] [kd : Drw2 g t2 d2 as t e P s2] (h2 : Side s2) (hij : Side (i ≠ j))
    [ks : ∀ q', StE δ i (some (tyD, dS q')) (δ1' q')] (h : AllD P fun b q' => K t (e b) (δ1' q')) : (mApp g (.ref i :: .ref j :: n) [] δ).P (cur K) X := by
  have hg := kd.h h2 q
  have hij : i ≠ j := hij
  have hi : i < δ.length := (ks q).h.1
  have hj : j < δ.length := (List.getElem?_eq_some_iff.mp k2.h).1
  have e1 : (δ.set i none)[j]? = some (some (t2, d2)) := by rw [List.getElem?_set_ne hij]; exact k2.h
  rw [k0.h]
  unfold mApp
  rw [cGet, k1.h]
  dsimp only
  rw [cGet, e1]
  dsimp only
  rw [cGet_vals]
  dsimp only
  rw [List.map_nil, List.append_nil]
  cases e3 : g ((tyD, dS q) :: (t2, d2) :: as) with
  | ok z os =>
    rw [e3] at hg
    obtain ⟨b, q', os', hb, rfl, rfl⟩ := hg
    have f1 : ((δ.set i none).set j none)[i]? = some none := by rw [List.getElem?_set_ne (Ne.symm hij)]; simp [hi]
    have f2 : (((δ.set i none).set j none).set i (some (tyD, dS q')))[j]? = some none := by rw [List.getElem?_set_ne hij]; simp [hj]
    have f3 : ((((δ.set i none).set j none).set i (some (tyD, dS q'))).set j (some (t2, d2))) = δ.set i (some (tyD, dS q')) := by
      apply List.ext_getElem?
      intro k
      simp only [List.getElem?_set, List.length_set]
      by_cases hk : j = k
      · subst hk
        have e4 := k2.h
        rw [List.getElem?_eq_getElem hj] at e4
        simp [hj, hij, e4]
      · by_cases hk2 : i = k
        · subst hk2; simp [hk, hi]
        · simp [hk, hk2]
    dsimp only
    rw [cPut, f1]
    dsimp only
    rw [cPut, f2]
    dsimp only
    rw [cPut_vals, f3]
    have : K t (e b) (δ1' q') := h b q' hb
    rw [← (ks q').h.2] at this
    exact this
  | ex c fs => rw [e3] at hg; exact hg.elim
  | bad => rw [e3] at hg; exact hg.elim
/-! ### lists, reversed -/
instance {m : M (Ty × D)} {δ : Env} {t : Ty} {α : Type} {xs : List α} {e : α → D} {s : Prop} [k : EvV m δ t (.lst (xs.map e)) s] [k2 : Its t (.lst (xs.map e)) (xs.map e)] : EvV (mRev m) δ (.lst .sh) (.lst (xs.reverse.map e)) s := ⟨fun h => by
  unfold mRev mBind
  rw [k.h h]
  dsimp only
  unfold fRev
  rw [k2.h]
  simp [mOf, mPure]⟩
end VS

end

section
set_option Elab.async false
set_option linter.all false
set_option maxRecDepth 100000
set_option maxHeartbeats 2000000
namespace FO
open PySem L2 VS
/-! children_of: slots 0=formula -/
noncomputable def b_children_of : M Fl := (mSeq (mIfS (mBl (mOp2 (fIn2 false) (m2 (mIx (m2 (mVar 0) (mC (.int 0)))) (mC (.tup [.str "and", .str "or", .str "since"])))))
    (mRet (mTup (mCons (mIx (m2 (mVar 0) (mC (.int 1)))) (mCons (mIx (m2 (mVar 0) (mC (.int 2)))) mNil))))
    mSkip)
    (mSeq (mIfS (mOr (mBl (mOp2 fEq2 (m2 (mIx (m2 (mVar 0) (mC (.int 0)))) (mC (.str "not"))))) (mBl (mOp2 (fIn2 false) (m2 (mIx (m2 (mVar 0) (mC (.int 0)))) (mC (.tup [.str "was", .str "once", .str "held"]))))))
    (mRet (mTup (mCons (mIx (m2 (mVar 0) (mC (.int 1)))) mNil)))
    mSkip)
    (mRet (mTup mNil))))
noncomputable def f_children_of : FM := mFn 1 1 [] b_children_of
theorem en_children_of {a0 : Ty × D} {t : Ty} {d : D} (h : (b_children_of [some a0]).P (retK t d) noX) : ∃ os, f_children_of [a0] = .ok (t, d) os := w_fnR (A := b_children_of) (N := 1) (k := 1) (wr := []) (as := [a0]) rfl rfl h
theorem ep_children_of {a0 : Ty × D} {Φ : Ty × D → VS.Env → Prop} {X : XP} (h : (b_children_of [some a0]).P (fnK [] 1 Φ) X) : (f_children_of [a0]).P Φ X := w_fn (A := b_children_of) (N := 1) (k := 1) (wr := []) (as := [a0]) rfl rfl h
/-! size_of: slots 0=formula 1=count 2=child -/
noncomputable def b_size_of (g : FM) : M Fl := (mSeq (mAsg (gSt 1) (mC (.int 1)))
    (mSeq (mFor (mWalk (mFz (mCall FO.f_children_of (bVal (mVar 0) bNil)))) (gSt 2)
    (mAug 1 (fun i j => i + j) (mCall g (bVal (mVar 2) bNil))))
    (mRet (mVar 1))))
noncomputable def F_size_of (g : FM) : FM := mFn 3 1 [1, 2, 1] (b_size_of g)
noncomputable def f_size_of : Nat → FM := fRec F_size_of
theorem en_size_of {n : Nat} {a0 : Ty × D} {t : Ty} {d : D} (h : (b_size_of (f_size_of n) [some a0, none, none]).P (retK t d) noX) : ∃ os, f_size_of (n + 1) [a0] = .ok (t, d) os := w_fnR (A := b_size_of (f_size_of n)) (N := 3) (k := 1) (wr := [1, 2, 1]) (as := [a0]) rfl rfl h
theorem ep_size_of {n : Nat} {a0 : Ty × D} {Φ : Ty × D → VS.Env → Prop} {X : XP} (h : (b_size_of (f_size_of n) [some a0, none, none]).P (fnK [1, 2, 1] 1 Φ) X) : (f_size_of (n + 1) [a0]).P Φ X := w_fn (A := b_size_of (f_size_of n)) (N := 3) (k := 1) (wr := [1, 2, 1]) (as := [a0]) rfl rfl h
/-! paths_of: slots 0=formula 1=found 2=place 3=child 4=path -/
noncomputable def b_paths_of (g : FM) : M Fl := (mSeq (mAsg (gSt 1) (mLstZ (mCons (mTup mNil) mNil)))
    (mSeq (mFor (mEnum (mFz (mCall FO.f_children_of (bVal (mVar 0) bNil)))) (gTp 2 (gsCons (gSt 2) (gsCons (gSt 3) gsNil)))
    (mFor (mWalk (mFz (mCall g (bVal (mVar 3) bNil)))) (gSt 4)
    (mDrop (mMethP (mSlot 1) (mCons (mPl (m2 (mTup (mCons (mVar 2) mNil)) (mVar 4))) mNil) oAppend))))
    (mRet (mFz (mTuple (mGet 1))))))
noncomputable def F_paths_of (g : FM) : FM := mFn 5 1 [1, 2, 3, 4] (b_paths_of g)
noncomputable def f_paths_of : Nat → FM := fRec F_paths_of
theorem en_paths_of {n : Nat} {a0 : Ty × D} {t : Ty} {d : D} (h : (b_paths_of (f_paths_of n) [some a0, none, none, none, none]).P (retK t d) noX) : ∃ os, f_paths_of (n + 1) [a0] = .ok (t, d) os := w_fnR (A := b_paths_of (f_paths_of n)) (N := 5) (k := 1) (wr := [1, 2, 3, 4]) (as := [a0]) rfl rfl h
theorem ep_paths_of {n : Nat} {a0 : Ty × D} {Φ : Ty × D → VS.Env → Prop} {X : XP} (h : (b_paths_of (f_paths_of n) [some a0, none, none, none, none]).P (fnK [1, 2, 3, 4] 1 Φ) X) : (f_paths_of (n + 1) [a0]).P Φ X := w_fn (A := b_paths_of (f_paths_of n)) (N := 5) (k := 1) (wr := [1, 2, 3, 4]) (as := [a0]) rfl rfl h
/-! part_at: slots 0=formula 1=path 2=place -/
noncomputable def b_part_at : M Fl := (mSeq (mFor (mWalk (mVar 1)) (gSt 2)
    (mAsg (gSt 0) (mIx (m2 (mVar 0) (mPl (m2 (mVar 2) (mC (.int 1))))))))
    (mRet (mVar 0)))
noncomputable def f_part_at : FM := mFn 3 2 [2, 0] b_part_at
theorem en_part_at {a0 a1 : Ty × D} {t : Ty} {d : D} (h : (b_part_at [some a0, some a1, none]).P (retK t d) noX) : ∃ os, f_part_at [a0, a1] = .ok (t, d) os := w_fnR (A := b_part_at) (N := 3) (k := 2) (wr := [2, 0]) (as := [a0, a1]) rfl rfl h
theorem ep_part_at {a0 a1 : Ty × D} {Φ : Ty × D → VS.Env → Prop} {X : XP} (h : (b_part_at [some a0, some a1, none]).P (fnK [2, 0] 2 Φ) X) : (f_part_at [a0, a1]).P Φ X := w_fn (A := b_part_at) (N := 3) (k := 2) (wr := [2, 0]) (as := [a0, a1]) rfl rfl h
/-! with_part: slots 0=formula 1=path 2=part 3=changed -/
noncomputable def b_with_part (g : FM) : M Fl := (mSeq (mIfS (mNot (mTru (mVar 1)))
    (mRet (mVar 2))
    mSkip)
    (mSeq (mAsg (gSt 3) (mList (mVar 0)))
    (mSeq (mAsg (gSet (mSlot 3) (mPl (m2 (mIx (m2 (mVar 1) (mC (.int 0)))) (mC (.int 1))))) (mFz (mCall g (bVal (mIx (m2 (mVar 0) (mPl (m2 (mIx (m2 (mVar 1) (mC (.int 0)))) (mC (.int 1)))))) (bVal (mFz (mSl (mVar 1) (mPart (mC (.int 1))) (mPure none))) (bVal (mVar 2) bNil))))))
    (mRet (mFz (mTuple (mGet 3)))))))
noncomputable def F_with_part (g : FM) : FM := mFn 4 3 [3] (b_with_part g)
noncomputable def f_with_part : Nat → FM := fRec F_with_part
theorem en_with_part {n : Nat} {a0 a1 a2 : Ty × D} {t : Ty} {d : D} (h : (b_with_part (f_with_part n) [some a0, some a1, some a2, none]).P (retK t d) noX) : ∃ os, f_with_part (n + 1) [a0, a1, a2] = .ok (t, d) os := w_fnR (A := b_with_part (f_with_part n)) (N := 4) (k := 3) (wr := [3]) (as := [a0, a1, a2]) rfl rfl h
theorem ep_with_part {n : Nat} {a0 a1 a2 : Ty × D} {Φ : Ty × D → VS.Env → Prop} {X : XP} (h : (b_with_part (f_with_part n) [some a0, some a1, some a2, none]).P (fnK [3] 3 Φ) X) : (f_with_part (n + 1) [a0, a1, a2]).P Φ X := w_fn (A := b_with_part (f_with_part n)) (N := 4) (k := 3) (wr := [3]) (as := [a0, a1, a2]) rfl rfl h
/-! sign_at: slots 0=formula 1=path 2=sign 3=place -/
noncomputable def b_sign_at : M Fl := (mSeq (mAsg (gSt 2) (mC (.int 1)))
    (mSeq (mFor (mWalk (mVar 1)) (gSt 3)
    (mSeq (mIfS (mBl (mOp2 fEq2 (m2 (mIx (m2 (mVar 0) (mC (.int 0)))) (mC (.str "not")))))
    (mAsg (gSt 2) (mNeg (mVar 2)))
    mSkip)
    (mAsg (gSt 0) (mIx (m2 (mVar 0) (mPl (m2 (mVar 3) (mC (.int 1)))))))))
    (mRet (mVar 2))))
noncomputable def f_sign_at : FM := mFn 4 2 [2, 3, 2, 0] b_sign_at
theorem en_sign_at {a0 a1 : Ty × D} {t : Ty} {d : D} (h : (b_sign_at [some a0, some a1, none, none]).P (retK t d) noX) : ∃ os, f_sign_at [a0, a1] = .ok (t, d) os := w_fnR (A := b_sign_at) (N := 4) (k := 2) (wr := [2, 3, 2, 0]) (as := [a0, a1]) rfl rfl h
theorem ep_sign_at {a0 a1 : Ty × D} {Φ : Ty × D → VS.Env → Prop} {X : XP} (h : (b_sign_at [some a0, some a1, none, none]).P (fnK [2, 3, 2, 0] 2 Φ) X) : (f_sign_at [a0, a1]).P Φ X := w_fn (A := b_sign_at) (N := 4) (k := 2) (wr := [2, 3, 2, 0]) (as := [a0, a1]) rfl rfl h
/-! names_in: slots 0=formula 1=found 2=path 3=node -/
noncomputable def b_names_in : M Fl := (mSeq (mAsg (gSt 1) (mLstE .sh))
    (mSeq (mFor (mWalk (mFz (mCall (FO.f_paths_of 60) (bVal (mVar 0) bNil)))) (gSt 2)
    (mSeq (mAsg (gSt 3) (mFz (mCall FO.f_part_at (bVal (mVar 0) (bVal (mVar 2) bNil)))))
    (mIfS (mAnd (mBl (mOp2 fEq2 (m2 (mIx (m2 (mVar 3) (mC (.int 0)))) (mC (.str "name"))))) (mBl (mOp2 (fIn2 true) (m2 (mIx (m2 (mVar 3) (mC (.int 1)))) (mGet 1)))))
    (mDrop (mMethP (mSlot 1) (mCons (mIx (m2 (mVar 3) (mC (.int 1)))) mNil) oAppend))
    mSkip)))
    (mRet (mFz (mTuple (mGet 1))))))
noncomputable def f_names_in : FM := mFn 4 1 [1, 2, 3] b_names_in
theorem en_names_in {a0 : Ty × D} {t : Ty} {d : D} (h : (b_names_in [some a0, none, none, none]).P (retK t d) noX) : ∃ os, f_names_in [a0] = .ok (t, d) os := w_fnR (A := b_names_in) (N := 4) (k := 1) (wr := [1, 2, 3]) (as := [a0]) rfl rfl h
theorem ep_names_in {a0 : Ty × D} {Φ : Ty × D → VS.Env → Prop} {X : XP} (h : (b_names_in [some a0, none, none, none]).P (fnK [1, 2, 3] 1 Φ) X) : (f_names_in [a0]).P Φ X := w_fn (A := b_names_in) (N := 4) (k := 1) (wr := [1, 2, 3]) (as := [a0]) rfl rfl h
/-! beneath_was: slots 0=formula 1=path 2=place -/
noncomputable def b_beneath_was : M Fl := (mSeq (mFor (mWalk (mVar 1)) (gSt 2)
    (mSeq (mIfS (mBl (mOp2 fEq2 (m2 (mIx (m2 (mVar 0) (mC (.int 0)))) (mC (.str "was")))))
    (mRet (mC (.bl true)))
    mSkip)
    (mAsg (gSt 0) (mIx (m2 (mVar 0) (mPl (m2 (mVar 2) (mC (.int 1)))))))))
    (mRet (mC (.bl false))))
noncomputable def f_beneath_was : FM := mFn 3 2 [2, 0] b_beneath_was
theorem en_beneath_was {a0 a1 : Ty × D} {t : Ty} {d : D} (h : (b_beneath_was [some a0, some a1, none]).P (retK t d) noX) : ∃ os, f_beneath_was [a0, a1] = .ok (t, d) os := w_fnR (A := b_beneath_was) (N := 3) (k := 2) (wr := [2, 0]) (as := [a0, a1]) rfl rfl h
theorem ep_beneath_was {a0 a1 : Ty × D} {Φ : Ty × D → VS.Env → Prop} {X : XP} (h : (b_beneath_was [some a0, some a1, none]).P (fnK [2, 0] 2 Φ) X) : (f_beneath_was [a0, a1]).P Φ X := w_fn (A := b_beneath_was) (N := 3) (k := 2) (wr := [2, 0]) (as := [a0, a1]) rfl rfl h
/-! bare_names: slots 0=formula 1=found 2=path 3=node -/
noncomputable def b_bare_names : M Fl := (mSeq (mAsg (gSt 1) (mLstE .sh))
    (mSeq (mFor (mWalk (mFz (mCall (FO.f_paths_of 60) (bVal (mVar 0) bNil)))) (gSt 2)
    (mSeq (mAsg (gSt 3) (mFz (mCall FO.f_part_at (bVal (mVar 0) (bVal (mVar 2) bNil)))))
    (mIfS (mAnd (mBl (mOp2 fEq2 (m2 (mIx (m2 (mVar 3) (mC (.int 0)))) (mC (.str "name"))))) (mAnd (mBl (mOp2 (fIn2 true) (m2 (mIx (m2 (mVar 3) (mC (.int 1)))) (mGet 1)))) (mNot (mTru (mCall FO.f_beneath_was (bVal (mVar 0) (bVal (mVar 2) bNil)))))))
    (mDrop (mMethP (mSlot 1) (mCons (mIx (m2 (mVar 3) (mC (.int 1)))) mNil) oAppend))
    mSkip)))
    (mRet (mFz (mTuple (mGet 1))))))
noncomputable def f_bare_names : FM := mFn 4 1 [1, 2, 3] b_bare_names
theorem en_bare_names {a0 : Ty × D} {t : Ty} {d : D} (h : (b_bare_names [some a0, none, none, none]).P (retK t d) noX) : ∃ os, f_bare_names [a0] = .ok (t, d) os := w_fnR (A := b_bare_names) (N := 4) (k := 1) (wr := [1, 2, 3]) (as := [a0]) rfl rfl h
theorem ep_bare_names {a0 : Ty × D} {Φ : Ty × D → VS.Env → Prop} {X : XP} (h : (b_bare_names [some a0, none, none, none]).P (fnK [1, 2, 3] 1 Φ) X) : (f_bare_names [a0]).P Φ X := w_fn (A := b_bare_names) (N := 4) (k := 1) (wr := [1, 2, 3]) (as := [a0]) rfl rfl h
/-! remembered: slots 0=formula 1=found 2=place 3=child 4=path -/
noncomputable def b_remembered (g : FM) : M Fl := (mSeq (mAsg (gSt 1) (mLstE .sh))
    (mSeq (mFor (mEnum (mFz (mCall FO.f_children_of (bVal (mVar 0) bNil)))) (gTp 2 (gsCons (gSt 2) (gsCons (gSt 3) gsNil)))
    (mFor (mWalk (mFz (mCall g (bVal (mVar 3) bNil)))) (gSt 4)
    (mDrop (mMethP (mSlot 1) (mCons (mPl (m2 (mTup (mCons (mVar 2) mNil)) (mVar 4))) mNil) oAppend))))
    (mSeq (mIfS (mBl (mOp2 (fIn2 false) (m2 (mIx (m2 (mVar 0) (mC (.int 0)))) (mC (.tup [.str "was", .str "once", .str "held", .str "since"])))))
    (mDrop (mMethP (mSlot 1) (mCons (mTup mNil) mNil) oAppend))
    mSkip)
    (mRet (mFz (mTuple (mGet 1)))))))
noncomputable def F_remembered (g : FM) : FM := mFn 5 1 [1, 2, 3, 4] (b_remembered g)
noncomputable def f_remembered : Nat → FM := fRec F_remembered
theorem en_remembered {n : Nat} {a0 : Ty × D} {t : Ty} {d : D} (h : (b_remembered (f_remembered n) [some a0, none, none, none, none]).P (retK t d) noX) : ∃ os, f_remembered (n + 1) [a0] = .ok (t, d) os := w_fnR (A := b_remembered (f_remembered n)) (N := 5) (k := 1) (wr := [1, 2, 3, 4]) (as := [a0]) rfl rfl h
theorem ep_remembered {n : Nat} {a0 : Ty × D} {Φ : Ty × D → VS.Env → Prop} {X : XP} (h : (b_remembered (f_remembered n) [some a0, none, none, none, none]).P (fnK [1, 2, 3, 4] 1 Φ) X) : (f_remembered (n + 1) [a0]).P Φ X := w_fn (A := b_remembered (f_remembered n)) (N := 5) (k := 1) (wr := [1, 2, 3, 4]) (as := [a0]) rfl rfl h
end FO

end

section
set_option Elab.async false
set_option linter.all false
set_option maxRecDepth 100000
set_option maxHeartbeats 2000000
open PySem L2 VS
local macro_rules | `(tactic| lcg_sub) => `(tactic| focus ((repeat' (first | exact trivial | assumption | omega | (refine And.intro ?_ ?_) | (intro _))) <;> (first | assumption | omega | exact Nat.le_of_ble_eq_true rfl | (simp only [sizeLine_val, List.length_cons, List.length_nil, List.length_map, List.length_append, List.length_set, List.length_range] at *; omega) | (exfalso; omega) | (decide +kernel) | skip)))
local macro_rules | `(tactic| lcg_off) => `(tactic| (intro h; (try simp only [decide_eq_true_eq, decide_eq_false_iff_not, Bool.and_eq_true, Bool.or_eq_true, Bool.not_eq_true', Bool.not_eq_false', Bool.not_eq_true, Bool.and_eq_false_imp, Bool.or_eq_false_iff, reduceCtorEq, Bool.not_not, Bool.not_true, Bool.not_false, Classical.not_not, List.isEmpty_iff, List.isEmpty_eq_false_iff, List.append_eq_nil_iff, List.cons_ne_nil, and_false, ne_eq, not_true_eq_false, not_false_eq_true, List.map_eq_nil_iff, str_inj, String.reduceEq, List.mem_cons, List.not_mem_nil, or_false, false_or, or_self] at h); (try (exact absurd h (by decide +kernel)))))
local macro_rules | `(tactic| lcg_src) => `(tactic| first
  | (with_reducible refine side_mk ?_; lcg_sub)
  | (with_reducible refine ont_mk ?_; lcg_off) | (with_reducible refine onf_mk ?_; lcg_off)
  | (with_reducible refine g_C ?_; first | (with_reducible refine x_ev ?_ ?_) | (with_reducible refine x_fz ?_) | (with_reducible refine w_draw ?_ ?_ ?_) | (with_reducible refine x_op2 ?_) | (with_reducible refine x_pl ?_) | (with_reducible refine x_ix ?_) | (with_reducible refine x_ixn ?_) | (with_reducible refine w_callP ?_) | (with_reducible refine w_appD ?_ ?_) | (with_reducible refine w_appV ?_ ?_) | (with_reducible refine w_appD2 ?_ ?_ ?_) | (with_reducible refine x_b1 ?_) | (with_reducible refine x_if ?_) | (with_reducible refine x_tup ?_) | (with_reducible refine x_lstZ ?_) | (with_reducible refine x_lstH ?_) | (with_reducible refine x_lc ?_) | (with_reducible refine x_join ?_ ?_) | (with_reducible refine x_app ?_) | (with_reducible refine x_ixk ?_) | (with_reducible refine x_ixkn ?_) | (with_reducible refine x_sl ?_ ?_ ?_))
  | (with_reducible refine g_T ?_; first | (with_reducible refine w_wtest ?_ ?_ ?_) | (with_reducible refine w_evT ?_ ?_) | (with_reducible refine x_bl ?_) | (with_reducible refine x_tru ?_) | (with_reducible refine x_not ?_) | (with_reducible refine x_and ?_) | (with_reducible refine x_or ?_) | (with_reducible refine w_pure ?_))
  | (with_reducible refine g_S ?_; first | (with_reducible refine w_asg ?_ ?_ ?_) | (with_reducible refine w_if ?_ ?_ ?_) | (with_reducible refine w_ret ?_ ?_) | (with_reducible refine w_drop ?_ ?_) | (with_reducible refine w_for ?_ ?_) | (with_reducible refine w_aug ?_ ?_) | (with_reducible refine w_skip ?_) | (with_reducible refine w_loop0 ?_) | (with_reducible refine w_loop1 ?_) | (with_reducible refine w_pure ?_) | (with_reducible refine x_asg ?_) | (with_reducible refine x_ret ?_) | (with_reducible refine x_drop ?_) | (with_reducible refine x_ifS ?_))
  | (with_reducible refine g_E ?_; first | (with_reducible refine w_tg ?_ ?_) | (with_reducible refine x_op2f ?_ ?_) | (with_reducible refine x_plf ?_ ?_) | (with_reducible refine x_ixf ?_ ?_) | (with_reducible refine x_ixnf ?_ ?_) | (with_reducible refine x_b1f ?_ ?_) | (with_reducible refine x_blf ?_) | (with_reducible refine x_truf ?_ ?_) | (with_reducible refine x_joinf ?_ ?_) | (with_reducible refine ex_int ?_ ?_) | (with_reducible refine x_ixkf ?_ ?_) | (with_reducible refine x_ixknf ?_ ?_) | (with_reducible refine x_slf ?_ ?_))
  | (with_reducible refine k_nx ?_) | (with_reducible refine k_rt ?_) | (with_reducible refine cur_mk ?_) | (with_reducible refine k_bk ?_) | (with_reducible refine k_ct ?_) | (with_reducible refine m_nx ?_) | (with_reducible refine m_bk ?_) | (with_reducible refine m_ct ?_) | (with_reducible refine m_rt ?_) | (with_reducible refine l_nx ?_) | (with_reducible refine l_ct ?_) | (with_reducible refine l_bk ?_) | (with_reducible refine l_rt ?_) | (with_reducible refine h_bk ?_) | (with_reducible refine h_rt ?_) | (with_reducible refine r_rt ?_) | (with_reducible refine f_rt ?_) | (with_reducible refine f_nx ?_) | (with_reducible refine and_tf ?_ ?_) | (with_reducible refine len_and ?_ ?_) | (with_reducible refine x_appf ?_ ?_)
  | (with_reducible refine alld_mk ?_; intro b q' hb; (try simp only [] at hb))
  | (with_reducible refine g_A ?_; first | (with_reducible refine a_cons ?_) | (with_reducible refine a_nil ?_)) | (with_reducible refine g_B ?_; first | (with_reducible refine w_bRef ?_) | (with_reducible refine w_bVal ?_) | (with_reducible refine w_bNil ?_)) | (with_reducible refine g_I ?_; first | (with_reducible refine x_evI ?_ ?_) | (with_reducible refine x_rng1 ?_))
  | (with_reducible exact r_nx))
local macro_rules | `(tactic| close_w) => `(tactic| (repeat' (first | (with_reducible refine w_seq ?_) | lcg_src)))
local macro_rules | `(tactic| o_reads) => `(tactic| (repeat' lcg_src))
/-! FO1: formulas; what the program's defs about their parts answer. -/
namespace FO
inductive U1 where | not | was | once | held
  deriving DecidableEq
inductive B2 where | and | or | since
  deriving DecidableEq
inductive Fo where
  | t | f | n (x : Str) | u (o : U1) (a : Fo) | b (o : B2) (x y : Fo)
  deriving DecidableEq, Inhabited
def U1.s : U1 → Str | .not => "not" | .was => "was" | .once => "once" | .held => "held"
def B2.s : B2 → Str | .and => "and" | .or => "or" | .since => "since"
def Fo.e : Fo → D
  | .t => .tup [.str "true"]
  | .f => .tup [.str "false"]
  | .n x => .tup [.str "name", .str x]
  | .u o a => .tup [.str o.s, a.e]
  | .b o x y => .tup [.str o.s, x.e, y.e]
def Fo.kids : Fo → List Fo
  | .u _ a => [a]
  | .b _ x y => [x, y]
  | _ => []
def Fo.dep : Fo → Nat
  | .u _ a => a.dep + 1
  | .b _ x y => max x.dep y.dep + 1
  | _ => 0
def Fo.size : Fo → Nat
  | .u _ a => a.size + 1
  | .b _ x y => x.size + y.size + 1
  | _ => 1
def Fo.hd : Fo → Str
  | .t => "true" | .f => "false" | .n _ => "name" | .u o _ => o.s | .b o _ _ => o.s
theorem ix_hd (φ : Fo) : Ix .sh φ.e (.int 0) .sh (.str φ.hd) True := ⟨fun _ => by cases φ <;> rfl⟩
instance {a : Fo} : Ix .sh (Fo.u .not a).e (.int 0) .sh (.str "not") True := ⟨fun _ => rfl⟩
instance {a : Fo} : Ix .sh (Fo.u .was a).e (.int 0) .sh (.str "was") True := ⟨fun _ => rfl⟩
instance {a : Fo} : Ix .sh (Fo.u .once a).e (.int 0) .sh (.str "once") True := ⟨fun _ => rfl⟩
instance {a : Fo} : Ix .sh (Fo.u .held a).e (.int 0) .sh (.str "held") True := ⟨fun _ => rfl⟩
instance {a b : Fo} : Ix .sh (Fo.b .and a b).e (.int 0) .sh (.str "and") True := ⟨fun _ => rfl⟩
instance {a b : Fo} : Ix .sh (Fo.b .or a b).e (.int 0) .sh (.str "or") True := ⟨fun _ => rfl⟩
instance {a b : Fo} : Ix .sh (Fo.b .since a b).e (.int 0) .sh (.str "since") True := ⟨fun _ => rfl⟩
instance : Ix .sh Fo.t.e (.int 0) .sh (.str "true") True := ⟨fun _ => rfl⟩
instance : Ix .sh Fo.f.e (.int 0) .sh (.str "false") True := ⟨fun _ => rfl⟩
instance {x : Str} : Ix .sh (Fo.n x).e (.int 0) .sh (.str "name") True := ⟨fun _ => rfl⟩
instance {x : Str} : Ix .sh (Fo.n x).e (.int 1) .sh (.str x) True := ⟨fun _ => rfl⟩
instance {o : U1} {a : Fo} : Ix .sh (Fo.u o a).e (.int 1) .sh a.e True := ⟨fun _ => rfl⟩
instance {o : B2} {a b : Fo} : Ix .sh (Fo.b o a b).e (.int 1) .sh a.e True := ⟨fun _ => rfl⟩
instance {o : B2} {a b : Fo} : Ix .sh (Fo.b o a b).e (.int 2) .sh b.e True := ⟨fun _ => rfl⟩
instance {o : U1} {a : Fo} : Fn f_children_of [(.sh, (Fo.u o a).e)] .sh (.tup [a.e]) True := ⟨fun _ => ⟨[some (.sh, (Fo.u o a).e)], by cases o <;> kernel_rfl⟩⟩
instance {o : B2} {a b : Fo} : Fn f_children_of [(.sh, (Fo.b o a b).e)] .sh (.tup [a.e, b.e]) True := ⟨fun _ => ⟨[some (.sh, (Fo.b o a b).e)], by cases o <;> kernel_rfl⟩⟩
instance {x : Str} : Fn f_children_of [(.sh, (Fo.n x).e)] .sh (.tup []) True := ⟨fun _ => ⟨[some (.sh, (Fo.n x).e)], by kernel_rfl⟩⟩
instance : Fn f_children_of [(.sh, Fo.t.e)] .sh (.tup []) True := ⟨fun _ => ⟨[some (.sh, Fo.t.e)], by kernel_rfl⟩⟩
instance : Fn f_children_of [(.sh, Fo.f.e)] .sh (.tup []) True := ⟨fun _ => ⟨[some (.sh, Fo.f.e)], by kernel_rfl⟩⟩
theorem dep_size (φ : Fo) : φ.dep < φ.size := by
  induction φ <;> simp [Fo.dep, Fo.size, *] <;> omega
theorem size_ok (n : Nat) (φ : Fo) (h : φ.dep < n) : ∃ os, f_size_of n [(.sh, φ.e)] = .ok (.sh, .int (φ.size : Nat)) os := by
  induction φ generalizing n with
  | u o a ih =>
    obtain ⟨n, rfl⟩ : ∃ k, n = k + 1 := ⟨n - 1, by simp [Fo.dep] at h; omega⟩
    haveI : Fn (f_size_of n) [(.sh, a.e)] .sh (.int (a.size : Nat)) True := ⟨fun _ => ih n (by simp [Fo.dep] at h; omega)⟩
    refine en_size_of ?_
    unfold b_size_of
    close_w
    simp [Fo.size]; omega
  | b o a b ih1 ih2 =>
    obtain ⟨n, rfl⟩ : ∃ k, n = k + 1 := ⟨n - 1, by simp [Fo.dep] at h; omega⟩
    haveI : Fn (f_size_of n) [(.sh, a.e)] .sh (.int (a.size : Nat)) True := ⟨fun _ => ih1 n (by simp [Fo.dep] at h; omega)⟩
    haveI : Fn (f_size_of n) [(.sh, b.e)] .sh (.int (b.size : Nat)) True := ⟨fun _ => ih2 n (by simp [Fo.dep] at h; omega)⟩
    refine en_size_of ?_
    unfold b_size_of
    close_w
    simp [Fo.size]; omega
  | _ =>
    obtain ⟨n, rfl⟩ : ∃ k, n = k + 1 := ⟨n - 1, by simp [Fo.dep] at h; omega⟩
    refine en_size_of ?_
    unfold b_size_of
    close_w
    simp [Fo.size]
instance {n : Nat} {φ : Fo} : Fn (f_size_of n) [(.sh, φ.e)] .sh (.int (φ.size : Nat)) (φ.dep < n) := ⟨size_ok n φ⟩
/-! ### paths -/
abbrev ni (k : Nat) : D := .int (k : Nat)
abbrev encP (p : List Nat) : D := .tup (p.map ni)
def Fo.paths : Fo → List (List Nat)
  | .u _ a => [] :: a.paths.map (0 :: ·)
  | .b _ x y => [] :: (x.paths.map (0 :: ·) ++ y.paths.map (1 :: ·))
  | _ => [[]]
theorem paths_len (φ : Fo) : φ.paths.length = φ.size := by
  induction φ <;> simp [Fo.paths, Fo.size, *]
theorem paths_dep (φ : Fo) : ∀ p ∈ φ.paths, p.length ≤ φ.dep := by
  induction φ with
  | u o a ih => intro p h; simp [Fo.paths] at h; rcases h with rfl | ⟨q, hq, rfl⟩; simp; simp [Fo.dep]; exact ih q hq
  | b o x y ihx ihy =>
    intro p h; simp [Fo.paths] at h; simp only [Fo.dep]
    rcases h with rfl | ⟨q, hq, rfl⟩ | ⟨q, hq, rfl⟩
    · simp
    · have := ihx q hq; simp; omega
    · have := ihy q hq; simp; omega
  | _ => intro p h; simp [Fo.paths] at h; subst h; simp
/-- for path in ps: found.append((k,) + path) -/
theorem paths_loop {X : XP} {Q : FK} {k : Nat} {ps : List (List Nat)} {o1 o2 o3 : Option (Ty × D)} {acc : List D} (hp : ∀ p ∈ ps, p.length ≤ 1000) (hl : acc.length + ps.length ≤ 100000)
    (hq : ∀ c, Q .nx [o1, some (.lst .sh, .lst (acc ++ ps.map fun p => encP (k :: p))), some (.sh, .int k), o2, c]) :
    (mLoop (gSt 4) (mDrop (mMethP (mSlot 1) (mCons (mPl (m2 (mTup (mCons (mVar 2) mNil)) (mVar 4))) mNil) oAppend)) (ps.map encP) [o1, some (.lst .sh, .lst acc), some (.sh, .int k), o2, o3]).P Q X := by
  refine w_loop (fun pre δ => ∃ c, δ = [o1, some (.lst .sh, .lst (acc ++ pre.map fun p => encP (k :: p))), some (.sh, .int k), o2, c]) ⟨o3, by simp⟩ ?_ ?_
  · rintro pre p post δ rfl ⟨c, rfl⟩
    have := hp p (by simp)
    simp at hl
    close_w
    all_goals simp [sizeLine_val]
    all_goals omega
  · rintro δ ⟨c, rfl⟩
    exact hq c
theorem paths_ok (n : Nat) (φ : Fo) (h : φ.dep < n) (hs : φ.size ≤ 1000) : ∃ os, f_paths_of n [(.sh, φ.e)] = .ok (.sh, .tup (φ.paths.map encP)) os := by
  have ps := paths_len φ
  induction φ generalizing n with
  | u o a ih =>
    obtain ⟨n, rfl⟩ : ∃ k, n = k + 1 := ⟨n - 1, by simp [Fo.dep] at h; omega⟩
    simp only [Fo.dep, Fo.size] at h hs
    haveI : Fn (f_paths_of n) [(.sh, a.e)] .sh (.tup (a.paths.map encP)) True := ⟨fun _ => ih n (by omega) (by omega) (paths_len a)⟩
    have pd := paths_dep a
    have ds := dep_size a
    have pl := paths_len a
    refine en_paths_of ?_
    unfold b_paths_of
    close_w
    refine paths_loop (k := 0) (fun p hp => by have := pd p hp; omega) (by simp; omega) fun c => ?_
    close_w
    simp [Fo.paths, Function.comp_def]
  | b o a b ih1 ih2 =>
    obtain ⟨n, rfl⟩ : ∃ k, n = k + 1 := ⟨n - 1, by simp [Fo.dep] at h; omega⟩
    simp only [Fo.dep, Fo.size] at h hs
    haveI : Fn (f_paths_of n) [(.sh, a.e)] .sh (.tup (a.paths.map encP)) True := ⟨fun _ => ih1 n (by omega) (by omega) (paths_len a)⟩
    haveI : Fn (f_paths_of n) [(.sh, b.e)] .sh (.tup (b.paths.map encP)) True := ⟨fun _ => ih2 n (by omega) (by omega) (paths_len b)⟩
    have pd1 := paths_dep a
    have ds1 := dep_size a
    have pl1 := paths_len a
    have pd2 := paths_dep b
    have ds2 := dep_size b
    have pl2 := paths_len b
    refine en_paths_of ?_
    unfold b_paths_of
    close_w
    refine paths_loop (k := 0) (fun p hp => by have := pd1 p hp; omega) (by simp; omega) fun c => ?_
    close_w
    refine paths_loop (k := 1) (fun p hp => by have := pd2 p hp; omega) (by simp; omega) fun c => ?_
    close_w
    simp [Fo.paths, Function.comp_def]
  | _ =>
    obtain ⟨n, rfl⟩ : ∃ k, n = k + 1 := ⟨n - 1, by simp [Fo.dep] at h; omega⟩
    refine en_paths_of ?_
    unfold b_paths_of
    close_w
    simp [Fo.paths]
instance {n : Nat} {φ : Fo} : Fn (f_paths_of n) [(.sh, φ.e)] .sh (.tup (φ.paths.map encP)) (φ.dep < n ∧ φ.size ≤ 1000) := ⟨fun ⟨h1, h2⟩ => paths_ok n φ h1 h2⟩
end FO

end

section
set_option Elab.async false
set_option linter.all false
set_option maxRecDepth 100000
set_option maxHeartbeats 2000000
open PySem L2 VS
local macro_rules | `(tactic| lcg_sub) => `(tactic| focus ((repeat' (first | exact trivial | assumption | omega | (refine And.intro ?_ ?_) | (intro _))) <;> (first | assumption | omega | exact Nat.le_of_ble_eq_true rfl | (simp only [sizeLine_val, List.length_cons, List.length_nil, List.length_map, List.length_append, List.length_set, List.length_range] at *; omega) | (exfalso; omega) | (decide +kernel) | skip)))
local macro_rules | `(tactic| lcg_off) => `(tactic| (intro h; (try simp only [decide_eq_true_eq, decide_eq_false_iff_not, Bool.and_eq_true, Bool.or_eq_true, Bool.not_eq_true', Bool.not_eq_false', Bool.not_eq_true, Bool.and_eq_false_imp, Bool.or_eq_false_iff, reduceCtorEq, Bool.not_not, Bool.not_true, Bool.not_false, Classical.not_not, List.isEmpty_iff, List.isEmpty_eq_false_iff, List.append_eq_nil_iff, List.cons_ne_nil, and_false, ne_eq, not_true_eq_false, not_false_eq_true, List.map_eq_nil_iff, str_inj, String.reduceEq, List.mem_cons, List.not_mem_nil, or_false, false_or, or_self] at h); (try (exact absurd h (by decide +kernel)))))
local macro_rules | `(tactic| lcg_src) => `(tactic| first
  | (with_reducible refine side_mk ?_; lcg_sub)
  | (with_reducible refine ont_mk ?_; lcg_off) | (with_reducible refine onf_mk ?_; lcg_off)
  | (with_reducible refine g_C ?_; first | (with_reducible refine x_ev ?_ ?_) | (with_reducible refine x_fz ?_) | (with_reducible refine w_draw ?_ ?_ ?_) | (with_reducible refine x_op2 ?_) | (with_reducible refine x_pl ?_) | (with_reducible refine x_ix ?_) | (with_reducible refine x_ixn ?_) | (with_reducible refine w_callP ?_) | (with_reducible refine w_appD ?_ ?_) | (with_reducible refine w_appV ?_ ?_) | (with_reducible refine w_appD2 ?_ ?_ ?_) | (with_reducible refine x_b1 ?_) | (with_reducible refine x_if ?_) | (with_reducible refine x_tup ?_) | (with_reducible refine x_lstZ ?_) | (with_reducible refine x_lstH ?_) | (with_reducible refine x_lc ?_) | (with_reducible refine x_join ?_ ?_) | (with_reducible refine x_app ?_) | (with_reducible refine x_ixk ?_) | (with_reducible refine x_ixkn ?_) | (with_reducible refine x_sl ?_ ?_ ?_))
  | (with_reducible refine g_T ?_; first | (with_reducible refine w_wtest ?_ ?_ ?_) | (with_reducible refine w_evT ?_ ?_) | (with_reducible refine x_bl ?_) | (with_reducible refine x_tru ?_) | (with_reducible refine x_not ?_) | (with_reducible refine x_and ?_) | (with_reducible refine x_or ?_) | (with_reducible refine w_pure ?_))
  | (with_reducible refine g_S ?_; first | (with_reducible refine w_asg ?_ ?_ ?_) | (with_reducible refine w_if ?_ ?_ ?_) | (with_reducible refine w_ret ?_ ?_) | (with_reducible refine w_drop ?_ ?_) | (with_reducible refine w_for ?_ ?_) | (with_reducible refine w_aug ?_ ?_) | (with_reducible refine w_skip ?_) | (with_reducible refine w_loop0 ?_) | (with_reducible refine w_loop1 ?_) | (with_reducible refine w_pure ?_) | (with_reducible refine x_asg ?_) | (with_reducible refine x_ret ?_) | (with_reducible refine x_drop ?_) | (with_reducible refine x_ifS ?_))
  | (with_reducible refine g_E ?_; first | (with_reducible refine w_tg ?_ ?_) | (with_reducible refine x_op2f ?_ ?_) | (with_reducible refine x_plf ?_ ?_) | (with_reducible refine x_ixf ?_ ?_) | (with_reducible refine x_ixnf ?_ ?_) | (with_reducible refine x_b1f ?_ ?_) | (with_reducible refine x_blf ?_) | (with_reducible refine x_truf ?_ ?_) | (with_reducible refine x_joinf ?_ ?_) | (with_reducible refine ex_int ?_ ?_) | (with_reducible refine x_ixkf ?_ ?_) | (with_reducible refine x_ixknf ?_ ?_) | (with_reducible refine x_slf ?_ ?_))
  | (with_reducible refine k_nx ?_) | (with_reducible refine k_rt ?_) | (with_reducible refine cur_mk ?_) | (with_reducible refine k_bk ?_) | (with_reducible refine k_ct ?_) | (with_reducible refine m_nx ?_) | (with_reducible refine m_bk ?_) | (with_reducible refine m_ct ?_) | (with_reducible refine m_rt ?_) | (with_reducible refine l_nx ?_) | (with_reducible refine l_ct ?_) | (with_reducible refine l_bk ?_) | (with_reducible refine l_rt ?_) | (with_reducible refine h_bk ?_) | (with_reducible refine h_rt ?_) | (with_reducible refine r_rt ?_) | (with_reducible refine f_rt ?_) | (with_reducible refine f_nx ?_) | (with_reducible refine and_tf ?_ ?_) | (with_reducible refine len_and ?_ ?_) | (with_reducible refine x_appf ?_ ?_)
  | (with_reducible refine alld_mk ?_; intro b q' hb; (try simp only [] at hb))
  | (with_reducible refine g_A ?_; first | (with_reducible refine a_cons ?_) | (with_reducible refine a_nil ?_)) | (with_reducible refine g_B ?_; first | (with_reducible refine w_bRef ?_) | (with_reducible refine w_bVal ?_) | (with_reducible refine w_bNil ?_)) | (with_reducible refine g_I ?_; first | (with_reducible refine x_evI ?_ ?_) | (with_reducible refine x_rng1 ?_))
  | (with_reducible exact r_nx))
local macro_rules | `(tactic| close_w) => `(tactic| (repeat' (first | (with_reducible refine w_seq ?_) | lcg_src)))
local macro_rules | `(tactic| o_reads) => `(tactic| (repeat' lcg_src))
/-! FO2: part_at, with_part, sign_at, names_in, beneath_was, bare_names. -/
namespace FO
def Fo.at_ : Fo → List Nat → Option Fo
  | φ, [] => some φ
  | φ, k :: p => φ.kids[k]?.bind fun c => c.at_ p
theorem at_append : ∀ (p q : List Nat) (φ : Fo), φ.at_ (p ++ q) = (φ.at_ p).bind fun ψ => ψ.at_ q
  | [], q, φ => rfl
  | k :: p, q, φ => by
    simp only [List.cons_append, Fo.at_]
    cases φ.kids[k]? with
    | none => rfl
    | some c => simp [at_append p q c]
/-- one step on -/
theorem at_step {φ χ : Fo} {pre post : List Nat} {k : Nat} (h : φ.at_ (pre ++ k :: post) = some χ) : ∃ ψ c, φ.at_ pre = some ψ ∧ ψ.kids[k]? = some c ∧ φ.at_ (pre ++ [k]) = some c := by
  rw [at_append] at h
  rw [Option.bind_eq_some_iff] at h
  obtain ⟨ψ, h1, h2⟩ := h
  simp only [Fo.at_, Option.bind_eq_some_iff] at h2
  obtain ⟨c, h3, h4⟩ := h2
  exact ⟨ψ, c, h1, h3, by rw [at_append, h1]; simp [Fo.at_, h3]⟩
theorem ix_kid {φ c : Fo} {k : Nat} (h : φ.kids[k]? = some c) : Ix .sh φ.e (.int ((k : Int) + 1)) .sh c.e True := ⟨fun _ => by
  cases φ with
  | u o a =>
    match k, h with
    | 0, h => cases h; rfl
  | b o x y =>
    match k, h with
    | 0, h => cases h; rfl
    | 1, h => cases h; rfl
  | _ => simp [Fo.kids] at h⟩
theorem part_ok {φ χ : Fo} {d : D} {p : List Nat} [ItE d (p.map ni)] (h : φ.at_ p = some χ) : ∃ os, f_part_at [(.sh, φ.e), (.sh, d)] = .ok (.sh, χ.e) os := by
  refine en_part_at ?_
  unfold b_part_at
  close_w
  refine w_loop (xs := p) (fun pre δ => ∃ ψ c, φ.at_ pre = some ψ ∧ δ = [some (.sh, ψ.e), some (.sh, d), c]) ⟨φ, _, rfl, rfl⟩ ?_ ?_
  · rintro pre k post δ rfl ⟨ψ, c, e1, rfl⟩
    obtain ⟨ψ', x, e2, e3, e4⟩ := at_step h
    rw [e1] at e2; cases e2
    haveI := ix_kid e3
    haveI := ix_hd ψ
    close_w
    exact ⟨x, _, e4, rfl⟩
  · rintro δ ⟨ψ, c, e1, rfl⟩
    rw [h] at e1; cases e1
    close_w
    rfl
def Fo.isNot : Fo → Bool | .u .not _ => true | _ => false
def Fo.isWas : Fo → Bool | .u .was _ => true | _ => false
theorem hd_not (φ : Fo) : decide (φ.hd = "not") = φ.isNot := by
  cases φ with
  | u o a => cases o <;> kernel_rfl
  | b o x y => cases o <;> kernel_rfl
  | _ => kernel_rfl
theorem hd_was (φ : Fo) : decide (φ.hd = "was") = φ.isWas := by
  cases φ with
  | u o a => cases o <;> kernel_rfl
  | b o x y => cases o <;> kernel_rfl
  | _ => kernel_rfl
instance (priority := high) {φ : Fo} : Op2 fEq2 (.str φ.hd) (.str "not") (.bl φ.isNot) True := ⟨fun _ => by rw [← hd_not]; rfl⟩
instance (priority := high) {φ : Fo} : Op2 fEq2 (.str φ.hd) (.str "was") (.bl φ.isWas) True := ⟨fun _ => by rw [← hd_was]; rfl⟩
/-- the nodes strictly above the end of a path -/
def Fo.above : Fo → List Nat → List Fo
  | _, [] => []
  | φ, k :: p => φ :: match φ.kids[k]? with
    | some c => c.above p
    | none => []
theorem above_snoc : ∀ {pre : List Nat} {φ ψ c : Fo} {k : Nat}, φ.at_ pre = some ψ → ψ.kids[k]? = some c → φ.above (pre ++ [k]) = φ.above pre ++ [ψ]
  | [], φ, ψ, c, k, h, hc => by cases h; simp [Fo.above, hc]
  | j :: pre, φ, ψ, c, k, h, hc => by
    simp only [Fo.at_, Option.bind_eq_some_iff] at h
    obtain ⟨b, h1, h2⟩ := h
    simp [Fo.above, h1, above_snoc h2 hc]
def sgn (n : Nat) : Int := if n % 2 = 1 then -1 else 1
theorem sgn_succ (n : Nat) : sgn (n + 1) = -sgn n := by
  unfold sgn
  rcases Nat.mod_two_eq_zero_or_one n with h | h
  · rw [if_pos (by omega), if_neg (by omega)]
  · rw [if_neg (by omega), if_pos h]; rfl
theorem sign_ok {φ χ : Fo} {d : D} {p : List Nat} [ItE d (p.map ni)] (h : φ.at_ p = some χ) : ∃ os, f_sign_at [(.sh, φ.e), (.sh, d)] = .ok (.sh, .int (sgn ((φ.above p).countP Fo.isNot))) os := by
  refine en_sign_at ?_
  unfold b_sign_at
  close_w
  refine w_loop (xs := p) (fun pre δ => ∃ ψ c, φ.at_ pre = some ψ ∧ δ = [some (.sh, ψ.e), some (.sh, d), some (.sh, .int (sgn ((φ.above pre).countP Fo.isNot))), c]) ⟨φ, _, rfl, rfl⟩ ?_ ?_
  · rintro pre k post δ rfl ⟨ψ, c, e1, rfl⟩
    obtain ⟨ψ', x, e2, e3, e4⟩ := at_step h
    rw [e1] at e2; cases e2
    haveI := ix_kid e3
    haveI := ix_hd ψ
    close_w
    all_goals refine ⟨x, some (.sh, ni k), e4, ?_⟩
    · rename_i hn
      rw [above_snoc e1 e3, List.countP_append]; simp [hn, sgn_succ]
    · rename_i hn
      rw [above_snoc e1 e3, List.countP_append]; simp [hn]
  · rintro δ ⟨ψ, c, e1, rfl⟩
    close_w
    rfl
theorem above_any {φ χ : Fo} {pre post : List Nat} {q : Fo → Bool} (h : φ.at_ (pre ++ post) = some χ) (ha : (φ.above pre).any q = true) : (φ.above (pre ++ post)).any q = true := by
  induction post generalizing pre with
  | nil => simpa using ha
  | cons k post ih =>
    obtain ⟨ψ, c, e1, e2, e3⟩ := at_step h
    have : pre ++ k :: post = (pre ++ [k]) ++ post := by simp
    rw [this] at h ⊢
    exact ih h (by rw [above_snoc e1 e2, List.any_append, ha]; rfl)
theorem was_ok {φ χ : Fo} {d : D} {p : List Nat} [ItE d (p.map ni)] (h : φ.at_ p = some χ) : ∃ os, f_beneath_was [(.sh, φ.e), (.sh, d)] = .ok (.sh, .bl ((φ.above p).any Fo.isWas)) os := by
  refine en_beneath_was ?_
  unfold b_beneath_was
  close_w
  refine w_loop (xs := p) (fun pre δ => ∃ ψ c, φ.at_ pre = some ψ ∧ (φ.above pre).any Fo.isWas = false ∧ δ = [some (.sh, ψ.e), some (.sh, d), c]) ⟨φ, _, rfl, rfl, rfl⟩ ?_ ?_
  · rintro pre k post δ rfl ⟨ψ, c, e1, ew, rfl⟩
    obtain ⟨ψ', x, e2, e3, e4⟩ := at_step h
    rw [e1] at e2; cases e2
    haveI := ix_kid e3
    haveI := ix_hd ψ
    close_w
    · rename_i hn
      have : pre ++ k :: post = (pre ++ [k]) ++ post := by simp
      rw [this] at h ⊢
      rw [above_any h (by rw [above_snoc e1 e3]; simp [hn])]
    · rename_i hn
      exact ⟨x, _, e4, by rw [above_snoc e1 e3]; simp [hn, ew], rfl⟩
  · rintro δ ⟨ψ, c, e1, ew, rfl⟩
    close_w
    rw [ew]
theorem part_fn {φ : Fo} {d : D} {p : List Nat} {χ : Fo} [ItE d (p.map ni)] (h : φ.at_ p = some χ) : Fn f_part_at [(.sh, φ.e), (.sh, d)] .sh χ.e True := ⟨fun _ => part_ok h⟩
/-! ### with_part -/
def Fo.put : Fo → List Nat → Fo → Fo
  | _, [], ψ => ψ
  | .u o a, 0 :: p, ψ => .u o (a.put p ψ)
  | .b o x y, 0 :: p, ψ => .b o (x.put p ψ) y
  | .b o x y, 1 :: p, ψ => .b o x (y.put p ψ)
  | φ, _ :: _, _ => φ
class PathD (d : D) (p : outParam (List Nat)) : Prop where
  h : d = .tup (p.map ni) ∨ d = .lst (p.map ni)
instance {p : List Nat} : PathD (.tup (p.map ni)) p := ⟨.inl rfl⟩
instance {p : List Nat} : PathD (.lst (p.map ni)) p := ⟨.inr rfl⟩
theorem PathD.it {d : D} {p : List Nat} (k : PathD d p) : ItE d (p.map ni) := ⟨k.h.symm⟩
theorem cut1 {α : Type} (x : α) (l : List α) : cutD (x :: l) (some 1) none = l := by
  simp [cutD, HT.sIx]
theorem with_ok : ∀ (p : List Nat) (n : Nat) (φ ψ χ : Fo) (d : D), PathD d p → p.length < n → φ.at_ p = some χ → ∃ os, f_with_part n [(.sh, φ.e), (.sh, d), (.sh, ψ.e)] = .ok (.sh, (φ.put p ψ).e) os
  | p, 0, _, _, _, _, _, h, _ => absurd h (Nat.not_lt_zero _)
  | [], n + 1, φ, ψ, χ, d, hd, _, _ => by
    rw [show φ.put [] ψ = ψ by cases φ <;> rfl]
    refine en_with_part ?_
    unfold b_with_part
    haveI : Tru d false True := ⟨fun _ => by rcases hd.h with rfl | rfl <;> rfl⟩
    close_w
    rfl
  | k :: p, n + 1, φ, ψ, χ, d, hd, hl, h => by
    simp only [Fo.at_, Option.bind_eq_some_iff] at h
    obtain ⟨c, h1, h2⟩ := h
    refine en_with_part ?_
    unfold b_with_part
    haveI : Tru d true True := ⟨fun _ => by rcases hd.h with rfl | rfl <;> rfl⟩
    haveI : Ix .sh d (.int 0) .sh (ni k) True := ⟨fun _ => by rcases hd.h with rfl | rfl <;> simp [fIx, ixN, itemTy]⟩
    haveI := ix_kid h1
    obtain ⟨t', d', hd', hs⟩ : ∃ t' d', PathD d' p ∧ Sl .sh d (some 1) none t' d' True := by
      rcases hd.h with rfl | rfl
      · exact ⟨.sh, _, ⟨.inl rfl⟩, ⟨fun _ => by simp [fSl, itemsSh, cut1]⟩⟩
      · exact ⟨.lst .sh, _, ⟨.inr rfl⟩, ⟨fun _ => by simp [fSl, itemsSh, cut1]⟩⟩
    haveI : Fn (f_with_part n) [(.sh, c.e), (.sh, d'), (.sh, ψ.e)] .sh (c.put p ψ).e True := ⟨fun _ => with_ok p n c ψ χ d' hd' (by simp at hl; omega) h2⟩
    cases φ with
    | u o a =>
      match k, h1 with
      | 0, h1 =>
        cases h1
        haveI : VS.Its .sh (Fo.u o c).e [.str o.s, c.e] := ⟨rfl⟩
        close_w
        rfl
    | b o x y =>
      haveI : VS.Its .sh (Fo.b o x y).e [.str o.s, x.e, y.e] := ⟨rfl⟩
      match k, h1 with
      | 0, h1 =>
        cases h1
        close_w
        rfl
      | 1, h1 =>
        cases h1
        close_w
        rfl
    | _ => simp [Fo.kids] at h1
end FO

end

section
set_option Elab.async false
set_option linter.all false
set_option maxRecDepth 100000
set_option maxHeartbeats 2000000
open PySem L2 VS
local macro_rules | `(tactic| lcg_sub) => `(tactic| focus ((repeat' (first | exact trivial | assumption | omega | (refine And.intro ?_ ?_) | (intro _))) <;> (first | assumption | omega | exact Nat.le_of_ble_eq_true rfl | (simp only [sizeLine_val, List.length_cons, List.length_nil, List.length_map, List.length_append, List.length_set, List.length_range] at *; omega) | (exfalso; omega) | (decide +kernel) | skip)))
local macro_rules | `(tactic| lcg_off) => `(tactic| (intro h; (try simp only [decide_eq_true_eq, decide_eq_false_iff_not, Bool.and_eq_true, Bool.or_eq_true, Bool.not_eq_true', Bool.not_eq_false', Bool.not_eq_true, Bool.and_eq_false_imp, Bool.or_eq_false_iff, reduceCtorEq, Bool.not_not, Bool.not_true, Bool.not_false, Classical.not_not, List.isEmpty_iff, List.isEmpty_eq_false_iff, List.append_eq_nil_iff, List.cons_ne_nil, and_false, ne_eq, not_true_eq_false, not_false_eq_true, List.map_eq_nil_iff, str_inj, String.reduceEq, List.mem_cons, List.not_mem_nil, or_false, false_or, or_self] at h); (try (exact absurd h (by decide +kernel)))))
local macro_rules | `(tactic| lcg_src) => `(tactic| first
  | (with_reducible refine side_mk ?_; lcg_sub)
  | (with_reducible refine ont_mk ?_; lcg_off) | (with_reducible refine onf_mk ?_; lcg_off)
  | (with_reducible refine g_C ?_; first | (with_reducible refine x_ev ?_ ?_) | (with_reducible refine x_fz ?_) | (with_reducible refine w_draw ?_ ?_ ?_) | (with_reducible refine x_op2 ?_) | (with_reducible refine x_pl ?_) | (with_reducible refine x_ix ?_) | (with_reducible refine x_ixn ?_) | (with_reducible refine w_callP ?_) | (with_reducible refine w_appD ?_ ?_) | (with_reducible refine w_appV ?_ ?_) | (with_reducible refine w_appD2 ?_ ?_ ?_) | (with_reducible refine x_b1 ?_) | (with_reducible refine x_if ?_) | (with_reducible refine x_tup ?_) | (with_reducible refine x_lstZ ?_) | (with_reducible refine x_lstH ?_) | (with_reducible refine x_lc ?_) | (with_reducible refine x_join ?_ ?_) | (with_reducible refine x_app ?_) | (with_reducible refine x_ixk ?_) | (with_reducible refine x_ixkn ?_) | (with_reducible refine x_sl ?_ ?_ ?_))
  | (with_reducible refine g_T ?_; first | (with_reducible refine w_wtest ?_ ?_ ?_) | (with_reducible refine w_evT ?_ ?_) | (with_reducible refine x_bl ?_) | (with_reducible refine x_tru ?_) | (with_reducible refine x_not ?_) | (with_reducible refine x_and ?_) | (with_reducible refine x_or ?_) | (with_reducible refine w_pure ?_))
  | (with_reducible refine g_S ?_; first | (with_reducible refine w_asg ?_ ?_ ?_) | (with_reducible refine w_if ?_ ?_ ?_) | (with_reducible refine w_ret ?_ ?_) | (with_reducible refine w_drop ?_ ?_) | (with_reducible refine w_for ?_ ?_) | (with_reducible refine w_aug ?_ ?_) | (with_reducible refine w_skip ?_) | (with_reducible refine w_loop0 ?_) | (with_reducible refine w_loop1 ?_) | (with_reducible refine w_pure ?_) | (with_reducible refine x_asg ?_) | (with_reducible refine x_ret ?_) | (with_reducible refine x_drop ?_) | (with_reducible refine x_ifS ?_))
  | (with_reducible refine g_E ?_; first | (with_reducible refine w_tg ?_ ?_) | (with_reducible refine x_op2f ?_ ?_) | (with_reducible refine x_plf ?_ ?_) | (with_reducible refine x_ixf ?_ ?_) | (with_reducible refine x_ixnf ?_ ?_) | (with_reducible refine x_b1f ?_ ?_) | (with_reducible refine x_blf ?_) | (with_reducible refine x_truf ?_ ?_) | (with_reducible refine x_joinf ?_ ?_) | (with_reducible refine ex_int ?_ ?_) | (with_reducible refine x_ixkf ?_ ?_) | (with_reducible refine x_ixknf ?_ ?_) | (with_reducible refine x_slf ?_ ?_))
  | (with_reducible refine k_nx ?_) | (with_reducible refine k_rt ?_) | (with_reducible refine cur_mk ?_) | (with_reducible refine k_bk ?_) | (with_reducible refine k_ct ?_) | (with_reducible refine m_nx ?_) | (with_reducible refine m_bk ?_) | (with_reducible refine m_ct ?_) | (with_reducible refine m_rt ?_) | (with_reducible refine l_nx ?_) | (with_reducible refine l_ct ?_) | (with_reducible refine l_bk ?_) | (with_reducible refine l_rt ?_) | (with_reducible refine h_bk ?_) | (with_reducible refine h_rt ?_) | (with_reducible refine r_rt ?_) | (with_reducible refine f_rt ?_) | (with_reducible refine f_nx ?_) | (with_reducible refine and_tf ?_ ?_) | (with_reducible refine len_and ?_ ?_) | (with_reducible refine x_appf ?_ ?_)
  | (with_reducible refine alld_mk ?_; intro b q' hb; (try simp only [] at hb))
  | (with_reducible refine g_A ?_; first | (with_reducible refine a_cons ?_) | (with_reducible refine a_nil ?_)) | (with_reducible refine g_B ?_; first | (with_reducible refine w_bRef ?_) | (with_reducible refine w_bVal ?_) | (with_reducible refine w_bNil ?_)) | (with_reducible refine g_I ?_; first | (with_reducible refine x_evI ?_ ?_) | (with_reducible refine x_rng1 ?_))
  | (with_reducible exact r_nx))
local macro_rules | `(tactic| close_w) => `(tactic| (repeat' (first | (with_reducible refine w_seq ?_) | lcg_src)))
local macro_rules | `(tactic| o_reads) => `(tactic| (repeat' lcg_src))
/-! FO3: names_in, bare_names, remembered. -/
namespace FO
theorem paths_at {φ : Fo} : ∀ {p : List Nat}, p ∈ φ.paths → ∃ χ, φ.at_ p = some χ := by
  induction φ with
  | u o a ih =>
    intro p h
    simp [Fo.paths] at h
    rcases h with rfl | ⟨q, hq, rfl⟩
    · exact ⟨_, rfl⟩
    · obtain ⟨χ, e⟩ := ih hq
      exact ⟨χ, by simp [Fo.at_, Fo.kids, e]⟩
  | b o x y ihx ihy =>
    intro p h
    simp [Fo.paths] at h
    rcases h with rfl | ⟨q, hq, rfl⟩ | ⟨q, hq, rfl⟩
    · exact ⟨_, rfl⟩
    · obtain ⟨χ, e⟩ := ihx hq
      exact ⟨χ, by simp [Fo.at_, Fo.kids, e]⟩
    · obtain ⟨χ, e⟩ := ihy hq
      exact ⟨χ, by simp [Fo.at_, Fo.kids, e]⟩
  | _ => intro p h; simp [Fo.paths] at h; subst h; exact ⟨_, rfl⟩
/-- each once, in the order of the first places -/
def once1 {α : Type} [DecidableEq α] (acc : List α) (x : α) : List α := if x ∈ acc then acc else acc ++ [x]
def onceEach {α : Type} [DecidableEq α] (xs : List α) : List α := xs.foldl once1 []
theorem onceEach_snoc {α : Type} [DecidableEq α] (xs : List α) (x : α) : onceEach (xs ++ [x]) = once1 (onceEach xs) x := by simp [onceEach]
theorem once_len {α : Type} [DecidableEq α] : ∀ (xs acc : List α), (xs.foldl once1 acc).length ≤ acc.length + xs.length
  | [], acc => by simp
  | x :: xs, acc => by
    have := once_len xs (once1 acc x)
    have h : (once1 acc x).length ≤ acc.length + 1 := by unfold once1; split <;> simp
    simp at this ⊢; omega
theorem onceEach_len {α : Type} [DecidableEq α] (xs : List α) : (onceEach xs).length ≤ xs.length := by simpa [onceEach] using once_len xs []
def Fo.nameOf : Fo → Option Str | .n x => some x | _ => none
/-- the name at a path -/
def Fo.nameAt (φ : Fo) (p : List Nat) : Option Str := (φ.at_ p).bind Fo.nameOf
def Fo.names (φ : Fo) : List Str := onceEach (φ.paths.filterMap φ.nameAt)
def Fo.bareAt (φ : Fo) (p : List Nat) : Option Str := if (φ.above p).any Fo.isWas then none else φ.nameAt p
def Fo.bare (φ : Fo) : List Str := onceEach (φ.paths.filterMap φ.bareAt)
theorem fm_len {α β : Type} (f : α → Option β) (l r : List α) : (List.filterMap f l).length ≤ (l ++ r).length := by
  have := List.length_filterMap_le f l
  simp; omega
theorem names_ok {φ : Fo} (h : φ.size ≤ 1000) (hd : φ.dep < 60) : ∃ os, f_names_in [(.sh, φ.e)] = .ok (.sh, .tup (φ.names.map .str)) os := by
  have pl := paths_len φ
  refine en_names_in ?_
  unfold b_names_in
  close_w
  refine w_loop (xs := φ.paths) (fun pre δ => ∃ c1 c2, δ = [some (.sh, φ.e), some (.lst .sh, .lst ((onceEach (pre.filterMap φ.nameAt)).map .str)), c1, c2]) ⟨_, _, rfl⟩ ?_ ?_
  · rintro pre p post δ e ⟨c1, c2, rfl⟩
    obtain ⟨χ, e1⟩ := paths_at (φ := φ) (p := p) (by rw [e]; simp)
    haveI := part_fn (d := encP p) e1
    have hlen : (onceEach (pre.filterMap φ.nameAt)).length ≤ 1000 := by
      have := onceEach_len (pre.filterMap φ.nameAt)
      have := List.length_filterMap_le φ.nameAt pre
      rw [e] at pl; simp at pl; omega
    have key : ∀ x, φ.nameAt p = some x → onceEach ((pre ++ [p]).filterMap φ.nameAt) = once1 (onceEach (pre.filterMap φ.nameAt)) x := fun x hx => by
      rw [List.filterMap_append, ← onceEach_snoc]; simp [hx]
    have key0 : φ.nameAt p = none → onceEach ((pre ++ [p]).filterMap φ.nameAt) = onceEach (pre.filterMap φ.nameAt) := fun hx => by
      rw [List.filterMap_append]; simp [hx]
    cases χ with
    | n x =>
      have hx : φ.nameAt p = some x := by simp [Fo.nameAt, e1, Fo.nameOf]
      rw [key x hx]
      close_w
      · rename_i hn
        simp [once1, hn.2]
      · rename_i hn
        simp [once1, hn trivial]
    | u o a =>
      rw [key0 (by simp [Fo.nameAt, e1, Fo.nameOf])]
      cases o <;> (close_w) <;> exact ⟨_, _, rfl⟩
    | b o a b =>
      rw [key0 (by simp [Fo.nameAt, e1, Fo.nameOf])]
      cases o <;> (close_w) <;> exact ⟨_, _, rfl⟩
    | _ =>
      rw [key0 (by simp [Fo.nameAt, e1, Fo.nameOf])]
      (close_w) <;> exact ⟨_, _, rfl⟩
  · rintro δ ⟨c1, c2, rfl⟩
    close_w
    rfl
instance {φ : Fo} : Fn f_names_in [(.sh, φ.e)] .sh (.tup (φ.names.map .str)) (φ.size ≤ 1000 ∧ φ.dep < 60) := ⟨fun ⟨h1, h2⟩ => names_ok h1 h2⟩
theorem bare_ok {φ : Fo} (h : φ.size ≤ 1000) (hd : φ.dep < 60) : ∃ os, f_bare_names [(.sh, φ.e)] = .ok (.sh, .tup (φ.bare.map .str)) os := by
  have pl := paths_len φ
  refine en_bare_names ?_
  unfold b_bare_names
  close_w
  refine w_loop (xs := φ.paths) (fun pre δ => ∃ c1 c2, δ = [some (.sh, φ.e), some (.lst .sh, .lst ((onceEach (pre.filterMap φ.bareAt)).map .str)), c1, c2]) ⟨_, _, rfl⟩ ?_ ?_
  · rintro pre p post δ e ⟨c1, c2, rfl⟩
    obtain ⟨χ, e1⟩ := paths_at (φ := φ) (p := p) (by rw [e]; simp)
    haveI := part_fn (d := encP p) e1
    haveI hwas : Fn f_beneath_was [(.sh, φ.e), (.sh, encP p)] .sh (.bl ((φ.above p).any Fo.isWas)) True := ⟨fun _ => was_ok e1⟩
    have hlen : (onceEach (pre.filterMap φ.bareAt)).length ≤ 1000 := by
      have := onceEach_len (pre.filterMap φ.bareAt)
      have := List.length_filterMap_le φ.bareAt pre
      rw [e] at pl; simp at pl; omega
    have key : ∀ x, φ.bareAt p = some x → onceEach ((pre ++ [p]).filterMap φ.bareAt) = once1 (onceEach (pre.filterMap φ.bareAt)) x := fun x hx => by
      rw [List.filterMap_append, ← onceEach_snoc]; simp [hx]
    have key0 : φ.bareAt p = none → onceEach ((pre ++ [p]).filterMap φ.bareAt) = onceEach (pre.filterMap φ.bareAt) := fun hx => by
      rw [List.filterMap_append]; simp [hx]
    cases χ with
    | n x =>
      cases hw : (φ.above p).any Fo.isWas with
      | true =>
        rw [key0 (by simp [Fo.bareAt, hw])]
        rw [hw] at hwas
        (close_w) <;> exact ⟨_, _, rfl⟩
      | false =>
        rw [key x (by simp [Fo.bareAt, hw, Fo.nameAt, e1, Fo.nameOf])]
        rw [hw] at hwas
        close_w
        · rename_i hn
          simp at hn
          simp [once1, hn]
        · rename_i hn
          simp at hn
          simp [once1, hn]
    | u o a =>
      rw [key0 (by simp [Fo.bareAt, Fo.nameAt, e1, Fo.nameOf])]
      cases o <;> (close_w) <;> exact ⟨_, _, rfl⟩
    | b o a b =>
      rw [key0 (by simp [Fo.bareAt, Fo.nameAt, e1, Fo.nameOf])]
      cases o <;> (close_w) <;> exact ⟨_, _, rfl⟩
    | _ =>
      rw [key0 (by simp [Fo.bareAt, Fo.nameAt, e1, Fo.nameOf])]
      (close_w) <;> exact ⟨_, _, rfl⟩
  · rintro δ ⟨c1, c2, rfl⟩
    close_w
    rfl
instance {φ : Fo} : Fn f_bare_names [(.sh, φ.e)] .sh (.tup (φ.bare.map .str)) (φ.size ≤ 1000 ∧ φ.dep < 60) := ⟨fun ⟨h1, h2⟩ => bare_ok h1 h2⟩
/-! ### remembered -/
def U1.keeps : U1 → Bool | .not => false | _ => true
def B2.keeps : B2 → Bool | .since => true | _ => false
def Fo.kept : Fo → List (List Nat)
  | .u o a => a.kept.map (0 :: ·) ++ (if o.keeps then [[]] else [])
  | .b o x y => x.kept.map (0 :: ·) ++ y.kept.map (1 :: ·) ++ (if o.keeps then [[]] else [])
  | _ => []
theorem kept_len (φ : Fo) : φ.kept.length ≤ φ.size := by
  induction φ with
  | u o a ih => simp [Fo.kept, Fo.size]; split <;> simp <;> omega
  | b o x y ih1 ih2 => simp [Fo.kept, Fo.size]; split <;> simp <;> omega
  | _ => simp [Fo.kept, Fo.size]
theorem kept_dep (φ : Fo) : ∀ p ∈ φ.kept, p.length ≤ φ.dep := by
  induction φ with
  | u o a ih => 
    intro p h; simp [Fo.kept] at h
    rcases h with ⟨q, hq, rfl⟩ | ⟨_, rfl⟩
    · simp [Fo.dep]; exact ih q hq
    · simp
  | b o x y ihx ihy =>
    intro p h; simp [Fo.kept] at h; simp only [Fo.dep]
    rcases h with ⟨q, hq, rfl⟩ | ⟨q, hq, rfl⟩ | ⟨_, rfl⟩
    · have := ihx q hq; simp; omega
    · have := ihy q hq; simp; omega
    · simp
  | _ => intro p h; simp [Fo.kept] at h
theorem kept_ok (n : Nat) (φ : Fo) (h : φ.dep < n) (hs : φ.size ≤ 1000) : ∃ os, f_remembered n [(.sh, φ.e)] = .ok (.sh, .tup (φ.kept.map encP)) os := by
  induction φ generalizing n with
  | u o a ih =>
    obtain ⟨n, rfl⟩ : ∃ k, n = k + 1 := ⟨n - 1, by simp [Fo.dep] at h; omega⟩
    simp only [Fo.dep, Fo.size] at h hs
    haveI : Fn (f_remembered n) [(.sh, a.e)] .sh (.tup (a.kept.map encP)) True := ⟨fun _ => ih n (by omega) (by omega)⟩
    have pd := kept_dep a
    have ds := dep_size a
    have pl := kept_len a
    refine en_remembered ?_
    unfold b_remembered
    close_w
    refine paths_loop (k := 0) (fun p hp => by have := pd p hp; omega) (by simp; omega) fun c => ?_
    cases o <;> (close_w) <;> simp [Fo.kept, Function.comp_def, U1.keeps]
  | b o a b ih1 ih2 =>
    obtain ⟨n, rfl⟩ : ∃ k, n = k + 1 := ⟨n - 1, by simp [Fo.dep] at h; omega⟩
    simp only [Fo.dep, Fo.size] at h hs
    haveI : Fn (f_remembered n) [(.sh, a.e)] .sh (.tup (a.kept.map encP)) True := ⟨fun _ => ih1 n (by omega) (by omega)⟩
    haveI : Fn (f_remembered n) [(.sh, b.e)] .sh (.tup (b.kept.map encP)) True := ⟨fun _ => ih2 n (by omega) (by omega)⟩
    have pd1 := kept_dep a
    have ds1 := dep_size a
    have pl1 := kept_len a
    have pd2 := kept_dep b
    have ds2 := dep_size b
    have pl2 := kept_len b
    refine en_remembered ?_
    unfold b_remembered
    close_w
    refine paths_loop (k := 0) (fun p hp => by have := pd1 p hp; omega) (by simp; omega) fun c => ?_
    close_w
    refine paths_loop (k := 1) (fun p hp => by have := pd2 p hp; omega) (by simp; omega) fun c => ?_
    cases o <;> (close_w) <;> simp [Fo.kept, Function.comp_def, B2.keeps]
  | _ =>
    obtain ⟨n, rfl⟩ : ∃ k, n = k + 1 := ⟨n - 1, by simp [Fo.dep] at h; omega⟩
    refine en_remembered ?_
    unfold b_remembered
    close_w
    simp [Fo.kept]
instance {n : Nat} {φ : Fo} : Fn (f_remembered n) [(.sh, φ.e)] .sh (.tup (φ.kept.map encP)) (φ.dep < n ∧ φ.size ≤ 1000) := ⟨fun ⟨h1, h2⟩ => kept_ok n φ h1 h2⟩
end FO

end

section
set_option Elab.async false
set_option linter.all false
set_option maxRecDepth 100000
set_option maxHeartbeats 2000000
namespace LW
open PySem L2 VS
/-! _law_begin: slots 0=script 1=great 2=seed 3=cell -/
noncomputable def b__law_begin : M Fl := (mSeq (mAsg (gSt 1) (mLc .sh [3] (mWalk (mFz (mSl (mVar 0) (mPure none) (mPart (mC (.int 63)))))) (gSt 3) (mBl (mOp2 fGe (m2 (mVar 3) (mOp2 fPow (m2 (mC (.int 10)) (mC (.int 18))))))) (mVar 3)))
    (mSeq (mAsg (gSt 2) (mC (.int 12345)))
    (mSeq (mFor (mWalk (mFz (mSl (mVar 0) (mPure none) (mPart (mC (.int 63)))))) (gSt 3)
    (mIfS (mBl (mOp2 fLt (m2 (mVar 3) (mOp2 fPow (m2 (mC (.int 10)) (mC (.int 18)))))))
    (mAsg (gSt 2) (mOp2 fMod (m2 (mPl (m2 (mPl (m2 (mOp2 fMul (m2 (mVar 2) (mC (.int 48271)))) (mOp2 fMod (m2 (mB1 fInt (mVar 3)) (mC (.int 1000003)))))) (mC (.int 11)))) (mC (.int 2147483647)))))
    mSkip))
    (mRet (mLstH (mCons (mTake 1) (mCons (mVar 2) (mCons (mB1 fLen (mSl (mVar 0) (mPure none) (mPart (mC (.int 63))))) mNil))))))))
noncomputable def f__law_begin : FM := mFn 4 1 [1, 2, 3, 2] b__law_begin
theorem en__law_begin {a0 : Ty × D} {t : Ty} {d : D} (h : (b__law_begin [some a0, none, none, none]).P (retK t d) noX) : ∃ os, f__law_begin [a0] = .ok (t, d) os := w_fnR (A := b__law_begin) (N := 4) (k := 1) (wr := [1, 2, 3, 2]) (as := [a0]) rfl rfl h
theorem ep__law_begin {a0 : Ty × D} {Φ : Ty × D → VS.Env → Prop} {X : XP} (h : (b__law_begin [some a0, none, none, none]).P (fnK [1, 2, 3, 2] 1 Φ) X) : (f__law_begin [a0]).P Φ X := w_fn (A := b__law_begin) (N := 4) (k := 1) (wr := [1, 2, 3, 2]) (as := [a0]) rfl rfl h
/-! _law_pick: slots 0=d 1=row -/
noncomputable def b__law_pick : M Fl := (mRet (mIx (m2 (mVar 1) (mCall fDraw (bRef 0 (bVal (mFz (mB1 fLen (mVar 1))) bNil))))))
noncomputable def f__law_pick : FM := mFn 2 2 [] b__law_pick
theorem en__law_pick {a0 a1 : Ty × D} {t : Ty} {d : D} (h : (b__law_pick [some a0, some a1]).P (retK t d) noX) : ∃ os, f__law_pick [a0, a1] = .ok (t, d) os := w_fnR (A := b__law_pick) (N := 2) (k := 2) (wr := []) (as := [a0, a1]) rfl rfl h
theorem ep__law_pick {a0 a1 : Ty × D} {Φ : Ty × D → VS.Env → Prop} {X : XP} (h : (b__law_pick [some a0, some a1]).P (fnK [] 2 Φ) X) : (f__law_pick [a0, a1]).P Φ X := w_fn (A := b__law_pick) (N := 2) (k := 2) (wr := []) (as := [a0, a1]) rfl rfl h
/-! _law_alphabet: slots  -/
noncomputable def b__law_alphabet : M Fl := (mRet (mC (.str "abcdefghijklmnopqrstuvwxyz")))
noncomputable def f__law_alphabet : FM := mFn 0 0 [] b__law_alphabet
theorem en__law_alphabet {t : Ty} {d : D} (h : (b__law_alphabet []).P (retK t d) noX) : ∃ os, f__law_alphabet [] = .ok (t, d) os := w_fnR (A := b__law_alphabet) (N := 0) (k := 0) (wr := []) (as := []) rfl rfl h
theorem ep__law_alphabet {Φ : Ty × D → VS.Env → Prop} {X : XP} (h : (b__law_alphabet []).P (fnK [] 0 Φ) X) : (f__law_alphabet []).P Φ X := w_fn (A := b__law_alphabet) (N := 0) (k := 0) (wr := []) (as := []) rfl rfl h
/-! _law_reserved: slots  -/
noncomputable def b__law_reserved : M Fl := (mRet (mFz (mWords (mC (.str "true false was once held since never always again whenever then within open by most each needs bells lamps promise wish grace porter sees lights timer queue states when if do light set push pop go stay any end scene lodge paper run way ring drop judge make undo redo show")))))
noncomputable def f__law_reserved : FM := mFn 0 0 [] b__law_reserved
theorem en__law_reserved {t : Ty} {d : D} (h : (b__law_reserved []).P (retK t d) noX) : ∃ os, f__law_reserved [] = .ok (t, d) os := w_fnR (A := b__law_reserved) (N := 0) (k := 0) (wr := []) (as := []) rfl rfl h
theorem ep__law_reserved {Φ : Ty × D → VS.Env → Prop} {X : XP} (h : (b__law_reserved []).P (fnK [] 0 Φ) X) : (f__law_reserved []).P Φ X := w_fn (A := b__law_reserved) (N := 0) (k := 0) (wr := []) (as := []) rfl rfl h
/-! _law_right_name: slots 0=text 1=sign -/
noncomputable def b__law_right_name : M Fl := (mSeq (mIfS (mOr (mBl (mOp2 fLt (m2 (mB1 fLen (mVar 0)) (mC (.int 1))))) (mOr (mBl (mOp2 fGt (m2 (mB1 fLen (mVar 0)) (mC (.int 8))))) (mBl (mOp2 (fIn2 false) (m2 (mVar 0) (mCall LW.f__law_reserved bNil))))))
    (mRet (mC (.bl false)))
    mSkip)
    (mRet (mOp2 fEq2 (m2 (mLc .sh [1] (mWalk (mVar 0)) (gSt 1) (mBl (mOp2 (fIn2 true) (m2 (mVar 1) (mCall LW.f__law_alphabet bNil)))) (mVar 1)) (mLstE .sh)))))
noncomputable def f__law_right_name : FM := mFn 2 1 [] b__law_right_name
theorem en__law_right_name {a0 : Ty × D} {t : Ty} {d : D} (h : (b__law_right_name [some a0, none]).P (retK t d) noX) : ∃ os, f__law_right_name [a0] = .ok (t, d) os := w_fnR (A := b__law_right_name) (N := 2) (k := 1) (wr := []) (as := [a0]) rfl rfl h
theorem ep__law_right_name {a0 : Ty × D} {Φ : Ty × D → VS.Env → Prop} {X : XP} (h : (b__law_right_name [some a0, none]).P (fnK [] 1 Φ) X) : (f__law_right_name [a0]).P Φ X := w_fn (A := b__law_right_name) (N := 2) (k := 1) (wr := []) (as := [a0]) rfl rfl h
/-! _law_fresh: slots 0=d 1=used 2=text 3=turn 4=sign -/
noncomputable def b__law_fresh : M Fl := (mSeq (mAsg (gSt 2) (mJoin (mC (.str "")) (mLc .sh [3] (mRng1 (mPl (m2 (mC (.int 1)) (mCall fDraw (bRef 0 (bVal (mC (.int 8)) bNil)))))) (gSt 3) mYes (mIx (m2 (mCall LW.f__law_alphabet bNil) (mCall fDraw (bRef 0 (bVal (mC (.int 26)) bNil))))))))
    (mSeq (mIfS (mAnd (mTru (mGet 1)) (mBl (mOp2 fEq2 (m2 (mCall fDraw (bRef 0 (bVal (mC (.int 4)) bNil))) (mC (.int 0))))))
    (mAsg (gSt 2) (mFz (mSl (mPl (m2 (mIxK (m2n 1 (mCall fDraw (bRef 0 (bVal (mFz (mB1 fLen (mGet 1))) bNil))))) (mVar 2))) (mPure none) (mPart (mC (.int 8))))))
    mSkip)
    (mSeq (mIfS (mAnd (mTru (mCall LW.f__law_right_name (bVal (mVar 2) bNil))) (mBl (mOp2 (fIn2 true) (m2 (mVar 2) (mGet 1)))))
    (mRet (mVar 2))
    mSkip)
    (mRet (mIx (m2 (mLc .sh [4] (mWalk (mFz (mCall LW.f__law_alphabet bNil))) (gSt 4) (mBl (mOp2 (fIn2 true) (m2 (mVar 4) (mGet 1)))) (mVar 4)) (mC (.int 0))))))))
noncomputable def f__law_fresh : FM := mFn 5 2 [2, 2] b__law_fresh
theorem en__law_fresh {a0 a1 : Ty × D} {t : Ty} {d : D} (h : (b__law_fresh [some a0, some a1, none, none, none]).P (retK t d) noX) : ∃ os, f__law_fresh [a0, a1] = .ok (t, d) os := w_fnR (A := b__law_fresh) (N := 5) (k := 2) (wr := [2, 2]) (as := [a0, a1]) rfl rfl h
theorem ep__law_fresh {a0 a1 : Ty × D} {Φ : Ty × D → VS.Env → Prop} {X : XP} (h : (b__law_fresh [some a0, some a1, none, none, none]).P (fnK [2, 2] 2 Φ) X) : (f__law_fresh [a0, a1]).P Φ X := w_fn (A := b__law_fresh) (N := 5) (k := 2) (wr := [2, 2]) (as := [a0, a1]) rfl rfl h
end LW

end

section
set_option Elab.async false
set_option linter.all false
set_option maxRecDepth 100000
set_option maxHeartbeats 2000000
open PySem L2 VS
local macro_rules | `(tactic| lcg_sub) => `(tactic| focus ((repeat' (first | exact trivial | assumption | omega | (refine And.intro ?_ ?_) | (intro _))) <;> (first | assumption | omega | exact Nat.le_of_ble_eq_true rfl | (simp only [sizeLine_val, List.length_cons, List.length_nil, List.length_map, List.length_append, List.length_set, List.length_range] at *; omega) | (exfalso; omega) | (decide +kernel) | skip)))
local macro_rules | `(tactic| lcg_off) => `(tactic| (intro h; (try simp only [decide_eq_true_eq, decide_eq_false_iff_not, Bool.and_eq_true, Bool.or_eq_true, Bool.not_eq_true', Bool.not_eq_false', Bool.not_eq_true, Bool.and_eq_false_imp, Bool.or_eq_false_iff, reduceCtorEq, Bool.not_not, Bool.not_true, Bool.not_false, Classical.not_not, List.isEmpty_iff, List.isEmpty_eq_false_iff, List.append_eq_nil_iff, List.cons_ne_nil, and_false, ne_eq, not_true_eq_false, not_false_eq_true, List.map_eq_nil_iff, str_inj, String.reduceEq, List.mem_cons, List.not_mem_nil, or_false, false_or, or_self] at h); (try (exact absurd h (by decide +kernel)))))
local macro_rules | `(tactic| lcg_src) => `(tactic| first
  | (with_reducible refine side_mk ?_; lcg_sub)
  | (with_reducible refine ont_mk ?_; lcg_off) | (with_reducible refine onf_mk ?_; lcg_off)
  | (with_reducible refine g_C ?_; first | (with_reducible refine x_ev ?_ ?_) | (with_reducible refine x_fz ?_) | (with_reducible refine w_draw ?_ ?_ ?_) | (with_reducible refine x_op2 ?_) | (with_reducible refine x_pl ?_) | (with_reducible refine x_ix ?_) | (with_reducible refine x_ixn ?_) | (with_reducible refine w_callP ?_) | (with_reducible refine w_appD ?_ ?_) | (with_reducible refine w_appV ?_ ?_) | (with_reducible refine w_appD2 ?_ ?_ ?_) | (with_reducible refine x_b1 ?_) | (with_reducible refine x_if ?_) | (with_reducible refine x_tup ?_) | (with_reducible refine x_lstZ ?_) | (with_reducible refine x_lstH ?_) | (with_reducible refine x_lc ?_) | (with_reducible refine x_join ?_ ?_) | (with_reducible refine x_app ?_) | (with_reducible refine x_ixk ?_) | (with_reducible refine x_ixkn ?_) | (with_reducible refine x_sl ?_ ?_ ?_))
  | (with_reducible refine g_T ?_; first | (with_reducible refine w_wtest ?_ ?_ ?_) | (with_reducible refine w_evT ?_ ?_) | (with_reducible refine x_bl ?_) | (with_reducible refine x_tru ?_) | (with_reducible refine x_not ?_) | (with_reducible refine x_and ?_) | (with_reducible refine x_or ?_) | (with_reducible refine w_pure ?_))
  | (with_reducible refine g_S ?_; first | (with_reducible refine w_asg ?_ ?_ ?_) | (with_reducible refine w_if ?_ ?_ ?_) | (with_reducible refine w_ret ?_ ?_) | (with_reducible refine w_drop ?_ ?_) | (with_reducible refine w_for ?_ ?_) | (with_reducible refine w_aug ?_ ?_) | (with_reducible refine w_skip ?_) | (with_reducible refine w_loop0 ?_) | (with_reducible refine w_loop1 ?_) | (with_reducible refine w_pure ?_) | (with_reducible refine x_asg ?_) | (with_reducible refine x_ret ?_) | (with_reducible refine x_drop ?_) | (with_reducible refine x_ifS ?_))
  | (with_reducible refine g_E ?_; first | (with_reducible refine w_tg ?_ ?_) | (with_reducible refine x_op2f ?_ ?_) | (with_reducible refine x_plf ?_ ?_) | (with_reducible refine x_ixf ?_ ?_) | (with_reducible refine x_ixnf ?_ ?_) | (with_reducible refine x_b1f ?_ ?_) | (with_reducible refine x_blf ?_) | (with_reducible refine x_truf ?_ ?_) | (with_reducible refine x_joinf ?_ ?_) | (with_reducible refine ex_int ?_ ?_) | (with_reducible refine x_ixkf ?_ ?_) | (with_reducible refine x_ixknf ?_ ?_) | (with_reducible refine x_slf ?_ ?_))
  | (with_reducible refine k_nx ?_) | (with_reducible refine k_rt ?_) | (with_reducible refine cur_mk ?_) | (with_reducible refine k_bk ?_) | (with_reducible refine k_ct ?_) | (with_reducible refine m_nx ?_) | (with_reducible refine m_bk ?_) | (with_reducible refine m_ct ?_) | (with_reducible refine m_rt ?_) | (with_reducible refine l_nx ?_) | (with_reducible refine l_ct ?_) | (with_reducible refine l_bk ?_) | (with_reducible refine l_rt ?_) | (with_reducible refine h_bk ?_) | (with_reducible refine h_rt ?_) | (with_reducible refine r_rt ?_) | (with_reducible refine f_rt ?_) | (with_reducible refine f_nx ?_) | (with_reducible refine and_tf ?_ ?_) | (with_reducible refine len_and ?_ ?_) | (with_reducible refine x_appf ?_ ?_)
  | (with_reducible refine alld_mk ?_; intro b q' hb; (try simp only [] at hb))
  | (with_reducible refine g_A ?_; first | (with_reducible refine a_cons ?_) | (with_reducible refine a_nil ?_)) | (with_reducible refine g_B ?_; first | (with_reducible refine w_bRef ?_) | (with_reducible refine w_bVal ?_) | (with_reducible refine w_bNil ?_)) | (with_reducible refine g_I ?_; first | (with_reducible refine x_evI ?_ ?_) | (with_reducible refine x_rng1 ?_))
  | (with_reducible exact r_nx))
local macro_rules | `(tactic| close_w) => `(tactic| (repeat' (first | (with_reducible refine w_seq ?_) | lcg_src)))
local macro_rules | `(tactic| o_reads) => `(tactic| (repeat' lcg_src))
/-! LW1: the laws' draws: begin, pick, fresh names. -/
namespace LW
theorem cut_len {α : Type} (l : List α) (k : Nat) : (cutD l none (some (k : Int))).length ≤ k := by
  unfold cutD
  rw [List.length_take, List.length_drop]
  have : HT.sIx l.length l.length (some (k : Int)) ≤ k := by unfold HT.sIx; dsimp only; split <;> omega
  omega
theorem begin_ok (ns : List Int) (hl : ns.length ≤ 63) : (f__law_begin [(.sh, .lst (ns.map D.int))]).P (fun z _ => ∃ q : Dr, z = (tyD, dS q)) noX := by
  refine ep__law_begin ?_
  unfold b__law_begin
  have hc : (cutD ns none (some 63)).length ≤ 63 := cut_len ns 63
  close_w
  refine w_loop (xs := cutD ns none (some 63)) (fun pre δ => ∃ s c, δ = [some (.sh, .lst (ns.map D.int)), some (.lst .sh, .lst (((cutD ns none (some 63)).filter fun x => decide ((10 : Int) ^ (18 : Int).toNat ≤ x)).map .int)), some (.sh, .int s), c]) ⟨_, _, rfl⟩ ?_ ?_
  · rintro pre x post δ e ⟨s, c, rfl⟩
    close_w
    all_goals exact ⟨_, _, rfl⟩
  · rintro δ ⟨s, c, rfl⟩
    close_w
    exact ⟨⟨_, _, _⟩, rfl⟩
theorem nth_mem {α : Type} [Inhabited α] {xs : List α} {i : Nat} (h : i < xs.length) : nth xs (i : Int) ∈ xs := by rw [nth_nat h]; exact List.getElem_mem h
theorem pick_tup {α : Type} [Inhabited α] {xs : List α} {e : α → D} : Drw f__law_pick [(.sh, .tup (xs.map e))] .sh e (· ∈ xs) (0 < xs.length ∧ xs.length < 1073741824) := ⟨fun ⟨h1, h2⟩ q => by
  refine ep__law_pick ?_
  unfold b__law_pick
  close_w
  rename_i n q' hn
  exact ⟨_, q', _, nth_mem (by omega), rfl, rfl⟩⟩
theorem pick_lst {α : Type} [Inhabited α] {xs : List α} {e : α → D} : Drw f__law_pick [(.sh, .lst (xs.map e))] .sh e (· ∈ xs) (0 < xs.length ∧ xs.length < 1073741824) := ⟨fun ⟨h1, h2⟩ q => by
  refine ep__law_pick ?_
  unfold b__law_pick
  close_w
  rename_i n q' hn
  exact ⟨_, q', _, nth_mem (by omega), rfl, rfl⟩⟩
instance {α : Type} [Inhabited α] {xs : List α} {e : α → D} : Drw f__law_pick [(.sh, .tup (xs.map e))] .sh e (· ∈ xs) (0 < xs.length ∧ xs.length < 1073741824) := pick_tup
instance {α : Type} [Inhabited α] {xs : List α} {e : α → D} : Drw f__law_pick [(.sh, .lst (xs.map e))] .sh e (· ∈ xs) (0 < xs.length ∧ xs.length < 1073741824) := pick_lst
instance {x : Str} {r : List D} {ns : List Str} [k : StrsD (.tup r) ns] : Drw f__law_pick [(.sh, .tup (.str x :: r))] .sh D.str (· ∈ x :: ns) (r.length < 1000) := ⟨fun h q => by
  have e : r = ns.map D.str := by have := k.h; simpa [rowD] using this
  subst e
  have := (pick_tup (xs := x :: ns) (e := D.str)).h ⟨by simp, by simp at h ⊢; omega⟩ q
  simpa using this⟩
/-! ### names -/
def alphaT : Str := "abcdefghijklmnopqrstuvwxyz"
def alphaL : List Nat := (List.range 26).map (· + 97)
theorem alpha_eq : alphaT.cps.toList = alphaL := by decide +kernel
def resW : List Str := Txt.words ("true false was once held since never always again whenever then within open by most each needs bells lamps promise wish grace porter sees lights timer queue states when if do light set push pop go stay any end scene lodge paper run way ring drop judge make undo redo show" : Str)
instance : Fn f__law_alphabet [] .sh (.str alphaT) True := ⟨fun _ => by
  refine en__law_alphabet ?_
  unfold b__law_alphabet
  close_w
  rfl⟩
instance : Fn f__law_reserved [] .sh (.lst (resW.map .str)) True := ⟨fun _ => by
  refine en__law_reserved ?_
  unfold b__law_reserved
  close_w
  rfl⟩
def small (c : Nat) : Bool := decide (c ∈ alphaT.cps.toList)
def rightName (x : Str) : Bool := decide (1 ≤ x.length) && decide (x.length ≤ 8) && !decide (x ∈ resW) && x.cps.toList.all small
theorem small_iff {c : Nat} : small c = true ↔ 97 ≤ c ∧ c ≤ 122 := by
  unfold small
  rw [alpha_eq, decide_eq_true_eq]
  simp [alphaL]
  constructor
  · rintro ⟨a, h1, h2⟩; omega
  · rintro ⟨h1, h2⟩; exact ⟨c - 97, by omega, by omega⟩
theorem strOk_sign {x : Str} (ho : PyData.strOk x = true) {c : Nat} (hc : c ∈ x.cps.toList) : PyData.strOk (oneSign c) = true := by
  have : x.cps.all (· < 0x110000) = true := ho
  rw [Array.all_eq_true'] at this
  have := this c (by simpa using hc)
  simpa [PyData.strOk, oneSign] using this
theorem pls_signs {x : Str} (ho : PyData.strOk x = true) {p : Nat → Bool} : plDs ((x.cps.toList.filter p).map fun c => D.str (oneSign c)) = true ∧ dpDs ((x.cps.toList.filter p).map fun c => D.str (oneSign c)) ≤ 62 := by
  refine ⟨pls_map fun c hc => ?_, Nat.le_trans (dps_map (B := 0) fun c hc => by simp [dpD]) (by omega)⟩
  have := strOk_sign ho (List.mem_filter.mp hc).1
  simp [plD, this]
theorem right_ok (x : Str) (hl : x.length ≤ sizeLine) (ho : PyData.strOk x = true) : ∃ os, f__law_right_name [(.sh, .str x)] = .ok (.sh, .bl (rightName x)) os := by
  refine en__law_right_name ?_
  unfold b__law_right_name
  have hx : x.cps.toList.length = x.length := by simp [Str.length]
  close_w
  · rename_i h
    unfold rightName
    rcases h with h | h | h
    · have : ¬ 1 ≤ x.length := by omega
      simp [this]
    · have : ¬ x.length ≤ 8 := by omega
      simp [this]
    · simp [h]
  · exact (pls_signs ho).1
  · exact (pls_signs ho).2
  · rename_i h
    unfold rightName
    have h1 : 1 ≤ x.length := by omega
    have h2 : x.length ≤ 8 := by omega
    simp only [h1, h2, h.2.2, decide_true, decide_false, Bool.not_false, Bool.true_and, small]
    congr 1
    rw [Bool.eq_iff_iff, List.isEmpty_iff, List.map_eq_nil_iff, List.filter_eq_nil_iff, List.all_eq_true]
    simp [small]
instance {x : Str} : Fn f__law_right_name [(.sh, .str x)] .sh (.bl (rightName x)) (x.length ≤ sizeLine ∧ PyData.strOk x = true) := ⟨fun ⟨h1, h2⟩ => right_ok x h1 h2⟩
theorem res_long : resW.all (fun w => decide (2 ≤ w.length)) = true := by decide +kernel
theorem one_right (c : Nat) (h : c ∈ alphaL) : rightName (oneSign c) = true := by
  have h1 : oneSign c ∉ resW := fun hm => by
    have := List.all_eq_true.mp res_long _ hm
    simp [oneSign, Str.length] at this
  have h2 : (oneSign c).cps.toList.all small = true := by
    simp only [oneSign, List.all_cons, List.all_nil, Bool.and_true, small, alpha_eq]
    exact decide_eq_true h
  have h3 : (oneSign c).length = 1 := rfl
  simp [rightName, h1, h2, h3]
theorem strOk_right {x : Str} (h : rightName x = true) : PyData.strOk x = true := by
  unfold rightName at h
  simp only [Bool.and_eq_true, List.all_eq_true] at h
  show x.cps.all (· < 0x110000) = true
  rw [Array.all_eq_true']
  intro c hc
  have := small_iff.mp (h.2 c (by simpa using hc))
  simp; omega
theorem right_len {x : Str} (h : rightName x = true) : 1 ≤ x.length ∧ x.length ≤ 8 := by
  unfold rightName at h
  simp only [Bool.and_eq_true, decide_eq_true_eq] at h
  exact ⟨h.1.1.1, h.1.1.2⟩
theorem nodup_len {α : Type} [DecidableEq α] : ∀ {l us : List α}, l.Nodup → (∀ x ∈ l, x ∈ us) → l.length ≤ us.length
  | [], _, _, _ => Nat.zero_le _
  | a :: l, us, hn, hs => by
    rw [List.nodup_cons] at hn
    have := nodup_len (us := us.erase a) hn.2 fun x hx => (List.mem_erase_of_ne (fun e => hn.1 (by rw [← e]; exact hx))).mpr (hs x (by simp [hx]))
    have h2 := List.length_erase_of_mem (hs a (by simp))
    have h3 := List.length_pos_of_mem (hs a (by simp))
    simp; omega
theorem some_left {α : Type} {l : List α} {f : α → Str} {us : List Str} (hn : (l.map f).Nodup) (h : us.length < l.length) : 0 < (l.filter fun x => !decide (f x ∈ us)).length := by
  rcases Nat.eq_zero_or_pos (l.filter fun x => !decide (f x ∈ us)).length with e | e
  · exfalso
    rw [List.length_eq_zero_iff, List.filter_eq_nil_iff] at e
    have := nodup_len (us := us) hn fun x hx => by
      rw [List.mem_map] at hx
      obtain ⟨y, hy, rfl⟩ := hx
      simpa using e y hy
    simp at this; omega
  · exact e
theorem strOk_iff {x : Str} : PyData.strOk x = true ↔ ∀ c ∈ x.cps.toList, c < 0x110000 := by
  show x.cps.all (· < 0x110000) = true ↔ _
  rw [Array.all_eq_true']
  simp
theorem join0 (cs : List Str) : (Txt.join (Str.ofString "") cs).cps.toList = cs.flatMap fun c => c.cps.toList := by
  rw [TL.join_eq]
  induction cs with
  | nil => rfl
  | cons c r ih =>
    cases r with
    | nil => simp [Str.join]
    | cons d r =>
      show (c.cps ++ (Str.ofString "").cps ++ (Str.join (Str.ofString "") (d :: r)).cps).toList = _
      rw [Array.toList_append, Array.toList_append, ih, show (Str.ofString "").cps.toList = [] from rfl]
      simp
theorem str_len (x : Str) : x.length = x.cps.toList.length := by simp [Str.length]
theorem join0_len (cs : List Str) (h : ∀ c ∈ cs, c.length = 1 ∧ PyData.strOk c = true) : (Txt.join (Str.ofString "") cs).length = cs.length ∧ PyData.strOk (Txt.join (Str.ofString "") cs) = true := by
  rw [str_len, strOk_iff, join0]
  constructor
  · rw [List.length_flatMap]
    have : ∀ l : List Str, (∀ c ∈ l, c.length = 1 ∧ PyData.strOk c = true) → (l.map fun c => c.cps.toList.length).sum = l.length := by
      intro l
      induction l with
      | nil => intro _; rfl
      | cons a l ih => intro h; have h1 := (h a (by simp)).1; rw [str_len] at h1; rw [List.map_cons, List.sum_cons, ih fun c m => h c (by simp [m]), h1, List.length_cons]; omega
    exact this cs h
  · intro c hc
    rw [List.mem_flatMap] at hc
    obtain ⟨y, hy, hc⟩ := hc
    exact strOk_iff.mp (h y hy).2 c hc
theorem app_ok {x y : Str} (h1 : PyData.strOk x = true) (h2 : PyData.strOk y = true) : PyData.strOk (x ++ y) = true := by
  rw [strOk_iff] at *
  intro c hc
  have : (x ++ y : Str).cps.toList = x.cps.toList ++ y.cps.toList := by show (x.cps ++ y.cps).toList = _; simp
  rw [this, List.mem_append] at hc
  exact hc.elim (h1 c) (h2 c)
theorem app_len (x y : Str) : (x ++ y).length = x.length + y.length := by show (x.cps ++ y.cps).size = _; simp [Str.length]
theorem cutS_ok {x : Str} {lo hi : Option Int} (h : PyData.strOk x = true) : PyData.strOk (cutS x lo hi) = true := by
  rw [strOk_iff] at *
  intro c hc
  simp [cutS] at hc
  exact h c (by simpa using List.mem_of_mem_drop (List.mem_of_mem_take hc))
theorem cutS_le {x : Str} {lo hi : Option Int} : (cutS x lo hi).length ≤ x.length := by
  rw [str_len, str_len]
  simp [cutS]; omega
theorem sum_one {cs : List Str} (h : ∀ c ∈ cs, c.length = 1 ∧ PyData.strOk c = true) : (cs.map fun x => x.length).sum = cs.length := by
  induction cs with
  | nil => rfl
  | cons a l ih => have h1 := (h a (by simp)).1; simp [ih fun c m => h c (by simp [m])]; omega
theorem fresh_ok (us : List Str) (hu : us.length ≤ 20) (hn : ∀ u ∈ us, rightName u = true) : Drw2 f__law_fresh (.lst .sh) (.lst (us.map .str)) [] .sh D.str (fun x => rightName x = true ∧ x ∉ us) True := ⟨fun _ q => by
  refine ep__law_fresh ?_
  unfold b__law_fresh
  have al : alphaT.length = 26 := by decide +kernel
  have alL : alphaT.cps.toList.length = 26 := by decide +kernel
  close_w
  rename_i b1 q1 h1
  refine x_lcd (γ := Dr) (fun g δ => δ = [some (tyD, dS g), some (.lst .sh, .lst (us.map .str)), none, none, none]) (fun d => ∃ y : Str, d = .str y ∧ (y.length = 1 ∧ PyData.strOk y = true)) ⟨_, rfl⟩ ?_ (by simp [sizeLine_val]; omega) ?_
  · rintro i hi g δ rfl
    close_w
    rename_i n q2 hb
    refine ⟨rfl, ⟨_, rfl, by simp [signAt, oneSign, Str.length], strOk_sign (x := alphaT) (by decide +kernel) ?_⟩, _, rfl⟩
    rw [List.getD_eq_getElem?_getD, List.getElem?_eq_getElem (by rw [alL]; simp; omega)]
    exact List.getElem_mem _
  · rintro ys g δ' hl hy rfl
    obtain ⟨cs, rfl, hcl, hcP⟩ := all_enc hy
    obtain ⟨j1, j2⟩ := join0_len cs hcP
    have hs1 := sum_one hcP
    have hcs : cs.length ≤ 8 := by simp at hl; omega
    dsimp only [backE, List.getElem?_cons_succ, List.getElem?_cons_zero]
    have e0 : (Str.ofString "").length = 0 := rfl
    generalize hz : Txt.join (Str.ofString "") cs = z at j1 j2
    o_reads
    · rw [hs1, e0]; omega
    rw [hz]
    refine w_seqM (fun δ => ∃ q x, δ = [some (tyD, dS q), some (.lst .sh, .lst (us.map .str)), some (.sh, .str x), none, none] ∧ x.length ≤ 1000 ∧ PyData.strOk x = true) ?_ ?_
    · close_w
      · rename_i u n q3 hq1 m
        have := List.length_pos_iff.mpr u
        omega
      · rename_i n4 _ _
        have hm := hn _ (nth_mem (by omega : n4 < us.length))
        have := right_len hm
        rw [sizeLine_val]; omega
      · rename_i n4 _ _
        have hm := hn _ (nth_mem (by omega : n4 < us.length))
        have := right_len hm
        rw [app_len, sizeLine_val]; omega
      · rename_i n4 _ _
        have hm := hn _ (nth_mem (by omega : n4 < us.length))
        have := right_len hm
        refine ⟨_, _, rfl, ?_, cutS_ok (app_ok (strOk_right hm) j2)⟩
        exact Nat.le_trans cutS_le (by rw [app_len]; omega)
      · exact ⟨_, _, rfl, by omega, j2⟩
      · exact ⟨_, _, rfl, by omega, j2⟩
    · rintro δ ⟨q, x, rfl, hx1, hx2⟩
      close_w
      · exact ⟨_, _, _, by assumption, rfl, rfl⟩
      · have := some_left (l := alphaT.cps.toList) (f := oneSign) (us := us) (by decide +kernel) (by omega)
        omega
      · have hf := some_left (l := alphaT.cps.toList) (f := oneSign) (us := us) (by decide +kernel) (by omega)
        have hm := nth_mem hf
        rw [List.mem_filter] at hm
        exact ⟨_, _, _, ⟨one_right _ (by rw [← alpha_eq]; exact hm.1), by simpa using hm.2⟩, rfl, rfl⟩⟩
end LW

end

section
set_option Elab.async false
set_option linter.all false
set_option maxRecDepth 100000
set_option maxHeartbeats 2000000
namespace K04
open PySem L2 VS

def top (i : Nat) : Stmt := PySem.Challenge.pw_porterlodge_k04_parts_of_formulas.main.body.getD i (.Pass ⟨0, 0, 0, 0⟩)

def d_children_of : He.DefD := ⟨("children_of", none), "children_of", "children_of", defArgs (top 3), defBody (top 3), defScope (top 3), [], []⟩
def d_size_of : He.DefD := ⟨("size_of", none), "size_of", "size_of", defArgs (top 4), defBody (top 4), defScope (top 4), [], []⟩
def d_paths_of : He.DefD := ⟨("paths_of", none), "paths_of", "paths_of", defArgs (top 7), defBody (top 7), defScope (top 7), [], []⟩
def d_part_at : He.DefD := ⟨("part_at", none), "part_at", "part_at", defArgs (top 8), defBody (top 8), defScope (top 8), [], []⟩
def d_with_part : He.DefD := ⟨("with_part", none), "with_part", "with_part", defArgs (top 9), defBody (top 9), defScope (top 9), [], []⟩
def d_sign_at : He.DefD := ⟨("sign_at", none), "sign_at", "sign_at", defArgs (top 10), defBody (top 10), defScope (top 10), [], []⟩
def d_names_in : He.DefD := ⟨("names_in", none), "names_in", "names_in", defArgs (top 11), defBody (top 11), defScope (top 11), [], []⟩
def d_beneath_was : He.DefD := ⟨("beneath_was", none), "beneath_was", "beneath_was", defArgs (top 12), defBody (top 12), defScope (top 12), [], []⟩
def d_bare_names : He.DefD := ⟨("bare_names", none), "bare_names", "bare_names", defArgs (top 13), defBody (top 13), defScope (top 13), [], []⟩
def d_remembered : He.DefD := ⟨("remembered", none), "remembered", "remembered", defArgs (top 14), defBody (top 14), defScope (top 14), [], []⟩
def d__law_begin : He.DefD := ⟨("_law_begin", none), "_law_begin", "_law_begin", defArgs (top 16), defBody (top 16), defScope (top 16), [], []⟩
def d__law_draw : He.DefD := ⟨("_law_draw", none), "_law_draw", "_law_draw", defArgs (top 17), defBody (top 17), defScope (top 17), [], []⟩
def d__law_pick : He.DefD := ⟨("_law_pick", none), "_law_pick", "_law_pick", defArgs (top 18), defBody (top 18), defScope (top 18), [], []⟩
def d__law_alphabet : He.DefD := ⟨("_law_alphabet", none), "_law_alphabet", "_law_alphabet", defArgs (top 19), defBody (top 19), defScope (top 19), [], []⟩
def d__law_reserved : He.DefD := ⟨("_law_reserved", none), "_law_reserved", "_law_reserved", defArgs (top 20), defBody (top 20), defScope (top 20), [], []⟩
def d__law_right_name : He.DefD := ⟨("_law_right_name", none), "_law_right_name", "_law_right_name", defArgs (top 21), defBody (top 21), defScope (top 21), [], []⟩
def d__law_fresh : He.DefD := ⟨("_law_fresh", none), "_law_fresh", "_law_fresh", defArgs (top 22), defBody (top 22), defScope (top 22), [], []⟩
def d__law_tree : He.DefD := ⟨("_law_tree", none), "_law_tree", "_law_tree", defArgs (top 23), defBody (top 23), defScope (top 23), [], []⟩
def d__law_nodes_drawn : He.DefD := ⟨("_law_nodes_drawn", none), "_law_nodes_drawn", "_law_nodes_drawn", defArgs (top 24), defBody (top 24), defScope (top 24), [], []⟩
def d__law_preorder : He.DefD := ⟨("_law_preorder", none), "_law_preorder", "_law_preorder", defArgs (top 25), defBody (top 25), defScope (top 25), [], []⟩
def d__law_postorder : He.DefD := ⟨("_law_postorder", none), "_law_postorder", "_law_postorder", defArgs (top 26), defBody (top 26), defScope (top 26), [], []⟩
def d__law_put_in : He.DefD := ⟨("_law_put_in", none), "_law_put_in", "_law_put_in", defArgs (top 27), defBody (top 27), defScope (top 27), [], []⟩
def d__law_each_once : He.DefD := ⟨("_law_each_once", none), "_law_each_once", "_law_each_once", defArgs (top 28), defBody (top 28), defScope (top 28), [], []⟩
def d__law_parts_for : He.DefD := ⟨("_law_parts_for", none), "_law_parts_for", "_law_parts_for", defArgs (top 29), defBody (top 29), defScope (top 29), [], []⟩
def d__law_row_of : He.DefD := ⟨("_law_row_of", none), "_law_row_of", "_law_row_of", defArgs (top 30), defBody (top 30), defScope (top 30), [], []⟩
def d__law_whole_right : He.DefD := ⟨("_law_whole_right", none), "_law_whole_right", "_law_whole_right", defArgs (top 31), defBody (top 31), defScope (top 31), [], []⟩
def d__law_nodes_right : He.DefD := ⟨("_law_nodes_right", none), "_law_nodes_right", "_law_nodes_right", defArgs (top 32), defBody (top 32), defScope (top 32), [], []⟩
def d__law_changes_right : He.DefD := ⟨("_law_changes_right", none), "_law_changes_right", "_law_changes_right", defArgs (top 33), defBody (top 33), defScope (top 33), [], []⟩
def d_law : He.DefD := ⟨("law", none), "law", "law", defArgs (top 34), defBody (top 34), defScope (top 34), [], []⟩

def fn : List He.DefD := [d_children_of, d_size_of, d_paths_of, d_part_at, d_with_part, d_sign_at, d_names_in, d_beneath_was, d_bare_names, d_remembered, d__law_begin, d__law_draw, d__law_pick, d__law_alphabet, d__law_reserved, d__law_right_name, d__law_fresh, d__law_tree, d__law_nodes_drawn, d__law_preorder, d__law_postorder, d__law_put_in, d__law_each_once, d__law_parts_for, d__law_row_of, d__law_whole_right, d__law_nodes_right, d__law_changes_right, d_law]
def ck (K : PySem.W.Frag) : List Bool := [He.tupB K "PAIRS" [.str "and", .str "or", .str "since"],
  gloB K "PAIRS",
  He.tupB K "PREFIXES" [.str "was", .str "once", .str "held"],
  gloB K "PREFIXES",
  gloB K "children_of",
  gloB K "size_of",
  freB K "enumerate",
  freB K "tuple",
  gloB K "paths_of",
  gloB K "part_at",
  freB K "list",
  gloB K "with_part",
  gloB K "sign_at",
  gloB K "names_in",
  gloB K "beneath_was",
  gloB K "bare_names",
  He.tupB K "KEEPERS" [.str "was", .str "once", .str "held", .str "since"],
  gloB K "KEEPERS",
  gloB K "remembered",
  freB K "int",
  freB K "len",
  gloB K "_law_begin",
  freB K "max",
  gloB K "_law_draw",
  gloB K "_law_pick",
  gloB K "_law_alphabet",
  gloB K "_law_reserved",
  gloB K "_law_right_name",
  freB K "range",
  gloB K "_law_fresh",
  gloB K "_law_tree",
  gloB K "_law_nodes_drawn",
  gloB K "_law_preorder",
  gloB K "_law_postorder",
  gloB K "_law_put_in",
  gloB K "_law_each_once",
  freB K "min",
  gloB K "_law_parts_for",
  gloB K "_law_row_of",
  freB K "repr",
  gloB K "_law_whole_right",
  gloB K "_law_nodes_right",
  gloB K "_law_changes_right",
  gloB K "law"]
section
variable {P : Program} {w : World} {K : PySem.W.Frag} {mg : Str → Option Value} {base : Heap}
/-! ### children_of: slots formula -/
theorem sc_children_of : FnScope ["formula"] ["formula"] d_children_of.scope := ⟨rfl, rfl, rfl, by decide +kernel, rfl, by decide +kernel, by decide +kernel⟩
theorem cal_children_of (T : Tx fn ck K mg) : Cal P w K mg base 1 "children_of" ["formula"] (spM (cts K) FO.f_children_of) [] := by
  exact cal_of (d := d_children_of) (N := ["formula"]) (k := 0) (wr := []) (b := FO.b_children_of) (T.fn 0 _ rfl) (T.glo 4 rfl) sc_children_of (by decide) (fun _ _ _ _ _ _ us hl => match us, hl with | [_], _ => rfl) fun cdv A outer s H E hr =>
    have nd := sc_children_of.nd
    ⟨_, (pss_cons (ps_if (pt_cmpR op_in2 (pe_ix ix_seq (pv 0) pe_int (fun _ _ => rfl)) (pe_glob (v := .ref (He.ga K "PAIRS")) rfl (T.glo 1 rfl) rfl) (by rfl)) (pss_one (ps_ret (pe_tup (pa_cons (pe_ix ix_seq (pv 0) pe_int (fun _ _ => rfl)) (pa_cons (pe_ix ix_seq (pv 0) pe_int (fun _ _ => rfl)) pa_nil))))) pss_nil) (pss_cons (ps_if (PW.pt (pw_or (pt_cmpR (op_eq2 (hu64 hr)) (pe_ix ix_seq (pv 0) pe_int (fun _ _ => rfl)) pe_str (nomark _)) (pw_or1 (pt_cmpR op_in2 (pe_ix ix_seq (pv 0) pe_int (fun _ _ => rfl)) (pe_glob (v := .ref (He.ga K "PREFIXES")) rfl (T.glo 3 rfl) rfl) (by rfl))))) (pss_one (ps_ret (pe_tup (pa_cons (pe_ix ix_seq (pv 0) pe_int (fun _ _ => rfl)) pa_nil)))) pss_nil) (pss_one (ps_ret (pe_tup pa_nil))))),
    (simSeq (simIfS (simTest (simOp2 (semIn2 false) (k2v (simIx (k2v (simVar 0) (simInt 0).k)) (simGT (T.ck 0 _ rfl) (ds := [.str "and", .str "or", .str "since"]) rfl).k)).k) (simRet (simTup (simCons (simIx (k2v (simVar 0) (simInt 1).k)) (simCons (simIx (k2v (simVar 0) (simInt 2).k)) simNil)))) simNext) (simSeq (simIfS (simOr (simTest (simOp2 semEq2 (k2v (simIx (k2v (simVar 0) (simInt 0).k)) (simStr "not").k)).k) (simTest (simOp2 (semIn2 false) (k2v (simIx (k2v (simVar 0) (simInt 0).k)) (simGT (T.ck 2 _ rfl) (ds := [.str "was", .str "once", .str "held"]) rfl).k)).k)) (simRet (simTup (simCons (simIx (k2v (simVar 0) (simInt 1).k)) simNil))) simNext) (simRet (simTup simNil))))⟩

/-! ### size_of: slots formula count child; calls itself -/
theorem sc_size_of : FnScope ["formula", "count", "child"] ["formula"] d_size_of.scope := ⟨rfl, rfl, rfl, by decide +kernel, rfl, by decide +kernel, by decide +kernel⟩
theorem cal_size_of (T : Tx fn ck K mg) (n : Nat) : Cal P w K mg base (1 + n) "size_of" ["formula"] (spM (cts K) (FO.f_size_of n)) [] := by
  have c_children_of := cal_children_of (P := P) (w := w) (base := base) T
  exact cal_rec (cal_bad (d := d_size_of) (T.fn 1 _ rfl) (T.glo 5 rfl) (fun _ _ _ _ _ _ us hl => match us, hl with | [_], _ => rfl)) (fun n g c_size_of => cal_of (d := d_size_of) (N := ["formula", "count", "child"]) (k := 1 + n) (wr := [1, 2, 1]) (b := FO.b_size_of g) (T.fn 1 _ rfl) (T.glo 5 rfl) sc_size_of (by decide) (fun _ _ _ _ _ _ us hl => match us, hl with | [_], _ => rfl) fun cdv A outer s H E hr =>
    have nd := sc_size_of.nd
    ⟨_, (pss_cons (ps_set (i := 1) nd rfl (Or.inl rfl) pe_int) (pss_cons (ps_for (passes_of rfl) rfl (pi_walk (pe_cal c_children_of hr (by omega) rfl (passes_call (takes_of rfl rfl rfl rfl) fun _ _ _ _ h => h) (pa_cons (pv 0) pa_nil))) (pg_name (i := 2) nd rfl (Or.inl rfl)) (pss_one (ps_aug (i := 1) nd rfl (Or.inl rfl) (pe_cal c_size_of hr (by omega) rfl (passes_call (takes_of rfl rfl rfl rfl) fun _ _ _ _ h => h) (pa_cons (pv 2) pa_nil)) ip_add))) (pss_one (ps_ret (pv 1))))),
    (simSeq (simAsg (simName 1) (simInt 1)) (simSeq (simFor (simWalk (simFz (simCall .nil (bval (simVar 0) bnil)))) (simName 2) (simAug (simCall .nil (bval (simVar 2) bnil)).k)) (simRet (simVar 1))))⟩) n

/-! ### paths_of: slots formula found place child path; calls itself -/
theorem sc_paths_of : FnScope ["formula", "found", "place", "child", "path"] ["formula"] d_paths_of.scope := ⟨rfl, rfl, rfl, by decide +kernel, rfl, by decide +kernel, by decide +kernel⟩
theorem cal_paths_of (T : Tx fn ck K mg) (n : Nat) : Cal P w K mg base (1 + n) "paths_of" ["formula"] (spM (cts K) (FO.f_paths_of n)) [] := by
  have c_children_of := cal_children_of (P := P) (w := w) (base := base) T
  exact cal_rec (cal_bad (d := d_paths_of) (T.fn 2 _ rfl) (T.glo 8 rfl) (fun _ _ _ _ _ _ us hl => match us, hl with | [_], _ => rfl)) (fun n g c_paths_of => cal_of (d := d_paths_of) (N := ["formula", "found", "place", "child", "path"]) (k := 1 + n) (wr := [1, 2, 3, 4]) (b := FO.b_paths_of g) (T.fn 2 _ rfl) (T.glo 8 rfl) sc_paths_of (by decide) (fun _ _ _ _ _ _ us hl => match us, hl with | [_], _ => rfl) fun cdv A outer s H E hr =>
    have nd := sc_paths_of.nd
    ⟨_, (pss_cons (ps_set (i := 1) nd rfl (Or.inl rfl) (pe_lst (pa_cons (pe_tup pa_nil) pa_nil))) (pss_cons (ps_for (passes_of rfl) rfl (pi_enumA rfl (T.fre 6 rfl) (pa_cons (pe_cal c_children_of hr (by omega) rfl (passes_call (takes_of rfl rfl rfl rfl) fun _ _ _ _ h => h) (pa_cons (pv 0) pa_nil)) pa_nil)) (pg_tup rfl (pgs_cons (pg_name (i := 2) nd rfl (Or.inl rfl)) (pgs_cons (pg_name (i := 3) nd rfl (Or.inl rfl)) pgs_nil))) (pss_one (ps_for (passes_of rfl) rfl (pi_walk (pe_cal c_paths_of hr (by omega) rfl (passes_call (takes_of rfl rfl rfl rfl) fun _ _ _ _ h => h) (pa_cons (pv 3) pa_nil))) (pg_name (i := 4) nd rfl (Or.inl rfl)) (pss_one (ps_expr (pe_bm PySem.F.plainAttrs_list PySem.F.slot_list_append PySem.F.type_list_append mt_append (pv 1) (pa_cons (pe_op op_pl (pe_tup (pa_cons (pv 2) pa_nil)) (pv 4)) pa_nil))))))) (pss_one (ps_ret (pe_callTy call_tuple_of rfl (T.fre 7 rfl) PyProof.Rows.boot_tuple (pa_cons (pv 1) pa_nil)))))),
    (simSeq (simAsg (simName 1) (simLstZ (simCons (simTup simNil) simNil))) (simSeq (simFor (simEnum (simFz (simCall .nil (bval (simVar 0) bnil)))) (simTp (simGsCons (simName 2) (simGsCons (simName 3) simGsNil))) (simFor (simWalk (simFz (simCall .nil (bval (simVar 3) bnil)))) (simName 4) (simDrop (simMeth0 lAppend (simCons (simPl (k2v (simTup (simCons (simVar 2) simNil)) (simVar 4).k)) simNil))))) (simRet (simFz (simTuple (simGet 1))))))⟩) n

/-! ### part_at: slots formula path place -/
theorem sc_part_at : FnScope ["formula", "path", "place"] ["formula", "path"] d_part_at.scope := ⟨rfl, rfl, rfl, by decide +kernel, rfl, by decide +kernel, by decide +kernel⟩
theorem cal_part_at (T : Tx fn ck K mg) : Cal P w K mg base 1 "part_at" ["formula", "path"] (spM (cts K) FO.f_part_at) [] := by
  exact cal_of (d := d_part_at) (N := ["formula", "path", "place"]) (k := 0) (wr := [2, 0]) (b := FO.b_part_at) (T.fn 3 _ rfl) (T.glo 9 rfl) sc_part_at (by decide) (fun _ _ _ _ _ _ us hl => match us, hl with | [_, _], _ => rfl) fun cdv A outer s H E hr =>
    have nd := sc_part_at.nd
    ⟨_, (pss_cons (ps_for (passes_of rfl) rfl (pi_walk (pv 1)) (pg_name (i := 2) nd rfl (Or.inl rfl)) (pss_one (ps_set (i := 0) nd rfl (Or.inl rfl) (pe_ix ix_seq (pv 0) (pe_op op_pl (pv 2) pe_int) (fun _ _ => rfl))))) (pss_one (ps_ret (pv 0)))),
    (simSeq (simFor (simWalk (simVar 1)) (simName 2) (simAsg (simName 0) (simIx (k2v (simVar 0) (simPl (k2v (simVar 2) (simInt 1).k)).k)))) (simRet (simVar 0)))⟩

/-! ### with_part: slots formula path part changed; calls itself -/
theorem sc_with_part : FnScope ["formula", "path", "part", "changed"] ["formula", "path", "part"] d_with_part.scope := ⟨rfl, rfl, rfl, by decide +kernel, rfl, by decide +kernel, by decide +kernel⟩
theorem cal_with_part (T : Tx fn ck K mg) (n : Nat) : Cal P w K mg base (0 + n) "with_part" ["formula", "path", "part"] (spM (cts K) (FO.f_with_part n)) [] := by
  exact cal_rec (cal_bad (d := d_with_part) (T.fn 4 _ rfl) (T.glo 11 rfl) (fun _ _ _ _ _ _ us hl => match us, hl with | [_, _, _], _ => rfl)) (fun n g c_with_part => cal_of (d := d_with_part) (N := ["formula", "path", "part", "changed"]) (k := 0 + n) (wr := [3]) (b := FO.b_with_part g) (T.fn 4 _ rfl) (T.glo 11 rfl) sc_with_part (by decide) (fun _ _ _ _ _ _ us hl => match us, hl with | [_, _, _], _ => rfl) fun cdv A outer s H E hr =>
    have nd := sc_with_part.nd
    ⟨_, (pss_cons (ps_if (pt_not (pt_truth (pv 1) (by intro _; rfl))) (pss_one (ps_ret (pv 2))) pss_nil) (pss_cons (ps_set (i := 3) nd rfl (Or.inl rfl) (pe_callTy call_list_of rfl (T.fre 10 rfl) PyProof.Rows.boot_list (pa_cons (pv 0) pa_nil))) (pss_cons (ps_asg (pe_cal c_with_part hr (by omega) rfl (passes_call (takes_of rfl rfl rfl rfl) fun _ _ _ _ h => h) (pa_cons (pe_ix ix_seq (pv 0) (pe_op op_pl (pe_ix ix_seq (pv 1) pe_int (fun _ _ => rfl)) pe_int) (fun _ _ => rfl)) (pa_cons (pe_slice sl_any (pv 1) (po_some pe_int) po_none) (pa_cons (pv 2) pa_nil)))) (pg_sub (pv 3) (pe_op op_pl (pe_ix ix_seq (pv 1) pe_int (fun _ _ => rfl)) pe_int) set_list)) (pss_one (ps_ret (pe_callTy call_tuple_of rfl (T.fre 7 rfl) PyProof.Rows.boot_tuple (pa_cons (pv 3) pa_nil))))))),
    (simSeq (simIfS (simNot (simTru (simVar 1).k)) (simRet (simVar 2)) simNext) (simSeq (simAsg (simName 3) (simList (simVar 0).k)) (simSeq (simAsg (simSet (E := fun _ => E0) (simSlot 3) (simPl (k2v (simIx (k2v (simVar 1) (simInt 0).k)) (simInt 1).k)).k) (simFz (simCall .nil (bval (simIx (k2v (simVar 0) (simPl (k2v (simIx (k2v (simVar 1) (simInt 0).k)) (simInt 1).k)).k)) (bval (simFz (simSl (simVar 1).k (simPart (simInt 1).k) simNoPart)) (bval (simVar 2) bnil)))))) (simRet (simFz (simTuple (simGet 3)))))))⟩) n

/-! ### sign_at: slots formula path sign place -/
theorem sc_sign_at : FnScope ["formula", "path", "sign", "place"] ["formula", "path"] d_sign_at.scope := ⟨rfl, rfl, rfl, by decide +kernel, rfl, by decide +kernel, by decide +kernel⟩
theorem cal_sign_at (T : Tx fn ck K mg) : Cal P w K mg base 1 "sign_at" ["formula", "path"] (spM (cts K) FO.f_sign_at) [] := by
  exact cal_of (d := d_sign_at) (N := ["formula", "path", "sign", "place"]) (k := 0) (wr := [2, 3, 2, 0]) (b := FO.b_sign_at) (T.fn 5 _ rfl) (T.glo 12 rfl) sc_sign_at (by decide) (fun _ _ _ _ _ _ us hl => match us, hl with | [_, _], _ => rfl) fun cdv A outer s H E hr =>
    have nd := sc_sign_at.nd
    ⟨_, (pss_cons (ps_set (i := 2) nd rfl (Or.inl rfl) pe_int) (pss_cons (ps_for (passes_of rfl) rfl (pi_walk (pv 1)) (pg_name (i := 3) nd rfl (Or.inl rfl)) (pss_cons (ps_if (pt_cmpR (op_eq2 (hu64 hr)) (pe_ix ix_seq (pv 0) pe_int (fun _ _ => rfl)) pe_str (nomark _)) (pss_one (ps_set (i := 2) nd rfl (Or.inl rfl) (pe_un un_neg (pv 2)))) pss_nil) (pss_one (ps_set (i := 0) nd rfl (Or.inl rfl) (pe_ix ix_seq (pv 0) (pe_op op_pl (pv 3) pe_int) (fun _ _ => rfl)))))) (pss_one (ps_ret (pv 2))))),
    (simSeq (simAsg (simName 2) (simInt 1)) (simSeq (simFor (simWalk (simVar 1)) (simName 3) (simSeq (simIfS (simTest (simOp2 semEq2 (k2v (simIx (k2v (simVar 0) (simInt 0).k)) (simStr "not").k)).k) (simAsg (simName 2) (simNeg (simVar 2).k)) simNext) (simAsg (simName 0) (simIx (k2v (simVar 0) (simPl (k2v (simVar 3) (simInt 1).k)).k))))) (simRet (simVar 2))))⟩

/-! ### names_in: slots formula found path node -/
theorem sc_names_in : FnScope ["formula", "found", "path", "node"] ["formula"] d_names_in.scope := ⟨rfl, rfl, rfl, by decide +kernel, rfl, by decide +kernel, by decide +kernel⟩
theorem cal_names_in (T : Tx fn ck K mg) : Cal P w K mg base 62 "names_in" ["formula"] (spM (cts K) FO.f_names_in) [] := by
  have c_part_at := cal_part_at (P := P) (w := w) (base := base) T
  have c_paths_of := cal_paths_of (P := P) (w := w) (base := base) T 60
  exact cal_of (d := d_names_in) (N := ["formula", "found", "path", "node"]) (k := 61) (wr := [1, 2, 3]) (b := FO.b_names_in) (T.fn 6 _ rfl) (T.glo 13 rfl) sc_names_in (by decide) (fun _ _ _ _ _ _ us hl => match us, hl with | [_], _ => rfl) fun cdv A outer s H E hr =>
    have nd := sc_names_in.nd
    ⟨_, (pss_cons (ps_set (i := 1) nd rfl (Or.inl rfl) (pe_lst pa_nil)) (pss_cons (ps_for (passes_of rfl) rfl (pi_walk (pe_cal c_paths_of hr (by omega) rfl (passes_call (takes_of rfl rfl rfl rfl) fun _ _ _ _ h => h) (pa_cons (pv 0) pa_nil))) (pg_name (i := 2) nd rfl (Or.inl rfl)) (pss_cons (ps_set (i := 3) nd rfl (Or.inl rfl) (pe_cal c_part_at hr (by omega) rfl (passes_call (takes_of rfl rfl rfl rfl) fun _ _ _ _ h => h) (pa_cons (pv 0) (pa_cons (pv 2) pa_nil)))) (pss_one (ps_if (PW.pt (pw_and (pt_cmpR (op_eq2 (hu64 hr)) (pe_ix ix_seq (pv 3) pe_int (fun _ _ => rfl)) pe_str (nomark _)) (pw_and1 (pt_cmpR op_notIn2 (pe_ix ix_seq (pv 3) pe_int (fun _ _ => rfl)) (pv 1) (by rfl))))) (pss_one (ps_expr (pe_bm PySem.F.plainAttrs_list PySem.F.slot_list_append PySem.F.type_list_append mt_append (pv 1) (pa_cons (pe_ix ix_seq (pv 3) pe_int (fun _ _ => rfl)) pa_nil)))) pss_nil)))) (pss_one (ps_ret (pe_callTy call_tuple_of rfl (T.fre 7 rfl) PyProof.Rows.boot_tuple (pa_cons (pv 1) pa_nil)))))),
    (simSeq (simAsg (simName 1) (simLstE .sh)) (simSeq (simFor (simWalk (simFz (simCall .nil (bval (simVar 0) bnil)))) (simName 2) (simSeq (simAsg (simName 3) (simFz (simCall .nil (bval (simVar 0) (bval (simVar 2) bnil))))) (simIfS (simAnd (simTest (simOp2 semEq2 (k2v (simIx (k2v (simVar 3) (simInt 0).k)) (simStr "name").k)).k) (simTest (simOp2 (semIn2 true) (k2v (simIx (k2v (simVar 3) (simInt 1).k)) (simGet 1))).k)) (simDrop (simMeth0 lAppend (simCons (simIx (k2v (simVar 3) (simInt 1).k)) simNil))) simNext))) (simRet (simFz (simTuple (simGet 1))))))⟩

/-! ### beneath_was: slots formula path place -/
theorem sc_beneath_was : FnScope ["formula", "path", "place"] ["formula", "path"] d_beneath_was.scope := ⟨rfl, rfl, rfl, by decide +kernel, rfl, by decide +kernel, by decide +kernel⟩
theorem cal_beneath_was (T : Tx fn ck K mg) : Cal P w K mg base 1 "beneath_was" ["formula", "path"] (spM (cts K) FO.f_beneath_was) [] := by
  exact cal_of (d := d_beneath_was) (N := ["formula", "path", "place"]) (k := 0) (wr := [2, 0]) (b := FO.b_beneath_was) (T.fn 7 _ rfl) (T.glo 14 rfl) sc_beneath_was (by decide) (fun _ _ _ _ _ _ us hl => match us, hl with | [_, _], _ => rfl) fun cdv A outer s H E hr =>
    have nd := sc_beneath_was.nd
    ⟨_, (pss_cons (ps_for (passes_of rfl) rfl (pi_walk (pv 1)) (pg_name (i := 2) nd rfl (Or.inl rfl)) (pss_cons (ps_if (pt_cmpR (op_eq2 (hu64 hr)) (pe_ix ix_seq (pv 0) pe_int (fun _ _ => rfl)) pe_str (nomark _)) (pss_one (ps_ret pe_bl)) pss_nil) (pss_one (ps_set (i := 0) nd rfl (Or.inl rfl) (pe_ix ix_seq (pv 0) (pe_op op_pl (pv 2) pe_int) (fun _ _ => rfl)))))) (pss_one (ps_ret pe_bl))),
    (simSeq (simFor (simWalk (simVar 1)) (simName 2) (simSeq (simIfS (simTest (simOp2 semEq2 (k2v (simIx (k2v (simVar 0) (simInt 0).k)) (simStr "was").k)).k) (simRet (simBl true)) simNext) (simAsg (simName 0) (simIx (k2v (simVar 0) (simPl (k2v (simVar 2) (simInt 1).k)).k))))) (simRet (simBl false)))⟩

/-! ### bare_names: slots formula found path node -/
theorem sc_bare_names : FnScope ["formula", "found", "path", "node"] ["formula"] d_bare_names.scope := ⟨rfl, rfl, rfl, by decide +kernel, rfl, by decide +kernel, by decide +kernel⟩
theorem cal_bare_names (T : Tx fn ck K mg) : Cal P w K mg base 62 "bare_names" ["formula"] (spM (cts K) FO.f_bare_names) [] := by
  have c_beneath_was := cal_beneath_was (P := P) (w := w) (base := base) T
  have c_part_at := cal_part_at (P := P) (w := w) (base := base) T
  have c_paths_of := cal_paths_of (P := P) (w := w) (base := base) T 60
  exact cal_of (d := d_bare_names) (N := ["formula", "found", "path", "node"]) (k := 61) (wr := [1, 2, 3]) (b := FO.b_bare_names) (T.fn 8 _ rfl) (T.glo 15 rfl) sc_bare_names (by decide) (fun _ _ _ _ _ _ us hl => match us, hl with | [_], _ => rfl) fun cdv A outer s H E hr =>
    have nd := sc_bare_names.nd
    ⟨_, (pss_cons (ps_set (i := 1) nd rfl (Or.inl rfl) (pe_lst pa_nil)) (pss_cons (ps_for (passes_of rfl) rfl (pi_walk (pe_cal c_paths_of hr (by omega) rfl (passes_call (takes_of rfl rfl rfl rfl) fun _ _ _ _ h => h) (pa_cons (pv 0) pa_nil))) (pg_name (i := 2) nd rfl (Or.inl rfl)) (pss_cons (ps_set (i := 3) nd rfl (Or.inl rfl) (pe_cal c_part_at hr (by omega) rfl (passes_call (takes_of rfl rfl rfl rfl) fun _ _ _ _ h => h) (pa_cons (pv 0) (pa_cons (pv 2) pa_nil)))) (pss_one (ps_if (PW.pt (pw_and (pt_cmpR (op_eq2 (hu64 hr)) (pe_ix ix_seq (pv 3) pe_int (fun _ _ => rfl)) pe_str (nomark _)) (pw_and (pt_cmpR op_notIn2 (pe_ix ix_seq (pv 3) pe_int (fun _ _ => rfl)) (pv 1) (by rfl)) (pw_and1 (pt_not (pt_truth (pe_cal c_beneath_was hr (by omega) rfl (passes_call (takes_of rfl rfl rfl rfl) fun _ _ _ _ h => h) (pa_cons (pv 0) (pa_cons (pv 2) pa_nil))) (by intro _; rfl))))))) (pss_one (ps_expr (pe_bm PySem.F.plainAttrs_list PySem.F.slot_list_append PySem.F.type_list_append mt_append (pv 1) (pa_cons (pe_ix ix_seq (pv 3) pe_int (fun _ _ => rfl)) pa_nil)))) pss_nil)))) (pss_one (ps_ret (pe_callTy call_tuple_of rfl (T.fre 7 rfl) PyProof.Rows.boot_tuple (pa_cons (pv 1) pa_nil)))))),
    (simSeq (simAsg (simName 1) (simLstE .sh)) (simSeq (simFor (simWalk (simFz (simCall .nil (bval (simVar 0) bnil)))) (simName 2) (simSeq (simAsg (simName 3) (simFz (simCall .nil (bval (simVar 0) (bval (simVar 2) bnil))))) (simIfS (simAnd (simTest (simOp2 semEq2 (k2v (simIx (k2v (simVar 3) (simInt 0).k)) (simStr "name").k)).k) (simAnd (simTest (simOp2 (semIn2 true) (k2v (simIx (k2v (simVar 3) (simInt 1).k)) (simGet 1))).k) (simNot (simTru (simCall .nil (bval (simVar 0) (bval (simVar 2) bnil))).k)))) (simDrop (simMeth0 lAppend (simCons (simIx (k2v (simVar 3) (simInt 1).k)) simNil))) simNext))) (simRet (simFz (simTuple (simGet 1))))))⟩

/-! ### remembered: slots formula found place child path; calls itself -/
theorem sc_remembered : FnScope ["formula", "found", "place", "child", "path"] ["formula"] d_remembered.scope := ⟨rfl, rfl, rfl, by decide +kernel, rfl, by decide +kernel, by decide +kernel⟩
theorem cal_remembered (T : Tx fn ck K mg) (n : Nat) : Cal P w K mg base (1 + n) "remembered" ["formula"] (spM (cts K) (FO.f_remembered n)) [] := by
  have c_children_of := cal_children_of (P := P) (w := w) (base := base) T
  exact cal_rec (cal_bad (d := d_remembered) (T.fn 9 _ rfl) (T.glo 18 rfl) (fun _ _ _ _ _ _ us hl => match us, hl with | [_], _ => rfl)) (fun n g c_remembered => cal_of (d := d_remembered) (N := ["formula", "found", "place", "child", "path"]) (k := 1 + n) (wr := [1, 2, 3, 4]) (b := FO.b_remembered g) (T.fn 9 _ rfl) (T.glo 18 rfl) sc_remembered (by decide) (fun _ _ _ _ _ _ us hl => match us, hl with | [_], _ => rfl) fun cdv A outer s H E hr =>
    have nd := sc_remembered.nd
    ⟨_, (pss_cons (ps_set (i := 1) nd rfl (Or.inl rfl) (pe_lst pa_nil)) (pss_cons (ps_for (passes_of rfl) rfl (pi_enumA rfl (T.fre 6 rfl) (pa_cons (pe_cal c_children_of hr (by omega) rfl (passes_call (takes_of rfl rfl rfl rfl) fun _ _ _ _ h => h) (pa_cons (pv 0) pa_nil)) pa_nil)) (pg_tup rfl (pgs_cons (pg_name (i := 2) nd rfl (Or.inl rfl)) (pgs_cons (pg_name (i := 3) nd rfl (Or.inl rfl)) pgs_nil))) (pss_one (ps_for (passes_of rfl) rfl (pi_walk (pe_cal c_remembered hr (by omega) rfl (passes_call (takes_of rfl rfl rfl rfl) fun _ _ _ _ h => h) (pa_cons (pv 3) pa_nil))) (pg_name (i := 4) nd rfl (Or.inl rfl)) (pss_one (ps_expr (pe_bm PySem.F.plainAttrs_list PySem.F.slot_list_append PySem.F.type_list_append mt_append (pv 1) (pa_cons (pe_op op_pl (pe_tup (pa_cons (pv 2) pa_nil)) (pv 4)) pa_nil))))))) (pss_cons (ps_if (pt_cmpR op_in2 (pe_ix ix_seq (pv 0) pe_int (fun _ _ => rfl)) (pe_glob (v := .ref (He.ga K "KEEPERS")) rfl (T.glo 17 rfl) rfl) (by rfl)) (pss_one (ps_expr (pe_bm PySem.F.plainAttrs_list PySem.F.slot_list_append PySem.F.type_list_append mt_append (pv 1) (pa_cons (pe_tup pa_nil) pa_nil)))) pss_nil) (pss_one (ps_ret (pe_callTy call_tuple_of rfl (T.fre 7 rfl) PyProof.Rows.boot_tuple (pa_cons (pv 1) pa_nil))))))),
    (simSeq (simAsg (simName 1) (simLstE .sh)) (simSeq (simFor (simEnum (simFz (simCall .nil (bval (simVar 0) bnil)))) (simTp (simGsCons (simName 2) (simGsCons (simName 3) simGsNil))) (simFor (simWalk (simFz (simCall .nil (bval (simVar 3) bnil)))) (simName 4) (simDrop (simMeth0 lAppend (simCons (simPl (k2v (simTup (simCons (simVar 2) simNil)) (simVar 4).k)) simNil))))) (simSeq (simIfS (simTest (simOp2 (semIn2 false) (k2v (simIx (k2v (simVar 0) (simInt 0).k)) (simGT (T.ck 16 _ rfl) (ds := [.str "was", .str "once", .str "held", .str "since"]) rfl).k)).k) (simDrop (simMeth0 lAppend (simCons (simTup simNil) simNil))) simNext) (simRet (simFz (simTuple (simGet 1)))))))⟩) n

/-! ### _law_begin: slots script great seed cell -/
theorem sc__law_begin : FnScope ["script", "great", "seed", "cell"] ["script"] d__law_begin.scope := ⟨rfl, rfl, rfl, by decide +kernel, rfl, by decide +kernel, by decide +kernel⟩
theorem cal__law_begin (T : Tx fn ck K mg) : Cal P w K mg base 1 "_law_begin" ["script"] (spM (cts K) LW.f__law_begin) [] := by
  exact cal_of (d := d__law_begin) (N := ["script", "great", "seed", "cell"]) (k := 0) (wr := [1, 2, 3, 2]) (b := LW.b__law_begin) (T.fn 10 _ rfl) (T.glo 21 rfl) sc__law_begin (by decide) (fun _ _ _ _ _ _ us hl => match us, hl with | [_], _ => rfl) fun cdv A outer s H E hr =>
    have nd := sc__law_begin.nd
    ⟨_, (pss_cons (ps_setLc (i := 1) (own := [("cell", 3)]) rfl nd rfl rfl (sw_true rfl rfl rfl (by decide +kernel)) (pi_walk (pe_slice sl_any (pv 0) po_none (po_some pe_int))) (blkOk_by (N := ["script", "great", "seed", "cell"]) (sc := d__law_begin.scope) (by decide +kernel)) (fun _ _ _ _ _ => (pg_name (i := 3) nd rfl (by first | exact Or.inl rfl | exact Or.inr rfl))) (fun _ _ _ _ _ => (pts_one (pt_cmpR op_ge (pv 3) (pe_op op_pow pe_int pe_int) (nomark _)))) (fun _ _ _ _ _ => (pv 3))) (pss_cons (ps_set (i := 2) nd rfl (Or.inl rfl) pe_int) (pss_cons (ps_for (passes_of rfl) rfl (pi_walk (pe_slice sl_any (pv 0) po_none (po_some pe_int))) (pg_name (i := 3) nd rfl (Or.inl rfl)) (pss_one (ps_if (pt_cmpR op_lt (pv 3) (pe_op op_pow pe_int pe_int) (nomark _)) (pss_one (ps_set (i := 2) nd rfl (Or.inl rfl) (pe_op op_modN (pe_op op_pl (pe_op op_pl (pe_op op_mul (pv 2) pe_int) (pe_op op_modN (pe_callTy call_int1 rfl (T.fre 19 rfl) PyProof.Rows.boot_int (pa_cons (pv 3) pa_nil)) pe_int)) pe_int) pe_int))) pss_nil))) (pss_one (ps_ret (pe_lst (pa_cons (pv 1) (pa_cons (pv 2) (pa_cons (pe_callB call_len rfl (T.fre 20 rfl) boot_len (pa_cons (pe_slice sl_any (pv 0) po_none (po_some pe_int)) pa_nil)) pa_nil))))))))),
    (simSeq (simAsg (simName 1) (simLc (E0 := E0) (simWalk (simFz (simSl (simVar 0).k simNoPart (simPart (simInt 63).k)))) (simName 3) (by decide) (simTest (simOp2 semGe (k2v (simVar 3) (simOp2 semPow (k2v (simInt 10) (simInt 18).k)).k)).k) (simVar 3))) (simSeq (simAsg (simName 2) (simInt 12345)) (simSeq (simFor (simWalk (simFz (simSl (simVar 0).k simNoPart (simPart (simInt 63).k)))) (simName 3) (simIfS (simTest (simOp2 semLt (k2v (simVar 3) (simOp2 semPow (k2v (simInt 10) (simInt 18).k)).k)).k) (simAsg (simName 2) (simOp2 semMod (k2v (simPl (k2v (simPl (k2v (simOp2 semMul (k2v (simVar 2) (simInt 48271).k)) (simOp2 semMod (k2v (simB1 semInt (simVar 3).k) (simInt 1000003).k)).k)) (simInt 11).k)) (simInt 2147483647).k))) simNext)) (simRet (simLstH (simCons (simTake 1) (simCons (simVar 2) (simCons (simB1 semLen (simSl (simVar 0).k simNoPart (simPart (simInt 63).k)).k) simNil))))))))⟩

theorem sc__law_draw : FnScope ["d", "many", "great", "digit"] ["d", "many"] d__law_draw.scope := ⟨rfl, rfl, rfl, by decide +kernel, rfl, by decide +kernel, by decide +kernel⟩
theorem cal__law_draw (T : Tx fn ck K mg) : Cal P w K mg base 1 "_law_draw" ["d", "many"] (spM (cts K) fDraw) [] := by
  exact cal_sp (d := d__law_draw) (N := ["d", "many", "great", "digit"]) (k := 0) (T.fn 11 _ rfl) (T.glo 23 rfl) sc__law_draw (fun vs H Q E h => draw_len h) (fun _ _ _ _ _ _ us hl => match us, hl with | [_, _], _ => rfl) fun cdv A outer s H vs Q E hr h =>
    have nd := sc__law_draw.nd
    ⟨t_draw K, (pss_cons (ps_set (i := 2) nd rfl (Or.inl rfl) (pe_ix ix_seq (pv 0) pe_int (fun _ _ => rfl))) (pss_cons (ps_if (pt_truth (pv 2) (by intro _; rfl)) (pss_cons (ps_set (i := 3) nd rfl (Or.inl rfl) (pe_op op_modN (pe_callTy call_int1 rfl (T.fre 19 rfl) PyProof.Rows.boot_int (pa_cons (pe_ix ix_seq (pv 2) pe_int (fun _ _ => rfl)) pa_nil)) (pv 1))) (pss_cons (ps_asg (pe_op op_fdivN (pe_ix ix_seq (pv 2) pe_int (fun _ _ => rfl)) (pe_callB (call_max2 rfl) rfl (T.fre 22 rfl) PyProof.Rows.boot_max (pa_cons pe_int (pa_cons (pv 1) pa_nil)))) (pg_sub (pv 2) pe_int set_list)) (pss_cons (ps_if (pt_cmpR (op_eqD (hu64 hr)) (pe_ix ix_seq (pv 2) pe_int (fun _ _ => rfl)) pe_int (nomark _)) (pss_one (ps_expr (pe_bm PySem.F.plainAttrs_list PySem.F.slot_list_pop PySem.F.type_list_pop mt_popAt (pv 2) (pa_cons pe_int pa_nil)))) pss_nil) (pss_one (ps_ret (pv 3)))))) pss_nil) (pss_cons (ps_asg (pe_op op_add (pe_ix ix_seq (pv 0) pe_int (fun _ _ => rfl)) pe_int) (pg_sub (pv 0) pe_int set_list)) (pss_cons (ps_asg (pe_op op_modN (pe_op op_add (pe_op op_add (pe_op op_mul (pe_ix ix_seq (pv 0) pe_int (fun _ _ => rfl)) pe_int) (pe_op op_mul (pe_ix ix_seq (pv 0) pe_int (fun _ _ => rfl)) pe_int)) pe_int) pe_int) (pg_sub (pv 0) pe_int set_list)) (pss_one (ps_ret (pe_op op_modN (pe_op op_fdivN (pe_ix ix_seq (pv 0) pe_int (fun _ _ => rfl)) pe_int) (pv 1)))))))), draw_ok (C := cts K) h⟩

/-! ### _law_pick: slots d row -/
theorem sc__law_pick : FnScope ["d", "row"] ["d", "row"] d__law_pick.scope := ⟨rfl, rfl, rfl, by decide +kernel, rfl, by decide +kernel, by decide +kernel⟩
theorem cal__law_pick (T : Tx fn ck K mg) : Cal P w K mg base 2 "_law_pick" ["d", "row"] (spM (cts K) LW.f__law_pick) [] := by
  have c__law_draw := cal__law_draw (P := P) (w := w) (base := base) T
  exact cal_of (d := d__law_pick) (N := ["d", "row"]) (k := 1) (wr := []) (b := LW.b__law_pick) (T.fn 12 _ rfl) (T.glo 24 rfl) sc__law_pick (by decide) (fun _ _ _ _ _ _ us hl => match us, hl with | [_, _], _ => rfl) fun cdv A outer s H E hr =>
    have nd := sc__law_pick.nd
    ⟨_, (pss_one (ps_ret (pe_ix ix_seq (pv 1) (pe_cal c__law_draw hr (by omega) rfl (passes_call (takes_of rfl rfl rfl rfl) fun _ _ _ _ h => h) (pa_cons (pv 0) (pa_cons (pe_callB call_len rfl (T.fre 20 rfl) boot_len (pa_cons (pv 1) pa_nil)) pa_nil))) (fun _ _ => rfl)))),
    (simRet (simIx (k2v (simVar 1) (simCall .nil (bref 0 (bval (simFz (simB1 semLen (simVar 1).k)) bnil))).k)))⟩

/-! ### _law_alphabet: slots  -/
theorem sc__law_alphabet : FnScope [] [] d__law_alphabet.scope := ⟨rfl, rfl, rfl, by decide +kernel, rfl, by decide +kernel, by decide +kernel⟩
theorem cal__law_alphabet (T : Tx fn ck K mg) : Cal P w K mg base 1 "_law_alphabet" [] (spM (cts K) LW.f__law_alphabet) [] := by
  exact cal_of (d := d__law_alphabet) (N := []) (k := 0) (wr := []) (b := LW.b__law_alphabet) (T.fn 13 _ rfl) (T.glo 25 rfl) sc__law_alphabet (by decide) (fun _ _ _ _ _ _ us hl => match us, hl with | [], _ => rfl) fun cdv A outer s H E hr =>
    have nd := sc__law_alphabet.nd
    ⟨_, (pss_one (ps_ret pe_str)),
    (simRet (simStr "abcdefghijklmnopqrstuvwxyz"))⟩

/-! ### _law_reserved: slots  -/
theorem sc__law_reserved : FnScope [] [] d__law_reserved.scope := ⟨rfl, rfl, rfl, by decide +kernel, rfl, by decide +kernel, by decide +kernel⟩
theorem cal__law_reserved (T : Tx fn ck K mg) : Cal P w K mg base 1 "_law_reserved" [] (spM (cts K) LW.f__law_reserved) [] := by
  exact cal_of (d := d__law_reserved) (N := []) (k := 0) (wr := []) (b := LW.b__law_reserved) (T.fn 14 _ rfl) (T.glo 26 rfl) sc__law_reserved (by decide) (fun _ _ _ _ _ _ us hl => match us, hl with | [], _ => rfl) fun cdv A outer s H E hr =>
    have nd := sc__law_reserved.nd
    ⟨_, (pss_one (ps_ret (pe_wordsT pe_str))),
    (simRet (simFz (simWords (simStr "true false was once held since never always again whenever then within open by most each needs bells lamps promise wish grace porter sees lights timer queue states when if do light set push pop go stay any end scene lodge paper run way ring drop judge make undo redo show").k)))⟩

/-! ### _law_right_name: slots text sign -/
theorem sc__law_right_name : FnScope ["text", "sign"] ["text"] d__law_right_name.scope := ⟨rfl, rfl, rfl, by decide +kernel, rfl, by decide +kernel, by decide +kernel⟩
theorem cal__law_right_name (T : Tx fn ck K mg) : Cal P w K mg base 2 "_law_right_name" ["text"] (spM (cts K) LW.f__law_right_name) [] := by
  have c__law_alphabet := cal__law_alphabet (P := P) (w := w) (base := base) T
  have c__law_reserved := cal__law_reserved (P := P) (w := w) (base := base) T
  exact cal_of (d := d__law_right_name) (N := ["text", "sign"]) (k := 1) (wr := []) (b := LW.b__law_right_name) (T.fn 15 _ rfl) (T.glo 27 rfl) sc__law_right_name (by decide) (fun _ _ _ _ _ _ us hl => match us, hl with | [_], _ => rfl) fun cdv A outer s H E hr =>
    have nd := sc__law_right_name.nd
    ⟨_, (pss_cons (ps_if (PW.pt (pw_or (pt_cmpR op_lt (pe_callB call_len rfl (T.fre 20 rfl) boot_len (pa_cons (pv 0) pa_nil)) pe_int (nomark _)) (pw_or (pt_cmpR op_gt (pe_callB call_len rfl (T.fre 20 rfl) boot_len (pa_cons (pv 0) pa_nil)) pe_int (nomark _)) (pw_or1 (pt_cmpR op_in2 (pv 0) (pe_cal0 c__law_reserved hr (by omega) rfl (passes_call (takes_of rfl rfl rfl rfl) fun _ _ _ _ h => h)) (by rfl)))))) (pss_one (ps_ret pe_bl)) pss_nil) (pss_one (ps_ret (pe_cmpR (op_eq2 (hu64 hr)) (pe_lc (own := [("sign", 1)]) rfl nd (pi_walk (pv 0)) (blkOk_by (N := ["text", "sign"]) (sc := d__law_right_name.scope) (by decide +kernel)) (fun _ _ _ _ _ => (pg_name (i := 1) nd rfl (by first | exact Or.inl rfl | exact Or.inr rfl))) (fun _ _ _ _ _ => (pts_one (pt_cmpR op_notIn2 (pv 1) (pe_cal0 c__law_alphabet hr (by omega) rfl passL) (by rfl)))) (fun _ _ _ _ _ => (pv 1))) (pe_lst pa_nil) (nomark _))))),
    (simSeq (simIfS (simOr (simTest (simOp2 semLt (k2v (simB1 semLen (simVar 0).k) (simInt 1).k)).k) (simOr (simTest (simOp2 semGt (k2v (simB1 semLen (simVar 0).k) (simInt 8).k)).k) (simTest (simOp2 (semIn2 false) (k2v (simVar 0) (simCall .nil bnil).k)).k))) (simRet (simBl false)) simNext) (simRet (simOp2 semEq2 (k2v (simLc (E0 := E0) (simWalk (simVar 0)) (simName 1) (by decide) (simTest (simOp2 (semIn2 true) (k2v (simVar 1) (simCall .nil bnil).k)).k) (simVar 1)) (simLstE .sh).k))))⟩

/-! ### _law_fresh: slots d used text turn sign -/
theorem sc__law_fresh : FnScope ["d", "used", "text", "turn", "sign"] ["d", "used"] d__law_fresh.scope := ⟨rfl, rfl, rfl, by decide +kernel, rfl, by decide +kernel, by decide +kernel⟩
theorem cal__law_fresh (T : Tx fn ck K mg) : Cal P w K mg base 3 "_law_fresh" ["d", "used"] (spM (cts K) LW.f__law_fresh) [] := by
  have c__law_alphabet := cal__law_alphabet (P := P) (w := w) (base := base) T
  have c__law_draw := cal__law_draw (P := P) (w := w) (base := base) T
  have c__law_right_name := cal__law_right_name (P := P) (w := w) (base := base) T
  exact cal_of (d := d__law_fresh) (N := ["d", "used", "text", "turn", "sign"]) (k := 2) (wr := [2, 2]) (b := LW.b__law_fresh) (T.fn 16 _ rfl) (T.glo 29 rfl) sc__law_fresh (by decide) (fun _ _ _ _ _ _ us hl => match us, hl with | [_, _], _ => rfl) fun cdv A outer s H E hr =>
    have nd := sc__law_fresh.nd
    ⟨_, (pss_cons (ps_set (i := 2) nd rfl (Or.inl rfl) (pe_joinT pe_str (pe_lc (own := [("turn", 3)]) rfl nd (pi_range1 rfl (T.fre 28 rfl) (pa_cons (pe_op op_pl pe_int (pe_cal c__law_draw hr (by omega) rfl (passes_call (takes_of rfl rfl rfl rfl) fun _ _ _ _ h => h) (pa_cons (pv 0) (pa_cons pe_int pa_nil)))) pa_nil)) (blkOk_by (N := ["d", "used", "text", "turn", "sign"]) (sc := d__law_fresh.scope) (by decide +kernel)) (fun _ _ _ _ _ => (pg_name (i := 3) nd rfl (by first | exact Or.inl rfl | exact Or.inr rfl))) (fun _ _ _ _ _ => pts_nil) (fun _ _ _ _ _ => (pe_ix ix_seq (pe_cal0 c__law_alphabet hr (by omega) rfl passL) (pe_cal c__law_draw hr (by omega) rfl passL (pa_cons (pv 0) (pa_cons pe_int pa_nil))) (fun _ _ => rfl)))))) (pss_cons (ps_if (PW.pt (pw_and (pt_truth (pv 1) (by intro _; rfl)) (pw_and1 (pt_cmpR (op_eq2 (hu64 hr)) (pe_cal c__law_draw hr (by omega) rfl (passes_call (takes_of rfl rfl rfl rfl) fun _ _ _ _ h => h) (pa_cons (pv 0) (pa_cons pe_int pa_nil))) pe_int (nomark _))))) (pss_one (ps_set (i := 2) nd rfl (Or.inl rfl) (pe_slice sl_any (pe_op op_pl (pe_ix ix_seq (pv 1) (pe_cal c__law_draw hr (by omega) rfl (passes_call (takes_of rfl rfl rfl rfl) fun _ _ _ _ h => h) (pa_cons (pv 0) (pa_cons (pe_callB call_len rfl (T.fre 20 rfl) boot_len (pa_cons (pv 1) pa_nil)) pa_nil))) (fun _ _ => rfl)) (pv 2)) po_none (po_some pe_int)))) pss_nil) (pss_cons (ps_if (PW.pt (pw_and (pt_truth (pe_cal c__law_right_name hr (by omega) rfl (passes_call (takes_of rfl rfl rfl rfl) fun _ _ _ _ h => h) (pa_cons (pv 2) pa_nil)) (by intro _; rfl)) (pw_and1 (pt_cmpR op_notIn2 (pv 2) (pv 1) (by rfl))))) (pss_one (ps_ret (pv 2))) pss_nil) (pss_one (ps_ret (pe_ix ix_seq (pe_lc (own := [("sign", 4)]) rfl nd (pi_walk (pe_cal0 c__law_alphabet hr (by omega) rfl (passes_call (takes_of rfl rfl rfl rfl) fun _ _ _ _ h => h))) (blkOk_by (N := ["d", "used", "text", "turn", "sign"]) (sc := d__law_fresh.scope) (by decide +kernel)) (fun _ _ _ _ _ => (pg_name (i := 4) nd rfl (by first | exact Or.inl rfl | exact Or.inr rfl))) (fun _ _ _ _ _ => (pts_one (pt_cmpR op_notIn2 (pv 4) (pv 1) (by rfl)))) (fun _ _ _ _ _ => (pv 4))) pe_int (fun _ _ => rfl))))))),
    (simSeq (simAsg (simName 2) (simJoin (simStr "").k (simLc (E0 := E0) (simRng1 (simPl (k2v (simInt 1) (simCall .nil (bref 0 (bval (simInt 8) bnil))).k)).k) (simName 3) (by decide) simYes (simIx (k2v (simCall .nil bnil) (simCall .nil (bref 0 (bval (simInt 26) bnil))).k))).k)) (simSeq (simIfS (simAnd (simTru (simGet 1)) (simTest (simOp2 semEq2 (k2v (simCall .nil (bref 0 (bval (simInt 4) bnil))) (simInt 0).k)).k)) (simAsg (simName 2) (simFz (simSl (simPl (k2p (simIxK (k2n 1 (simCall .nil (bref 0 (bval (simFz (simB1 semLen (simGet 1))) bnil))).k)) (simVar 2).k)).k simNoPart (simPart (simInt 8).k)))) simNext) (simSeq (simIfS (simAnd (simTru (simCall .nil (bval (simVar 2) bnil)).k) (simTest (simOp2 (semIn2 true) (k2v (simVar 2) (simGet 1))).k)) (simRet (simVar 2)) simNext) (simRet (simIx (k2v (simLc (E0 := E0) (simWalk (simFz (simCall .nil bnil))) (simName 4) (by decide) (simTest (simOp2 (semIn2 true) (k2v (simVar 4) (simGet 1))).k) (simVar 4)) (simInt 0).k))))))⟩

/-! ### _law_tree: slots d names nodes kind first head left; calls itself -/
noncomputable def b__law_tree (g : FM) : M Fl := (mSeq (mAsg (gSt 3) (mFz (mCall fDraw (bRef 0 (bVal (mC (.int 9)) bNil)))))
    (mSeq (mIfS (mBl (mOp2 fLe (m2 (mVar 2) (mC (.int 1)))))
    (mSeq (mIfS (mBl (mOp2 fEq2 (m2 (mVar 3) (mC (.int 0)))))
    (mRet (mTup (mCons (mC (.str "true")) mNil)))
    mSkip)
    (mSeq (mIfS (mBl (mOp2 fEq2 (m2 (mVar 3) (mC (.int 1)))))
    (mRet (mTup (mCons (mC (.str "false")) mNil)))
    mSkip)
    (mRet (mTup (mCons (mC (.str "name")) (mCons (mCall LW.f__law_pick (bRef 0 (bVal (mVar 1) bNil))) mNil))))))
    mSkip)
    (mSeq (mIfS (mOr (mBl (mOp2 fEq2 (m2 (mVar 2) (mC (.int 2))))) (mBl (mOp2 fLt (m2 (mVar 3) (mC (.int 4))))))
    (mRet (mTup (mCons (mIx (m2 (mTup (mCons (mC (.str "not")) (mCons (mC (.str "was")) (mCons (mC (.str "once")) (mCons (mC (.str "held")) mNil))))) (mOp2 fAnd (m2 (mVar 3) (mC (.int 3)))))) (mCons (mCall g (bRef 0 (bVal (mVar 1) (bVal (mOp2 fSub (m2 (mVar 2) (mC (.int 1)))) bNil)))) mNil))))
    mSkip)
    (mSeq (mAsg (gSt 4) (mPl (m2 (mC (.int 1)) (mCall fDraw (bRef 0 (bVal (mOp2 fSub (m2 (mVar 2) (mC (.int 2)))) bNil))))))
    (mSeq (mIfS (mBl (mOp2 fEq2 (m2 (mCall fDraw (bRef 0 (bVal (mC (.int 3)) bNil))) (mC (.int 0)))))
    (mAsg (gSt 4) (mFz (mOp2 fMax2 (m2 (mC (.int 1)) (mOp2 fDiv (m2 (mOp2 fSub (m2 (mVar 2) (mC (.int 1)))) (mC (.int 2))))))))
    mSkip)
    (mSeq (mAsg (gSt 5) (mFz (mCall LW.f__law_pick (bRef 0 (bVal (mTup (mCons (mC (.str "and")) (mCons (mC (.str "or")) (mCons (mC (.str "since")) mNil)))) bNil)))))
    (mSeq (mAsg (gSt 6) (mFz (mCall g (bRef 0 (bVal (mVar 1) (bVal (mVar 4) bNil))))))
    (mSeq (mIfS (mAnd (mBl (mOp2 fEq2 (m2 (mOp2 fMul (m2 (mC (.int 2)) (mVar 4))) (mOp2 fSub (m2 (mVar 2) (mC (.int 1))))))) (mBl (mOp2 fNe2 (m2 (mCall fDraw (bRef 0 (bVal (mC (.int 3)) bNil))) (mC (.int 0))))))
    (mRet (mTup (mCons (mVar 5) (mCons (mVar 6) (mCons (mVar 6) mNil)))))
    mSkip)
    (mRet (mTup (mCons (mVar 5) (mCons (mVar 6) (mCons (mCall g (bRef 0 (bVal (mVar 1) (bVal (mOp2 fSub (m2 (mOp2 fSub (m2 (mVar 2) (mC (.int 1)))) (mVar 4))) bNil)))) mNil)))))))))))))
noncomputable def F__law_tree (g : FM) : FM := mFn 7 3 [3, 4, 4, 5, 6] (b__law_tree g)
noncomputable def f__law_tree : Nat → FM := fRec F__law_tree
theorem sc__law_tree : FnScope ["d", "names", "nodes", "kind", "first", "head", "left"] ["d", "names", "nodes"] d__law_tree.scope := ⟨rfl, rfl, rfl, by decide +kernel, rfl, by decide +kernel, by decide +kernel⟩
theorem cal__law_tree (T : Tx fn ck K mg) (n : Nat) : Cal P w K mg base (2 + n) "_law_tree" ["d", "names", "nodes"] (spM (cts K) (f__law_tree n)) [] := by
  have c__law_draw := cal__law_draw (P := P) (w := w) (base := base) T
  have c__law_pick := cal__law_pick (P := P) (w := w) (base := base) T
  exact cal_rec (cal_bad (d := d__law_tree) (T.fn 17 _ rfl) (T.glo 30 rfl) (fun _ _ _ _ _ _ us hl => match us, hl with | [_, _, _], _ => rfl)) (fun n g c__law_tree => cal_of (d := d__law_tree) (N := ["d", "names", "nodes", "kind", "first", "head", "left"]) (k := 2 + n) (wr := [3, 4, 4, 5, 6]) (b := b__law_tree g) (T.fn 17 _ rfl) (T.glo 30 rfl) sc__law_tree (by decide) (fun _ _ _ _ _ _ us hl => match us, hl with | [_, _, _], _ => rfl) fun cdv A outer s H E hr =>
    have nd := sc__law_tree.nd
    ⟨_, (pss_cons (ps_set (i := 3) nd rfl (Or.inl rfl) (pe_cal c__law_draw hr (by omega) rfl (passes_call (takes_of rfl rfl rfl rfl) fun _ _ _ _ h => h) (pa_cons (pv 0) (pa_cons pe_int pa_nil)))) (pss_cons (ps_if (pt_cmpR op_le (pv 2) pe_int (nomark _)) (pss_cons (ps_if (pt_cmpR (op_eq2 (hu64 hr)) (pv 3) pe_int (nomark _)) (pss_one (ps_ret (pe_tup (pa_cons pe_str pa_nil)))) pss_nil) (pss_cons (ps_if (pt_cmpR (op_eq2 (hu64 hr)) (pv 3) pe_int (nomark _)) (pss_one (ps_ret (pe_tup (pa_cons pe_str pa_nil)))) pss_nil) (pss_one (ps_ret (pe_tup (pa_cons pe_str (pa_cons (pe_cal c__law_pick hr (by omega) rfl (passes_call (takes_of rfl rfl rfl rfl) fun _ _ _ _ h => h) (pa_cons (pv 0) (pa_cons (pv 1) pa_nil))) pa_nil))))))) pss_nil) (pss_cons (ps_if (PW.pt (pw_or (pt_cmpR (op_eq2 (hu64 hr)) (pv 2) pe_int (nomark _)) (pw_or1 (pt_cmpR op_lt (pv 3) pe_int (nomark _))))) (pss_one (ps_ret (pe_tup (pa_cons (pe_ix ix_seq (pe_tup (pa_cons pe_str (pa_cons pe_str (pa_cons pe_str (pa_cons pe_str pa_nil))))) (pe_op op_and (pv 3) pe_int) (fun _ _ => rfl)) (pa_cons (pe_cal c__law_tree hr (by omega) rfl (passes_call (takes_of rfl rfl rfl rfl) fun _ _ _ _ h => h) (pa_cons (pv 0) (pa_cons (pv 1) (pa_cons (pe_op op_sub (pv 2) pe_int) pa_nil)))) pa_nil))))) pss_nil) (pss_cons (ps_set (i := 4) nd rfl (Or.inl rfl) (pe_op op_pl pe_int (pe_cal c__law_draw hr (by omega) rfl (passes_call (takes_of rfl rfl rfl rfl) fun _ _ _ _ h => h) (pa_cons (pv 0) (pa_cons (pe_op op_sub (pv 2) pe_int) pa_nil))))) (pss_cons (ps_if (pt_cmpR (op_eq2 (hu64 hr)) (pe_cal c__law_draw hr (by omega) rfl (passes_call (takes_of rfl rfl rfl rfl) fun _ _ _ _ h => h) (pa_cons (pv 0) (pa_cons pe_int pa_nil))) pe_int (nomark _)) (pss_one (ps_set (i := 4) nd rfl (Or.inl rfl) (pe_callB (call_max2 rfl) rfl (T.fre 22 rfl) PyProof.Rows.boot_max (pa_cons pe_int (pa_cons (pe_op op_fdivN (pe_op op_sub (pv 2) pe_int) pe_int) pa_nil))))) pss_nil) (pss_cons (ps_set (i := 5) nd rfl (Or.inl rfl) (pe_cal c__law_pick hr (by omega) rfl (passes_call (takes_of rfl rfl rfl rfl) fun _ _ _ _ h => h) (pa_cons (pv 0) (pa_cons (pe_tup (pa_cons pe_str (pa_cons pe_str (pa_cons pe_str pa_nil)))) pa_nil)))) (pss_cons (ps_set (i := 6) nd rfl (Or.inl rfl) (pe_cal c__law_tree hr (by omega) rfl (passes_call (takes_of rfl rfl rfl rfl) fun _ _ _ _ h => h) (pa_cons (pv 0) (pa_cons (pv 1) (pa_cons (pv 4) pa_nil))))) (pss_cons (ps_if (PW.pt (pw_and (pt_cmpR (op_eq2 (hu64 hr)) (pe_op op_mul pe_int (pv 4)) (pe_op op_sub (pv 2) pe_int) (nomark _)) (pw_and1 (pt_cmpR (op_ne2 (hu64 hr)) (pe_cal c__law_draw hr (by omega) rfl (passes_call (takes_of rfl rfl rfl rfl) fun _ _ _ _ h => h) (pa_cons (pv 0) (pa_cons pe_int pa_nil))) pe_int (nomark _))))) (pss_one (ps_ret (pe_tup (pa_cons (pv 5) (pa_cons (pv 6) (pa_cons (pv 6) pa_nil)))))) pss_nil) (pss_one (ps_ret (pe_tup (pa_cons (pv 5) (pa_cons (pv 6) (pa_cons (pe_cal c__law_tree hr (by omega) rfl (passes_call (takes_of rfl rfl rfl rfl) fun _ _ _ _ h => h) (pa_cons (pv 0) (pa_cons (pv 1) (pa_cons (pe_op op_sub (pe_op op_sub (pv 2) pe_int) (pv 4)) pa_nil)))) pa_nil)))))))))))))),
    (simSeq (simAsg (simName 3) (simFz (simCall .nil (bref 0 (bval (simInt 9) bnil))))) (simSeq (simIfS (simTest (simOp2 semLe (k2v (simVar 2) (simInt 1).k)).k) (simSeq (simIfS (simTest (simOp2 semEq2 (k2v (simVar 3) (simInt 0).k)).k) (simRet (simTup (simCons (simStr "true") simNil))) simNext) (simSeq (simIfS (simTest (simOp2 semEq2 (k2v (simVar 3) (simInt 1).k)).k) (simRet (simTup (simCons (simStr "false") simNil))) simNext) (simRet (simTup (simCons (simStr "name") (simCons (simCall .nil (bref 0 (bval (simVar 1) bnil))) simNil)))))) simNext) (simSeq (simIfS (simOr (simTest (simOp2 semEq2 (k2v (simVar 2) (simInt 2).k)).k) (simTest (simOp2 semLt (k2v (simVar 3) (simInt 4).k)).k)) (simRet (simTup (simCons (simIx (k2v (simTup (simCons (simStr "not") (simCons (simStr "was") (simCons (simStr "once") (simCons (simStr "held") simNil))))) (simOp2 semAnd (k2v (simVar 3) (simInt 3).k)).k)) (simCons (simCall .nil (bref 0 (bval (simVar 1) (bval (simOp2 semSub (k2v (simVar 2) (simInt 1).k)) bnil)))) simNil)))) simNext) (simSeq (simAsg (simName 4) (simPl (k2v (simInt 1) (simCall .nil (bref 0 (bval (simOp2 semSub (k2v (simVar 2) (simInt 2).k)) bnil))).k))) (simSeq (simIfS (simTest (simOp2 semEq2 (k2v (simCall .nil (bref 0 (bval (simInt 3) bnil))) (simInt 0).k)).k) (simAsg (simName 4) (simFz (simB2 semMax2 (k2v (simInt 1) (simOp2 semDiv (k2v (simOp2 semSub (k2v (simVar 2) (simInt 1).k)) (simInt 2).k)).k)))) simNext) (simSeq (simAsg (simName 5) (simFz (simCall .nil (bref 0 (bval (simTup (simCons (simStr "and") (simCons (simStr "or") (simCons (simStr "since") simNil)))) bnil))))) (simSeq (simAsg (simName 6) (simFz (simCall .nil (bref 0 (bval (simVar 1) (bval (simVar 4) bnil)))))) (simSeq (simIfS (simAnd (simTest (simOp2 semEq2 (k2v (simOp2 semMul (k2v (simInt 2) (simVar 4).k)) (simOp2 semSub (k2v (simVar 2) (simInt 1).k)).k)).k) (simTest (simOp2 semNe2 (k2v (simCall .nil (bref 0 (bval (simInt 3) bnil))) (simInt 0).k)).k)) (simRet (simTup (simCons (simVar 5) (simCons (simVar 6) (simCons (simVar 6) simNil))))) simNext) (simRet (simTup (simCons (simVar 5) (simCons (simVar 6) (simCons (simCall .nil (bref 0 (bval (simVar 1) (bval (simOp2 semSub (k2v (simOp2 semSub (k2v (simVar 2) (simInt 1).k)) (simVar 4).k)) bnil)))) simNil)))))))))))))⟩) n

theorem en__law_tree {n : Nat} {a0 a1 a2 : Ty × D} {t : Ty} {d : D} (h : (b__law_tree (f__law_tree n) [some a0, some a1, some a2, none, none, none, none]).P (retK t d) noX) : ∃ os, f__law_tree (n + 1) [a0, a1, a2] = .ok (t, d) os := w_fnR (A := b__law_tree (f__law_tree n)) (N := 7) (k := 3) (wr := [3, 4, 4, 5, 6]) (as := [a0, a1, a2]) rfl rfl h
theorem ep__law_tree {n : Nat} {a0 a1 a2 : Ty × D} {Φ : Ty × D → VS.Env → Prop} {X : XP} (h : (b__law_tree (f__law_tree n) [some a0, some a1, some a2, none, none, none, none]).P (fnK [3, 4, 4, 5, 6] 3 Φ) X) : (f__law_tree (n + 1) [a0, a1, a2]).P Φ X := w_fn (A := b__law_tree (f__law_tree n)) (N := 7) (k := 3) (wr := [3, 4, 4, 5, 6]) (as := [a0, a1, a2]) rfl rfl h
/-! ### _law_nodes_drawn: slots d -/
noncomputable def b__law_nodes_drawn : M Fl := (mSeq (mIfS (mBl (mOp2 fEq2 (m2 (mCall fDraw (bRef 0 (bVal (mC (.int 3)) bNil))) (mC (.int 0)))))
    (mRet (mOp2 fSub (m2 (mC (.int 24)) (mCall fDraw (bRef 0 (bVal (mC (.int 2)) bNil))))))
    mSkip)
    (mRet (mPl (m2 (mC (.int 1)) (mCall fDraw (bRef 0 (bVal (mC (.int 24)) bNil)))))))
noncomputable def f__law_nodes_drawn : FM := mFn 1 1 [] b__law_nodes_drawn
theorem sc__law_nodes_drawn : FnScope ["d"] ["d"] d__law_nodes_drawn.scope := ⟨rfl, rfl, rfl, by decide +kernel, rfl, by decide +kernel, by decide +kernel⟩
theorem cal__law_nodes_drawn (T : Tx fn ck K mg) : Cal P w K mg base 2 "_law_nodes_drawn" ["d"] (spM (cts K) f__law_nodes_drawn) [] := by
  have c__law_draw := cal__law_draw (P := P) (w := w) (base := base) T
  exact cal_of (d := d__law_nodes_drawn) (N := ["d"]) (k := 1) (wr := []) (b := b__law_nodes_drawn) (T.fn 18 _ rfl) (T.glo 31 rfl) sc__law_nodes_drawn (by decide) (fun _ _ _ _ _ _ us hl => match us, hl with | [_], _ => rfl) fun cdv A outer s H E hr =>
    have nd := sc__law_nodes_drawn.nd
    ⟨_, (pss_cons (ps_if (pt_cmpR (op_eq2 (hu64 hr)) (pe_cal c__law_draw hr (by omega) rfl (passes_call (takes_of rfl rfl rfl rfl) fun _ _ _ _ h => h) (pa_cons (pv 0) (pa_cons pe_int pa_nil))) pe_int (nomark _)) (pss_one (ps_ret (pe_op op_sub pe_int (pe_cal c__law_draw hr (by omega) rfl (passes_call (takes_of rfl rfl rfl rfl) fun _ _ _ _ h => h) (pa_cons (pv 0) (pa_cons pe_int pa_nil)))))) pss_nil) (pss_one (ps_ret (pe_op op_pl pe_int (pe_cal c__law_draw hr (by omega) rfl (passes_call (takes_of rfl rfl rfl rfl) fun _ _ _ _ h => h) (pa_cons (pv 0) (pa_cons pe_int pa_nil))))))),
    (simSeq (simIfS (simTest (simOp2 semEq2 (k2v (simCall .nil (bref 0 (bval (simInt 3) bnil))) (simInt 0).k)).k) (simRet (simOp2 semSub (k2v (simInt 24) (simCall .nil (bref 0 (bval (simInt 2) bnil))).k))) simNext) (simRet (simPl (k2v (simInt 1) (simCall .nil (bref 0 (bval (simInt 24) bnil))).k))))⟩

theorem en__law_nodes_drawn {a0 : Ty × D} {t : Ty} {d : D} (h : (b__law_nodes_drawn [some a0]).P (retK t d) noX) : ∃ os, f__law_nodes_drawn [a0] = .ok (t, d) os := w_fnR (A := b__law_nodes_drawn) (N := 1) (k := 1) (wr := []) (as := [a0]) rfl rfl h
theorem ep__law_nodes_drawn {a0 : Ty × D} {Φ : Ty × D → VS.Env → Prop} {X : XP} (h : (b__law_nodes_drawn [some a0]).P (fnK [] 1 Φ) X) : (f__law_nodes_drawn [a0]).P Φ X := w_fn (A := b__law_nodes_drawn) (N := 1) (k := 1) (wr := []) (as := [a0]) rfl rfl h
/-! ### _law_preorder: slots formula found line turn path node nots beneath -/
noncomputable def b__law_preorder : M Fl := (mSeq (mAsg (gSt 1) (mLstE .sh))
    (mSeq (mAsg (gSt 2) (mLstZ (mCons (mTup (mCons (mTup mNil) (mCons (mVar 0) (mCons (mC (.int 0)) (mCons (mC (.bl false)) mNil))))) mNil)))
    (mSeq (mFor (mRng1 (mC (.int 60))) (gSt 3)
    (mSeq (mIfS (mNot (mTru (mGet 2)))
    (mPure .bk)
    mSkip)
    (mSeq (mAsg (gTp 4 (gsCons (gSt 4) (gsCons (gSt 5) (gsCons (gSt 6) (gsCons (gSt 7) gsNil))))) (mFz (mMethP (mSlot 2) mNil oPop)))
    (mSeq (mDrop (mMethP (mSlot 1) (mCons (mTup (mCons (mVar 4) (mCons (mVar 5) (mCons (mVar 6) (mCons (mVar 7) mNil))))) mNil) oAppend))
    (mSeq (mAsg (gSt 6) (mPl (m2 (mVar 6) (mB1 fInt (mOp2 fEq2 (m2 (mIx (m2 (mVar 5) (mC (.int 0)))) (mC (.str "not"))))))))
    (mSeq (mAsg (gSt 7) (mFz (mOrT (mVar 7) (mOp2 fEq2 (m2 (mIx (m2 (mVar 5) (mC (.int 0)))) (mC (.str "was")))))))
    (mSeq (mIfS (mBl (mOp2 (fIn2 false) (m2 (mIx (m2 (mVar 5) (mC (.int 0)))) (mTup (mCons (mC (.str "and")) (mCons (mC (.str "or")) (mCons (mC (.str "since")) mNil)))))))
    (mDrop (mMethP (mSlot 2) (mCons (mTup (mCons (mPl (m2 (mVar 4) (mTup (mCons (mC (.int 1)) mNil)))) (mCons (mIx (m2 (mVar 5) (mC (.int 2)))) (mCons (mVar 6) (mCons (mVar 7) mNil))))) mNil) oAppend))
    mSkip)
    (mIfS (mBl (mOp2 (fIn2 true) (m2 (mIx (m2 (mVar 5) (mC (.int 0)))) (mTup (mCons (mC (.str "true")) (mCons (mC (.str "false")) (mCons (mC (.str "name")) mNil)))))))
    (mDrop (mMethP (mSlot 2) (mCons (mTup (mCons (mPl (m2 (mVar 4) (mTup (mCons (mC (.int 0)) mNil)))) (mCons (mIx (m2 (mVar 5) (mC (.int 1)))) (mCons (mVar 6) (mCons (mVar 7) mNil))))) mNil) oAppend))
    mSkip))))))))
    (mRet (mFrz 1)))))
noncomputable def f__law_preorder : FM := mFn 8 1 [1, 2, 3, 4, 5, 6, 7, 6, 7] b__law_preorder
theorem sc__law_preorder : FnScope ["formula", "found", "line", "turn", "path", "node", "nots", "beneath"] ["formula"] d__law_preorder.scope := ⟨rfl, rfl, rfl, by decide +kernel, rfl, by decide +kernel, by decide +kernel⟩
theorem cal__law_preorder (T : Tx fn ck K mg) : Cal P w K mg base 1 "_law_preorder" ["formula"] (spM (cts K) f__law_preorder) [] := by
  exact cal_of (d := d__law_preorder) (N := ["formula", "found", "line", "turn", "path", "node", "nots", "beneath"]) (k := 0) (wr := [1, 2, 3, 4, 5, 6, 7, 6, 7]) (b := b__law_preorder) (T.fn 19 _ rfl) (T.glo 32 rfl) sc__law_preorder (by decide) (fun _ _ _ _ _ _ us hl => match us, hl with | [_], _ => rfl) fun cdv A outer s H E hr =>
    have nd := sc__law_preorder.nd
    ⟨_, (pss_cons (ps_set (i := 1) nd rfl (Or.inl rfl) (pe_lst pa_nil)) (pss_cons (ps_set (i := 2) nd rfl (Or.inl rfl) (pe_lst (pa_cons (pe_tup (pa_cons (pe_tup pa_nil) (pa_cons (pv 0) (pa_cons pe_int (pa_cons pe_bl pa_nil))))) pa_nil))) (pss_cons (ps_for (passes_of rfl) rfl (pi_range1 rfl (T.fre 28 rfl) (pa_cons pe_int pa_nil)) (pg_name (i := 3) nd rfl (Or.inl rfl)) (pss_cons (ps_if (pt_not (pt_truth (pv 2) (by intro _; rfl))) (pss_one ps_break) pss_nil) (pss_cons (ps_asg (pe_bm0 PySem.F.plainAttrs_list PySem.F.slot_list_pop PySem.F.type_list_pop mt_pop (pv 2)) (pg_tup rfl (pgs_cons (pg_name (i := 4) nd rfl (Or.inl rfl)) (pgs_cons (pg_name (i := 5) nd rfl (Or.inl rfl)) (pgs_cons (pg_name (i := 6) nd rfl (Or.inl rfl)) (pgs_cons (pg_name (i := 7) nd rfl (Or.inl rfl)) pgs_nil)))))) (pss_cons (ps_expr (pe_bm PySem.F.plainAttrs_list PySem.F.slot_list_append PySem.F.type_list_append mt_append (pv 1) (pa_cons (pe_tup (pa_cons (pv 4) (pa_cons (pv 5) (pa_cons (pv 6) (pa_cons (pv 7) pa_nil))))) pa_nil))) (pss_cons (ps_set (i := 6) nd rfl (Or.inl rfl) (pe_op op_pl (pv 6) (pe_callTy call_int1 rfl (T.fre 19 rfl) PyProof.Rows.boot_int (pa_cons (pe_cmpR (op_eq2 (hu64 hr)) (pe_ix ix_seq (pv 5) pe_int (fun _ _ => rfl)) pe_str (nomark _)) pa_nil)))) (pss_cons (ps_set (i := 7) nd rfl (Or.inl rfl) (pe_orT (pv 7) (pe_one (pe_cmpR (op_eq2 (hu64 hr)) (pe_ix ix_seq (pv 5) pe_int (fun _ _ => rfl)) pe_str (nomark _))))) (pss_cons (ps_if (pt_cmpR op_in2 (pe_ix ix_seq (pv 5) pe_int (fun _ _ => rfl)) (pe_tup (pa_cons pe_str (pa_cons pe_str (pa_cons pe_str pa_nil)))) (by rfl)) (pss_one (ps_expr (pe_bm PySem.F.plainAttrs_list PySem.F.slot_list_append PySem.F.type_list_append mt_append (pv 2) (pa_cons (pe_tup (pa_cons (pe_op op_pl (pv 4) (pe_tup (pa_cons pe_int pa_nil))) (pa_cons (pe_ix ix_seq (pv 5) pe_int (fun _ _ => rfl)) (pa_cons (pv 6) (pa_cons (pv 7) pa_nil))))) pa_nil)))) pss_nil) (pss_one (ps_if (pt_cmpR op_notIn2 (pe_ix ix_seq (pv 5) pe_int (fun _ _ => rfl)) (pe_tup (pa_cons pe_str (pa_cons pe_str (pa_cons pe_str pa_nil)))) (by rfl)) (pss_one (ps_expr (pe_bm PySem.F.plainAttrs_list PySem.F.slot_list_append PySem.F.type_list_append mt_append (pv 2) (pa_cons (pe_tup (pa_cons (pe_op op_pl (pv 4) (pe_tup (pa_cons pe_int pa_nil))) (pa_cons (pe_ix ix_seq (pv 5) pe_int (fun _ _ => rfl)) (pa_cons (pv 6) (pa_cons (pv 7) pa_nil))))) pa_nil)))) pss_nil))))))))) (pss_one (ps_ret (pv 1)))))),
    (simSeq (simAsg (simName 1) (simLstE .sh)) (simSeq (simAsg (simName 2) (simLstZ (simCons (simTup (simCons (simTup simNil) (simCons (simVar 0) (simCons (simInt 0) (simCons (simBl false) simNil))))) simNil))) (simSeq (simFor (simRng1 (simInt 60).k) (simName 3) (simSeq (simIfS (simNot (simTru (simGet 2))) simBreak simNext) (simSeq (simAsg (simTp (simGsCons (simName 4) (simGsCons (simName 5) (simGsCons (simName 6) (simGsCons (simName 7) simGsNil))))) (simFz (simMethP0 lPop (simSlot 2)))) (simSeq (simDrop (simMeth0 lAppend (simCons (simTup (simCons (simVar 4) (simCons (simVar 5) (simCons (simVar 6) (simCons (simVar 7) simNil))))) simNil))) (simSeq (simAsg (simName 6) (simPl (k2v (simVar 6) (simB1 semInt (simOp2 semEq2 (k2v (simIx (k2v (simVar 5) (simInt 0).k)) (simStr "not").k)).k).k))) (simSeq (simAsg (simName 7) (simFz (simOrT (simVar 7) (simOp2 semEq2 (k2v (simIx (k2v (simVar 5) (simInt 0).k)) (simStr "was").k))))) (simSeq (simIfS (simTest (simOp2 (semIn2 false) (k2v (simIx (k2v (simVar 5) (simInt 0).k)) (simTup (simCons (simStr "and") (simCons (simStr "or") (simCons (simStr "since") simNil)))).k)).k) (simDrop (simMeth0 lAppend (simCons (simTup (simCons (simPl (k2v (simVar 4) (simTup (simCons (simInt 1) simNil)).k)) (simCons (simIx (k2v (simVar 5) (simInt 2).k)) (simCons (simVar 6) (simCons (simVar 7) simNil))))) simNil))) simNext) (simIfS (simTest (simOp2 (semIn2 true) (k2v (simIx (k2v (simVar 5) (simInt 0).k)) (simTup (simCons (simStr "true") (simCons (simStr "false") (simCons (simStr "name") simNil)))).k)).k) (simDrop (simMeth0 lAppend (simCons (simTup (simCons (simPl (k2v (simVar 4) (simTup (simCons (simInt 0) simNil)).k)) (simCons (simIx (k2v (simVar 5) (simInt 1).k)) (simCons (simVar 6) (simCons (simVar 7) simNil))))) simNil))) simNext)))))))) (simRet (simFrz 1)))))⟩

theorem en__law_preorder {a0 : Ty × D} {t : Ty} {d : D} (h : (b__law_preorder [some a0, none, none, none, none, none, none, none]).P (retK t d) noX) : ∃ os, f__law_preorder [a0] = .ok (t, d) os := w_fnR (A := b__law_preorder) (N := 8) (k := 1) (wr := [1, 2, 3, 4, 5, 6, 7, 6, 7]) (as := [a0]) rfl rfl h
theorem ep__law_preorder {a0 : Ty × D} {Φ : Ty × D → VS.Env → Prop} {X : XP} (h : (b__law_preorder [some a0, none, none, none, none, none, none, none]).P (fnK [1, 2, 3, 4, 5, 6, 7, 6, 7] 1 Φ) X) : (f__law_preorder [a0]).P Φ X := w_fn (A := b__law_preorder) (N := 8) (k := 1) (wr := [1, 2, 3, 4, 5, 6, 7, 6, 7]) (as := [a0]) rfl rfl h
/-! ### _law_postorder: slots formula found line turn path node -/
noncomputable def b__law_postorder : M Fl := (mSeq (mAsg (gSt 1) (mLstE .sh))
    (mSeq (mAsg (gSt 2) (mLstZ (mCons (mTup (mCons (mTup mNil) (mCons (mVar 0) mNil))) mNil)))
    (mSeq (mFor (mRng1 (mC (.int 60))) (gSt 3)
    (mSeq (mIfS (mNot (mTru (mGet 2)))
    (mPure .bk)
    mSkip)
    (mSeq (mAsg (gTp 2 (gsCons (gSt 4) (gsCons (gSt 5) gsNil))) (mFz (mMethP (mSlot 2) mNil oPop)))
    (mSeq (mDrop (mMethP (mSlot 1) (mCons (mTup (mCons (mVar 4) (mCons (mVar 5) mNil))) mNil) oAppend))
    (mSeq (mIfS (mBl (mOp2 (fIn2 true) (m2 (mIx (m2 (mVar 5) (mC (.int 0)))) (mTup (mCons (mC (.str "true")) (mCons (mC (.str "false")) (mCons (mC (.str "name")) mNil)))))))
    (mDrop (mMethP (mSlot 2) (mCons (mTup (mCons (mPl (m2 (mVar 4) (mTup (mCons (mC (.int 0)) mNil)))) (mCons (mIx (m2 (mVar 5) (mC (.int 1)))) mNil))) mNil) oAppend))
    mSkip)
    (mIfS (mBl (mOp2 (fIn2 false) (m2 (mIx (m2 (mVar 5) (mC (.int 0)))) (mTup (mCons (mC (.str "and")) (mCons (mC (.str "or")) (mCons (mC (.str "since")) mNil)))))))
    (mDrop (mMethP (mSlot 2) (mCons (mTup (mCons (mPl (m2 (mVar 4) (mTup (mCons (mC (.int 1)) mNil)))) (mCons (mIx (m2 (mVar 5) (mC (.int 2)))) mNil))) mNil) oAppend))
    mSkip))))))
    (mRet (mFz (mRev (mGet 1)))))))
noncomputable def f__law_postorder : FM := mFn 6 1 [1, 2, 3, 4, 5] b__law_postorder
theorem sc__law_postorder : FnScope ["formula", "found", "line", "turn", "path", "node"] ["formula"] d__law_postorder.scope := ⟨rfl, rfl, rfl, by decide +kernel, rfl, by decide +kernel, by decide +kernel⟩
theorem cal__law_postorder (T : Tx fn ck K mg) : Cal P w K mg base 1 "_law_postorder" ["formula"] (spM (cts K) f__law_postorder) [] := by
  exact cal_of (d := d__law_postorder) (N := ["formula", "found", "line", "turn", "path", "node"]) (k := 0) (wr := [1, 2, 3, 4, 5]) (b := b__law_postorder) (T.fn 20 _ rfl) (T.glo 33 rfl) sc__law_postorder (by decide) (fun _ _ _ _ _ _ us hl => match us, hl with | [_], _ => rfl) fun cdv A outer s H E hr =>
    have nd := sc__law_postorder.nd
    ⟨_, (pss_cons (ps_set (i := 1) nd rfl (Or.inl rfl) (pe_lst pa_nil)) (pss_cons (ps_set (i := 2) nd rfl (Or.inl rfl) (pe_lst (pa_cons (pe_tup (pa_cons (pe_tup pa_nil) (pa_cons (pv 0) pa_nil))) pa_nil))) (pss_cons (ps_for (passes_of rfl) rfl (pi_range1 rfl (T.fre 28 rfl) (pa_cons pe_int pa_nil)) (pg_name (i := 3) nd rfl (Or.inl rfl)) (pss_cons (ps_if (pt_not (pt_truth (pv 2) (by intro _; rfl))) (pss_one ps_break) pss_nil) (pss_cons (ps_asg (pe_bm0 PySem.F.plainAttrs_list PySem.F.slot_list_pop PySem.F.type_list_pop mt_pop (pv 2)) (pg_tup rfl (pgs_cons (pg_name (i := 4) nd rfl (Or.inl rfl)) (pgs_cons (pg_name (i := 5) nd rfl (Or.inl rfl)) pgs_nil)))) (pss_cons (ps_expr (pe_bm PySem.F.plainAttrs_list PySem.F.slot_list_append PySem.F.type_list_append mt_append (pv 1) (pa_cons (pe_tup (pa_cons (pv 4) (pa_cons (pv 5) pa_nil))) pa_nil))) (pss_cons (ps_if (pt_cmpR op_notIn2 (pe_ix ix_seq (pv 5) pe_int (fun _ _ => rfl)) (pe_tup (pa_cons pe_str (pa_cons pe_str (pa_cons pe_str pa_nil)))) (by rfl)) (pss_one (ps_expr (pe_bm PySem.F.plainAttrs_list PySem.F.slot_list_append PySem.F.type_list_append mt_append (pv 2) (pa_cons (pe_tup (pa_cons (pe_op op_pl (pv 4) (pe_tup (pa_cons pe_int pa_nil))) (pa_cons (pe_ix ix_seq (pv 5) pe_int (fun _ _ => rfl)) pa_nil))) pa_nil)))) pss_nil) (pss_one (ps_if (pt_cmpR op_in2 (pe_ix ix_seq (pv 5) pe_int (fun _ _ => rfl)) (pe_tup (pa_cons pe_str (pa_cons pe_str (pa_cons pe_str pa_nil)))) (by rfl)) (pss_one (ps_expr (pe_bm PySem.F.plainAttrs_list PySem.F.slot_list_append PySem.F.type_list_append mt_append (pv 2) (pa_cons (pe_tup (pa_cons (pe_op op_pl (pv 4) (pe_tup (pa_cons pe_int pa_nil))) (pa_cons (pe_ix ix_seq (pv 5) pe_int (fun _ _ => rfl)) pa_nil))) pa_nil)))) pss_nil))))))) (pss_one (ps_ret (pe_revL (pv 1))))))),
    (simSeq (simAsg (simName 1) (simLstE .sh)) (simSeq (simAsg (simName 2) (simLstZ (simCons (simTup (simCons (simTup simNil) (simCons (simVar 0) simNil))) simNil))) (simSeq (simFor (simRng1 (simInt 60).k) (simName 3) (simSeq (simIfS (simNot (simTru (simGet 2))) simBreak simNext) (simSeq (simAsg (simTp (simGsCons (simName 4) (simGsCons (simName 5) simGsNil))) (simFz (simMethP0 lPop (simSlot 2)))) (simSeq (simDrop (simMeth0 lAppend (simCons (simTup (simCons (simVar 4) (simCons (simVar 5) simNil))) simNil))) (simSeq (simIfS (simTest (simOp2 (semIn2 true) (k2v (simIx (k2v (simVar 5) (simInt 0).k)) (simTup (simCons (simStr "true") (simCons (simStr "false") (simCons (simStr "name") simNil)))).k)).k) (simDrop (simMeth0 lAppend (simCons (simTup (simCons (simPl (k2v (simVar 4) (simTup (simCons (simInt 0) simNil)).k)) (simCons (simIx (k2v (simVar 5) (simInt 1).k)) simNil))) simNil))) simNext) (simIfS (simTest (simOp2 (semIn2 false) (k2v (simIx (k2v (simVar 5) (simInt 0).k)) (simTup (simCons (simStr "and") (simCons (simStr "or") (simCons (simStr "since") simNil)))).k)).k) (simDrop (simMeth0 lAppend (simCons (simTup (simCons (simPl (k2v (simVar 4) (simTup (simCons (simInt 1) simNil)).k)) (simCons (simIx (k2v (simVar 5) (simInt 2).k)) simNil))) simNil))) simNext)))))) (simRet (simFz (simRev (simGet 1)))))))⟩

theorem en__law_postorder {a0 : Ty × D} {t : Ty} {d : D} (h : (b__law_postorder [some a0, none, none, none, none, none]).P (retK t d) noX) : ∃ os, f__law_postorder [a0] = .ok (t, d) os := w_fnR (A := b__law_postorder) (N := 6) (k := 1) (wr := [1, 2, 3, 4, 5]) (as := [a0]) rfl rfl h
theorem ep__law_postorder {a0 : Ty × D} {Φ : Ty × D → VS.Env → Prop} {X : XP} (h : (b__law_postorder [some a0, none, none, none, none, none]).P (fnK [1, 2, 3, 4, 5] 1 Φ) X) : (f__law_postorder [a0]).P Φ X := w_fn (A := b__law_postorder) (N := 6) (k := 1) (wr := [1, 2, 3, 4, 5]) (as := [a0]) rfl rfl h
/-! ### _law_put_in: slots formula path part above node place -/
noncomputable def b__law_put_in : M Fl := (mSeq (mAsg (gSt 3) (mLstE .sh))
    (mSeq (mAsg (gSt 4) (mVar 0))
    (mSeq (mFor (mWalk (mVar 1)) (gSt 5)
    (mSeq (mDrop (mMethP (mSlot 3) (mCons (mTup (mCons (mVar 4) (mCons (mVar 5) mNil))) mNil) oAppend))
    (mAsg (gSt 4) (mIx (m2 (mVar 4) (mPl (m2 (mVar 5) (mC (.int 1)))))))))
    (mSeq (mFor (mWalk (mFz (mRev (mGet 3)))) (gTp 2 (gsCons (gSt 4) (gsCons (gSt 5) gsNil)))
    (mAsg (gSt 2) (mPl (m2 (mPl (m2 (mSl (mVar 4) (mPure none) (mPart (mPl (m2 (mVar 5) (mC (.int 1)))))) (mTup (mCons (mVar 2) mNil)))) (mSl (mVar 4) (mPart (mPl (m2 (mVar 5) (mC (.int 2))))) (mPure none))))))
    (mRet (mVar 2))))))
noncomputable def f__law_put_in : FM := mFn 6 3 [3, 4, 5, 4, 4, 5, 2] b__law_put_in
theorem sc__law_put_in : FnScope ["formula", "path", "part", "above", "node", "place"] ["formula", "path", "part"] d__law_put_in.scope := ⟨rfl, rfl, rfl, by decide +kernel, rfl, by decide +kernel, by decide +kernel⟩
theorem cal__law_put_in (T : Tx fn ck K mg) : Cal P w K mg base 1 "_law_put_in" ["formula", "path", "part"] (spM (cts K) f__law_put_in) [] := by
  exact cal_of (d := d__law_put_in) (N := ["formula", "path", "part", "above", "node", "place"]) (k := 0) (wr := [3, 4, 5, 4, 4, 5, 2]) (b := b__law_put_in) (T.fn 21 _ rfl) (T.glo 34 rfl) sc__law_put_in (by decide) (fun _ _ _ _ _ _ us hl => match us, hl with | [_, _, _], _ => rfl) fun cdv A outer s H E hr =>
    have nd := sc__law_put_in.nd
    ⟨_, (pss_cons (ps_set (i := 3) nd rfl (Or.inl rfl) (pe_lst pa_nil)) (pss_cons (ps_set (i := 4) nd rfl (Or.inl rfl) (pv 0)) (pss_cons (ps_for (passes_of rfl) rfl (pi_walk (pv 1)) (pg_name (i := 5) nd rfl (Or.inl rfl)) (pss_cons (ps_expr (pe_bm PySem.F.plainAttrs_list PySem.F.slot_list_append PySem.F.type_list_append mt_append (pv 3) (pa_cons (pe_tup (pa_cons (pv 4) (pa_cons (pv 5) pa_nil))) pa_nil))) (pss_one (ps_set (i := 4) nd rfl (Or.inl rfl) (pe_ix ix_seq (pv 4) (pe_op op_pl (pv 5) pe_int) (fun _ _ => rfl)))))) (pss_cons (ps_for (passes_of rfl) rfl (pi_walk (pe_revL (pv 3))) (pg_tup rfl (pgs_cons (pg_name (i := 4) nd rfl (Or.inl rfl)) (pgs_cons (pg_name (i := 5) nd rfl (Or.inl rfl)) pgs_nil))) (pss_one (ps_set (i := 2) nd rfl (Or.inl rfl) (pe_op op_pl (pe_op op_pl (pe_slice sl_any (pv 4) po_none (po_some (pe_op op_pl (pv 5) pe_int))) (pe_tup (pa_cons (pv 2) pa_nil))) (pe_slice sl_any (pv 4) (po_some (pe_op op_pl (pv 5) pe_int)) po_none))))) (pss_one (ps_ret (pv 2))))))),
    (simSeq (simAsg (simName 3) (simLstE .sh)) (simSeq (simAsg (simName 4) (simVar 0)) (simSeq (simFor (simWalk (simVar 1)) (simName 5) (simSeq (simDrop (simMeth0 lAppend (simCons (simTup (simCons (simVar 4) (simCons (simVar 5) simNil))) simNil))) (simAsg (simName 4) (simIx (k2v (simVar 4) (simPl (k2v (simVar 5) (simInt 1).k)).k))))) (simSeq (simFor (simWalk (simFz (simRev (simGet 3)))) (simTp (simGsCons (simName 4) (simGsCons (simName 5) simGsNil))) (simAsg (simName 2) (simPl (k2v (simPl (k2v (simSl (simVar 4).k simNoPart (simPart (simPl (k2v (simVar 5) (simInt 1).k)).k)) (simTup (simCons (simVar 2) simNil)).k)) (simSl (simVar 4).k (simPart (simPl (k2v (simVar 5) (simInt 2).k)).k) simNoPart).k)))) (simRet (simVar 2))))))⟩

theorem en__law_put_in {a0 a1 a2 : Ty × D} {t : Ty} {d : D} (h : (b__law_put_in [some a0, some a1, some a2, none, none, none]).P (retK t d) noX) : ∃ os, f__law_put_in [a0, a1, a2] = .ok (t, d) os := w_fnR (A := b__law_put_in) (N := 6) (k := 3) (wr := [3, 4, 5, 4, 4, 5, 2]) (as := [a0, a1, a2]) rfl rfl h
theorem ep__law_put_in {a0 a1 a2 : Ty × D} {Φ : Ty × D → VS.Env → Prop} {X : XP} (h : (b__law_put_in [some a0, some a1, some a2, none, none, none]).P (fnK [3, 4, 5, 4, 4, 5, 2] 3 Φ) X) : (f__law_put_in [a0, a1, a2]).P Φ X := w_fn (A := b__law_put_in) (N := 6) (k := 3) (wr := [3, 4, 5, 4, 4, 5, 2]) (as := [a0, a1, a2]) rfl rfl h
/-! ### _law_each_once: slots words found word -/
noncomputable def b__law_each_once : M Fl := (mSeq (mAsg (gSt 1) (mLstE .sh))
    (mSeq (mFor (mWalk (mVar 0)) (gSt 2)
    (mIfS (mBl (mOp2 (fIn2 true) (m2 (mVar 2) (mGet 1))))
    (mDrop (mMethP (mSlot 1) (mCons (mVar 2) mNil) oAppend))
    mSkip))
    (mRet (mFz (mTuple (mGet 1))))))
noncomputable def f__law_each_once : FM := mFn 3 1 [1, 2] b__law_each_once
theorem sc__law_each_once : FnScope ["words", "found", "word"] ["words"] d__law_each_once.scope := ⟨rfl, rfl, rfl, by decide +kernel, rfl, by decide +kernel, by decide +kernel⟩
theorem cal__law_each_once (T : Tx fn ck K mg) : Cal P w K mg base 1 "_law_each_once" ["words"] (spM (cts K) f__law_each_once) [] := by
  exact cal_of (d := d__law_each_once) (N := ["words", "found", "word"]) (k := 0) (wr := [1, 2]) (b := b__law_each_once) (T.fn 22 _ rfl) (T.glo 35 rfl) sc__law_each_once (by decide) (fun _ _ _ _ _ _ us hl => match us, hl with | [_], _ => rfl) fun cdv A outer s H E hr =>
    have nd := sc__law_each_once.nd
    ⟨_, (pss_cons (ps_set (i := 1) nd rfl (Or.inl rfl) (pe_lst pa_nil)) (pss_cons (ps_for (passes_of rfl) rfl (pi_walk (pv 0)) (pg_name (i := 2) nd rfl (Or.inl rfl)) (pss_one (ps_if (pt_cmpR op_notIn2 (pv 2) (pv 1) (by rfl)) (pss_one (ps_expr (pe_bm PySem.F.plainAttrs_list PySem.F.slot_list_append PySem.F.type_list_append mt_append (pv 1) (pa_cons (pv 2) pa_nil)))) pss_nil))) (pss_one (ps_ret (pe_callTy call_tuple_of rfl (T.fre 7 rfl) PyProof.Rows.boot_tuple (pa_cons (pv 1) pa_nil)))))),
    (simSeq (simAsg (simName 1) (simLstE .sh)) (simSeq (simFor (simWalk (simVar 0)) (simName 2) (simIfS (simTest (simOp2 (semIn2 true) (k2v (simVar 2) (simGet 1))).k) (simDrop (simMeth0 lAppend (simCons (simVar 2) simNil))) simNext)) (simRet (simFz (simTuple (simGet 1))))))⟩

theorem en__law_each_once {a0 : Ty × D} {t : Ty} {d : D} (h : (b__law_each_once [some a0, none, none]).P (retK t d) noX) : ∃ os, f__law_each_once [a0] = .ok (t, d) os := w_fnR (A := b__law_each_once) (N := 3) (k := 1) (wr := [1, 2]) (as := [a0]) rfl rfl h
theorem ep__law_each_once {a0 : Ty × D} {Φ : Ty × D → VS.Env → Prop} {X : XP} (h : (b__law_each_once [some a0, none, none]).P (fnK [1, 2] 1 Φ) X) : (f__law_each_once [a0]).P Φ X := w_fn (A := b__law_each_once) (N := 3) (k := 1) (wr := [1, 2]) (as := [a0]) rfl rfl h
/-! ### _law_parts_for: slots d names rows found row own most many one -/
noncomputable def b__law_parts_for : M Fl := (mSeq (mAsg (gSt 3) (mLstE .sh))
    (mSeq (mFor (mWalk (mVar 2)) (gSt 4)
    (mSeq (mAsg (gSt 5) (mFz (mB1 fLen (mLc .sh [8] (mWalk (mVar 2)) (gSt 8) (mBl (mOp2 fEq2 (m2 (mSl (mIx (m2 (mVar 8) (mC (.int 0)))) (mPure none) (mPart (mB1 fLen (mIx (m2 (mVar 4) (mC (.int 0))))))) (mIx (m2 (mVar 4) (mC (.int 0))))))) (mVar 8)))))
    (mSeq (mAsg (gSt 6) (mPl (m2 (mOp2 fSub (m2 (mC (.int 24)) (mB1 fLen (mVar 2)))) (mVar 5))))
    (mSeq (mAsg (gSt 7) (mFz (mOp2 fMin2 (m2 (mVar 6) (mPl (m2 (mC (.int 1)) (mCall fDraw (bRef 0 (bVal (mC (.int 4)) bNil)))))))))
    (mSeq (mIfS (mBl (mOp2 fEq2 (m2 (mCall fDraw (bRef 0 (bVal (mC (.int 6)) bNil))) (mC (.int 0)))))
    (mAsg (gSt 7) (mVar 6))
    mSkip)
    (mDrop (mMethP (mSlot 3) (mCons (mCall (f__law_tree 30) (bRef 0 (bVal (mVar 1) (bVal (mVar 7) bNil)))) mNil) oAppend)))))))
    (mRet (mFrz 3))))
noncomputable def f__law_parts_for : FM := mFn 9 3 [3, 4, 5, 6, 7, 7] b__law_parts_for
theorem sc__law_parts_for : FnScope ["d", "names", "rows", "found", "row", "own", "most", "many", "one"] ["d", "names", "rows"] d__law_parts_for.scope := ⟨rfl, rfl, rfl, by decide +kernel, rfl, by decide +kernel, by decide +kernel⟩
theorem cal__law_parts_for (T : Tx fn ck K mg) : Cal P w K mg base 33 "_law_parts_for" ["d", "names", "rows"] (spM (cts K) f__law_parts_for) [] := by
  have c__law_draw := cal__law_draw (P := P) (w := w) (base := base) T
  have c__law_tree := cal__law_tree (P := P) (w := w) (base := base) T 30
  exact cal_of (d := d__law_parts_for) (N := ["d", "names", "rows", "found", "row", "own", "most", "many", "one"]) (k := 32) (wr := [3, 4, 5, 6, 7, 7]) (b := b__law_parts_for) (T.fn 23 _ rfl) (T.glo 37 rfl) sc__law_parts_for (by decide) (fun _ _ _ _ _ _ us hl => match us, hl with | [_, _, _], _ => rfl) fun cdv A outer s H E hr =>
    have nd := sc__law_parts_for.nd
    ⟨_, (pss_cons (ps_set (i := 3) nd rfl (Or.inl rfl) (pe_lst pa_nil)) (pss_cons (ps_for (passes_of rfl) rfl (pi_walk (pv 2)) (pg_name (i := 4) nd rfl (Or.inr rfl)) (pss_cons (ps_set (i := 5) nd rfl (Or.inl rfl) (pe_callB call_len rfl (T.fre 20 rfl) boot_len (pa_cons (pe_lc (own := [("one", 8)]) rfl nd (pi_walk (pv 2)) (blkOk_by (N := ["d", "names", "rows", "found", "row", "own", "most", "many", "one"]) (sc := d__law_parts_for.scope) (by decide +kernel)) (fun _ _ _ _ _ => (pg_name (i := 8) nd rfl (by first | exact Or.inl rfl | exact Or.inr rfl))) (fun _ _ _ _ _ => (pts_one (pt_cmpR (op_eq2 (hu64 hr)) (pe_slice sl_any (pe_ix ix_seq (pv 8) pe_int (fun _ _ => rfl)) po_none (po_some (pe_callB call_len rfl (T.fre 20 rfl) boot_len (pa_cons (pe_ix ix_seq (pv 4) pe_int (fun _ _ => rfl)) pa_nil)))) (pe_ix ix_seq (pv 4) pe_int (fun _ _ => rfl)) (nomark _)))) (fun _ _ _ _ _ => (pv 8))) pa_nil))) (pss_cons (ps_set (i := 6) nd rfl (Or.inl rfl) (pe_op op_pl (pe_op op_sub pe_int (pe_callB call_len rfl (T.fre 20 rfl) boot_len (pa_cons (pv 2) pa_nil))) (pv 5))) (pss_cons (ps_set (i := 7) nd rfl (Or.inl rfl) (pe_callB (call_min2 rfl) rfl (T.fre 36 rfl) PyProof.Rows.boot_min (pa_cons (pv 6) (pa_cons (pe_op op_pl pe_int (pe_cal c__law_draw hr (by omega) rfl (passes_call (takes_of rfl rfl rfl rfl) fun _ _ _ _ h => h) (pa_cons (pv 0) (pa_cons pe_int pa_nil)))) pa_nil)))) (pss_cons (ps_if (pt_cmpR (op_eq2 (hu64 hr)) (pe_cal c__law_draw hr (by omega) rfl (passes_call (takes_of rfl rfl rfl rfl) fun _ _ _ _ h => h) (pa_cons (pv 0) (pa_cons pe_int pa_nil))) pe_int (nomark _)) (pss_one (ps_set (i := 7) nd rfl (Or.inl rfl) (pv 6))) pss_nil) (pss_one (ps_expr (pe_bm PySem.F.plainAttrs_list PySem.F.slot_list_append PySem.F.type_list_append mt_append (pv 3) (pa_cons (pe_cal c__law_tree hr (by omega) rfl (passes_call (takes_of rfl rfl rfl rfl) fun _ _ _ _ h => h) (pa_cons (pv 0) (pa_cons (pv 1) (pa_cons (pv 7) pa_nil)))) pa_nil))))))))) (pss_one (ps_ret (pv 3))))),
    (simSeq (simAsg (simName 3) (simLstE .sh)) (simSeq (simFor (simWalk (simVar 2)) (simName 4) (simSeq (simAsg (simName 5) (simFz (simB1 semLen (simLc (E0 := E0) (simWalk (simVar 2)) (simName 8) (by decide) (simTest (simOp2 semEq2 (k2v (simSl (simIx (k2v (simVar 8) (simInt 0).k)).k simNoPart (simPart (simB1 semLen (simIx (k2v (simVar 4) (simInt 0).k)).k).k)) (simIx (k2v (simVar 4) (simInt 0).k)).k)).k) (simVar 8)).k))) (simSeq (simAsg (simName 6) (simPl (k2v (simOp2 semSub (k2v (simInt 24) (simB1 semLen (simVar 2).k).k)) (simVar 5).k))) (simSeq (simAsg (simName 7) (simFz (simB2 semMin2 (k2v (simVar 6) (simPl (k2v (simInt 1) (simCall .nil (bref 0 (bval (simInt 4) bnil))).k)).k)))) (simSeq (simIfS (simTest (simOp2 semEq2 (k2v (simCall .nil (bref 0 (bval (simInt 6) bnil))) (simInt 0).k)).k) (simAsg (simName 7) (simVar 6)) simNext) (simDrop (simMeth0 lAppend (simCons (simCall .nil (bref 0 (bval (simVar 1) (bval (simVar 7) bnil)))) simNil)))))))) (simRet (simFrz 3))))⟩

theorem en__law_parts_for {a0 a1 a2 : Ty × D} {t : Ty} {d : D} (h : (b__law_parts_for [some a0, some a1, some a2, none, none, none, none, none, none]).P (retK t d) noX) : ∃ os, f__law_parts_for [a0, a1, a2] = .ok (t, d) os := w_fnR (A := b__law_parts_for) (N := 9) (k := 3) (wr := [3, 4, 5, 6, 7, 7]) (as := [a0, a1, a2]) rfl rfl h
theorem ep__law_parts_for {a0 a1 a2 : Ty × D} {Φ : Ty × D → VS.Env → Prop} {X : XP} (h : (b__law_parts_for [some a0, some a1, some a2, none, none, none, none, none, none]).P (fnK [3, 4, 5, 6, 7, 7] 3 Φ) X) : (f__law_parts_for [a0, a1, a2]).P Φ X := w_fn (A := b__law_parts_for) (N := 9) (k := 3) (wr := [3, 4, 5, 6, 7, 7]) (as := [a0, a1, a2]) rfl rfl h
/-! ### _law_row_of: slots path turn -/
noncomputable def b__law_row_of : M Fl := (mSeq (mIfS (mBl (mOp2 fEq2 (m2 (mOp2 fAnd (m2 (mVar 1) (mC (.int 1)))) (mC (.int 0)))))
    (mRet (mFz (mTuple (mVar 0))))
    mSkip)
    (mRet (mFz (mList (mVar 0)))))
noncomputable def f__law_row_of : FM := mFn 2 2 [] b__law_row_of
theorem sc__law_row_of : FnScope ["path", "turn"] ["path", "turn"] d__law_row_of.scope := ⟨rfl, rfl, rfl, by decide +kernel, rfl, by decide +kernel, by decide +kernel⟩
theorem cal__law_row_of (T : Tx fn ck K mg) : Cal P w K mg base 1 "_law_row_of" ["path", "turn"] (spM (cts K) f__law_row_of) [] := by
  exact cal_of (d := d__law_row_of) (N := ["path", "turn"]) (k := 0) (wr := []) (b := b__law_row_of) (T.fn 24 _ rfl) (T.glo 38 rfl) sc__law_row_of (by decide) (fun _ _ _ _ _ _ us hl => match us, hl with | [_, _], _ => rfl) fun cdv A outer s H E hr =>
    have nd := sc__law_row_of.nd
    ⟨_, (pss_cons (ps_if (pt_cmpR (op_eq2 (hu64 hr)) (pe_op op_and (pv 1) pe_int) pe_int (nomark _)) (pss_one (ps_ret (pe_callTy call_tuple_of rfl (T.fre 7 rfl) PyProof.Rows.boot_tuple (pa_cons (pv 0) pa_nil)))) pss_nil) (pss_one (ps_ret (pe_callTy call_list_of rfl (T.fre 10 rfl) PyProof.Rows.boot_list (pa_cons (pv 0) pa_nil))))),
    (simSeq (simIfS (simTest (simOp2 semEq2 (k2v (simOp2 semAnd (k2v (simVar 1) (simInt 1).k)) (simInt 0).k)).k) (simRet (simFz (simTuple (simVar 0).k))) simNext) (simRet (simFz (simList (simVar 0).k))))⟩

theorem en__law_row_of {a0 a1 : Ty × D} {t : Ty} {d : D} (h : (b__law_row_of [some a0, some a1]).P (retK t d) noX) : ∃ os, f__law_row_of [a0, a1] = .ok (t, d) os := w_fnR (A := b__law_row_of) (N := 2) (k := 2) (wr := []) (as := [a0, a1]) rfl rfl h
theorem ep__law_row_of {a0 a1 : Ty × D} {Φ : Ty × D → VS.Env → Prop} {X : XP} (h : (b__law_row_of [some a0, some a1]).P (fnK [] 2 Φ) X) : (f__law_row_of [a0, a1]).P Φ X := w_fn (A := b__law_row_of) (N := 2) (k := 2) (wr := []) (as := [a0, a1]) rfl rfl h
/-! ### _law_whole_right: slots formula rows words kept row path node -/
noncomputable def b__law_whole_right : M Fl := (mSeq (mIfS (mBl (mOp2 fNe2 (m2 (mB1 fRepr (mCall (FO.f_paths_of 60) (bVal (mVar 0) bNil))) (mB1 fRepr (mTuple (mLc .sh [4] (mWalk (mVar 1)) (gSt 4) mYes (mIx (m2 (mVar 4) (mC (.int 0))))))))))
    (mRet (mC (.bl false)))
    mSkip)
    (mSeq (mAsg (gSt 2) (mFz (mLc .sh [4] (mWalk (mVar 1)) (gSt 4) (mBl (mOp2 fEq2 (m2 (mIx (m2 (mIx (m2 (mVar 4) (mC (.int 1)))) (mC (.int 0)))) (mC (.str "name"))))) (mIx (m2 (mIx (m2 (mVar 4) (mC (.int 1)))) (mC (.int 1)))))))
    (mSeq (mIfS (mBl (mOp2 fNe2 (m2 (mB1 fRepr (mCall FO.f_names_in (bVal (mVar 0) bNil))) (mB1 fRepr (mCall f__law_each_once (bVal (mVar 2) bNil))))))
    (mRet (mC (.bl false)))
    mSkip)
    (mSeq (mAsg (gSt 2) (mFz (mLc .sh [4] (mWalk (mVar 1)) (gSt 4) (mAnd (mBl (mOp2 fEq2 (m2 (mIx (m2 (mIx (m2 (mVar 4) (mC (.int 1)))) (mC (.int 0)))) (mC (.str "name"))))) (mNot (mTru (mIx (m2 (mVar 4) (mC (.int 3))))))) (mIx (m2 (mIx (m2 (mVar 4) (mC (.int 1)))) (mC (.int 1)))))))
    (mSeq (mIfS (mBl (mOp2 fNe2 (m2 (mB1 fRepr (mCall FO.f_bare_names (bVal (mVar 0) bNil))) (mB1 fRepr (mCall f__law_each_once (bVal (mVar 2) bNil))))))
    (mRet (mC (.bl false)))
    mSkip)
    (mSeq (mAsg (gSt 3) (mFz (mLc .sh [5, 6] (mWalk (mFz (mCall f__law_postorder (bVal (mVar 0) bNil)))) (gTp 2 (gsCons (gSt 5) (gsCons (gSt 6) gsNil))) (mBl (mOp2 (fIn2 false) (m2 (mIx (m2 (mVar 6) (mC (.int 0)))) (mTup (mCons (mC (.str "was")) (mCons (mC (.str "once")) (mCons (mC (.str "held")) (mCons (mC (.str "since")) mNil)))))))) (mVar 5))))
    (mSeq (mIfS (mBl (mOp2 fNe2 (m2 (mB1 fRepr (mCall (FO.f_remembered 60) (bVal (mVar 0) bNil))) (mB1 fRepr (mTuple (mVar 3))))))
    (mRet (mC (.bl false)))
    mSkip)
    (mRet (mOp2 fEq2 (m2 (mB1 fRepr (mCall (FO.f_size_of 60) (bVal (mVar 0) bNil))) (mB1 fRepr (mB1 fLen (mVar 1)))))))))))))
noncomputable def f__law_whole_right : FM := mFn 7 2 [2, 2, 3] b__law_whole_right
theorem sc__law_whole_right : FnScope ["formula", "rows", "words", "kept", "row", "path", "node"] ["formula", "rows"] d__law_whole_right.scope := ⟨rfl, rfl, rfl, by decide +kernel, rfl, by decide +kernel, by decide +kernel⟩
theorem cal__law_whole_right (T : Tx fn ck K mg) : Cal P w K mg base 63 "_law_whole_right" ["formula", "rows"] (spM (cts K) f__law_whole_right) [] := by
  have c__law_each_once := cal__law_each_once (P := P) (w := w) (base := base) T
  have c__law_postorder := cal__law_postorder (P := P) (w := w) (base := base) T
  have c_bare_names := cal_bare_names (P := P) (w := w) (base := base) T
  have c_names_in := cal_names_in (P := P) (w := w) (base := base) T
  have c_paths_of := cal_paths_of (P := P) (w := w) (base := base) T 60
  have c_remembered := cal_remembered (P := P) (w := w) (base := base) T 60
  have c_size_of := cal_size_of (P := P) (w := w) (base := base) T 60
  exact cal_of (d := d__law_whole_right) (N := ["formula", "rows", "words", "kept", "row", "path", "node"]) (k := 62) (wr := [2, 2, 3]) (b := b__law_whole_right) (T.fn 25 _ rfl) (T.glo 40 rfl) sc__law_whole_right (by decide) (fun _ _ _ _ _ _ us hl => match us, hl with | [_, _], _ => rfl) fun cdv A outer s H E hr =>
    have nd := sc__law_whole_right.nd
    ⟨_, (pss_cons (ps_if (pt_cmpR (op_ne2 (hu64 hr)) (pe_callB (call_reprD hr) rfl (T.fre 39 rfl) PyProof.Rows.boot_repr (pa_cons (pe_cal c_paths_of hr (by omega) rfl (passes_call (takes_of rfl rfl rfl rfl) fun _ _ _ _ h => h) (pa_cons (pv 0) pa_nil)) pa_nil)) (pe_callB (call_reprD hr) rfl (T.fre 39 rfl) PyProof.Rows.boot_repr (pa_cons (pe_callTy call_tuple_of rfl (T.fre 7 rfl) PyProof.Rows.boot_tuple (pa_cons (pe_lc (own := [("row", 4)]) rfl nd (pi_walk (pv 1)) (blkOk_by (N := ["formula", "rows", "words", "kept", "row", "path", "node"]) (sc := d__law_whole_right.scope) (by decide +kernel)) (fun _ _ _ _ _ => (pg_name (i := 4) nd rfl (by first | exact Or.inl rfl | exact Or.inr rfl))) (fun _ _ _ _ _ => pts_nil) (fun _ _ _ _ _ => (pe_ix ix_seq (pv 4) pe_int (fun _ _ => rfl)))) pa_nil)) pa_nil)) (nomark _)) (pss_one (ps_ret pe_bl)) pss_nil) (pss_cons (ps_setLc (i := 2) (own := [("row", 4)]) rfl nd rfl rfl (sw_true rfl rfl rfl (by decide +kernel)) (pi_walk (pv 1)) (blkOk_by (N := ["formula", "rows", "words", "kept", "row", "path", "node"]) (sc := d__law_whole_right.scope) (by decide +kernel)) (fun _ _ _ _ _ => (pg_name (i := 4) nd rfl (by first | exact Or.inl rfl | exact Or.inr rfl))) (fun _ _ _ _ _ => (pts_one (pt_cmpR (op_eq2 (hu64 hr)) (pe_ix ix_seq (pe_ix ix_seq (pv 4) pe_int (fun _ _ => rfl)) pe_int (fun _ _ => rfl)) pe_str (nomark _)))) (fun _ _ _ _ _ => (pe_ix ix_seq (pe_ix ix_seq (pv 4) pe_int (fun _ _ => rfl)) pe_int (fun _ _ => rfl)))) (pss_cons (ps_if (pt_cmpR (op_ne2 (hu64 hr)) (pe_callB (call_reprD hr) rfl (T.fre 39 rfl) PyProof.Rows.boot_repr (pa_cons (pe_cal c_names_in hr (by omega) rfl (passes_call (takes_of rfl rfl rfl rfl) fun _ _ _ _ h => h) (pa_cons (pv 0) pa_nil)) pa_nil)) (pe_callB (call_reprD hr) rfl (T.fre 39 rfl) PyProof.Rows.boot_repr (pa_cons (pe_cal c__law_each_once hr (by omega) rfl (passes_call (takes_of rfl rfl rfl rfl) fun _ _ _ _ h => h) (pa_cons (pv 2) pa_nil)) pa_nil)) (nomark _)) (pss_one (ps_ret pe_bl)) pss_nil) (pss_cons (ps_setLc (i := 2) (own := [("row", 4)]) rfl nd rfl rfl (sw_true rfl rfl rfl (by decide +kernel)) (pi_walk (pv 1)) (blkOk_by (N := ["formula", "rows", "words", "kept", "row", "path", "node"]) (sc := d__law_whole_right.scope) (by decide +kernel)) (fun _ _ _ _ _ => (pg_name (i := 4) nd rfl (by first | exact Or.inl rfl | exact Or.inr rfl))) (fun _ _ _ _ _ => (pts_one (PW.pt (pw_and (pt_cmpR (op_eq2 (hu64 hr)) (pe_ix ix_seq (pe_ix ix_seq (pv 4) pe_int (fun _ _ => rfl)) pe_int (fun _ _ => rfl)) pe_str (nomark _)) (pw_and1 (pt_not (pt_truth (pe_ix ix_seq (pv 4) pe_int (fun _ _ => rfl)) (by intro _; rfl)))))))) (fun _ _ _ _ _ => (pe_ix ix_seq (pe_ix ix_seq (pv 4) pe_int (fun _ _ => rfl)) pe_int (fun _ _ => rfl)))) (pss_cons (ps_if (pt_cmpR (op_ne2 (hu64 hr)) (pe_callB (call_reprD hr) rfl (T.fre 39 rfl) PyProof.Rows.boot_repr (pa_cons (pe_cal c_bare_names hr (by omega) rfl (passes_call (takes_of rfl rfl rfl rfl) fun _ _ _ _ h => h) (pa_cons (pv 0) pa_nil)) pa_nil)) (pe_callB (call_reprD hr) rfl (T.fre 39 rfl) PyProof.Rows.boot_repr (pa_cons (pe_cal c__law_each_once hr (by omega) rfl (passes_call (takes_of rfl rfl rfl rfl) fun _ _ _ _ h => h) (pa_cons (pv 2) pa_nil)) pa_nil)) (nomark _)) (pss_one (ps_ret pe_bl)) pss_nil) (pss_cons (ps_setLc (i := 3) (own := [("path", 5), ("node", 6)]) rfl nd rfl rfl (sw_true rfl rfl rfl (by decide +kernel)) (pi_walk (pe_cal c__law_postorder hr (by omega) rfl (passes_call (takes_of rfl rfl rfl rfl) fun _ _ _ _ h => h) (pa_cons (pv 0) pa_nil))) (blkOk_by (N := ["formula", "rows", "words", "kept", "row", "path", "node"]) (sc := d__law_whole_right.scope) (by decide +kernel)) (fun _ _ _ _ _ => (pg_tup rfl (pgs_cons (pg_name (i := 5) nd rfl (by first | exact Or.inl rfl | exact Or.inr rfl)) (pgs_cons (pg_name (i := 6) nd rfl (by first | exact Or.inl rfl | exact Or.inr rfl)) pgs_nil)))) (fun _ _ _ _ _ => (pts_one (pt_cmpR op_in2 (pe_ix ix_seq (pv 6) pe_int (fun _ _ => rfl)) (pe_tup (pa_cons pe_str (pa_cons pe_str (pa_cons pe_str (pa_cons pe_str pa_nil))))) (by rfl)))) (fun _ _ _ _ _ => (pv 5))) (pss_cons (ps_if (pt_cmpR (op_ne2 (hu64 hr)) (pe_callB (call_reprD hr) rfl (T.fre 39 rfl) PyProof.Rows.boot_repr (pa_cons (pe_cal c_remembered hr (by omega) rfl (passes_call (takes_of rfl rfl rfl rfl) fun _ _ _ _ h => h) (pa_cons (pv 0) pa_nil)) pa_nil)) (pe_callB (call_reprD hr) rfl (T.fre 39 rfl) PyProof.Rows.boot_repr (pa_cons (pe_callTy call_tuple_of rfl (T.fre 7 rfl) PyProof.Rows.boot_tuple (pa_cons (pv 3) pa_nil)) pa_nil)) (nomark _)) (pss_one (ps_ret pe_bl)) pss_nil) (pss_one (ps_ret (pe_cmpR (op_eq2 (hu64 hr)) (pe_callB (call_reprD hr) rfl (T.fre 39 rfl) PyProof.Rows.boot_repr (pa_cons (pe_cal c_size_of hr (by omega) rfl (passes_call (takes_of rfl rfl rfl rfl) fun _ _ _ _ h => h) (pa_cons (pv 0) pa_nil)) pa_nil)) (pe_callB (call_reprD hr) rfl (T.fre 39 rfl) PyProof.Rows.boot_repr (pa_cons (pe_callB call_len rfl (T.fre 20 rfl) boot_len (pa_cons (pv 1) pa_nil)) pa_nil)) (nomark _))))))))))),
    (simSeq (simIfS (simTest (simOp2 semNe2 (k2v (simB1 semRepr (simCall .nil (bval (simVar 0) bnil)).k) (simB1 semRepr (simTuple (simLc (E0 := E0) (simWalk (simVar 1)) (simName 4) (by decide) simYes (simIx (k2v (simVar 4) (simInt 0).k))).k).k).k)).k) (simRet (simBl false)) simNext) (simSeq (simAsg (simName 2) (simFz (simLc (E0 := E0) (simWalk (simVar 1)) (simName 4) (by decide) (simTest (simOp2 semEq2 (k2v (simIx (k2v (simIx (k2v (simVar 4) (simInt 1).k)) (simInt 0).k)) (simStr "name").k)).k) (simIx (k2v (simIx (k2v (simVar 4) (simInt 1).k)) (simInt 1).k))))) (simSeq (simIfS (simTest (simOp2 semNe2 (k2v (simB1 semRepr (simCall .nil (bval (simVar 0) bnil)).k) (simB1 semRepr (simCall .nil (bval (simVar 2) bnil)).k).k)).k) (simRet (simBl false)) simNext) (simSeq (simAsg (simName 2) (simFz (simLc (E0 := E0) (simWalk (simVar 1)) (simName 4) (by decide) (simAnd (simTest (simOp2 semEq2 (k2v (simIx (k2v (simIx (k2v (simVar 4) (simInt 1).k)) (simInt 0).k)) (simStr "name").k)).k) (simNot (simTru (simIx (k2v (simVar 4) (simInt 3).k)).k))) (simIx (k2v (simIx (k2v (simVar 4) (simInt 1).k)) (simInt 1).k))))) (simSeq (simIfS (simTest (simOp2 semNe2 (k2v (simB1 semRepr (simCall .nil (bval (simVar 0) bnil)).k) (simB1 semRepr (simCall .nil (bval (simVar 2) bnil)).k).k)).k) (simRet (simBl false)) simNext) (simSeq (simAsg (simName 3) (simFz (simLc (E0 := E0) (simWalk (simFz (simCall .nil (bval (simVar 0) bnil)))) (simTp (simGsCons (simName 5) (simGsCons (simName 6) simGsNil))) (by decide) (simTest (simOp2 (semIn2 false) (k2v (simIx (k2v (simVar 6) (simInt 0).k)) (simTup (simCons (simStr "was") (simCons (simStr "once") (simCons (simStr "held") (simCons (simStr "since") simNil))))).k)).k) (simVar 5)))) (simSeq (simIfS (simTest (simOp2 semNe2 (k2v (simB1 semRepr (simCall .nil (bval (simVar 0) bnil)).k) (simB1 semRepr (simTuple (simVar 3).k).k).k)).k) (simRet (simBl false)) simNext) (simRet (simOp2 semEq2 (k2v (simB1 semRepr (simCall .nil (bval (simVar 0) bnil)).k) (simB1 semRepr (simB1 semLen (simVar 1).k).k).k))))))))))⟩

theorem en__law_whole_right {a0 a1 : Ty × D} {t : Ty} {d : D} (h : (b__law_whole_right [some a0, some a1, none, none, none, none, none]).P (retK t d) noX) : ∃ os, f__law_whole_right [a0, a1] = .ok (t, d) os := w_fnR (A := b__law_whole_right) (N := 7) (k := 2) (wr := [2, 2, 3]) (as := [a0, a1]) rfl rfl h
theorem ep__law_whole_right {a0 a1 : Ty × D} {Φ : Ty × D → VS.Env → Prop} {X : XP} (h : (b__law_whole_right [some a0, some a1, none, none, none, none, none]).P (fnK [2, 2, 3] 2 Φ) X) : (f__law_whole_right [a0, a1]).P Φ X := w_fn (A := b__law_whole_right) (N := 7) (k := 2) (wr := [2, 2, 3]) (as := [a0, a1]) rfl rfl h
/-! ### _law_nodes_right: slots formula rows turn row sign -/
noncomputable def b__law_nodes_right : M Fl := (mSeq (mFor (mEnum (mVar 1)) (gTp 2 (gsCons (gSt 2) (gsCons (gSt 3) gsNil)))
    (mSeq (mAsg (gSt 4) (mC (.int 1)))
    (mSeq (mIfS (mBl (mOp2 fEq2 (m2 (mOp2 fAnd (m2 (mIx (m2 (mVar 3) (mC (.int 2)))) (mC (.int 1)))) (mC (.int 1)))))
    (mAsg (gSt 4) (mNeg (mC (.int 1))))
    mSkip)
    (mSeq (mIfS (mBl (mOp2 fNe2 (m2 (mB1 fRepr (mCall FO.f_part_at (bVal (mVar 0) (bVal (mFz (mCall f__law_row_of (bVal (mIx (m2 (mVar 3) (mC (.int 0)))) (bVal (mVar 2) bNil)))) bNil)))) (mB1 fRepr (mIx (m2 (mVar 3) (mC (.int 1))))))))
    (mRet (mC (.bl false)))
    mSkip)
    (mIfS (mBl (mOp2 fNe2 (m2 (mB1 fRepr (mCall FO.f_sign_at (bVal (mVar 0) (bVal (mFz (mCall f__law_row_of (bVal (mIx (m2 (mVar 3) (mC (.int 0)))) (bVal (mPl (m2 (mVar 2) (mC (.int 1)))) bNil)))) bNil)))) (mB1 fRepr (mVar 4)))))
    (mRet (mC (.bl false)))
    mSkip)))))
    (mRet (mC (.bl true))))
noncomputable def f__law_nodes_right : FM := mFn 5 2 [2, 3, 4, 4] b__law_nodes_right
theorem sc__law_nodes_right : FnScope ["formula", "rows", "turn", "row", "sign"] ["formula", "rows"] d__law_nodes_right.scope := ⟨rfl, rfl, rfl, by decide +kernel, rfl, by decide +kernel, by decide +kernel⟩
theorem cal__law_nodes_right (T : Tx fn ck K mg) : Cal P w K mg base 2 "_law_nodes_right" ["formula", "rows"] (spM (cts K) f__law_nodes_right) [] := by
  have c__law_row_of := cal__law_row_of (P := P) (w := w) (base := base) T
  have c_part_at := cal_part_at (P := P) (w := w) (base := base) T
  have c_sign_at := cal_sign_at (P := P) (w := w) (base := base) T
  exact cal_of (d := d__law_nodes_right) (N := ["formula", "rows", "turn", "row", "sign"]) (k := 1) (wr := [2, 3, 4, 4]) (b := b__law_nodes_right) (T.fn 26 _ rfl) (T.glo 41 rfl) sc__law_nodes_right (by decide) (fun _ _ _ _ _ _ us hl => match us, hl with | [_, _], _ => rfl) fun cdv A outer s H E hr =>
    have nd := sc__law_nodes_right.nd
    ⟨_, (pss_cons (ps_for (passes_of rfl) rfl (pi_enumA rfl (T.fre 6 rfl) (pa_cons (pv 1) pa_nil)) (pg_tup rfl (pgs_cons (pg_name (i := 2) nd rfl (Or.inl rfl)) (pgs_cons (pg_name (i := 3) nd rfl (Or.inl rfl)) pgs_nil))) (pss_cons (ps_set (i := 4) nd rfl (Or.inl rfl) pe_int) (pss_cons (ps_if (pt_cmpR (op_eq2 (hu64 hr)) (pe_op op_and (pe_ix ix_seq (pv 3) pe_int (fun _ _ => rfl)) pe_int) pe_int (nomark _)) (pss_one (ps_set (i := 4) nd rfl (Or.inl rfl) (pe_un un_neg pe_int))) pss_nil) (pss_cons (ps_if (pt_cmpR (op_ne2 (hu64 hr)) (pe_callB (call_reprD hr) rfl (T.fre 39 rfl) PyProof.Rows.boot_repr (pa_cons (pe_cal c_part_at hr (by omega) rfl (passes_call (takes_of rfl rfl rfl rfl) fun _ _ _ _ h => h) (pa_cons (pv 0) (pa_cons (pe_cal c__law_row_of hr (by omega) rfl (passes_call (takes_of rfl rfl rfl rfl) fun _ _ _ _ h => h) (pa_cons (pe_ix ix_seq (pv 3) pe_int (fun _ _ => rfl)) (pa_cons (pv 2) pa_nil))) pa_nil))) pa_nil)) (pe_callB (call_reprD hr) rfl (T.fre 39 rfl) PyProof.Rows.boot_repr (pa_cons (pe_ix ix_seq (pv 3) pe_int (fun _ _ => rfl)) pa_nil)) (nomark _)) (pss_one (ps_ret pe_bl)) pss_nil) (pss_one (ps_if (pt_cmpR (op_ne2 (hu64 hr)) (pe_callB (call_reprD hr) rfl (T.fre 39 rfl) PyProof.Rows.boot_repr (pa_cons (pe_cal c_sign_at hr (by omega) rfl (passes_call (takes_of rfl rfl rfl rfl) fun _ _ _ _ h => h) (pa_cons (pv 0) (pa_cons (pe_cal c__law_row_of hr (by omega) rfl (passes_call (takes_of rfl rfl rfl rfl) fun _ _ _ _ h => h) (pa_cons (pe_ix ix_seq (pv 3) pe_int (fun _ _ => rfl)) (pa_cons (pe_op op_pl (pv 2) pe_int) pa_nil))) pa_nil))) pa_nil)) (pe_callB (call_reprD hr) rfl (T.fre 39 rfl) PyProof.Rows.boot_repr (pa_cons (pv 4) pa_nil)) (nomark _)) (pss_one (ps_ret pe_bl)) pss_nil)))))) (pss_one (ps_ret pe_bl))),
    (simSeq (simFor (simEnum (simVar 1)) (simTp (simGsCons (simName 2) (simGsCons (simName 3) simGsNil))) (simSeq (simAsg (simName 4) (simInt 1)) (simSeq (simIfS (simTest (simOp2 semEq2 (k2v (simOp2 semAnd (k2v (simIx (k2v (simVar 3) (simInt 2).k)) (simInt 1).k)) (simInt 1).k)).k) (simAsg (simName 4) (simNeg (simInt 1).k)) simNext) (simSeq (simIfS (simTest (simOp2 semNe2 (k2v (simB1 semRepr (simCall .nil (bval (simVar 0) (bval (simFz (simCall .nil (bval (simIx (k2v (simVar 3) (simInt 0).k)) (bval (simVar 2) bnil)))) bnil))).k) (simB1 semRepr (simIx (k2v (simVar 3) (simInt 1).k)).k).k)).k) (simRet (simBl false)) simNext) (simIfS (simTest (simOp2 semNe2 (k2v (simB1 semRepr (simCall .nil (bval (simVar 0) (bval (simFz (simCall .nil (bval (simIx (k2v (simVar 3) (simInt 0).k)) (bval (simPl (k2v (simVar 2) (simInt 1).k)) bnil)))) bnil))).k) (simB1 semRepr (simVar 4).k).k)).k) (simRet (simBl false)) simNext))))) (simRet (simBl true)))⟩

theorem en__law_nodes_right {a0 a1 : Ty × D} {t : Ty} {d : D} (h : (b__law_nodes_right [some a0, some a1, none, none, none]).P (retK t d) noX) : ∃ os, f__law_nodes_right [a0, a1] = .ok (t, d) os := w_fnR (A := b__law_nodes_right) (N := 5) (k := 2) (wr := [2, 3, 4, 4]) (as := [a0, a1]) rfl rfl h
theorem ep__law_nodes_right {a0 a1 : Ty × D} {Φ : Ty × D → VS.Env → Prop} {X : XP} (h : (b__law_nodes_right [some a0, some a1, none, none, none]).P (fnK [2, 3, 4, 4] 2 Φ) X) : (f__law_nodes_right [a0, a1]).P Φ X := w_fn (A := b__law_nodes_right) (N := 5) (k := 2) (wr := [2, 3, 4, 4]) (as := [a0, a1]) rfl rfl h
/-! ### _law_changes_right: slots formula rows parts chosen turn row due path told -/
noncomputable def b__law_changes_right : M Fl := (mSeq (mFor (mEnum (mVar 1)) (gTp 2 (gsCons (gSt 4) (gsCons (gSt 5) gsNil)))
    (mSeq (mAsg (gSt 6) (mFz (mCall f__law_put_in (bVal (mVar 0) (bVal (mIx (m2 (mVar 5) (mC (.int 0)))) (bVal (mIx (m2 (mVar 2) (mVar 4))) bNil))))))
    (mSeq (mAsg (gSt 7) (mFz (mCall f__law_row_of (bVal (mIx (m2 (mVar 5) (mC (.int 0)))) (bVal (mVar 4) bNil)))))
    (mSeq (mAsg (gSt 8) (mFz (mCall (FO.f_with_part 60) (bVal (mVar 0) (bVal (mVar 7) (bVal (mIx (m2 (mVar 2) (mVar 4))) bNil))))))
    (mSeq (mIfS (mOr (mBl (mOp2 fNe2 (m2 (mB1 fRepr (mVar 8)) (mB1 fRepr (mVar 6))))) (mBl (mOp2 fNe2 (m2 (mB1 fRepr (mVar 7)) (mB1 fRepr (mCall f__law_row_of (bVal (mIx (m2 (mVar 5) (mC (.int 0)))) (bVal (mVar 4) bNil))))))))
    (mRet (mC (.bl false)))
    mSkip)
    (mSeq (mIfS (mBl (mOp2 fNe2 (m2 (mB1 fRepr (mCall (FO.f_with_part 60) (bVal (mVar 6) (bVal (mIx (m2 (mVar 5) (mC (.int 0)))) (bVal (mIx (m2 (mVar 5) (mC (.int 1)))) bNil))))) (mB1 fRepr (mVar 0)))))
    (mRet (mC (.bl false)))
    mSkip)
    (mIfS (mAnd (mBl (mOp2 fEq2 (m2 (mVar 4) (mVar 3)))) (mNot (mTru (mCall f__law_whole_right (bVal (mVar 6) (bVal (mFz (mCall f__law_preorder (bVal (mVar 6) bNil))) bNil))))))
    (mRet (mC (.bl false)))
    mSkip)))))))
    (mRet (mC (.bl true))))
noncomputable def f__law_changes_right : FM := mFn 9 4 [4, 5, 6, 7, 8] b__law_changes_right
theorem sc__law_changes_right : FnScope ["formula", "rows", "parts", "chosen", "turn", "row", "due", "path", "told"] ["formula", "rows", "parts", "chosen"] d__law_changes_right.scope := ⟨rfl, rfl, rfl, by decide +kernel, rfl, by decide +kernel, by decide +kernel⟩
theorem cal__law_changes_right (T : Tx fn ck K mg) : Cal P w K mg base 64 "_law_changes_right" ["formula", "rows", "parts", "chosen"] (spM (cts K) f__law_changes_right) [] := by
  have c__law_preorder := cal__law_preorder (P := P) (w := w) (base := base) T
  have c__law_put_in := cal__law_put_in (P := P) (w := w) (base := base) T
  have c__law_row_of := cal__law_row_of (P := P) (w := w) (base := base) T
  have c__law_whole_right := cal__law_whole_right (P := P) (w := w) (base := base) T
  have c_with_part := cal_with_part (P := P) (w := w) (base := base) T 60
  exact cal_of (d := d__law_changes_right) (N := ["formula", "rows", "parts", "chosen", "turn", "row", "due", "path", "told"]) (k := 63) (wr := [4, 5, 6, 7, 8]) (b := b__law_changes_right) (T.fn 27 _ rfl) (T.glo 42 rfl) sc__law_changes_right (by decide) (fun _ _ _ _ _ _ us hl => match us, hl with | [_, _, _, _], _ => rfl) fun cdv A outer s H E hr =>
    have nd := sc__law_changes_right.nd
    ⟨_, (pss_cons (ps_for (passes_of rfl) rfl (pi_enumA rfl (T.fre 6 rfl) (pa_cons (pv 1) pa_nil)) (pg_tup rfl (pgs_cons (pg_name (i := 4) nd rfl (Or.inl rfl)) (pgs_cons (pg_name (i := 5) nd rfl (Or.inl rfl)) pgs_nil))) (pss_cons (ps_set (i := 6) nd rfl (Or.inl rfl) (pe_cal c__law_put_in hr (by omega) rfl (passes_call (takes_of rfl rfl rfl rfl) fun _ _ _ _ h => h) (pa_cons (pv 0) (pa_cons (pe_ix ix_seq (pv 5) pe_int (fun _ _ => rfl)) (pa_cons (pe_ix ix_seq (pv 2) (pv 4) (fun _ _ => rfl)) pa_nil))))) (pss_cons (ps_set (i := 7) nd rfl (Or.inl rfl) (pe_cal c__law_row_of hr (by omega) rfl (passes_call (takes_of rfl rfl rfl rfl) fun _ _ _ _ h => h) (pa_cons (pe_ix ix_seq (pv 5) pe_int (fun _ _ => rfl)) (pa_cons (pv 4) pa_nil)))) (pss_cons (ps_set (i := 8) nd rfl (Or.inl rfl) (pe_cal c_with_part hr (by omega) rfl (passes_call (takes_of rfl rfl rfl rfl) fun _ _ _ _ h => h) (pa_cons (pv 0) (pa_cons (pv 7) (pa_cons (pe_ix ix_seq (pv 2) (pv 4) (fun _ _ => rfl)) pa_nil))))) (pss_cons (ps_if (PW.pt (pw_or (pt_cmpR (op_ne2 (hu64 hr)) (pe_callB (call_reprD hr) rfl (T.fre 39 rfl) PyProof.Rows.boot_repr (pa_cons (pv 8) pa_nil)) (pe_callB (call_reprD hr) rfl (T.fre 39 rfl) PyProof.Rows.boot_repr (pa_cons (pv 6) pa_nil)) (nomark _)) (pw_or1 (pt_cmpR (op_ne2 (hu64 hr)) (pe_callB (call_reprD hr) rfl (T.fre 39 rfl) PyProof.Rows.boot_repr (pa_cons (pv 7) pa_nil)) (pe_callB (call_reprD hr) rfl (T.fre 39 rfl) PyProof.Rows.boot_repr (pa_cons (pe_cal c__law_row_of hr (by omega) rfl (passes_call (takes_of rfl rfl rfl rfl) fun _ _ _ _ h => h) (pa_cons (pe_ix ix_seq (pv 5) pe_int (fun _ _ => rfl)) (pa_cons (pv 4) pa_nil))) pa_nil)) (nomark _))))) (pss_one (ps_ret pe_bl)) pss_nil) (pss_cons (ps_if (pt_cmpR (op_ne2 (hu64 hr)) (pe_callB (call_reprD hr) rfl (T.fre 39 rfl) PyProof.Rows.boot_repr (pa_cons (pe_cal c_with_part hr (by omega) rfl (passes_call (takes_of rfl rfl rfl rfl) fun _ _ _ _ h => h) (pa_cons (pv 6) (pa_cons (pe_ix ix_seq (pv 5) pe_int (fun _ _ => rfl)) (pa_cons (pe_ix ix_seq (pv 5) pe_int (fun _ _ => rfl)) pa_nil)))) pa_nil)) (pe_callB (call_reprD hr) rfl (T.fre 39 rfl) PyProof.Rows.boot_repr (pa_cons (pv 0) pa_nil)) (nomark _)) (pss_one (ps_ret pe_bl)) pss_nil) (pss_one (ps_if (PW.pt (pw_and (pt_cmpR (op_eq2 (hu64 hr)) (pv 4) (pv 3) (nomark _)) (pw_and1 (pt_not (pt_truth (pe_cal c__law_whole_right hr (by omega) rfl (passes_call (takes_of rfl rfl rfl rfl) fun _ _ _ _ h => h) (pa_cons (pv 6) (pa_cons (pe_cal c__law_preorder hr (by omega) rfl (passes_call (takes_of rfl rfl rfl rfl) fun _ _ _ _ h => h) (pa_cons (pv 6) pa_nil)) pa_nil))) (by intro _; rfl)))))) (pss_one (ps_ret pe_bl)) pss_nil)))))))) (pss_one (ps_ret pe_bl))),
    (simSeq (simFor (simEnum (simVar 1)) (simTp (simGsCons (simName 4) (simGsCons (simName 5) simGsNil))) (simSeq (simAsg (simName 6) (simFz (simCall .nil (bval (simVar 0) (bval (simIx (k2v (simVar 5) (simInt 0).k)) (bval (simIx (k2v (simVar 2) (simVar 4).k)) bnil)))))) (simSeq (simAsg (simName 7) (simFz (simCall .nil (bval (simIx (k2v (simVar 5) (simInt 0).k)) (bval (simVar 4) bnil))))) (simSeq (simAsg (simName 8) (simFz (simCall .nil (bval (simVar 0) (bval (simVar 7) (bval (simIx (k2v (simVar 2) (simVar 4).k)) bnil)))))) (simSeq (simIfS (simOr (simTest (simOp2 semNe2 (k2v (simB1 semRepr (simVar 8).k) (simB1 semRepr (simVar 6).k).k)).k) (simTest (simOp2 semNe2 (k2v (simB1 semRepr (simVar 7).k) (simB1 semRepr (simCall .nil (bval (simIx (k2v (simVar 5) (simInt 0).k)) (bval (simVar 4) bnil))).k).k)).k)) (simRet (simBl false)) simNext) (simSeq (simIfS (simTest (simOp2 semNe2 (k2v (simB1 semRepr (simCall .nil (bval (simVar 6) (bval (simIx (k2v (simVar 5) (simInt 0).k)) (bval (simIx (k2v (simVar 5) (simInt 1).k)) bnil)))).k) (simB1 semRepr (simVar 0).k).k)).k) (simRet (simBl false)) simNext) (simIfS (simAnd (simTest (simOp2 semEq2 (k2v (simVar 4) (simVar 3).k)).k) (simNot (simTru (simCall .nil (bval (simVar 6) (bval (simFz (simCall .nil (bval (simVar 6) bnil))) bnil))).k))) (simRet (simBl false)) simNext))))))) (simRet (simBl true)))⟩

theorem en__law_changes_right {a0 a1 a2 a3 : Ty × D} {t : Ty} {d : D} (h : (b__law_changes_right [some a0, some a1, some a2, some a3, none, none, none, none, none]).P (retK t d) noX) : ∃ os, f__law_changes_right [a0, a1, a2, a3] = .ok (t, d) os := w_fnR (A := b__law_changes_right) (N := 9) (k := 4) (wr := [4, 5, 6, 7, 8]) (as := [a0, a1, a2, a3]) rfl rfl h
theorem ep__law_changes_right {a0 a1 a2 a3 : Ty × D} {Φ : Ty × D → VS.Env → Prop} {X : XP} (h : (b__law_changes_right [some a0, some a1, some a2, some a3, none, none, none, none, none]).P (fnK [4, 5, 6, 7, 8] 4 Φ) X) : (f__law_changes_right [a0, a1, a2, a3]).P Φ X := w_fn (A := b__law_changes_right) (N := 9) (k := 4) (wr := [4, 5, 6, 7, 8]) (as := [a0, a1, a2, a3]) rfl rfl h
/-! ### law: slots script d names k first second rows others parts more chosen -/
noncomputable def b_law : M Fl := (mSeq (mAsg (gSt 1) (mCall LW.f__law_begin (bVal (mVar 0) bNil)))
    (mSeq (mAsg (gSt 2) (mLstE .sh))
    (mSeq (mFor (mRng1 (mC (.int 3))) (gSt 3)
    (mDrop (mMethP (mSlot 2) (mCons (mCall LW.f__law_fresh (bRef 1 (bRef 2 bNil))) mNil) oAppend)))
    (mSeq (mAsg (gSt 4) (mFz (mCall (f__law_tree 30) (bRef 1 (bVal (mFrz 2) (bVal (mFz (mCall f__law_nodes_drawn (bRef 1 bNil))) bNil))))))
    (mSeq (mAsg (gSt 5) (mFz (mCall (f__law_tree 30) (bRef 1 (bVal (mFz (mRev (mGet 2))) (bVal (mFz (mCall f__law_nodes_drawn (bRef 1 bNil))) bNil))))))
    (mSeq (mAsg (gSt 6) (mFz (mCall f__law_preorder (bVal (mVar 4) bNil))))
    (mSeq (mAsg (gSt 7) (mFz (mCall f__law_preorder (bVal (mVar 5) bNil))))
    (mSeq (mAsg (gSt 8) (mFz (mCall f__law_parts_for (bRef 1 (bVal (mFrz 2) (bVal (mVar 6) bNil))))))
    (mSeq (mAsg (gSt 9) (mFz (mCall f__law_parts_for (bRef 1 (bVal (mFrz 2) (bVal (mVar 7) bNil))))))
    (mSeq (mAsg (gSt 10) (mFz (mCall fDraw (bRef 1 (bVal (mC (.int 24)) bNil)))))
    (mSeq (mIfS (mOr (mNot (mTru (mCall f__law_whole_right (bVal (mVar 4) (bVal (mVar 6) bNil))))) (mNot (mTru (mCall f__law_whole_right (bVal (mVar 5) (bVal (mVar 7) bNil))))))
    (mRet (mC (.bl false)))
    mSkip)
    (mSeq (mIfS (mOr (mNot (mTru (mCall f__law_nodes_right (bVal (mVar 4) (bVal (mVar 6) bNil))))) (mNot (mTru (mCall f__law_nodes_right (bVal (mVar 5) (bVal (mVar 7) bNil))))))
    (mRet (mC (.bl false)))
    mSkip)
    (mSeq (mIfS (mOr (mNot (mTru (mCall f__law_changes_right (bVal (mVar 4) (bVal (mVar 6) (bVal (mVar 8) (bVal (mVar 10) bNil))))))) (mNot (mTru (mCall f__law_changes_right (bVal (mVar 5) (bVal (mVar 7) (bVal (mVar 9) (bVal (mVar 10) bNil))))))))
    (mRet (mC (.bl false)))
    mSkip)
    (mRet (mFz (mAndT (mCall f__law_whole_right (bVal (mVar 4) (bVal (mVar 6) bNil))) (mCall f__law_nodes_right (bVal (mVar 4) (bVal (mVar 6) bNil)))))))))))))))))))
noncomputable def f_law : FM := mFn 11 1 [1, 2, 3, 4, 5, 6, 7, 8, 9, 10] b_law
theorem sc_law : FnScope ["script", "d", "names", "k", "first", "second", "rows", "others", "parts", "more", "chosen"] ["script"] d_law.scope := ⟨rfl, rfl, rfl, by decide +kernel, rfl, by decide +kernel, by decide +kernel⟩
theorem cal_law (T : Tx fn ck K mg) : Cal P w K mg base 65 "law" ["script"] (spM (cts K) f_law) [] := by
  have c__law_begin := cal__law_begin (P := P) (w := w) (base := base) T
  have c__law_changes_right := cal__law_changes_right (P := P) (w := w) (base := base) T
  have c__law_draw := cal__law_draw (P := P) (w := w) (base := base) T
  have c__law_fresh := cal__law_fresh (P := P) (w := w) (base := base) T
  have c__law_nodes_drawn := cal__law_nodes_drawn (P := P) (w := w) (base := base) T
  have c__law_nodes_right := cal__law_nodes_right (P := P) (w := w) (base := base) T
  have c__law_parts_for := cal__law_parts_for (P := P) (w := w) (base := base) T
  have c__law_preorder := cal__law_preorder (P := P) (w := w) (base := base) T
  have c__law_tree := cal__law_tree (P := P) (w := w) (base := base) T 30
  have c__law_whole_right := cal__law_whole_right (P := P) (w := w) (base := base) T
  exact cal_of (d := d_law) (N := ["script", "d", "names", "k", "first", "second", "rows", "others", "parts", "more", "chosen"]) (k := 64) (wr := [1, 2, 3, 4, 5, 6, 7, 8, 9, 10]) (b := b_law) (T.fn 28 _ rfl) (T.glo 43 rfl) sc_law (by decide) (fun _ _ _ _ _ _ us hl => match us, hl with | [_], _ => rfl) fun cdv A outer s H E hr =>
    have nd := sc_law.nd
    ⟨_, (pss_cons (ps_set (i := 1) nd rfl (Or.inl rfl) (pe_cal c__law_begin hr (by omega) rfl (passes_call (takes_of rfl rfl rfl rfl) fun _ _ _ _ h => h) (pa_cons (pv 0) pa_nil))) (pss_cons (ps_set (i := 2) nd rfl (Or.inl rfl) (pe_lst pa_nil)) (pss_cons (ps_for (passes_of rfl) rfl (pi_range1 rfl (T.fre 28 rfl) (pa_cons pe_int pa_nil)) (pg_name (i := 3) nd rfl (Or.inl rfl)) (pss_one (ps_expr (pe_bm PySem.F.plainAttrs_list PySem.F.slot_list_append PySem.F.type_list_append mt_append (pv 2) (pa_cons (pe_cal c__law_fresh hr (by omega) rfl (passes_call (takes_of rfl rfl rfl rfl) fun _ _ _ _ h => h) (pa_cons (pv 1) (pa_cons (pv 2) pa_nil))) pa_nil))))) (pss_cons (ps_set (i := 4) nd rfl (Or.inl rfl) (pe_cal c__law_tree hr (by omega) rfl (passes_call (takes_of rfl rfl rfl rfl) fun _ _ _ _ h => h) (pa_cons (pv 1) (pa_cons (pv 2) (pa_cons (pe_cal c__law_nodes_drawn hr (by omega) rfl (passes_call (takes_of rfl rfl rfl rfl) fun _ _ _ _ h => h) (pa_cons (pv 1) pa_nil)) pa_nil))))) (pss_cons (ps_set (i := 5) nd rfl (Or.inl rfl) (pe_cal c__law_tree hr (by omega) rfl (passes_call (takes_of rfl rfl rfl rfl) fun _ _ _ _ h => h) (pa_cons (pv 1) (pa_cons (pe_revL (pv 2)) (pa_cons (pe_cal c__law_nodes_drawn hr (by omega) rfl (passes_call (takes_of rfl rfl rfl rfl) fun _ _ _ _ h => h) (pa_cons (pv 1) pa_nil)) pa_nil))))) (pss_cons (ps_set (i := 6) nd rfl (Or.inl rfl) (pe_cal c__law_preorder hr (by omega) rfl (passes_call (takes_of rfl rfl rfl rfl) fun _ _ _ _ h => h) (pa_cons (pv 4) pa_nil))) (pss_cons (ps_set (i := 7) nd rfl (Or.inl rfl) (pe_cal c__law_preorder hr (by omega) rfl (passes_call (takes_of rfl rfl rfl rfl) fun _ _ _ _ h => h) (pa_cons (pv 5) pa_nil))) (pss_cons (ps_set (i := 8) nd rfl (Or.inl rfl) (pe_cal c__law_parts_for hr (by omega) rfl (passes_call (takes_of rfl rfl rfl rfl) fun _ _ _ _ h => h) (pa_cons (pv 1) (pa_cons (pv 2) (pa_cons (pv 6) pa_nil))))) (pss_cons (ps_set (i := 9) nd rfl (Or.inl rfl) (pe_cal c__law_parts_for hr (by omega) rfl (passes_call (takes_of rfl rfl rfl rfl) fun _ _ _ _ h => h) (pa_cons (pv 1) (pa_cons (pv 2) (pa_cons (pv 7) pa_nil))))) (pss_cons (ps_set (i := 10) nd rfl (Or.inl rfl) (pe_cal c__law_draw hr (by omega) rfl (passes_call (takes_of rfl rfl rfl rfl) fun _ _ _ _ h => h) (pa_cons (pv 1) (pa_cons pe_int pa_nil)))) (pss_cons (ps_if (PW.pt (pw_or (pt_not (pt_truth (pe_cal c__law_whole_right hr (by omega) rfl (passes_call (takes_of rfl rfl rfl rfl) fun _ _ _ _ h => h) (pa_cons (pv 4) (pa_cons (pv 6) pa_nil))) (by intro _; rfl))) (pw_or1 (pt_not (pt_truth (pe_cal c__law_whole_right hr (by omega) rfl (passes_call (takes_of rfl rfl rfl rfl) fun _ _ _ _ h => h) (pa_cons (pv 5) (pa_cons (pv 7) pa_nil))) (by intro _; rfl)))))) (pss_one (ps_ret pe_bl)) pss_nil) (pss_cons (ps_if (PW.pt (pw_or (pt_not (pt_truth (pe_cal c__law_nodes_right hr (by omega) rfl (passes_call (takes_of rfl rfl rfl rfl) fun _ _ _ _ h => h) (pa_cons (pv 4) (pa_cons (pv 6) pa_nil))) (by intro _; rfl))) (pw_or1 (pt_not (pt_truth (pe_cal c__law_nodes_right hr (by omega) rfl (passes_call (takes_of rfl rfl rfl rfl) fun _ _ _ _ h => h) (pa_cons (pv 5) (pa_cons (pv 7) pa_nil))) (by intro _; rfl)))))) (pss_one (ps_ret pe_bl)) pss_nil) (pss_cons (ps_if (PW.pt (pw_or (pt_not (pt_truth (pe_cal c__law_changes_right hr (by omega) rfl (passes_call (takes_of rfl rfl rfl rfl) fun _ _ _ _ h => h) (pa_cons (pv 4) (pa_cons (pv 6) (pa_cons (pv 8) (pa_cons (pv 10) pa_nil))))) (by intro _; rfl))) (pw_or1 (pt_not (pt_truth (pe_cal c__law_changes_right hr (by omega) rfl (passes_call (takes_of rfl rfl rfl rfl) fun _ _ _ _ h => h) (pa_cons (pv 5) (pa_cons (pv 7) (pa_cons (pv 9) (pa_cons (pv 10) pa_nil))))) (by intro _; rfl)))))) (pss_one (ps_ret pe_bl)) pss_nil) (pss_one (ps_ret (pe_andT (pe_cal c__law_whole_right hr (by omega) rfl (passes_call (takes_of rfl rfl rfl rfl) fun _ _ _ _ h => h) (pa_cons (pv 4) (pa_cons (pv 6) pa_nil))) (pe_one (pe_cal c__law_nodes_right hr (by omega) rfl (passes_call (takes_of rfl rfl rfl rfl) fun _ _ _ _ h => h) (pa_cons (pv 4) (pa_cons (pv 6) pa_nil)))))))))))))))))))),
    (simSeq (simAsg (simName 1) (simCall .nil (bval (simVar 0) bnil))) (simSeq (simAsg (simName 2) (simLstE .sh)) (simSeq (simFor (simRng1 (simInt 3).k) (simName 3) (simDrop (simMeth0 lAppend (simCons (simCall .nil (bref 1 (bref 2 bnil))) simNil)))) (simSeq (simAsg (simName 4) (simFz (simCall .nil (bref 1 (bval (simFrz 2) (bval (simFz (simCall .nil (bref 1 bnil))) bnil)))))) (simSeq (simAsg (simName 5) (simFz (simCall .nil (bref 1 (bval (simFz (simRev (simGet 2))) (bval (simFz (simCall .nil (bref 1 bnil))) bnil)))))) (simSeq (simAsg (simName 6) (simFz (simCall .nil (bval (simVar 4) bnil)))) (simSeq (simAsg (simName 7) (simFz (simCall .nil (bval (simVar 5) bnil)))) (simSeq (simAsg (simName 8) (simFz (simCall .nil (bref 1 (bval (simFrz 2) (bval (simVar 6) bnil)))))) (simSeq (simAsg (simName 9) (simFz (simCall .nil (bref 1 (bval (simFrz 2) (bval (simVar 7) bnil)))))) (simSeq (simAsg (simName 10) (simFz (simCall .nil (bref 1 (bval (simInt 24) bnil))))) (simSeq (simIfS (simOr (simNot (simTru (simCall .nil (bval (simVar 4) (bval (simVar 6) bnil))).k)) (simNot (simTru (simCall .nil (bval (simVar 5) (bval (simVar 7) bnil))).k))) (simRet (simBl false)) simNext) (simSeq (simIfS (simOr (simNot (simTru (simCall .nil (bval (simVar 4) (bval (simVar 6) bnil))).k)) (simNot (simTru (simCall .nil (bval (simVar 5) (bval (simVar 7) bnil))).k))) (simRet (simBl false)) simNext) (simSeq (simIfS (simOr (simNot (simTru (simCall .nil (bval (simVar 4) (bval (simVar 6) (bval (simVar 8) (bval (simVar 10) bnil))))).k)) (simNot (simTru (simCall .nil (bval (simVar 5) (bval (simVar 7) (bval (simVar 9) (bval (simVar 10) bnil))))).k))) (simRet (simBl false)) simNext) (simRet (simFz (simAndTV (simCall .nil (bval (simVar 4) (bval (simVar 6) bnil))) (simCall .nil (bval (simVar 4) (bval (simVar 6) bnil)))))))))))))))))))⟩

theorem en_law {a0 : Ty × D} {t : Ty} {d : D} (h : (b_law [some a0, none, none, none, none, none, none, none, none, none, none]).P (retK t d) noX) : ∃ os, f_law [a0] = .ok (t, d) os := w_fnR (A := b_law) (N := 11) (k := 1) (wr := [1, 2, 3, 4, 5, 6, 7, 8, 9, 10]) (as := [a0]) rfl rfl h
theorem ep_law {a0 : Ty × D} {Φ : Ty × D → VS.Env → Prop} {X : XP} (h : (b_law [some a0, none, none, none, none, none, none, none, none, none, none]).P (fnK [1, 2, 3, 4, 5, 6, 7, 8, 9, 10] 1 Φ) X) : (f_law [a0]).P Φ X := w_fn (A := b_law) (N := 11) (k := 1) (wr := [1, 2, 3, 4, 5, 6, 7, 8, 9, 10]) (as := [a0]) rfl rfl h
theorem law_fn (T : Tx fn ck K mg) : LawFn P w K mg 65 f_law := by
  refine law_of (d := d_law) (N := ["script", "d", "names", "k", "first", "second", "rows", "others", "parts", "more", "chosen"]) (k := 64) (wr := [1, 2, 3, 4, 5, 6, 7, 8, 9, 10]) (b := b_law) (T.fn 28 _ rfl) (T.glo 43 rfl) sc_law (by decide) (fun _ _ _ _ _ _ us hl => match us, hl with | [_], _ => rfl) fun base cdv A outer s H E hr => ?_
  have c__law_begin := cal__law_begin (P := P) (w := w) (base := base) T
  have c__law_changes_right := cal__law_changes_right (P := P) (w := w) (base := base) T
  have c__law_draw := cal__law_draw (P := P) (w := w) (base := base) T
  have c__law_fresh := cal__law_fresh (P := P) (w := w) (base := base) T
  have c__law_nodes_drawn := cal__law_nodes_drawn (P := P) (w := w) (base := base) T
  have c__law_nodes_right := cal__law_nodes_right (P := P) (w := w) (base := base) T
  have c__law_parts_for := cal__law_parts_for (P := P) (w := w) (base := base) T
  have c__law_preorder := cal__law_preorder (P := P) (w := w) (base := base) T
  have c__law_tree := cal__law_tree (P := P) (w := w) (base := base) T 30
  have c__law_whole_right := cal__law_whole_right (P := P) (w := w) (base := base) T
  have nd := sc_law.nd
  exact ⟨_, (pss_cons (ps_set (i := 1) nd rfl (Or.inl rfl) (pe_cal c__law_begin hr (by omega) rfl (passes_call (takes_of rfl rfl rfl rfl) fun _ _ _ _ h => h) (pa_cons (pv 0) pa_nil))) (pss_cons (ps_set (i := 2) nd rfl (Or.inl rfl) (pe_lst pa_nil)) (pss_cons (ps_for (passes_of rfl) rfl (pi_range1 rfl (T.fre 28 rfl) (pa_cons pe_int pa_nil)) (pg_name (i := 3) nd rfl (Or.inl rfl)) (pss_one (ps_expr (pe_bm PySem.F.plainAttrs_list PySem.F.slot_list_append PySem.F.type_list_append mt_append (pv 2) (pa_cons (pe_cal c__law_fresh hr (by omega) rfl (passes_call (takes_of rfl rfl rfl rfl) fun _ _ _ _ h => h) (pa_cons (pv 1) (pa_cons (pv 2) pa_nil))) pa_nil))))) (pss_cons (ps_set (i := 4) nd rfl (Or.inl rfl) (pe_cal c__law_tree hr (by omega) rfl (passes_call (takes_of rfl rfl rfl rfl) fun _ _ _ _ h => h) (pa_cons (pv 1) (pa_cons (pv 2) (pa_cons (pe_cal c__law_nodes_drawn hr (by omega) rfl (passes_call (takes_of rfl rfl rfl rfl) fun _ _ _ _ h => h) (pa_cons (pv 1) pa_nil)) pa_nil))))) (pss_cons (ps_set (i := 5) nd rfl (Or.inl rfl) (pe_cal c__law_tree hr (by omega) rfl (passes_call (takes_of rfl rfl rfl rfl) fun _ _ _ _ h => h) (pa_cons (pv 1) (pa_cons (pe_revL (pv 2)) (pa_cons (pe_cal c__law_nodes_drawn hr (by omega) rfl (passes_call (takes_of rfl rfl rfl rfl) fun _ _ _ _ h => h) (pa_cons (pv 1) pa_nil)) pa_nil))))) (pss_cons (ps_set (i := 6) nd rfl (Or.inl rfl) (pe_cal c__law_preorder hr (by omega) rfl (passes_call (takes_of rfl rfl rfl rfl) fun _ _ _ _ h => h) (pa_cons (pv 4) pa_nil))) (pss_cons (ps_set (i := 7) nd rfl (Or.inl rfl) (pe_cal c__law_preorder hr (by omega) rfl (passes_call (takes_of rfl rfl rfl rfl) fun _ _ _ _ h => h) (pa_cons (pv 5) pa_nil))) (pss_cons (ps_set (i := 8) nd rfl (Or.inl rfl) (pe_cal c__law_parts_for hr (by omega) rfl (passes_call (takes_of rfl rfl rfl rfl) fun _ _ _ _ h => h) (pa_cons (pv 1) (pa_cons (pv 2) (pa_cons (pv 6) pa_nil))))) (pss_cons (ps_set (i := 9) nd rfl (Or.inl rfl) (pe_cal c__law_parts_for hr (by omega) rfl (passes_call (takes_of rfl rfl rfl rfl) fun _ _ _ _ h => h) (pa_cons (pv 1) (pa_cons (pv 2) (pa_cons (pv 7) pa_nil))))) (pss_cons (ps_set (i := 10) nd rfl (Or.inl rfl) (pe_cal c__law_draw hr (by omega) rfl (passes_call (takes_of rfl rfl rfl rfl) fun _ _ _ _ h => h) (pa_cons (pv 1) (pa_cons pe_int pa_nil)))) (pss_cons (ps_if (PW.pt (pw_or (pt_not (pt_truth (pe_cal c__law_whole_right hr (by omega) rfl (passes_call (takes_of rfl rfl rfl rfl) fun _ _ _ _ h => h) (pa_cons (pv 4) (pa_cons (pv 6) pa_nil))) (by intro _; rfl))) (pw_or1 (pt_not (pt_truth (pe_cal c__law_whole_right hr (by omega) rfl (passes_call (takes_of rfl rfl rfl rfl) fun _ _ _ _ h => h) (pa_cons (pv 5) (pa_cons (pv 7) pa_nil))) (by intro _; rfl)))))) (pss_one (ps_ret pe_bl)) pss_nil) (pss_cons (ps_if (PW.pt (pw_or (pt_not (pt_truth (pe_cal c__law_nodes_right hr (by omega) rfl (passes_call (takes_of rfl rfl rfl rfl) fun _ _ _ _ h => h) (pa_cons (pv 4) (pa_cons (pv 6) pa_nil))) (by intro _; rfl))) (pw_or1 (pt_not (pt_truth (pe_cal c__law_nodes_right hr (by omega) rfl (passes_call (takes_of rfl rfl rfl rfl) fun _ _ _ _ h => h) (pa_cons (pv 5) (pa_cons (pv 7) pa_nil))) (by intro _; rfl)))))) (pss_one (ps_ret pe_bl)) pss_nil) (pss_cons (ps_if (PW.pt (pw_or (pt_not (pt_truth (pe_cal c__law_changes_right hr (by omega) rfl (passes_call (takes_of rfl rfl rfl rfl) fun _ _ _ _ h => h) (pa_cons (pv 4) (pa_cons (pv 6) (pa_cons (pv 8) (pa_cons (pv 10) pa_nil))))) (by intro _; rfl))) (pw_or1 (pt_not (pt_truth (pe_cal c__law_changes_right hr (by omega) rfl (passes_call (takes_of rfl rfl rfl rfl) fun _ _ _ _ h => h) (pa_cons (pv 5) (pa_cons (pv 7) (pa_cons (pv 9) (pa_cons (pv 10) pa_nil))))) (by intro _; rfl)))))) (pss_one (ps_ret pe_bl)) pss_nil) (pss_one (ps_ret (pe_andT (pe_cal c__law_whole_right hr (by omega) rfl (passes_call (takes_of rfl rfl rfl rfl) fun _ _ _ _ h => h) (pa_cons (pv 4) (pa_cons (pv 6) pa_nil))) (pe_one (pe_cal c__law_nodes_right hr (by omega) rfl (passes_call (takes_of rfl rfl rfl rfl) fun _ _ _ _ h => h) (pa_cons (pv 4) (pa_cons (pv 6) pa_nil)))))))))))))))))))),
    (simSeq (simAsg (simName 1) (simCall .nil (bval (simVar 0) bnil))) (simSeq (simAsg (simName 2) (simLstE .sh)) (simSeq (simFor (simRng1 (simInt 3).k) (simName 3) (simDrop (simMeth0 lAppend (simCons (simCall .nil (bref 1 (bref 2 bnil))) simNil)))) (simSeq (simAsg (simName 4) (simFz (simCall .nil (bref 1 (bval (simFrz 2) (bval (simFz (simCall .nil (bref 1 bnil))) bnil)))))) (simSeq (simAsg (simName 5) (simFz (simCall .nil (bref 1 (bval (simFz (simRev (simGet 2))) (bval (simFz (simCall .nil (bref 1 bnil))) bnil)))))) (simSeq (simAsg (simName 6) (simFz (simCall .nil (bval (simVar 4) bnil)))) (simSeq (simAsg (simName 7) (simFz (simCall .nil (bval (simVar 5) bnil)))) (simSeq (simAsg (simName 8) (simFz (simCall .nil (bref 1 (bval (simFrz 2) (bval (simVar 6) bnil)))))) (simSeq (simAsg (simName 9) (simFz (simCall .nil (bref 1 (bval (simFrz 2) (bval (simVar 7) bnil)))))) (simSeq (simAsg (simName 10) (simFz (simCall .nil (bref 1 (bval (simInt 24) bnil))))) (simSeq (simIfS (simOr (simNot (simTru (simCall .nil (bval (simVar 4) (bval (simVar 6) bnil))).k)) (simNot (simTru (simCall .nil (bval (simVar 5) (bval (simVar 7) bnil))).k))) (simRet (simBl false)) simNext) (simSeq (simIfS (simOr (simNot (simTru (simCall .nil (bval (simVar 4) (bval (simVar 6) bnil))).k)) (simNot (simTru (simCall .nil (bval (simVar 5) (bval (simVar 7) bnil))).k))) (simRet (simBl false)) simNext) (simSeq (simIfS (simOr (simNot (simTru (simCall .nil (bval (simVar 4) (bval (simVar 6) (bval (simVar 8) (bval (simVar 10) bnil))))).k)) (simNot (simTru (simCall .nil (bval (simVar 5) (bval (simVar 7) (bval (simVar 9) (bval (simVar 10) bnil))))).k))) (simRet (simBl false)) simNext) (simRet (simFz (simAndTV (simCall .nil (bval (simVar 4) (bval (simVar 6) bnil))) (simCall .nil (bval (simVar 4) (bval (simVar 6) bnil)))))))))))))))))))⟩

end
end K04

end

section
set_option Elab.async false
set_option linter.all false
set_option maxRecDepth 100000
set_option maxHeartbeats 2000000
open PySem L2 VS
local macro_rules | `(tactic| lcg_sub) => `(tactic| focus ((repeat' (first | exact trivial | assumption | omega | (refine And.intro ?_ ?_) | (intro _))) <;> (first | assumption | omega | exact Nat.le_of_ble_eq_true rfl | (simp only [sizeLine_val, List.length_cons, List.length_nil, List.length_map, List.length_append, List.length_set, List.length_range] at *; omega) | (exfalso; omega) | (decide +kernel) | skip)))
local macro_rules | `(tactic| lcg_off) => `(tactic| (intro h; (try simp only [decide_eq_true_eq, decide_eq_false_iff_not, Bool.and_eq_true, Bool.or_eq_true, Bool.not_eq_true', Bool.not_eq_false', Bool.not_eq_true, Bool.and_eq_false_imp, Bool.or_eq_false_iff, reduceCtorEq, Bool.not_not, Bool.not_true, Bool.not_false, Classical.not_not, List.isEmpty_iff, List.isEmpty_eq_false_iff, List.append_eq_nil_iff, List.cons_ne_nil, and_false, ne_eq, not_true_eq_false, not_false_eq_true, List.map_eq_nil_iff, str_inj, String.reduceEq, List.mem_cons, List.not_mem_nil, or_false, false_or, or_self] at h); (try (exact absurd h (by decide +kernel)))))
local macro_rules | `(tactic| lcg_src) => `(tactic| first
  | (with_reducible refine side_mk ?_; lcg_sub)
  | (with_reducible refine ont_mk ?_; lcg_off) | (with_reducible refine onf_mk ?_; lcg_off)
  | (with_reducible refine g_C ?_; first | (with_reducible refine x_ev ?_ ?_) | (with_reducible refine x_fz ?_) | (with_reducible refine w_draw ?_ ?_ ?_) | (with_reducible refine x_op2 ?_) | (with_reducible refine x_pl ?_) | (with_reducible refine x_ix ?_) | (with_reducible refine x_ixn ?_) | (with_reducible refine w_callP ?_) | (with_reducible refine w_appD ?_ ?_) | (with_reducible refine w_appV ?_ ?_) | (with_reducible refine w_appD2 ?_ ?_ ?_) | (with_reducible refine x_b1 ?_) | (with_reducible refine x_if ?_) | (with_reducible refine x_tup ?_) | (with_reducible refine x_lstZ ?_) | (with_reducible refine x_lstH ?_) | (with_reducible refine x_lc ?_) | (with_reducible refine x_join ?_ ?_) | (with_reducible refine x_app ?_) | (with_reducible refine x_ixk ?_) | (with_reducible refine x_ixkn ?_) | (with_reducible refine x_sl ?_ ?_ ?_))
  | (with_reducible refine g_T ?_; first | (with_reducible refine w_wtest ?_ ?_ ?_) | (with_reducible refine w_evT ?_ ?_) | (with_reducible refine x_bl ?_) | (with_reducible refine x_tru ?_) | (with_reducible refine x_not ?_) | (with_reducible refine x_and ?_) | (with_reducible refine x_or ?_) | (with_reducible refine w_pure ?_))
  | (with_reducible refine g_S ?_; first | (with_reducible refine w_asg ?_ ?_ ?_) | (with_reducible refine w_if ?_ ?_ ?_) | (with_reducible refine w_ret ?_ ?_) | (with_reducible refine w_drop ?_ ?_) | (with_reducible refine w_for ?_ ?_) | (with_reducible refine w_aug ?_ ?_) | (with_reducible refine w_skip ?_) | (with_reducible refine w_loop0 ?_) | (with_reducible refine w_loop1 ?_) | (with_reducible refine w_pure ?_) | (with_reducible refine x_asg ?_) | (with_reducible refine x_ret ?_) | (with_reducible refine x_drop ?_) | (with_reducible refine x_ifS ?_))
  | (with_reducible refine g_E ?_; first | (with_reducible refine w_tg ?_ ?_) | (with_reducible refine x_op2f ?_ ?_) | (with_reducible refine x_plf ?_ ?_) | (with_reducible refine x_ixf ?_ ?_) | (with_reducible refine x_ixnf ?_ ?_) | (with_reducible refine x_b1f ?_ ?_) | (with_reducible refine x_blf ?_) | (with_reducible refine x_truf ?_ ?_) | (with_reducible refine x_joinf ?_ ?_) | (with_reducible refine ex_int ?_ ?_) | (with_reducible refine x_ixkf ?_ ?_) | (with_reducible refine x_ixknf ?_ ?_) | (with_reducible refine x_slf ?_ ?_))
  | (with_reducible refine k_nx ?_) | (with_reducible refine k_rt ?_) | (with_reducible refine cur_mk ?_) | (with_reducible refine k_bk ?_) | (with_reducible refine k_ct ?_) | (with_reducible refine m_nx ?_) | (with_reducible refine m_bk ?_) | (with_reducible refine m_ct ?_) | (with_reducible refine m_rt ?_) | (with_reducible refine l_nx ?_) | (with_reducible refine l_ct ?_) | (with_reducible refine l_bk ?_) | (with_reducible refine l_rt ?_) | (with_reducible refine h_bk ?_) | (with_reducible refine h_rt ?_) | (with_reducible refine r_rt ?_) | (with_reducible refine f_rt ?_) | (with_reducible refine f_nx ?_) | (with_reducible refine and_tf ?_ ?_) | (with_reducible refine len_and ?_ ?_) | (with_reducible refine x_appf ?_ ?_)
  | (with_reducible refine alld_mk ?_; intro b q' hb; (try simp only [] at hb))
  | (with_reducible refine g_A ?_; first | (with_reducible refine a_cons ?_) | (with_reducible refine a_nil ?_)) | (with_reducible refine g_B ?_; first | (with_reducible refine w_bRef ?_) | (with_reducible refine w_bVal ?_) | (with_reducible refine w_bNil ?_)) | (with_reducible refine g_I ?_; first | (with_reducible refine x_evI ?_ ?_) | (with_reducible refine x_rng1 ?_))
  | (with_reducible exact r_nx))
local macro_rules | `(tactic| close_w) => `(tactic| (repeat' (first | (with_reducible refine w_seq ?_) | lcg_src)))
local macro_rules | `(tactic| o_reads) => `(tactic| (repeat' lcg_src))
/-! K04B: the law's rows. -/
namespace K04
open FO
abbrev R4 := List Nat × Fo × Nat × Bool
abbrev encR (r : R4) : D := .tup [encP r.1, r.2.1.e, .int (r.2.2.1 : Nat), .bl r.2.2.2]
def b2n (b : Bool) : Nat := if b then 1 else 0
def rowsF : Fo → List Nat → Nat → Bool → List R4
  | .u o a, p, n, b => (p, .u o a, n, b) :: rowsF a (p ++ [0]) (n + b2n (Fo.isNot (.u o a))) (b || Fo.isWas (.u o a))
  | .b o x y, p, n, b => (p, .b o x y, n, b) :: (rowsF x (p ++ [0]) n b ++ rowsF y (p ++ [1]) n b)
  | φ, p, n, b => [(p, φ, n, b)]
theorem rows_len (φ : Fo) (p : List Nat) (n : Nat) (b : Bool) : (rowsF φ p n b).length = φ.size := by
  induction φ generalizing p n b <;> simp [rowsF, Fo.size, *]
def rowsR (r : R4) : List R4 := rowsF r.2.1 r.1 r.2.2.1 r.2.2.2
theorem rowsF_pos (φ : Fo) (p : List Nat) (n : Nat) (b : Bool) : 1 ≤ (rowsF φ p n b).length := by
  rw [rows_len]; have := dep_size φ; omega
theorem flat_len {α β : Type} {g : α → List β} (h : ∀ a, 1 ≤ (g a).length) : ∀ l : List α, l.length ≤ (l.flatMap g).length
  | [] => by simp
  | a :: l => by have := flat_len h l; have := h a; simp only [List.flatMap_cons, List.length_append, List.length_cons]; omega
theorem preorder_ok (φ : Fo) (h : φ.size ≤ 50) : ∃ os, f__law_preorder [(.sh, φ.e)] = .ok (.sh, .lst ((rowsF φ [] 0 false).map encR)) os := by
  refine en__law_preorder ?_
  unfold b__law_preorder
  have hl := rows_len φ [] 0 false
  generalize hT : rowsF φ [] 0 false = T at hl ⊢
  close_w
  refine w_loop (xs := List.range (60 : Int).toNat) (fun pre δ => ∃ (found line : List R4), (∃ (c1 c2 c3 c4 c5 : Option (Ty × D)), δ = [some (.sh, φ.e), some (.lst .sh, .lst (found.map encR)), some (.lst .sh, .lst (line.map encR)), c1, c2, c3, c4, c5]) ∧
    found ++ line.reverse.flatMap rowsR = T ∧ found.length = pre.length ∧ ∀ r ∈ line, r.1.length + r.2.1.dep ≤ φ.dep) ⟨[], [([], φ, 0, false)], ⟨_, _, _, _, _, rfl⟩, by simp [rowsR, hT], rfl, by simp⟩ ?_ ?_
  · rintro pre i post δ e ⟨found, line, ⟨c1, c2, c3, c4, c5, rfl⟩, hf, hk, hd⟩
    rcases List.eq_nil_or_concat line with rfl | ⟨l, ⟨p, ψ, n, b⟩, rfl⟩
    · close_w
      simp at hf
      rw [hf]
    · rw [List.concat_eq_append] at hf hd ⊢
      have hlen := congrArg List.length hf
      have hlen2 := flat_len (g := rowsR) (fun r => rowsF_pos _ _ _ _) (l ++ [((p, ψ, n, b) : R4)]).reverse
      rw [List.length_reverse] at hlen2
      rw [List.length_append, hl] at hlen
      have h1 : found.length ≤ 100 := by omega
      have h2 : l.length ≤ 100 := by simp at hlen2; simp at hlen; omega
      have hd1 := hd (p, ψ, n, b) (by simp)
      have hds := dep_size φ
      have h3 : p.length ≤ 100 := by simp only at hd1; omega
      have hdl : ∀ r ∈ l, r.1.length + r.2.1.dep ≤ φ.dep := fun r hr => hd r (by simp [hr])
      simp only [List.map_append, List.map_cons, List.map_nil]
      rw [List.reverse_append, List.reverse_singleton, List.singleton_append, List.flatMap_cons] at hf
      have hk' : (found ++ [((p, ψ, n, b) : R4)]).length = (pre ++ [i]).length := by simp [hk]
      have one : ∀ (c : Fo) (k n' : Nat) (b' : Bool), c.dep < ψ.dep → ∀ r ∈ l ++ [((p ++ [k], c, n', b') : R4)], r.1.length + r.2.1.dep ≤ φ.dep := fun c k n' b' hc r hr => by
        rw [List.mem_append, List.mem_singleton] at hr
        rcases hr with hr | rfl
        · exact hdl r hr
        · simp at hd1 ⊢; omega
      cases ψ with
      | u o a =>
        cases o
        · (close_w); exact ⟨found ++ [(p, _, n, b)], l ++ [(p ++ [0], a, n + 1, b)], by simp [encR, str_inj], by rw [← hf]; simp [rowsR, rowsF, b2n, Fo.isNot, Fo.isWas], hk', one _ _ _ _ (by simp [Fo.dep])⟩
        · (close_w); exact ⟨found ++ [(p, _, n, b)], l ++ [(p ++ [0], a, n, true)], by simp [encR, str_inj], by rw [← hf]; simp [rowsR, rowsF, b2n, Fo.isNot, Fo.isWas], hk', one _ _ _ _ (by simp [Fo.dep])⟩
        · (close_w); exact ⟨found ++ [(p, _, n, b)], l ++ [(p ++ [0], a, n, b)], by simp [encR, str_inj], by rw [← hf]; simp [rowsR, rowsF, b2n, Fo.isNot, Fo.isWas], hk', one _ _ _ _ (by simp [Fo.dep])⟩
        · (close_w); exact ⟨found ++ [(p, _, n, b)], l ++ [(p ++ [0], a, n, b)], by simp [encR, str_inj], by rw [← hf]; simp [rowsR, rowsF, b2n, Fo.isNot, Fo.isWas], hk', one _ _ _ _ (by simp [Fo.dep])⟩
      | b o x y =>
        have two : ∀ r ∈ l ++ [((p ++ [1], y, n, b) : R4), (p ++ [0], x, n, b)], r.1.length + r.2.1.dep ≤ φ.dep := fun r hr => by
          simp only [List.mem_append, List.mem_cons, List.not_mem_nil, or_false] at hr
          simp [Fo.dep] at hd1
          rcases hr with hr | rfl | rfl
          · exact hdl r hr
          · simp; omega
          · simp; omega
        cases o
        all_goals (close_w)
        all_goals exact ⟨found ++ [(p, _, n, b)], l ++ [(p ++ [1], y, n, b), (p ++ [0], x, n, b)], by simp [encR, str_inj], by rw [← hf]; simp [rowsR, rowsF, b2n, Fo.isNot, Fo.isWas], hk', two⟩
      | _ =>
        (close_w)
        exact ⟨found ++ [(p, _, n, b)], l, by simp [encR, str_inj], by rw [← hf]; simp [rowsR, rowsF, b2n, Fo.isNot, Fo.isWas], hk', hdl⟩
  · rintro δ ⟨found, line, ⟨c1, c2, c3, c4, c5, rfl⟩, hf, hk, hd⟩
    exfalso
    have := congrArg List.length hf
    simp at this hk
    omega
end K04

end

section
set_option Elab.async false
set_option linter.all false
set_option maxRecDepth 100000
set_option maxHeartbeats 2000000
open PySem L2 VS
local macro_rules | `(tactic| lcg_sub) => `(tactic| focus ((repeat' (first | exact trivial | assumption | omega | (refine And.intro ?_ ?_) | (intro _))) <;> (first | assumption | omega | exact Nat.le_of_ble_eq_true rfl | (simp only [sizeLine_val, List.length_cons, List.length_nil, List.length_map, List.length_append, List.length_set, List.length_range] at *; omega) | (exfalso; omega) | (decide +kernel) | skip)))
local macro_rules | `(tactic| lcg_off) => `(tactic| (intro h; (try simp only [decide_eq_true_eq, decide_eq_false_iff_not, Bool.and_eq_true, Bool.or_eq_true, Bool.not_eq_true', Bool.not_eq_false', Bool.not_eq_true, Bool.and_eq_false_imp, Bool.or_eq_false_iff, reduceCtorEq, Bool.not_not, Bool.not_true, Bool.not_false, Classical.not_not, List.isEmpty_iff, List.isEmpty_eq_false_iff, List.append_eq_nil_iff, List.cons_ne_nil, and_false, ne_eq, not_true_eq_false, not_false_eq_true, List.map_eq_nil_iff, str_inj, String.reduceEq, List.mem_cons, List.not_mem_nil, or_false, false_or, or_self] at h); (try (exact absurd h (by decide +kernel)))))
local macro_rules | `(tactic| lcg_src) => `(tactic| first
  | (with_reducible refine side_mk ?_; lcg_sub)
  | (with_reducible refine ont_mk ?_; lcg_off) | (with_reducible refine onf_mk ?_; lcg_off)
  | (with_reducible refine g_C ?_; first | (with_reducible refine x_ev ?_ ?_) | (with_reducible refine x_fz ?_) | (with_reducible refine w_draw ?_ ?_ ?_) | (with_reducible refine x_op2 ?_) | (with_reducible refine x_pl ?_) | (with_reducible refine x_ix ?_) | (with_reducible refine x_ixn ?_) | (with_reducible refine w_callP ?_) | (with_reducible refine w_appD ?_ ?_) | (with_reducible refine w_appV ?_ ?_) | (with_reducible refine w_appD2 ?_ ?_ ?_) | (with_reducible refine x_b1 ?_) | (with_reducible refine x_if ?_) | (with_reducible refine x_tup ?_) | (with_reducible refine x_lstZ ?_) | (with_reducible refine x_lstH ?_) | (with_reducible refine x_lc ?_) | (with_reducible refine x_join ?_ ?_) | (with_reducible refine x_app ?_) | (with_reducible refine x_ixk ?_) | (with_reducible refine x_ixkn ?_) | (with_reducible refine x_sl ?_ ?_ ?_))
  | (with_reducible refine g_T ?_; first | (with_reducible refine w_wtest ?_ ?_ ?_) | (with_reducible refine w_evT ?_ ?_) | (with_reducible refine x_bl ?_) | (with_reducible refine x_tru ?_) | (with_reducible refine x_not ?_) | (with_reducible refine x_and ?_) | (with_reducible refine x_or ?_) | (with_reducible refine w_pure ?_))
  | (with_reducible refine g_S ?_; first | (with_reducible refine w_asg ?_ ?_ ?_) | (with_reducible refine w_if ?_ ?_ ?_) | (with_reducible refine w_ret ?_ ?_) | (with_reducible refine w_drop ?_ ?_) | (with_reducible refine w_for ?_ ?_) | (with_reducible refine w_aug ?_ ?_) | (with_reducible refine w_skip ?_) | (with_reducible refine w_loop0 ?_) | (with_reducible refine w_loop1 ?_) | (with_reducible refine w_pure ?_) | (with_reducible refine x_asg ?_) | (with_reducible refine x_ret ?_) | (with_reducible refine x_drop ?_) | (with_reducible refine x_ifS ?_))
  | (with_reducible refine g_E ?_; first | (with_reducible refine w_tg ?_ ?_) | (with_reducible refine x_op2f ?_ ?_) | (with_reducible refine x_plf ?_ ?_) | (with_reducible refine x_ixf ?_ ?_) | (with_reducible refine x_ixnf ?_ ?_) | (with_reducible refine x_b1f ?_ ?_) | (with_reducible refine x_blf ?_) | (with_reducible refine x_truf ?_ ?_) | (with_reducible refine x_joinf ?_ ?_) | (with_reducible refine ex_int ?_ ?_) | (with_reducible refine x_ixkf ?_ ?_) | (with_reducible refine x_ixknf ?_ ?_) | (with_reducible refine x_slf ?_ ?_))
  | (with_reducible refine k_nx ?_) | (with_reducible refine k_rt ?_) | (with_reducible refine cur_mk ?_) | (with_reducible refine k_bk ?_) | (with_reducible refine k_ct ?_) | (with_reducible refine m_nx ?_) | (with_reducible refine m_bk ?_) | (with_reducible refine m_ct ?_) | (with_reducible refine m_rt ?_) | (with_reducible refine l_nx ?_) | (with_reducible refine l_ct ?_) | (with_reducible refine l_bk ?_) | (with_reducible refine l_rt ?_) | (with_reducible refine h_bk ?_) | (with_reducible refine h_rt ?_) | (with_reducible refine r_rt ?_) | (with_reducible refine f_rt ?_) | (with_reducible refine f_nx ?_) | (with_reducible refine and_tf ?_ ?_) | (with_reducible refine len_and ?_ ?_) | (with_reducible refine x_appf ?_ ?_)
  | (with_reducible refine alld_mk ?_; intro b q' hb; (try simp only [] at hb))
  | (with_reducible refine g_A ?_; first | (with_reducible refine a_cons ?_) | (with_reducible refine a_nil ?_)) | (with_reducible refine g_B ?_; first | (with_reducible refine w_bRef ?_) | (with_reducible refine w_bVal ?_) | (with_reducible refine w_bNil ?_)) | (with_reducible refine g_I ?_; first | (with_reducible refine x_evI ?_ ?_) | (with_reducible refine x_rng1 ?_))
  | (with_reducible exact r_nx))
local macro_rules | `(tactic| close_w) => `(tactic| (repeat' (first | (with_reducible refine w_seq ?_) | lcg_src)))
local macro_rules | `(tactic| o_reads) => `(tactic| (repeat' lcg_src))
/-! K04C: the law's other defs. -/
namespace K04
open FO
/-! ### postorder -/
abbrev R2 := List Nat × Fo
abbrev encR2 (r : R2) : D := .tup [encP r.1, r.2.e]
/-- from the back -/
def backF : Fo → List Nat → List R2
  | .u o a, p => (p, .u o a) :: backF a (p ++ [0])
  | .b o x y, p => (p, .b o x y) :: (backF y (p ++ [1]) ++ backF x (p ++ [0]))
  | φ, p => [(p, φ)]
theorem back_len (φ : Fo) (p : List Nat) : (backF φ p).length = φ.size := by
  induction φ generalizing p <;> simp [backF, Fo.size, *] <;> omega
def backR (r : R2) : List R2 := backF r.2 r.1
theorem backF_pos (φ : Fo) (p : List Nat) : 1 ≤ (backF φ p).length := by
  rw [back_len]; have := dep_size φ; omega
theorem postorder_ok (φ : Fo) (h : φ.size ≤ 50) : ∃ os, f__law_postorder [(.sh, φ.e)] = .ok (.sh, .lst ((backF φ []).reverse.map encR2)) os := by
  refine en__law_postorder ?_
  unfold b__law_postorder
  have hl := back_len φ []
  generalize hT : backF φ [] = T at hl ⊢
  close_w
  refine w_loop (xs := List.range (60 : Int).toNat) (fun pre δ => ∃ (found line : List R2), (∃ (c1 c2 c3 : Option (Ty × D)), δ = [some (.sh, φ.e), some (.lst .sh, .lst (found.map encR2)), some (.lst .sh, .lst (line.map encR2)), c1, c2, c3]) ∧
    found ++ line.reverse.flatMap backR = T ∧ found.length = pre.length ∧ ∀ r ∈ line, r.1.length + r.2.dep ≤ φ.dep) ⟨[], [([], φ)], ⟨_, _, _, rfl⟩, by simp [backR, hT], rfl, by simp⟩ ?_ ?_
  · rintro pre i post δ e ⟨found, line, ⟨c1, c2, c3, rfl⟩, hf, hk, hd⟩
    rcases List.eq_nil_or_concat line with rfl | ⟨l, ⟨p, ψ⟩, rfl⟩
    · close_w
      simp at hf
      rw [hf]
    · rw [List.concat_eq_append] at hf hd ⊢
      have hlen := congrArg List.length hf
      have hlen2 := flat_len (g := backR) (fun r => backF_pos _ _) (l ++ [((p, ψ) : R2)]).reverse
      rw [List.length_reverse] at hlen2
      rw [List.length_append, hl] at hlen
      have h1 : found.length ≤ 100 := by omega
      have h2 : l.length ≤ 100 := by simp at hlen2; simp at hlen; omega
      have hd1 := hd (p, ψ) (by simp)
      have hds := dep_size φ
      have h3 : p.length ≤ 100 := by simp only at hd1; omega
      have hdl : ∀ r ∈ l, r.1.length + r.2.dep ≤ φ.dep := fun r hr => hd r (by simp [hr])
      simp only [List.map_append, List.map_cons, List.map_nil]
      rw [List.reverse_append, List.reverse_singleton, List.singleton_append, List.flatMap_cons] at hf
      have hk' : (found ++ [((p, ψ) : R2)]).length = (pre ++ [i]).length := by simp [hk]
      cases ψ with
      | u o a =>
        have one : ∀ r ∈ l ++ [((p ++ [0], a) : R2)], r.1.length + r.2.dep ≤ φ.dep := fun r hr => by
          rw [List.mem_append, List.mem_singleton] at hr
          simp [Fo.dep] at hd1
          rcases hr with hr | rfl
          · exact hdl r hr
          · simp; omega
        cases o
        all_goals close_w
        all_goals exact ⟨found ++ [(p, _)], l ++ [(p ++ [0], a)], by simp [encR2], by rw [← hf]; simp [backR, backF], hk', one⟩
      | b o x y =>
        have two : ∀ r ∈ l ++ [((p ++ [0], x) : R2), (p ++ [1], y)], r.1.length + r.2.dep ≤ φ.dep := fun r hr => by
          simp only [List.mem_append, List.mem_cons, List.not_mem_nil, or_false] at hr
          simp [Fo.dep] at hd1
          rcases hr with hr | rfl | rfl
          · exact hdl r hr
          · simp; omega
          · simp; omega
        cases o
        all_goals close_w
        all_goals exact ⟨found ++ [(p, _)], l ++ [(p ++ [0], x), (p ++ [1], y)], by simp [encR2], by rw [← hf]; simp [backR, backF], hk', two⟩
      | _ =>
        close_w
        exact ⟨found ++ [(p, _)], l, by simp [encR2], by rw [← hf]; simp [backR, backF], hk', hdl⟩
  · rintro δ ⟨found, line, ⟨c1, c2, c3, rfl⟩, hf, hk, hd⟩
    exfalso
    have := congrArg List.length hf
    simp at this hk
    omega
instance {φ : Fo} : Fn f__law_postorder [(.sh, φ.e)] .sh (.lst ((backF φ []).reverse.map encR2)) (φ.size ≤ 50) := ⟨postorder_ok φ⟩
instance {φ : Fo} : Fn f__law_preorder [(.sh, φ.e)] .sh (.lst ((rowsF φ [] 0 false).map encR)) (φ.size ≤ 50) := ⟨preorder_ok φ⟩
/-! ### each once -/
theorem once_ok (ws : List Str) (h : ws.length ≤ 1000) : ∃ os, f__law_each_once [(.sh, .lst (ws.map .str))] = .ok (.sh, .tup ((onceEach ws).map .str)) os := by
  refine en__law_each_once ?_
  unfold b__law_each_once
  close_w
  refine w_loop (xs := ws) (fun pre δ => ∃ c, δ = [some (.sh, .lst (ws.map .str)), some (.lst .sh, .lst ((onceEach pre).map .str)), c]) ⟨_, rfl⟩ ?_ ?_
  · rintro pre x post δ e ⟨c, rfl⟩
    have hl := onceEach_len pre
    have : pre.length ≤ 1000 := by rw [e] at h; simp at h; omega
    rw [onceEach_snoc]
    close_w
    · rename_i hn; simp [once1, hn]
    · rename_i hn; simp [once1, hn]
  · rintro δ ⟨c, rfl⟩
    close_w
    rfl
instance {ws : List Str} : Fn f__law_each_once [(.sh, .lst (ws.map .str))] .sh (.tup ((onceEach ws).map .str)) (ws.length ≤ 1000) := ⟨once_ok ws⟩
/-! ### a path as tuple or list -/
def pathD (p : List Nat) (k : Nat) : D := if k % 2 = 0 then encP p else .lst (p.map ni)
theorem row_ok (p : List Nat) (k : Nat) : ∃ os, f__law_row_of [(.sh, encP p), (.sh, .int (k : Nat))] = .ok (.sh, pathD p k) os := by
  refine en__law_row_of ?_
  unfold b__law_row_of
  close_w
  · rename_i h
    have : k % 2 = 0 := by omega
    simp [pathD, this]
  · rename_i h
    have : ¬ k % 2 = 0 := by omega
    simp [pathD, this]
instance {p : List Nat} {k : Nat} : Fn f__law_row_of [(.sh, encP p), (.sh, .int (k : Nat))] .sh (pathD p k) True := ⟨fun _ => row_ok p k⟩
instance {p : List Nat} {k : Nat} : Fn f__law_row_of [(.sh, encP p), (.sh, .int ((k : Int) + 1))] .sh (pathD p (k + 1)) True := ⟨fun _ => row_ok p (k + 1)⟩
instance {p : List Nat} {k : Nat} : ItE (pathD p k) (p.map ni) := ⟨by unfold pathD; split <;> simp⟩
instance {p : List Nat} {k : Nat} : PathD (pathD p k) p := ⟨by unfold pathD; split <;> simp⟩
/-! ### put_in -/
def fitems : Fo → List D
  | .t => [.str "true"]
  | .f => [.str "false"]
  | .n x => [.str "name", .str x]
  | .u o a => [.str o.s, a.e]
  | .b o x y => [.str o.s, x.e, y.e]
theorem e_items (φ : Fo) : φ.e = .tup (fitems φ) := by cases φ <;> rfl
def setK (ψ : Fo) (k : Nat) (c : Fo) : Fo := ψ.put [k] c
/-- put the part in, from the nodes above -/
def putBack (ab : List (Fo × Nat)) (c : Fo) : Fo := ab.foldr (fun z c => setK z.1 z.2 c) c
def abo : Fo → List Nat → List (Fo × Nat)
  | _, [] => []
  | φ, k :: p => (φ, k) :: match φ.kids[k]? with
    | some c => abo c p
    | none => []
theorem abo_snoc : ∀ {pre : List Nat} {φ ψ c : Fo} {k : Nat}, φ.at_ pre = some ψ → ψ.kids[k]? = some c → abo φ (pre ++ [k]) = abo φ pre ++ [(ψ, k)]
  | [], φ, ψ, c, k, h, hc => by cases h; simp [abo, hc]
  | j :: pre, φ, ψ, c, k, h, hc => by
    simp only [Fo.at_, Option.bind_eq_some_iff] at h
    obtain ⟨b, h1, h2⟩ := h
    simp [abo, h1, abo_snoc h2 hc]
theorem putBack_eq : ∀ {p : List Nat} {φ χ c : Fo}, φ.at_ p = some χ → putBack (abo φ p) c = φ.put p c
  | [], φ, χ, c, _ => by cases φ <;> rfl
  | k :: p, φ, χ, c, h => by
    simp only [Fo.at_, Option.bind_eq_some_iff] at h
    obtain ⟨b, h1, h2⟩ := h
    have ih := putBack_eq (c := c) h2
    simp only [abo, h1, putBack, List.foldr_cons]
    show setK φ k (putBack (abo b p) c) = _
    rw [ih]
    cases φ with
    | u o a => match k, h1 with
      | 0, h1 => cases h1; simp [setK, Fo.put]
    | b o x y => match k, h1 with
      | 0, h1 => cases h1; simp [setK, Fo.put]
      | 1, h1 => cases h1; simp [setK, Fo.put]
    | _ => simp [Fo.kids] at h1
end K04

end

section
set_option Elab.async false
set_option linter.all false
set_option maxRecDepth 100000
set_option maxHeartbeats 2000000
open PySem L2 VS
local macro_rules | `(tactic| lcg_sub) => `(tactic| focus ((repeat' (first | exact trivial | assumption | omega | (refine And.intro ?_ ?_) | (intro _))) <;> (first | assumption | omega | exact Nat.le_of_ble_eq_true rfl | (simp only [sizeLine_val, List.length_cons, List.length_nil, List.length_map, List.length_append, List.length_set, List.length_range] at *; omega) | (exfalso; omega) | (decide +kernel) | skip)))
local macro_rules | `(tactic| lcg_off) => `(tactic| (intro h; (try simp only [decide_eq_true_eq, decide_eq_false_iff_not, Bool.and_eq_true, Bool.or_eq_true, Bool.not_eq_true', Bool.not_eq_false', Bool.not_eq_true, Bool.and_eq_false_imp, Bool.or_eq_false_iff, reduceCtorEq, Bool.not_not, Bool.not_true, Bool.not_false, Classical.not_not, List.isEmpty_iff, List.isEmpty_eq_false_iff, List.append_eq_nil_iff, List.cons_ne_nil, and_false, ne_eq, not_true_eq_false, not_false_eq_true, List.map_eq_nil_iff, str_inj, String.reduceEq, List.mem_cons, List.not_mem_nil, or_false, false_or, or_self] at h); (try (exact absurd h (by decide +kernel)))))
local macro_rules | `(tactic| lcg_src) => `(tactic| first
  | (with_reducible refine side_mk ?_; lcg_sub)
  | (with_reducible refine ont_mk ?_; lcg_off) | (with_reducible refine onf_mk ?_; lcg_off)
  | (with_reducible refine g_C ?_; first | (with_reducible refine x_ev ?_ ?_) | (with_reducible refine x_fz ?_) | (with_reducible refine w_draw ?_ ?_ ?_) | (with_reducible refine x_op2 ?_) | (with_reducible refine x_pl ?_) | (with_reducible refine x_ix ?_) | (with_reducible refine x_ixn ?_) | (with_reducible refine w_callP ?_) | (with_reducible refine w_appD ?_ ?_) | (with_reducible refine w_appV ?_ ?_) | (with_reducible refine w_appD2 ?_ ?_ ?_) | (with_reducible refine x_b1 ?_) | (with_reducible refine x_if ?_) | (with_reducible refine x_tup ?_) | (with_reducible refine x_lstZ ?_) | (with_reducible refine x_lstH ?_) | (with_reducible refine x_lc ?_) | (with_reducible refine x_join ?_ ?_) | (with_reducible refine x_app ?_) | (with_reducible refine x_ixk ?_) | (with_reducible refine x_ixkn ?_) | (with_reducible refine x_sl ?_ ?_ ?_))
  | (with_reducible refine g_T ?_; first | (with_reducible refine w_wtest ?_ ?_ ?_) | (with_reducible refine w_evT ?_ ?_) | (with_reducible refine x_bl ?_) | (with_reducible refine x_tru ?_) | (with_reducible refine x_not ?_) | (with_reducible refine x_and ?_) | (with_reducible refine x_or ?_) | (with_reducible refine w_pure ?_))
  | (with_reducible refine g_S ?_; first | (with_reducible refine w_asg ?_ ?_ ?_) | (with_reducible refine w_if ?_ ?_ ?_) | (with_reducible refine w_ret ?_ ?_) | (with_reducible refine w_drop ?_ ?_) | (with_reducible refine w_for ?_ ?_) | (with_reducible refine w_aug ?_ ?_) | (with_reducible refine w_skip ?_) | (with_reducible refine w_loop0 ?_) | (with_reducible refine w_loop1 ?_) | (with_reducible refine w_pure ?_) | (with_reducible refine x_asg ?_) | (with_reducible refine x_ret ?_) | (with_reducible refine x_drop ?_) | (with_reducible refine x_ifS ?_))
  | (with_reducible refine g_E ?_; first | (with_reducible refine w_tg ?_ ?_) | (with_reducible refine x_op2f ?_ ?_) | (with_reducible refine x_plf ?_ ?_) | (with_reducible refine x_ixf ?_ ?_) | (with_reducible refine x_ixnf ?_ ?_) | (with_reducible refine x_b1f ?_ ?_) | (with_reducible refine x_blf ?_) | (with_reducible refine x_truf ?_ ?_) | (with_reducible refine x_joinf ?_ ?_) | (with_reducible refine ex_int ?_ ?_) | (with_reducible refine x_ixkf ?_ ?_) | (with_reducible refine x_ixknf ?_ ?_) | (with_reducible refine x_slf ?_ ?_))
  | (with_reducible refine k_nx ?_) | (with_reducible refine k_rt ?_) | (with_reducible refine cur_mk ?_) | (with_reducible refine k_bk ?_) | (with_reducible refine k_ct ?_) | (with_reducible refine m_nx ?_) | (with_reducible refine m_bk ?_) | (with_reducible refine m_ct ?_) | (with_reducible refine m_rt ?_) | (with_reducible refine l_nx ?_) | (with_reducible refine l_ct ?_) | (with_reducible refine l_bk ?_) | (with_reducible refine l_rt ?_) | (with_reducible refine h_bk ?_) | (with_reducible refine h_rt ?_) | (with_reducible refine r_rt ?_) | (with_reducible refine f_rt ?_) | (with_reducible refine f_nx ?_) | (with_reducible refine and_tf ?_ ?_) | (with_reducible refine len_and ?_ ?_) | (with_reducible refine x_appf ?_ ?_)
  | (with_reducible refine alld_mk ?_; intro b q' hb; (try simp only [] at hb))
  | (with_reducible refine g_A ?_; first | (with_reducible refine a_cons ?_) | (with_reducible refine a_nil ?_)) | (with_reducible refine g_B ?_; first | (with_reducible refine w_bRef ?_) | (with_reducible refine w_bVal ?_) | (with_reducible refine w_bNil ?_)) | (with_reducible refine g_I ?_; first | (with_reducible refine x_evI ?_ ?_) | (with_reducible refine x_rng1 ?_))
  | (with_reducible exact r_nx))
local macro_rules | `(tactic| close_w) => `(tactic| (repeat' (first | (with_reducible refine w_seq ?_) | lcg_src)))
local macro_rules | `(tactic| o_reads) => `(tactic| (repeat' lcg_src))
/-! K04D: put_in, drawn trees. -/
namespace K04
open FO
theorem abo_kid : ∀ {p : List Nat} {φ χ : Fo}, φ.at_ p = some χ → ∀ z ∈ abo φ p, (z.1.kids[z.2]?).isSome = true
  | [], φ, χ, _, z, hz => by simp [abo] at hz
  | k :: p, φ, χ, h, z, hz => by
    simp only [Fo.at_, Option.bind_eq_some_iff] at h
    obtain ⟨b, h1, h2⟩ := h
    simp only [abo, h1, List.mem_cons] at hz
    rcases hz with rfl | hz
    · simp [h1]
    · exact abo_kid h2 z hz
theorem abo_len : ∀ {p : List Nat} {φ : Fo}, (abo φ p).length ≤ p.length
  | [], φ => by simp [abo]
  | k :: p, φ => by
    simp only [abo, List.length_cons]
    cases φ.kids[k]? with
    | none => simp
    | some c => simp; exact abo_len
abbrev encA (z : Fo × Nat) : D := .tup [z.1.e, ni z.2]
theorem put_in_ok {φ χ c : Fo} {p : List Nat} (h : φ.at_ p = some χ) (hp : p.length ≤ 1000) : ∃ os, f__law_put_in [(.sh, φ.e), (.sh, encP p), (.sh, c.e)] = .ok (.sh, (φ.put p c).e) os := by
  refine en__law_put_in ?_
  unfold b__law_put_in
  close_w
  refine w_loop (xs := p) (fun pre δ => ∃ ψ c0, φ.at_ pre = some ψ ∧ δ = [some (.sh, φ.e), some (.sh, encP p), some (.sh, c.e), some (.lst .sh, .lst ((abo φ pre).map encA)), some (.sh, ψ.e), c0]) ⟨φ, _, rfl, rfl⟩ ?_ ?_
  · rintro pre k post δ rfl ⟨ψ, c0, e1, rfl⟩
    obtain ⟨ψ', x, e2, e3, e4⟩ := at_step h
    rw [e1] at e2; cases e2
    haveI := ix_kid e3
    have := abo_len (p := pre) (φ := φ)
    simp at hp
    close_w
    exact ⟨x, some (.sh, ni k), e4, by rw [abo_snoc e1 e3]; simp⟩
  · rintro δ ⟨ψ, c0, e1, rfl⟩
    close_w
    have hk := abo_kid h
    rw [← putBack_eq h]
    generalize abo φ p = ab at hk
    refine w_loop (xs := ab.reverse) (fun pre δ => ∃ c4 c5, δ = [some (.sh, φ.e), some (.sh, encP p), some (.sh, (putBack pre.reverse c).e), some (.lst .sh, .lst (ab.map encA)), c4, c5]) ⟨_, _, rfl⟩ ?_ ?_
    · rintro pre ⟨ψ, k⟩ post δ e ⟨c4, c5, rfl⟩
      have hm : (ψ, k) ∈ ab := by rw [← List.mem_reverse, e]; simp
      have := hk _ hm
      have pb : putBack (pre ++ [(ψ, k)]).reverse c = setK ψ k (putBack pre.reverse c) := by simp [putBack]
      rw [pb]
      generalize putBack pre.reverse c = c'
      cases ψ with
      | u o a =>
        match k, this with
        | 0, _ =>
          haveI : Sl .sh (Fo.u o a).e none (some (((0 : Nat) : Int) + 1)) .sh (.tup [.str o.s]) True := ⟨fun _ => rfl⟩
          haveI : Sl .sh (Fo.u o a).e (some (((0 : Nat) : Int) + 2)) none .sh (.tup []) True := ⟨fun _ => rfl⟩
          close_w
          simp [setK, Fo.put, Fo.e]
        | k + 1, h => simp [Fo.kids] at h
      | b o x y =>
        match k, this with
        | 0, _ =>
          haveI : Sl .sh (Fo.b o x y).e none (some (((0 : Nat) : Int) + 1)) .sh (.tup [.str o.s]) True := ⟨fun _ => rfl⟩
          haveI : Sl .sh (Fo.b o x y).e (some (((0 : Nat) : Int) + 2)) none .sh (.tup [y.e]) True := ⟨fun _ => rfl⟩
          close_w
          simp [setK, Fo.put, Fo.e]
        | 1, _ =>
          haveI : Sl .sh (Fo.b o x y).e none (some (((1 : Nat) : Int) + 1)) .sh (.tup [.str o.s, x.e]) True := ⟨fun _ => rfl⟩
          haveI : Sl .sh (Fo.b o x y).e (some (((1 : Nat) : Int) + 2)) none .sh (.tup []) True := ⟨fun _ => rfl⟩
          close_w
          simp [setK, Fo.put, Fo.e]
        | k + 2, h => simp [Fo.kids] at h
      | _ => simp [Fo.kids] at this
    · rintro δ ⟨c4, c5, rfl⟩
      close_w
      simp
/-! ### drawn trees -/
def namesIn (ns : List Str) : Fo → Prop
  | .n x => x ∈ ns
  | .u _ a => namesIn ns a
  | .b _ x y => namesIn ns x ∧ namesIn ns y
  | _ => True
def Good (ns : List Str) (k : Int) (φ : Fo) : Prop := (φ.size : Int) ≤ max 1 k ∧ namesIn ns φ
def opOf (m : Nat) : U1 := match m % 4 with | 0 => .not | 1 => .was | 2 => .once | _ => .held
theorem op_ix (m : Nat) : Ix .sh (.tup [.str "not", .str "was", .str "once", .str "held"]) (.int ((m &&& 3 : Nat) : Int)) .sh (.str (opOf m).s) True := ⟨fun _ => by
  have h : m &&& 3 = m % 4 := Nat.and_two_pow_sub_one_eq_mod m 2
  rw [h]
  have hm : m % 4 < 4 := Nat.mod_lt _ (by decide)
  unfold opOf
  generalize m % 4 = j at hm
  match j, hm with
  | 0, _ => rfl
  | 1, _ => rfl
  | 2, _ => rfl
  | 3, _ => rfl⟩
theorem op2_of {h : Str} (m : h ∈ [("and" : Str), "or", "since"]) : ∃ o : B2, h = o.s := by
  simp at m
  rcases m with rfl | rfl | rfl
  · exact ⟨.and, rfl⟩
  · exact ⟨.or, rfl⟩
  · exact ⟨.since, rfl⟩
theorem fin_u {ns : List Str} {m : Nat} {a : Fo} {i k : Int} {q : Dr} {os mk : VS.Env} (ha : Good ns i a) (h : i = k - 1) (hk : 2 ≤ k) (hm : mk = some (tyD, dS q) :: os) :
    ∃ b q' os', Good ns k b ∧ (Ty.sh, D.tup [.str (opOf m).s, a.e]) = (Ty.sh, b.e) ∧ mk = some (tyD, dS q') :: os' :=
  ⟨.u (opOf m) a, q, os, ⟨by have := ha.1; simp only [Fo.size]; omega, ha.2⟩, rfl, hm⟩
theorem fin_b {ns : List Str} {h : Str} {a c : Fo} {i j k : Int} {q : Dr} {os mk : VS.Env} (ho : h ∈ [("and" : Str), "or", "since"]) (ha : Good ns i a) (hc : Good ns j c) (h1 : 1 ≤ i ∧ 1 ≤ j ∧ i + j + 1 ≤ k) (hm : mk = some (tyD, dS q) :: os) :
    ∃ b q' os', Good ns k b ∧ (Ty.sh, D.tup [.str h, a.e, c.e]) = (Ty.sh, b.e) ∧ mk = some (tyD, dS q') :: os' := by
  obtain ⟨o, rfl⟩ := op2_of ho
  exact ⟨.b o a c, q, os, ⟨by have := ha.1; have := hc.1; simp only [Fo.size]; omega, ha.2, hc.2⟩, rfl, hm⟩
theorem fin_0 {ns : List Str} {d : D} {k : Int} {q : Dr} {os mk : VS.Env} (φ : Fo) (h1 : φ.size = 1) (h2 : namesIn ns φ) (hd : d = φ.e) (hm : mk = some (tyD, dS q) :: os) :
    ∃ b q' os', Good ns k b ∧ (Ty.sh, d) = (Ty.sh, b.e) ∧ mk = some (tyD, dS q') :: os' :=
  ⟨φ, q, os, ⟨by omega, h2⟩, by rw [hd], hm⟩
theorem half (k : Int) : (k - 1).fdiv 2 = (k - 1) / 2 := Int.fdiv_eq_ediv_of_nonneg _ (by decide)
theorem tree_ok (ns : List Str) (hn : 0 < ns.length ∧ ns.length < 1000) : ∀ (n : Nat) (k : Int), k ≤ n → k ≤ 1000 → Drw (f__law_tree (n + 1)) [(.sh, .lst (ns.map .str)), (.sh, .int k)] .sh Fo.e (Good ns k) True := by
  intro n
  induction n with
  | zero =>
    intro k hk hk2
    refine ⟨fun _ q => ?_⟩
    refine ep__law_tree ?_
    unfold b__law_tree
    have hk1 : k ≤ 1 := by omega
    haveI : Op2 fLe (.int k) (.int 1) (.bl true) True := ⟨fun _ => by show some (D.bl (decide (k ≤ 1))) = _; simp [hk1]⟩
    close_w
    · exact fin_0 Fo.t rfl trivial rfl rfl
    · exact fin_0 Fo.f rfl trivial rfl rfl
    · rename_i hx; exact fin_0 (Fo.n _) rfl hx rfl rfl
  | succ n ih =>
    intro k hk hk2
    haveI : ∀ k', Drw (f__law_tree (n + 1)) [(.sh, .lst (ns.map .str)), (.sh, .int k')] .sh Fo.e (Good ns k') (k' ≤ n ∧ k' ≤ 1000) := fun k' => ⟨fun h => (ih k' h.1 h.2).h trivial⟩
    haveI := op_ix
    refine ⟨fun _ q => ?_⟩
    refine ep__law_tree ?_
    unfold b__law_tree
    close_w
    all_goals first
      | exact fin_0 Fo.t rfl trivial rfl rfl
      | exact fin_0 Fo.f rfl trivial rfl rfl
      | exact fin_0 (Fo.n _) rfl (by assumption) rfl rfl
      | exact fin_u (by assumption) rfl (by omega) rfl
      | (rw [half] at *; omega)
      | exact fin_b (by assumption) (by assumption) (by assumption) (by rw [half] at *; omega) rfl
      | exact fin_b (by assumption) (by assumption) (by assumption) (by omega) rfl
      | skip
end K04

end

section
set_option Elab.async false
set_option linter.all false
set_option maxRecDepth 100000
set_option maxHeartbeats 2000000
open PySem L2 VS
local macro_rules | `(tactic| lcg_sub) => `(tactic| focus ((repeat' (first | exact trivial | assumption | omega | (refine And.intro ?_ ?_) | (intro _))) <;> (first | assumption | omega | exact Nat.le_of_ble_eq_true rfl | (simp only [sizeLine_val, List.length_cons, List.length_nil, List.length_map, List.length_append, List.length_set, List.length_range] at *; omega) | (exfalso; omega) | (decide +kernel) | skip)))
local macro_rules | `(tactic| lcg_off) => `(tactic| (intro h; (try simp only [decide_eq_true_eq, decide_eq_false_iff_not, Bool.and_eq_true, Bool.or_eq_true, Bool.not_eq_true', Bool.not_eq_false', Bool.not_eq_true, Bool.and_eq_false_imp, Bool.or_eq_false_iff, reduceCtorEq, Bool.not_not, Bool.not_true, Bool.not_false, Classical.not_not, List.isEmpty_iff, List.isEmpty_eq_false_iff, List.append_eq_nil_iff, List.cons_ne_nil, and_false, ne_eq, not_true_eq_false, not_false_eq_true, List.map_eq_nil_iff, str_inj, String.reduceEq, List.mem_cons, List.not_mem_nil, or_false, false_or, or_self] at h); (try (exact absurd h (by decide +kernel)))))
local macro_rules | `(tactic| lcg_src) => `(tactic| first
  | (with_reducible refine side_mk ?_; lcg_sub)
  | (with_reducible refine ont_mk ?_; lcg_off) | (with_reducible refine onf_mk ?_; lcg_off)
  | (with_reducible refine g_C ?_; first | (with_reducible refine x_ev ?_ ?_) | (with_reducible refine x_fz ?_) | (with_reducible refine w_draw ?_ ?_ ?_) | (with_reducible refine x_op2 ?_) | (with_reducible refine x_pl ?_) | (with_reducible refine x_ix ?_) | (with_reducible refine x_ixn ?_) | (with_reducible refine w_callP ?_) | (with_reducible refine w_appD ?_ ?_) | (with_reducible refine w_appV ?_ ?_) | (with_reducible refine w_appD2 ?_ ?_ ?_) | (with_reducible refine x_b1 ?_) | (with_reducible refine x_if ?_) | (with_reducible refine x_tup ?_) | (with_reducible refine x_lstZ ?_) | (with_reducible refine x_lstH ?_) | (with_reducible refine x_lc ?_) | (with_reducible refine x_join ?_ ?_) | (with_reducible refine x_app ?_) | (with_reducible refine x_ixk ?_) | (with_reducible refine x_ixkn ?_) | (with_reducible refine x_sl ?_ ?_ ?_))
  | (with_reducible refine g_T ?_; first | (with_reducible refine w_wtest ?_ ?_ ?_) | (with_reducible refine w_evT ?_ ?_) | (with_reducible refine x_bl ?_) | (with_reducible refine x_tru ?_) | (with_reducible refine x_not ?_) | (with_reducible refine x_and ?_) | (with_reducible refine x_or ?_) | (with_reducible refine w_pure ?_))
  | (with_reducible refine g_S ?_; first | (with_reducible refine w_asg ?_ ?_ ?_) | (with_reducible refine w_if ?_ ?_ ?_) | (with_reducible refine w_ret ?_ ?_) | (with_reducible refine w_drop ?_ ?_) | (with_reducible refine w_for ?_ ?_) | (with_reducible refine w_aug ?_ ?_) | (with_reducible refine w_skip ?_) | (with_reducible refine w_loop0 ?_) | (with_reducible refine w_loop1 ?_) | (with_reducible refine w_pure ?_) | (with_reducible refine x_asg ?_) | (with_reducible refine x_ret ?_) | (with_reducible refine x_drop ?_) | (with_reducible refine x_ifS ?_))
  | (with_reducible refine g_E ?_; first | (with_reducible refine w_tg ?_ ?_) | (with_reducible refine x_op2f ?_ ?_) | (with_reducible refine x_plf ?_ ?_) | (with_reducible refine x_ixf ?_ ?_) | (with_reducible refine x_ixnf ?_ ?_) | (with_reducible refine x_b1f ?_ ?_) | (with_reducible refine x_blf ?_) | (with_reducible refine x_truf ?_ ?_) | (with_reducible refine x_joinf ?_ ?_) | (with_reducible refine ex_int ?_ ?_) | (with_reducible refine x_ixkf ?_ ?_) | (with_reducible refine x_ixknf ?_ ?_) | (with_reducible refine x_slf ?_ ?_))
  | (with_reducible refine k_nx ?_) | (with_reducible refine k_rt ?_) | (with_reducible refine cur_mk ?_) | (with_reducible refine k_bk ?_) | (with_reducible refine k_ct ?_) | (with_reducible refine m_nx ?_) | (with_reducible refine m_bk ?_) | (with_reducible refine m_ct ?_) | (with_reducible refine m_rt ?_) | (with_reducible refine l_nx ?_) | (with_reducible refine l_ct ?_) | (with_reducible refine l_bk ?_) | (with_reducible refine l_rt ?_) | (with_reducible refine h_bk ?_) | (with_reducible refine h_rt ?_) | (with_reducible refine r_rt ?_) | (with_reducible refine f_rt ?_) | (with_reducible refine f_nx ?_) | (with_reducible refine and_tf ?_ ?_) | (with_reducible refine len_and ?_ ?_) | (with_reducible refine x_appf ?_ ?_)
  | (with_reducible refine alld_mk ?_; intro b q' hb; (try simp only [] at hb))
  | (with_reducible refine g_A ?_; first | (with_reducible refine a_cons ?_) | (with_reducible refine a_nil ?_)) | (with_reducible refine g_B ?_; first | (with_reducible refine w_bRef ?_) | (with_reducible refine w_bVal ?_) | (with_reducible refine w_bNil ?_)) | (with_reducible refine g_I ?_; first | (with_reducible refine x_evI ?_ ?_) | (with_reducible refine x_rng1 ?_))
  | (with_reducible exact r_nx))
local macro_rules | `(tactic| close_w) => `(tactic| (repeat' (first | (with_reducible refine w_seq ?_) | lcg_src)))
local macro_rules | `(tactic| o_reads) => `(tactic| (repeat' lcg_src))
/-! K04E: draws of parts; rows by paths. -/
namespace K04
open FO
instance {ns : List Str} {k : Int} : Drw (f__law_tree 30) [(.sh, .lst (ns.map .str)), (.sh, .int k)] .sh Fo.e (Good ns k) (0 < ns.length ∧ ns.length < 1000 ∧ k ≤ 29) := ⟨fun ⟨h1, h2, h3⟩ => (tree_ok ns ⟨h1, h2⟩ 29 k h3 (by omega)).h trivial⟩
instance : Drw f__law_nodes_drawn [] .sh D.int (fun k => 1 ≤ k ∧ k ≤ 24) True := ⟨fun _ q => by
  refine ep__law_nodes_drawn ?_
  unfold b__law_nodes_drawn
  close_w
  · exact ⟨_, _, _, ⟨by omega, by omega⟩, rfl, rfl⟩
  · exact ⟨_, _, _, ⟨by omega, by omega⟩, rfl, rfl⟩⟩
def PartsOk (ns : List Str) (n : Nat) (l : List Fo) : Prop := l.length = n ∧ ∀ ψ ∈ l, ψ.size ≤ 24 ∧ namesIn ns ψ
theorem parts_ok (ns : List Str) (rows : List R4) (hn : 0 < ns.length ∧ ns.length < 1000) (hr : rows.length ≤ 24) : Drw f__law_parts_for [(.sh, .lst (ns.map .str)), (.sh, .lst (rows.map encR))] .sh (fun l => D.lst (l.map Fo.e)) (PartsOk ns rows.length) True := ⟨fun _ q => by
  refine ep__law_parts_for ?_
  unfold b__law_parts_for
  close_w
  refine w_loop (xs := rows) (fun pre δ => ∃ (q : Dr) (l : List Fo), (∃ c4 c5 c6 c7, δ = [some (tyD, dS q), some (.sh, .lst (ns.map .str)), some (.sh, .lst (rows.map encR)), some (.lst .sh, .lst (l.map Fo.e)), c4, c5, c6, c7, none]) ∧ PartsOk ns pre.length l) ⟨q, [], ⟨_, _, _, _, rfl⟩, rfl, by simp⟩ ?_ ?_
  · rintro pre ⟨p, ψ, n, b⟩ post δ e ⟨q, l, ⟨c4, c5, c6, c7, rfl⟩, hl, hP⟩
    have hpl : pre.length ≤ 24 := by rw [e] at hr; simp at hr; omega
    have hf := List.length_filter_le (fun x : R4 => decide (cutD x.1 none (some (p.length : Int)) = p)) rows
    have hl' : l.length ≤ 24 := by rw [hl]; exact hpl
    have fin : ∀ (k : Int) (q' : Dr) (φ : Fo) (d4 d5 d6 d7 : Option (Ty × D)), Good ns k φ → k ≤ 24 → ∃ (q : Dr) (l' : List Fo), (∃ c4 c5 c6 c7, [some (tyD, dS q'), some (.sh, .lst (ns.map .str)), some (.sh, .lst (rows.map encR)), some (.lst .sh, .lst (l.map Fo.e ++ [φ.e])), d4, d5, d6, d7, none] = [some (tyD, dS q), some (.sh, .lst (ns.map .str)), some (.sh, .lst (rows.map encR)), some (.lst .sh, .lst (l'.map Fo.e)), c4, c5, c6, c7, none]) ∧ PartsOk ns (pre ++ [((p, ψ, n, b) : R4)]).length l' := fun k q' φ d4 d5 d6 d7 hg hk => by
      refine ⟨q', l ++ [φ], ⟨d4, d5, d6, d7, by simp⟩, by simp [hl], fun ψ hψ => ?_⟩
      rw [List.mem_append, List.mem_singleton] at hψ
      rcases hψ with hψ | rfl
      · exact hP ψ hψ
      · have := hg.1; exact ⟨by omega, hg.2⟩
    close_w
    · exact fin _ _ _ _ _ _ _ (by assumption) (by omega)
    · exact fin _ _ _ _ _ _ _ (by assumption) (by omega)
  · rintro δ ⟨q, l, ⟨c4, c5, c6, c7, rfl⟩, hP⟩
    close_w
    exact ⟨l, q, _, hP, rfl, rfl⟩⟩
/-! ### rows by paths -/
def rowAt (φ : Fo) (p : List Nat) (n : Nat) (b : Bool) (r : List Nat) : R4 := (p ++ r, (φ.at_ r).getD .t, n + (φ.above r).countP Fo.isNot, b || (φ.above r).any Fo.isWas)
theorem rows_eq (φ : Fo) (p : List Nat) (n : Nat) (b : Bool) : rowsF φ p n b = φ.paths.map (rowAt φ p n b) := by
  induction φ generalizing p n b with
  | u o a ih =>
    simp only [rowsF, Fo.paths, List.map_cons, List.map_map, ih]
    congr 1
    · simp [rowAt, Fo.at_, Fo.above]
    · apply List.map_congr_left
      intro r hr
      simp [rowAt, Fo.at_, Fo.above, Fo.kids, List.countP_cons, b2n]
      refine ⟨by omega, ?_⟩
      rw [Bool.or_assoc]
  | b o x y ihx ihy =>
    simp only [rowsF, Fo.paths, List.map_cons, List.map_append, List.map_map, ihx, ihy]
    congr 1
    · simp [rowAt, Fo.at_, Fo.above]
    · congr 1
      all_goals
        apply List.map_congr_left
        intro r hr
        simp [rowAt, Fo.at_, Fo.above, Fo.kids, List.countP_cons, Fo.isNot, Fo.isWas]
  | _ => simp [rowsF, Fo.paths, rowAt, Fo.at_, Fo.above]
instance {ns : List Str} {rows : List R4} : Drw f__law_parts_for [(.sh, .lst (ns.map .str)), (.sh, .lst (rows.map encR))] .sh (fun l => D.lst (l.map Fo.e)) (PartsOk ns rows.length) ((0 < ns.length ∧ ns.length < 1000) ∧ rows.length ≤ 24) := ⟨fun ⟨h1, h2⟩ => (parts_ok ns rows h1 h2).h trivial⟩
/-! ### what stands in the rows -/
/-- names of at most eight characters -/
def NameOk (ns : List Str) : Prop := ∀ x ∈ ns, x.length ≤ 8 ∧ PyData.strOk x = true
theorem fo_rp {ns : List Str} (hn : NameOk ns) {φ : Fo} (h : namesIn ns φ) : plD φ.e = true ∧ wtD φ.e ≤ φ.size * 40 ∧ dpD φ.e ≤ φ.dep + 1 := by
  induction φ with
  | n x =>
    have := hn x h
    have hl : x.cps.size ≤ 8 := this.1
    refine ⟨by simp [Fo.e, plD, plDs, this.2]; decide +kernel, ?_, by simp [Fo.e, dpD, dpDs, Fo.dep]⟩
    have : (Str.ofString "name").cps.size = 4 := by decide +kernel
    simp [Fo.e, wtD, wtDs, Fo.size, this]; omega
  | u o a ih =>
    obtain ⟨h1, h2, h3⟩ := ih h
    have hs : PyData.strOk o.s = true ∧ o.s.cps.size ≤ 5 := by cases o <;> decide +kernel
    refine ⟨by simp [Fo.e, plD, plDs, h1, hs], ?_, by simp [Fo.e, dpD, dpDs, Fo.dep]; omega⟩
    simp [Fo.e, wtD, wtDs, Fo.size]; omega
  | b o x y ihx ihy =>
    obtain ⟨h1, h2, h3⟩ := ihx h.1
    obtain ⟨g1, g2, g3⟩ := ihy h.2
    have hs : PyData.strOk o.s = true ∧ o.s.cps.size ≤ 5 := by cases o <;> decide +kernel
    refine ⟨by simp [Fo.e, plD, plDs, h1, g1, hs], ?_, by simp [Fo.e, dpD, dpDs, Fo.dep]; omega⟩
    simp [Fo.e, wtD, wtDs, Fo.size]; omega
  | t => refine ⟨by decide +kernel, by decide +kernel, by decide +kernel⟩
  | f => refine ⟨by decide +kernel, by decide +kernel, by decide +kernel⟩
theorem rp_fo {ns : List Str} (hn : NameOk ns) {φ : Fo} (h : namesIn ns φ) (hs : φ.size ≤ 50) : Rp φ.e := by
  obtain ⟨h1, h2, h3⟩ := fo_rp hn h
  have := dep_size φ
  exact ⟨h1, by omega, by omega⟩
theorem path_small {p : List Nat} (h : p.length ≤ 50) (hk : ∀ k ∈ p, k ≤ 1) : plD (encP p) = true ∧ wtD (encP p) ≤ 2050 ∧ dpD (encP p) ≤ 1 := by
  have h1 : plDs (p.map ni) = true := pls_map fun k m => by have := hk k m; simp [plD, ni]; omega
  have h2 : wtDs (p.map ni) ≤ p.length * (40 + 1) := wts_map fun k m => by simp [wtD]
  have h3 : dpDs (p.map ni) ≤ 0 := dps_map fun k m => by simp [dpD]
  refine ⟨by simpa [plD] using h1, ?_, by simp only [dpD]; omega⟩
  simp only [wtD]; omega
theorem paths_01 {φ : Fo} : ∀ p ∈ φ.paths, ∀ k ∈ p, k ≤ 1 := by
  induction φ with
  | u o a ih =>
    intro p h k hk
    simp [Fo.paths] at h
    rcases h with rfl | ⟨q, hq, rfl⟩
    · simp at hk
    · simp at hk; rcases hk with rfl | hk
      · omega
      · exact ih q hq k hk
  | b o x y ihx ihy =>
    intro p h k hk
    simp [Fo.paths] at h
    rcases h with rfl | ⟨q, hq, rfl⟩ | ⟨q, hq, rfl⟩
    · simp at hk
    · simp at hk; rcases hk with rfl | hk
      · omega
      · exact ihx q hq k hk
    · simp at hk; rcases hk with rfl | hk
      · omega
      · exact ihy q hq k hk
  | _ => intro p h k hk; simp [Fo.paths] at h; subst h; simp at hk
theorem kept_sub {φ : Fo} : ∀ p ∈ φ.kept, p ∈ φ.paths := by
  induction φ with
  | u o a ih =>
    intro p h
    simp [Fo.kept] at h
    simp [Fo.paths]
    rcases h with ⟨q, hq, rfl⟩ | ⟨_, rfl⟩
    · exact .inr ⟨q, ih q hq, rfl⟩
    · exact .inl rfl
  | b o x y ihx ihy =>
    intro p h
    simp [Fo.kept] at h
    simp [Fo.paths]
    rcases h with ⟨q, hq, rfl⟩ | ⟨q, hq, rfl⟩ | ⟨_, rfl⟩
    · exact .inr (.inl ⟨q, ihx q hq, rfl⟩)
    · exact .inr (.inr ⟨q, ihy q hq, rfl⟩)
    · exact .inl rfl
  | _ => intro p h; simp [Fo.kept] at h
theorem rp_paths {φ : Fo} (h : φ.size ≤ 50) {l : List (List Nat)} (hs : ∀ p ∈ l, p ∈ φ.paths) (hl : l.length ≤ 50) : Rp (.tup (l.map encP)) :=
  rp_tup (B := 2050) (dp := 1) (fun p m => path_small (by have := paths_dep φ p (hs p m); have := dep_size φ; omega) (paths_01 p (hs p m))) (by omega) (by omega)
theorem rp_names {l ns : List Str} (hn : NameOk ns) (hs : ∀ x ∈ l, x ∈ ns) (hl : l.length ≤ 50) : Rp (.tup (l.map .str)) :=
  rp_tup (B := 8) (dp := 0) (fun x m => ⟨by simp [plD, (hn x (hs x m)).2], by simp only [wtD]; exact (hn x (hs x m)).1, by simp [dpD]⟩) (by omega) (by omega)
theorem name_at {ns : List Str} {φ : Fo} (h : namesIn ns φ) : ∀ {p : List Nat} {x : Str}, φ.nameAt p = some x → x ∈ ns := by
  induction φ with
  | n y =>
    intro p x hx
    cases p with
    | nil => simp [Fo.nameAt, Fo.at_, Fo.nameOf] at hx; subst hx; exact h
    | cons k p => simp [Fo.nameAt, Fo.at_, Fo.kids] at hx
  | u o a ih =>
    intro p x hx
    match p with
    | [] => simp [Fo.nameAt, Fo.at_, Fo.nameOf] at hx
    | 0 :: p => exact ih h (p := p) (by simpa [Fo.nameAt, Fo.at_, Fo.kids] using hx)
    | (k + 1) :: p => simp [Fo.nameAt, Fo.at_, Fo.kids] at hx
  | b o a c iha ihc =>
    intro p x hx
    match p with
    | [] => simp [Fo.nameAt, Fo.at_, Fo.nameOf] at hx
    | 0 :: p => exact iha h.1 (p := p) (by simpa [Fo.nameAt, Fo.at_, Fo.kids] using hx)
    | 1 :: p => exact ihc h.2 (p := p) (by simpa [Fo.nameAt, Fo.at_, Fo.kids] using hx)
    | (k + 2) :: p => simp [Fo.nameAt, Fo.at_, Fo.kids] at hx
  | _ =>
    intro p x hx
    cases p with
    | nil => simp [Fo.nameAt, Fo.at_, Fo.nameOf] at hx
    | cons k p => simp [Fo.nameAt, Fo.at_, Fo.kids] at hx
theorem once_mem {α : Type} [DecidableEq α] {x : α} : ∀ {xs acc : List α}, x ∈ xs.foldl once1 acc → x ∈ acc ∨ x ∈ xs
  | [], acc, h => .inl h
  | y :: xs, acc, h => by
    rcases once_mem (xs := xs) h with h | h
    · unfold once1 at h
      split at h
      · exact .inl h
      · rw [List.mem_append, List.mem_singleton] at h
        exact h.imp id fun e => by simp [e]
    · exact .inr (by simp [h])
theorem onceEach_mem {α : Type} [DecidableEq α] {x : α} {xs : List α} (h : x ∈ onceEach xs) : x ∈ xs := (once_mem h).elim (by simp) id
end K04

end

section
set_option Elab.async false
set_option linter.all false
set_option maxRecDepth 100000
set_option maxHeartbeats 2000000
open PySem L2 VS
local macro_rules | `(tactic| lcg_sub) => `(tactic| focus ((repeat' (first | exact trivial | assumption | omega | (refine And.intro ?_ ?_) | (intro _))) <;> (first | assumption | omega | exact Nat.le_of_ble_eq_true rfl | (simp only [sizeLine_val, List.length_cons, List.length_nil, List.length_map, List.length_append, List.length_set, List.length_range] at *; omega) | (exfalso; omega) | (decide +kernel) | skip)))
local macro_rules | `(tactic| lcg_off) => `(tactic| (intro h; (try simp only [decide_eq_true_eq, decide_eq_false_iff_not, Bool.and_eq_true, Bool.or_eq_true, Bool.not_eq_true', Bool.not_eq_false', Bool.not_eq_true, Bool.and_eq_false_imp, Bool.or_eq_false_iff, reduceCtorEq, Bool.not_not, Bool.not_true, Bool.not_false, Classical.not_not, List.isEmpty_iff, List.isEmpty_eq_false_iff, List.append_eq_nil_iff, List.cons_ne_nil, and_false, ne_eq, not_true_eq_false, not_false_eq_true, List.map_eq_nil_iff, str_inj, String.reduceEq, List.mem_cons, List.not_mem_nil, or_false, false_or, or_self] at h); (try (exact absurd h (by decide +kernel)))))
local macro_rules | `(tactic| lcg_src) => `(tactic| first
  | (with_reducible refine side_mk ?_; lcg_sub)
  | (with_reducible refine ont_mk ?_; lcg_off) | (with_reducible refine onf_mk ?_; lcg_off)
  | (with_reducible refine g_C ?_; first | (with_reducible refine x_ev ?_ ?_) | (with_reducible refine x_fz ?_) | (with_reducible refine w_draw ?_ ?_ ?_) | (with_reducible refine x_op2 ?_) | (with_reducible refine x_pl ?_) | (with_reducible refine x_ix ?_) | (with_reducible refine x_ixn ?_) | (with_reducible refine w_callP ?_) | (with_reducible refine w_appD ?_ ?_) | (with_reducible refine w_appV ?_ ?_) | (with_reducible refine w_appD2 ?_ ?_ ?_) | (with_reducible refine x_b1 ?_) | (with_reducible refine x_if ?_) | (with_reducible refine x_tup ?_) | (with_reducible refine x_lstZ ?_) | (with_reducible refine x_lstH ?_) | (with_reducible refine x_lc ?_) | (with_reducible refine x_join ?_ ?_) | (with_reducible refine x_app ?_) | (with_reducible refine x_ixk ?_) | (with_reducible refine x_ixkn ?_) | (with_reducible refine x_sl ?_ ?_ ?_))
  | (with_reducible refine g_T ?_; first | (with_reducible refine w_wtest ?_ ?_ ?_) | (with_reducible refine w_evT ?_ ?_) | (with_reducible refine x_bl ?_) | (with_reducible refine x_tru ?_) | (with_reducible refine x_not ?_) | (with_reducible refine x_and ?_) | (with_reducible refine x_or ?_) | (with_reducible refine w_pure ?_))
  | (with_reducible refine g_S ?_; first | (with_reducible refine w_asg ?_ ?_ ?_) | (with_reducible refine w_if ?_ ?_ ?_) | (with_reducible refine w_ret ?_ ?_) | (with_reducible refine w_drop ?_ ?_) | (with_reducible refine w_for ?_ ?_) | (with_reducible refine w_aug ?_ ?_) | (with_reducible refine w_skip ?_) | (with_reducible refine w_loop0 ?_) | (with_reducible refine w_loop1 ?_) | (with_reducible refine w_pure ?_) | (with_reducible refine x_asg ?_) | (with_reducible refine x_ret ?_) | (with_reducible refine x_drop ?_) | (with_reducible refine x_ifS ?_))
  | (with_reducible refine g_E ?_; first | (with_reducible refine w_tg ?_ ?_) | (with_reducible refine x_op2f ?_ ?_) | (with_reducible refine x_plf ?_ ?_) | (with_reducible refine x_ixf ?_ ?_) | (with_reducible refine x_ixnf ?_ ?_) | (with_reducible refine x_b1f ?_ ?_) | (with_reducible refine x_blf ?_) | (with_reducible refine x_truf ?_ ?_) | (with_reducible refine x_joinf ?_ ?_) | (with_reducible refine ex_int ?_ ?_) | (with_reducible refine x_ixkf ?_ ?_) | (with_reducible refine x_ixknf ?_ ?_) | (with_reducible refine x_slf ?_ ?_))
  | (with_reducible refine k_nx ?_) | (with_reducible refine k_rt ?_) | (with_reducible refine cur_mk ?_) | (with_reducible refine k_bk ?_) | (with_reducible refine k_ct ?_) | (with_reducible refine m_nx ?_) | (with_reducible refine m_bk ?_) | (with_reducible refine m_ct ?_) | (with_reducible refine m_rt ?_) | (with_reducible refine l_nx ?_) | (with_reducible refine l_ct ?_) | (with_reducible refine l_bk ?_) | (with_reducible refine l_rt ?_) | (with_reducible refine h_bk ?_) | (with_reducible refine h_rt ?_) | (with_reducible refine r_rt ?_) | (with_reducible refine f_rt ?_) | (with_reducible refine f_nx ?_) | (with_reducible refine and_tf ?_ ?_) | (with_reducible refine len_and ?_ ?_) | (with_reducible refine x_appf ?_ ?_)
  | (with_reducible refine alld_mk ?_; intro b q' hb; (try simp only [] at hb))
  | (with_reducible refine g_A ?_; first | (with_reducible refine a_cons ?_) | (with_reducible refine a_nil ?_)) | (with_reducible refine g_B ?_; first | (with_reducible refine w_bRef ?_) | (with_reducible refine w_bVal ?_) | (with_reducible refine w_bNil ?_)) | (with_reducible refine g_I ?_; first | (with_reducible refine x_evI ?_ ?_) | (with_reducible refine x_rng1 ?_))
  | (with_reducible exact r_nx))
local macro_rules | `(tactic| close_w) => `(tactic| (repeat' (first | (with_reducible refine w_seq ?_) | lcg_src)))
local macro_rules | `(tactic| o_reads) => `(tactic| (repeat' lcg_src))
/-! K04F: the law's checks hold. -/
namespace K04
open FO
def nameR (r : R4) : Option D := (Fo.nameOf r.2.1).map .str
def bareR (r : R4) : Option D := if r.2.2.2 then none else (Fo.nameOf r.2.1).map .str
theorem fm_map {α β : Type} {f : α → Option β} {e : β → D} (l : List α) : l.filterMap (fun x => (f x).map e) = (l.filterMap f).map e := by
  rw [List.map_filterMap]
theorem fm_congr {α β : Type} {f g : α → Option β} : ∀ {l : List α}, (∀ x ∈ l, f x = g x) → l.filterMap f = l.filterMap g
  | [], _ => rfl
  | a :: l, h => by
    have ih := fm_congr (l := l) fun x m => h x (by simp [m])
    have ha := h a (by simp)
    simp only [List.filterMap_cons, ha, ih]
theorem names_rows (φ : Fo) : (rowsF φ [] 0 false).filterMap nameR = (φ.paths.filterMap φ.nameAt).map .str := by
  rw [rows_eq, List.filterMap_map, ← fm_map]
  refine fm_congr fun p hp => ?_
  obtain ⟨χ, hχ⟩ := paths_at hp
  simp [nameR, rowAt, Fo.nameAt, hχ]
theorem bare_rows (φ : Fo) : (rowsF φ [] 0 false).filterMap bareR = (φ.paths.filterMap φ.bareAt).map .str := by
  rw [rows_eq, List.filterMap_map, ← fm_map]
  refine fm_congr fun p hp => ?_
  obtain ⟨χ, hχ⟩ := paths_at hp
  simp only [bareR, rowAt, Function.comp, Fo.bareAt, Fo.nameAt, hχ, Bool.false_or]
  split <;> simp
theorem paths_rows (φ : Fo) : ((rowsF φ [] 0 false).filter fun _ => true).map (fun x => encP x.1) = φ.paths.map encP := by
  rw [List.filter_eq_self.mpr (by simp), rows_eq, List.map_map]
  apply List.map_congr_left
  intro p _
  simp [rowAt]
theorem kept_rows (φ : Fo) (p : List Nat) : ((backF φ p).reverse.filter fun r => decide (r.2.hd ∈ [("was" : Str), "once", "held", "since"])).map (fun r => r.1) = φ.kept.map (p ++ ·) := by
  induction φ generalizing p with
  | u o a ih =>
    simp only [backF, List.reverse_cons, List.filter_append, List.map_append, ih]
    cases o <;> simp [Fo.kept, Function.comp_def, U1.keeps, Fo.hd, U1.s, str_inj]
  | b o x y ihx ihy =>
    simp only [backF, List.reverse_cons, List.reverse_append, List.filter_append, List.map_append, ihx, ihy]
    cases o <;> simp [Fo.kept, Function.comp_def, B2.keeps, Fo.hd, B2.s, str_inj]
  | _ => simp [backF, Fo.kept, Fo.hd, str_inj]
theorem nm_len {φ : Fo} {f : List Nat → Option Str} (h : φ.size ≤ 50) : (φ.paths.filterMap f).length ≤ 50 := by
  have := List.length_filterMap_le f φ.paths
  rw [paths_len] at this; omega
theorem whole_ok {ns : List Str} (hn : NameOk ns) {φ : Fo} (hN : namesIn ns φ) (hs : φ.size ≤ 50) : ∃ os, f__law_whole_right [(.sh, φ.e), (.sh, .lst ((rowsF φ [] 0 false).map encR))] = .ok (.sh, .bl true) os := by
  refine en__law_whole_right ?_
  unfold b__law_whole_right
  have hd := dep_size φ
  have hl := rows_len φ [] 0 false
  have pl := paths_len φ
  have rpP : Rp (.tup (φ.paths.map encP)) := rp_paths hs (fun p m => m) (by omega)
  have rpK : Rp (.tup (φ.kept.map encP)) := rp_paths hs kept_sub (by have := kept_len φ; omega)
  have rpN : Rp (.tup (φ.names.map .str)) := rp_names hn (fun x m => by
    have := onceEach_mem m
    rw [List.mem_filterMap] at this
    obtain ⟨p, _, hx⟩ := this
    exact name_at hN hx) (Nat.le_trans (onceEach_len _) (nm_len hs))
  have rpB : Rp (.tup (φ.bare.map .str)) := rp_names hn (fun x m => by
    have := onceEach_mem m
    rw [List.mem_filterMap] at this
    obtain ⟨p, _, hx⟩ := this
    unfold Fo.bareAt at hx
    split at hx
    · cases hx
    · exact name_at hN hx) (Nat.le_trans (onceEach_len _) (nm_len hs))
  have hpr := paths_rows φ
  have hnr := names_rows φ
  have hbr := bare_rows φ
  have hkr : ((backF φ []).reverse.filter fun r => decide (r.2.hd ∈ [("was" : Str), "once", "held", "since"])).map (fun r => encP r.1) = φ.kept.map encP := by
    have h := congrArg (List.map encP) (kept_rows φ [])
    simpa [List.map_map, Function.comp_def] using h
  have l1 : (φ.paths.filterMap φ.nameAt).length ≤ 50 := nm_len hs
  have l2 : (φ.paths.filterMap φ.bareAt).length ≤ 50 := nm_len hs
  have hbl := back_len φ []
  generalize rowsF φ [] 0 false = R at hl hpr hnr hbr ⊢
  close_w
  · rw [hpr]; exact rpP
  · rename_i h; rw [hpr] at h; exact absurd rfl h
  refine x_lcG nameR (by rw [hl, sizeLine_val]; omega) ?_ ?_
  · rintro ⟨p, ψ, n, b⟩ hx
    dsimp only [encR]
    cases ψ with
    | u o a => cases o <;> close_w <;> refine ⟨rfl, ?_⟩ <;> close_w <;> refine ⟨rfl, ?_, ?_⟩ <;> close_w <;> simp [nameR, Fo.nameOf]
    | b o a c => cases o <;> close_w <;> refine ⟨rfl, ?_⟩ <;> close_w <;> refine ⟨rfl, ?_, ?_⟩ <;> close_w <;> simp [nameR, Fo.nameOf]
    | _ => close_w <;> refine ⟨rfl, ?_⟩ <;> close_w <;> refine ⟨rfl, ?_, ?_⟩ <;> close_w <;> simp [nameR, Fo.nameOf]
  rw [hnr]
  close_w
  · exact rpN
  · rename_i h; exact absurd rfl h
  refine x_lcG bareR (by rw [hl, sizeLine_val]; omega) ?_ ?_
  · rintro ⟨p, ψ, n, b⟩ hx
    dsimp only [encR]
    cases b <;> cases ψ with
    | u o a => cases o <;> close_w <;> refine ⟨rfl, ?_⟩ <;> close_w <;> refine ⟨rfl, ?_, ?_⟩ <;> close_w <;> simp [bareR, Fo.nameOf]
    | b o a c => cases o <;> close_w <;> refine ⟨rfl, ?_⟩ <;> close_w <;> refine ⟨rfl, ?_, ?_⟩ <;> close_w <;> simp [bareR, Fo.nameOf]
    | _ => close_w <;> refine ⟨rfl, ?_⟩ <;> close_w <;> refine ⟨rfl, ?_, ?_⟩ <;> close_w <;> simp [bareR, Fo.nameOf]
  rw [hbr]
  haveI := ix_hd
  close_w
  · exact rpB
  · rename_i h; exact absurd rfl h
  · rw [List.length_reverse, hbl, sizeLine_val]; omega
  · rw [hkr]; exact rpK
  · rename_i h
    simp only [List.mem_cons, List.not_mem_nil, or_false] at hkr
    rw [hkr] at h; exact absurd rfl h
  · exact rp_int (by omega) (by omega)
  · rw [hl]; exact rp_int (by omega) (by omega)
  · rw [hl]; simp
theorem whole_fn {ns : List Str} (hn : NameOk ns) {φ : Fo} (hN : namesIn ns φ) (hs : φ.size ≤ 50) : Fn f__law_whole_right [(.sh, φ.e), (.sh, .lst ((rowsF φ [] 0 false).map encR))] .sh (.bl true) True := ⟨fun _ => whole_ok hn hN hs⟩
/-! ### node by node -/
theorem at_names {ns : List Str} {φ χ : Fo} (h : namesIn ns φ) : ∀ {p : List Nat}, φ.at_ p = some χ → namesIn ns χ ∧ χ.size ≤ φ.size := by
  induction φ with
  | u o a ih =>
    intro p hp
    match p with
    | [] => cases hp; exact ⟨h, Nat.le_refl _⟩
    | 0 :: p => have := ih h (p := p) (by simpa [Fo.at_, Fo.kids] using hp); exact ⟨this.1, by simp [Fo.size]; omega⟩
    | (k + 1) :: p => simp [Fo.at_, Fo.kids] at hp
  | b o a c iha ihc =>
    intro p hp
    match p with
    | [] => cases hp; exact ⟨h, Nat.le_refl _⟩
    | 0 :: p => have := iha h.1 (p := p) (by simpa [Fo.at_, Fo.kids] using hp); exact ⟨this.1, by simp [Fo.size]; omega⟩
    | 1 :: p => have := ihc h.2 (p := p) (by simpa [Fo.at_, Fo.kids] using hp); exact ⟨this.1, by simp [Fo.size]; omega⟩
    | (k + 2) :: p => simp [Fo.at_, Fo.kids] at hp
  | _ =>
    intro p hp
    cases p with
    | nil => cases hp; exact ⟨h, Nat.le_refl _⟩
    | cons k p => simp [Fo.at_, Fo.kids] at hp
theorem rp_sgn (k : Nat) : Rp (.int (sgn k)) := by unfold sgn; split <;> exact rp_int (by omega) (by omega)
theorem nodes_ok {ns : List Str} (hn : NameOk ns) {φ : Fo} (hN : namesIn ns φ) (hs : φ.size ≤ 50) : ∃ os, f__law_nodes_right [(.sh, φ.e), (.sh, .lst ((rowsF φ [] 0 false).map encR))] = .ok (.sh, .bl true) os := by
  refine en__law_nodes_right ?_
  unfold b__law_nodes_right
  have hl := rows_len φ [] 0 false
  have hre := rows_eq φ [] 0 false
  close_w
  refine w_loop (xs := (rowsF φ [] 0 false).zipIdx) (fun pre δ => ∃ c2 c3 c4, δ = [some (.sh, φ.e), some (.sh, .lst ((rowsF φ [] 0 false).map encR)), c2, c3, c4]) ⟨_, _, _, rfl⟩ ?_ ?_
  · rintro pre ⟨⟨p, ψ, n, b⟩, i⟩ post δ e ⟨c2, c3, c4, rfl⟩
    have hm : ((p, ψ, n, b) : R4) ∈ rowsF φ [] 0 false := by
      have : (((p, ψ, n, b) : R4), i) ∈ (rowsF φ [] 0 false).zipIdx := by rw [e]; simp
      exact List.fst_mem_of_mem_zipIdx this
    rw [hre, List.mem_map] at hm
    obtain ⟨r, hr, hrow⟩ := hm
    obtain ⟨χ, hχ⟩ := paths_at hr
    simp only [rowAt, List.nil_append, hχ, Option.getD_some, Prod.mk.injEq, Nat.zero_add] at hrow
    obtain ⟨rfl, rfl, rfl, -⟩ := hrow
    obtain ⟨a1, a2⟩ := at_names hN hχ
    have rp1 : Rp χ.e := rp_fo hn a1 (by omega)
    have rp2 := rp_sgn ((φ.above r).countP Fo.isNot)
    haveI := part_fn (d := pathD r i) hχ
    haveI : Fn f_sign_at [(.sh, φ.e), (.sh, pathD r (i + 1))] .sh (.int (sgn ((φ.above r).countP Fo.isNot))) True := ⟨fun _ => sign_ok hχ⟩
    generalize hc : (φ.above r).countP Fo.isNot = c at *
    dsimp only [encR]
    close_w
    · exact rp_int (by omega) (by omega)
    · rename_i h
      rw [show sgn c = -1 by unfold sgn; rw [if_pos (by omega)]] at h
      exact absurd rfl h
    · exact ⟨_, _, _, rfl⟩
    · exact rp_int (by omega) (by omega)
    · rename_i h
      rw [show sgn c = 1 by unfold sgn; rw [if_neg (by omega)]] at h
      exact absurd rfl h
    · exact ⟨_, _, _, rfl⟩
  · rintro δ ⟨c2, c3, c4, rfl⟩
    close_w
    rfl
theorem nodes_fn {ns : List Str} (hn : NameOk ns) {φ : Fo} (hN : namesIn ns φ) (hs : φ.size ≤ 50) : Fn f__law_nodes_right [(.sh, φ.e), (.sh, .lst ((rowsF φ [] 0 false).map encR))] .sh (.bl true) True := ⟨fun _ => nodes_ok hn hN hs⟩
/-! ### changes -/
theorem put_names {ns : List Str} {φ ψ : Fo} (h : namesIn ns φ) (hψ : namesIn ns ψ) : ∀ {p : List Nat}, namesIn ns (φ.put p ψ) ∧ (φ.put p ψ).size ≤ φ.size + ψ.size := by
  induction φ with
  | u o a ih =>
    intro p
    match p with
    | [] => exact ⟨hψ, by simp [Fo.put]⟩
    | 0 :: p => have := ih h (p := p); exact ⟨this.1, by simp [Fo.put, Fo.size]; omega⟩
    | (k + 1) :: p => exact ⟨by simpa [Fo.put] using h, by simp [Fo.put]⟩
  | b o a c iha ihc =>
    intro p
    match p with
    | [] => exact ⟨hψ, by simp [Fo.put]⟩
    | 0 :: p => have := iha h.1 (p := p); exact ⟨⟨this.1, h.2⟩, by simp [Fo.put, Fo.size]; omega⟩
    | 1 :: p => have := ihc h.2 (p := p); exact ⟨⟨h.1, this.1⟩, by simp [Fo.put, Fo.size]; omega⟩
    | (k + 2) :: p => exact ⟨by simpa [Fo.put] using h, by simp [Fo.put]⟩
  | _ =>
    intro p
    cases p with
    | nil => exact ⟨hψ, by simp [Fo.put]⟩
    | cons k p => exact ⟨by simpa [Fo.put] using h, by simp [Fo.put]⟩
theorem put_back : ∀ {p : List Nat} {φ ψ χ : Fo}, φ.at_ p = some χ → (φ.put p ψ).at_ p = some ψ ∧ (φ.put p ψ).put p χ = φ
  | [], φ, ψ, χ, h => by cases h; exact ⟨by cases φ <;> rfl, by cases φ <;> simp [Fo.put] <;> cases ψ <;> rfl⟩
  | k :: p, φ, ψ, χ, h => by
    simp only [Fo.at_, Option.bind_eq_some_iff] at h
    obtain ⟨c, h1, h2⟩ := h
    obtain ⟨a1, a2⟩ := put_back (ψ := ψ) h2
    cases φ with
    | u o a => match k, h1 with
      | 0, h1 => cases h1; simp [Fo.put, Fo.at_, Fo.kids, a1, a2]
    | b o x y => match k, h1 with
      | 0, h1 => cases h1; simp [Fo.put, Fo.at_, Fo.kids, a1, a2]
      | 1, h1 => cases h1; simp [Fo.put, Fo.at_, Fo.kids, a1, a2]
    | _ => simp [Fo.kids] at h1
theorem pathD_rp {p : List Nat} {k : Nat} (h : p.length ≤ 50) (hk : ∀ j ∈ p, j ≤ 1) : Rp (pathD p k) := by
  have h1 : ∀ j ∈ p, plD (ni j) = true ∧ wtD (ni j) ≤ 40 ∧ dpD (ni j) ≤ 0 := fun j m => by have := hk j m; simp [plD, wtD, dpD, ni]; omega
  unfold pathD
  split
  · exact rp_tup h1 (by omega) (by omega)
  · exact rp_lst h1 (by omega) (by omega)
theorem with_fn {φ ψ χ : Fo} {p : List Nat} {d : D} [k : PathD d p] (hl : p.length < 60) (h : φ.at_ p = some χ) : Fn (f_with_part 60) [(.sh, φ.e), (.sh, d), (.sh, ψ.e)] .sh (φ.put p ψ).e True := ⟨fun _ => with_ok p 60 φ ψ χ d k hl h⟩
theorem changes_ok {ns : List Str} (hn : NameOk ns) {φ : Fo} (hN : namesIn ns φ) (hs : φ.size ≤ 24) {l : List Fo} (hl : PartsOk ns φ.size l) (c : Nat) : ∃ os, f__law_changes_right [(.sh, φ.e), (.sh, .lst ((rowsF φ [] 0 false).map encR)), (.sh, .lst (l.map Fo.e)), (.sh, .int (c : Nat))] = .ok (.sh, .bl true) os := by
  refine en__law_changes_right ?_
  unfold b__law_changes_right
  have hlen := rows_len φ [] 0 false
  have hre := rows_eq φ [] 0 false
  close_w
  refine w_loop (xs := (rowsF φ [] 0 false).zipIdx) (fun pre δ => ∃ c4 c5 c6 c7 c8, δ = [some (.sh, φ.e), some (.sh, .lst ((rowsF φ [] 0 false).map encR)), some (.sh, .lst (l.map Fo.e)), some (.sh, .int (c : Nat)), c4, c5, c6, c7, c8]) ⟨_, _, _, _, _, rfl⟩ ?_ ?_
  · rintro pre ⟨⟨p, ψ, n, b⟩, i⟩ post δ e ⟨c4, c5, c6, c7, c8, rfl⟩
    have hm0 : (((p, ψ, n, b) : R4), i) ∈ (rowsF φ [] 0 false).zipIdx := by rw [e]; simp
    have hi : i < (rowsF φ [] 0 false).length := by have := List.snd_lt_of_mem_zipIdx hm0; simpa using this
    have hm := List.fst_mem_of_mem_zipIdx hm0
    rw [hre, List.mem_map] at hm
    obtain ⟨r, hr, hrow⟩ := hm
    obtain ⟨χ, hχ⟩ := paths_at hr
    simp only [rowAt, List.nil_append, hχ, Option.getD_some, Prod.mk.injEq, Nat.zero_add] at hrow
    obtain ⟨rfl, rfl, rfl, -⟩ := hrow
    obtain ⟨a1, a2⟩ := at_names hN hχ
    have hil : i < l.length := by rw [hl.1]; omega
    have hpart := hl.2 (nth l (i : Int)) (LW.nth_mem hil)
    generalize hψ : nth l (i : Int) = ψ at hpart
    obtain ⟨b1, b2⟩ := put_names (p := r) hN hpart.2
    obtain ⟨d1, d2⟩ := put_back (ψ := ψ) hχ
    have hrl : r.length ≤ 24 := by have := paths_dep φ r hr; have := dep_size φ; omega
    have rpd : Rp (φ.put r ψ).e := rp_fo hn b1 (by omega)
    have rpp : Rp (pathD r i) := pathD_rp (by omega) (paths_01 r hr)
    have rpf : Rp φ.e := rp_fo hn hN (by omega)
    haveI : Fn f__law_put_in [(.sh, φ.e), (.sh, encP r), (.sh, ψ.e)] .sh (φ.put r ψ).e True := ⟨fun _ => put_in_ok hχ (by omega)⟩
    haveI := with_fn (φ := φ) (ψ := ψ) (d := pathD r i) (by omega) hχ
    haveI : Fn (f_with_part 60) [(.sh, (φ.put r ψ).e), (.sh, encP r), (.sh, χ.e)] .sh φ.e True := by
      have := with_fn (φ := φ.put r ψ) (ψ := χ) (d := encP r) (by omega) d1
      rwa [d2] at this
    haveI := whole_fn hn b1 (by omega : (φ.put r ψ).size ≤ 50)
    haveI : Ix .sh (.lst (l.map Fo.e)) (.int (i : Nat)) .sh ψ.e True := ⟨fun _ => by
      have := (inferInstance : Ix .sh (.lst (l.map Fo.e)) (.int (i : Int)) .sh (nth l (i : Int)).e _).h ⟨by omega, by omega⟩
      rwa [hψ] at this⟩
    generalize φ.put r ψ = due at *
    dsimp only [encR]
    close_w
    exact ⟨_, _, _, _, _, rfl⟩
  · rintro δ ⟨c4, c5, c6, c7, c8, rfl⟩
    close_w
    rfl
end K04

end

section
set_option Elab.async false
set_option linter.all false
set_option maxRecDepth 100000
set_option maxHeartbeats 2000000
open PySem L2 VS
local macro_rules | `(tactic| lcg_sub) => `(tactic| focus ((repeat' (first | exact trivial | assumption | omega | (refine And.intro ?_ ?_) | (intro _))) <;> (first | assumption | omega | exact Nat.le_of_ble_eq_true rfl | (simp only [sizeLine_val, List.length_cons, List.length_nil, List.length_map, List.length_append, List.length_set, List.length_range] at *; omega) | (exfalso; omega) | (decide +kernel) | skip)))
local macro_rules | `(tactic| lcg_off) => `(tactic| (intro h; (try simp only [decide_eq_true_eq, decide_eq_false_iff_not, Bool.and_eq_true, Bool.or_eq_true, Bool.not_eq_true', Bool.not_eq_false', Bool.not_eq_true, Bool.and_eq_false_imp, Bool.or_eq_false_iff, reduceCtorEq, Bool.not_not, Bool.not_true, Bool.not_false, Classical.not_not, List.isEmpty_iff, List.isEmpty_eq_false_iff, List.append_eq_nil_iff, List.cons_ne_nil, and_false, ne_eq, not_true_eq_false, not_false_eq_true, List.map_eq_nil_iff, str_inj, String.reduceEq, List.mem_cons, List.not_mem_nil, or_false, false_or, or_self] at h); (try (exact absurd h (by decide +kernel)))))
local macro_rules | `(tactic| lcg_src) => `(tactic| first
  | (with_reducible refine side_mk ?_; lcg_sub)
  | (with_reducible refine ont_mk ?_; lcg_off) | (with_reducible refine onf_mk ?_; lcg_off)
  | (with_reducible refine g_C ?_; first | (with_reducible refine x_ev ?_ ?_) | (with_reducible refine x_fz ?_) | (with_reducible refine w_draw ?_ ?_ ?_) | (with_reducible refine x_op2 ?_) | (with_reducible refine x_pl ?_) | (with_reducible refine x_ix ?_) | (with_reducible refine x_ixn ?_) | (with_reducible refine w_callP ?_) | (with_reducible refine w_appD ?_ ?_) | (with_reducible refine w_appV ?_ ?_) | (with_reducible refine w_appD2 ?_ ?_ ?_) | (with_reducible refine x_b1 ?_) | (with_reducible refine x_if ?_) | (with_reducible refine x_tup ?_) | (with_reducible refine x_lstZ ?_) | (with_reducible refine x_lstH ?_) | (with_reducible refine x_lc ?_) | (with_reducible refine x_join ?_ ?_) | (with_reducible refine x_app ?_) | (with_reducible refine x_ixk ?_) | (with_reducible refine x_ixkn ?_) | (with_reducible refine x_sl ?_ ?_ ?_))
  | (with_reducible refine g_T ?_; first | (with_reducible refine w_wtest ?_ ?_ ?_) | (with_reducible refine w_evT ?_ ?_) | (with_reducible refine x_bl ?_) | (with_reducible refine x_tru ?_) | (with_reducible refine x_not ?_) | (with_reducible refine x_and ?_) | (with_reducible refine x_or ?_) | (with_reducible refine w_pure ?_))
  | (with_reducible refine g_S ?_; first | (with_reducible refine w_asg ?_ ?_ ?_) | (with_reducible refine w_if ?_ ?_ ?_) | (with_reducible refine w_ret ?_ ?_) | (with_reducible refine w_drop ?_ ?_) | (with_reducible refine w_for ?_ ?_) | (with_reducible refine w_aug ?_ ?_) | (with_reducible refine w_skip ?_) | (with_reducible refine w_loop0 ?_) | (with_reducible refine w_loop1 ?_) | (with_reducible refine w_pure ?_) | (with_reducible refine x_asg ?_) | (with_reducible refine x_ret ?_) | (with_reducible refine x_drop ?_) | (with_reducible refine x_ifS ?_))
  | (with_reducible refine g_E ?_; first | (with_reducible refine w_tg ?_ ?_) | (with_reducible refine x_op2f ?_ ?_) | (with_reducible refine x_plf ?_ ?_) | (with_reducible refine x_ixf ?_ ?_) | (with_reducible refine x_ixnf ?_ ?_) | (with_reducible refine x_b1f ?_ ?_) | (with_reducible refine x_blf ?_) | (with_reducible refine x_truf ?_ ?_) | (with_reducible refine x_joinf ?_ ?_) | (with_reducible refine ex_int ?_ ?_) | (with_reducible refine x_ixkf ?_ ?_) | (with_reducible refine x_ixknf ?_ ?_) | (with_reducible refine x_slf ?_ ?_))
  | (with_reducible refine k_nx ?_) | (with_reducible refine k_rt ?_) | (with_reducible refine cur_mk ?_) | (with_reducible refine k_bk ?_) | (with_reducible refine k_ct ?_) | (with_reducible refine m_nx ?_) | (with_reducible refine m_bk ?_) | (with_reducible refine m_ct ?_) | (with_reducible refine m_rt ?_) | (with_reducible refine l_nx ?_) | (with_reducible refine l_ct ?_) | (with_reducible refine l_bk ?_) | (with_reducible refine l_rt ?_) | (with_reducible refine h_bk ?_) | (with_reducible refine h_rt ?_) | (with_reducible refine r_rt ?_) | (with_reducible refine f_rt ?_) | (with_reducible refine f_nx ?_) | (with_reducible refine and_tf ?_ ?_) | (with_reducible refine len_and ?_ ?_) | (with_reducible refine x_appf ?_ ?_)
  | (with_reducible refine alld_mk ?_; intro b q' hb; (try simp only [] at hb))
  | (with_reducible refine g_A ?_; first | (with_reducible refine a_cons ?_) | (with_reducible refine a_nil ?_)) | (with_reducible refine g_B ?_; first | (with_reducible refine w_bRef ?_) | (with_reducible refine w_bVal ?_) | (with_reducible refine w_bNil ?_)) | (with_reducible refine g_I ?_; first | (with_reducible refine x_evI ?_ ?_) | (with_reducible refine x_rng1 ?_))
  | (with_reducible exact r_nx))
local macro_rules | `(tactic| close_w) => `(tactic| (repeat' (first | (with_reducible refine w_seq ?_) | lcg_src)))
local macro_rules | `(tactic| o_reads) => `(tactic| (repeat' lcg_src))
/-! K04G: the law answers True. -/
namespace K04
open FO LW
theorem nameOk_right {us : List Str} (h : ∀ u ∈ us, rightName u = true) : NameOk us := fun x m => ⟨(right_len (h x m)).2, strOk_right (h x m)⟩
theorem namesIn_mono {a b : List Str} (h : ∀ x ∈ a, x ∈ b) {φ : Fo} (hφ : namesIn a φ) : namesIn b φ := by
  induction φ with
  | n x => exact h x hφ
  | u o y ih => exact ih hφ
  | b o x y ihx ihy => exact ⟨ihx hφ.1, ihy hφ.2⟩
  | _ => trivial
theorem law_true (ns : List Int) (hl : ns.length ≤ 63) : ∃ δ, f_law [(.sh, .lst (ns.map D.int))] = .ok (.sh, .bl true) δ := by
  refine en_law ?_
  unfold b_law
  close_w
  refine w_appP (begin_ok ns hl) ?_
  rintro _ os ⟨q, rfl⟩
  dsimp only
  close_w
  refine w_loop (xs := List.range (3 : Int).toNat) (fun pre δ => ∃ (q : Dr) (us : List Str), (∃ c, δ = [some (.sh, .lst (ns.map D.int)), some (tyD, dS q), some (.lst .sh, .lst (us.map .str)), c, none, none, none, none, none, none, none]) ∧ us.length = pre.length ∧ ∀ u ∈ us, rightName u = true) ⟨q, [], ⟨_, rfl⟩, rfl, by simp⟩ ?_ ?_
  · rintro pre i post δ e ⟨q, us, ⟨c, rfl⟩, hu, hr⟩
    have hpl : pre.length ≤ 3 := by have := congrArg List.length e; simp at this; omega
    haveI := fresh_ok us (by omega) hr
    close_w
    rename_i x q' hx
    refine ⟨q', us ++ [x], ⟨_, by simp; rfl⟩, by simp [hu], fun u hm => ?_⟩
    rw [List.mem_append, List.mem_singleton] at hm
    rcases hm with hm | rfl
    · exact hr u hm
    · exact hx.1
  · rintro δ ⟨q, us, ⟨c, rfl⟩, hu, hr⟩
    have hu3 : us.length = 3 := by simpa using hu
    close_w
    · simp; omega
    · simp; omega
    · rename_i n1 q1 h1 φ1 q2 g1 n2 q3 h2 φ2 q4 g2
      have := g1.1; omega
    · rename_i n1 q1 h1 φ1 q2 g1 n2 q3 h2 φ2 q4 g2
      have := g2.1; omega
    · rename_i n1 q1 h1 φ1 q2 g1 n2 q3 h2 φ2 q4 g2
      have := g1.1; rw [rows_len]; omega
    · rename_i n1 q1 h1 φ1 q2 g1 n2 q3 h2 φ2 q4 g2 l1 q5 p1
      have := g2.1; rw [rows_len]; omega
    · rename_i n1 q1 h1 φ1 q2 g1 n2 q3 h2 φ2 q4 g2 l1 q5 p1 l2 q6 p2 ch q7 hc
      have hn := nameOk_right hr
      have s1 : φ1.size ≤ 24 := by have := g1.1; omega
      have s2 : φ2.size ≤ 24 := by have := g2.1; omega
      have m2 : namesIn us φ2 := namesIn_mono (by simp) g2.2
      rw [rows_len] at p1 p2
      haveI := whole_fn hn g1.2 (by omega : φ1.size ≤ 50)
      haveI := whole_fn hn m2 (by omega : φ2.size ≤ 50)
      haveI := nodes_fn hn g1.2 (by omega : φ1.size ≤ 50)
      haveI := nodes_fn hn m2 (by omega : φ2.size ≤ 50)
      haveI : Fn f__law_changes_right [(.sh, φ1.e), (.sh, .lst ((rowsF φ1 [] 0 false).map encR)), (.sh, .lst (l1.map Fo.e)), (.sh, .int (ch : Nat))] .sh (.bl true) True := ⟨fun _ => changes_ok hn g1.2 s1 p1 ch⟩
      haveI : Fn f__law_changes_right [(.sh, φ2.e), (.sh, .lst ((rowsF φ2 [] 0 false).map encR)), (.sh, .lst (l2.map Fo.e)), (.sh, .int (ch : Nat))] .sh (.bl true) True := ⟨fun _ => changes_ok hn m2 s2 p2 ch⟩
      close_w
      rfl
end K04

end

set_option Elab.async false
set_option linter.all false
set_option maxRecDepth 100000
set_option maxHeartbeats 0
namespace K04
open PySem PySem.Spec PyProof.Rows L2 VS
abbrev R0 : PySem.W.OpenRow := PySem.W.OpenLaw.row PySem.Challenge.rw_porterlodge_k04_parts_of_formulas
def exB (K : PySem.W.Frag) : Bool := (ck K).all fun b => b
abbrev hk : PySem.W.Hook := He.hookX 5 [] fn [] [] exB
def ob (s : PySem.W.SharedT) : He.AlX := He.obsX 5 [] fn [] [] exB (HandSHeadRun.getT s)
theorem ob_eq (s : PySem.W.SharedT) : ob s = hk.obs s.abs := He.obsX_eq (HandSHeadRun.getT_eq s)
def loose : List PySem.Str := (["PREFIXES", "PAIRS", "children_of", "size_of", "KEEPERS", "paths_of", "part_at", "with_part", "sign_at", "names_in", "beneath_was", "bare_names", "remembered", "_law_begin", "_law_draw", "_law_pick", "_law_alphabet", "_law_reserved", "_law_right_name", "_law_fresh", "_law_tree", "_law_nodes_drawn", "_law_preorder", "_law_postorder", "_law_put_in", "_law_each_once", "_law_parts_for", "_law_row_of", "_law_whole_right", "_law_nodes_right", "_law_changes_right"] : List PySem.Str)
theorem run (w : World) : HandSHeadRun.RunEq R0 (PySem.W.view R0.prog [34]) hk ob 2000 loose w := by
  intro os
  kernel_rfl
theorem tx {w : World} {K : PySem.W.Frag} {h : Heap} {mg : Str → Option Value} (X : K.In h) (G : h.Ns mainGlobals mg) (c : He.SaysX [] fn [] [] exB w h K) : Tx fn ck K mg :=
  ⟨fun i d e => He.SaysD.def_ (He.SaysT.d c.t) i e, fun i b e => List.all_eq_true.mp c.more b (List.mem_of_getElem? e), fun x r e => match r, e with
    | some _, e => PySem.W.mg_of X G e
    | none, e => PySem.W.mg_none_of X G e⟩
end K04
open PySem PySem.W PySem.Calls PyProof.Rows
theorem PySem.Challenge.cw_porterlodge_k04_parts_of_formulas_holds : PySem.Challenge.rw_porterlodge_k04_parts_of_formulas.Holds := by
  w_on; o_law
  refine HandSHeadRun.head_any (r := OpenLaw.row PySem.Challenge.rw_porterlodge_k04_parts_of_formulas) (q := view (OpenLaw.row PySem.Challenge.rw_porterlodge_k04_parts_of_formulas).prog [34]) (H := K04.hk) (ob := K04.ob) (M := 2000) (loose := K04.loose) (d := HandSHeadRun.topDef (OpenLaw.row PySem.Challenge.rw_porterlodge_k04_parts_of_formulas).prog 34) (kwd := []) K04.ob_eq
    (by kernel_rfl) (fun s => by kernel_rfl) K04.run (by kernel_rfl) (by kernel_rfl) (by kernel_rfl) (by rfl) (by first | assumption | decide +kernel) (by decide +kernel) ⟨rfl, rfl, rfl, rfl, rfl, by decide +kernel⟩ ?hw ?hc
  case hw => w_witness2
  case hc =>
    refine VS.law_end (l := PySem.Challenge.rw_porterlodge_k04_parts_of_formulas) (fn := K04.fn) (ck := K04.ck) (f := K04.f_law) rfl (by decide) (by kernel_rfl) ⟨rfl, by decide, by decide⟩ (by kernel_rfl) (fun w h Y => ?_) (fun w K mg T => K04.law_fn T) K04.law_true
    obtain ⟨K, KX, c⟩ := Y
    exact ⟨K, KX, fun mg G => K04.tx KX G c⟩

