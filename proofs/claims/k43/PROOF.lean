import PyProof.Rows.All
import Wide.All
import OpenK.AllK
import Wide.FinOn
import HandS.ForMost
import HandS.HeadHook1
import HandS.Deep
import HandS.Exc
import HandS.ExcOwn
import HandS.TryOnly
import HandS.TupAny
import HandS.IsInst
import HandS.Style
import PyProof.StrBlock2
import HandS.RaiseMore
import HandS.TupLe
import HandS.WordsExc
import HandS.ExcIs
import HandS.Dict
import HandS.Text
import HandS.Replace
import KE.IntTextLaws
import KE.KIntText
import HandS.Codes
import HandS.StrMore
import PyProof.Rows.StrPins
import HandS.DictComp
import PySem.Challenge.RW_lectern_k43_layers_exactly
set_option Elab.async false
set_option linter.all false
set_option maxRecDepth 100000
set_option maxHeartbeats 4000000
namespace Mir
open PySem PySem.Spec L2

/-- pure data trees; texts are their codes -/
inductive D where
  | non | bl (b : Bool) | int (i : Int) | str (s : List Nat) | tup (ds : List D) | lst (ds : List D)
  | rol (ds : List D) | dct (kvs : List (D × D)) | rdc (kvs : List (D × D)) | ins (c : Str) (fs : List (Str × D)) | raw (v : V)
  deriving Inhabited

/-- which objects may change -/
def isM : HO → Bool
  | .lst _ => true
  | .dK _ => true
  | .dT _ => true
  | .set _ _ => true
  | .ins _ _ _ => true
  | _ => false
def Keeps (S : List Addr) (H H' : Hp) : Prop := ∀ a o, H a = some o → (isM o = false ∨ a ∉ S) → H' a = some o
theorem Keeps.refl (S : List Addr) (H : Hp) : Keeps S H H := fun _ _ h _ => h
theorem Keeps.mono {S T : List Addr} {H H' : Hp} (k : Keeps S H H') (h : ∀ a, a ∈ S → a ∈ T) : Keeps T H H' := fun a o e q => k a o e (q.imp id fun n m => n (h a m))
/-- steps in a row: what the second may change was there or is new -/
theorem Keeps.trans {S T : List Addr} {H H1 H2 : Hp} (k : Keeps S H H1) (k' : Keeps T H1 H2) (h : ∀ a, a ∈ T → a ∈ S ∨ H a = none) : Keeps S H H2 := fun a o e q => by
  refine k' a o (k a o e q) ?_
  rcases q with q | q
  · exact .inl q
  · refine .inr fun m => ?_
    rcases h a m with z | z
    · exact q z
    · rw [z] at e; cases e
theorem Keeps.same {H H' : Hp} (h : Same H H') (S : List Addr) : Keeps S H H' := fun a o e _ => h a o e
theorem Keeps.toSame {H H' : Hp} (k : Keeps [] H H') : Same H H' := fun a o e => k a o e (.inr (fun h => by cases h))
theorem Keeps.new {H : Hp} {p : Addr} {o : HO} (h : H p = none) (S : List Addr) : Keeps S H (upd H p o) := fun a u e _ => by
  rw [upd_ne (ne_of_none e h)]; exact e
theorem Keeps.upd {H : Hp} {p : Addr} {o u : HO} {S : List Addr} (h : H p = some u) (m : isM u = true) (hp : p ∈ S) : Keeps S H (upd H p o) := fun a w e q => by
  by_cases z : a = p
  · subst z
    rw [h] at e; cases e
    rcases q with q | q
    · rw [m] at q; cases q
    · exact absurd hp q
  · rw [upd_ne z]; exact e
theorem Keeps.none {S : List Addr} {H H' : Hp} (k : Keeps S H H') {a : Addr} (h : H' a = none) (ha : a ∉ S) : H a = none := by
  cases q : H a with
  | none => rfl
  | some o => rw [k a o q (.inr ha)] at h; cases h

/-- a tuple: tracked, or of the written part -/
def TqT (K : PySem.W.Frag) (H : Hp) (a : Addr) (xs : List V) : Prop :=
  H a = some (.tup xs) ∨ ∃ (o : Obj) (its : Array Value) (n : Nat), K.lookup a = some o ∧ o.cls = .type "tuple" ∧ o.data = .seq its n ∧ its.size ≤ sizeLine ∧ Vals xs its.toList
theorem TqT.sq {K : PySem.W.Frag} {H : Hp} {a : Addr} {xs : List V} (h : TqT K H a xs) : SqT K H a xs := by
  rcases h with h | h
  · exact .inl (.inl h)
  · exact .inr h
theorem TqT.of {K : PySem.W.Frag} {H : Hp} {a : Addr} {xs : List V} (h : H a = some (.tup xs)) : TqT K H a xs := .inl h
/-- a list that nobody changes any more: of the hand, or of the written part -/
def RoL (K : PySem.W.Frag) (H : Hp) (a : Addr) (xs : List V) : Prop :=
  (∃ o, H a = some (.frz o (.lst xs))) ∨ ∃ (o : Obj) (its : Array Value) (n : Nat), K.lookup a = some o ∧ o.cls = .type "list" ∧ o.dict = none ∧ o.data = .seq its n ∧ its.size ≤ sizeLine ∧ Vals xs its.toList
theorem RoL.sq {K : PySem.W.Frag} {H : Hp} {a : Addr} {xs : List V} (h : RoL K H a xs) : SqL K H a xs := by
  rcases h with ⟨o, h⟩ | h
  · exact .inl (.inr ⟨o, h⟩)
  · exact .inr h
def kD : Key → D
  | .inl i => .int i
  | .inr x => .str x.cps.toList
/-! ### a value shows a datum; the last list: the objects of it that may change -/
mutual
inductive Rp (K : PySem.W.Frag) (H : Hp) : V → D → List Addr → Prop
  | non : Rp K H .non .non []
  | bl {b : Bool} : Rp K H (.bl b) (.bl b) []
  | int {i : Int} : Rp K H (.int i) (.int i) []
  | str {x : Str} : x.cps.all (· < 0x110000) = true → Rp K H (.str x) (.str x.cps.toList) []
  | raw {v : V} : Rp K H v (.raw v) []
  | tup {a : Addr} {vs : List V} {ds : List D} {F : List Addr} : TqT K H a vs → Rps K H vs ds F → Rp K H (.ref a) (.tup ds) F
  | lst {a : Addr} {vs : List V} {ds : List D} {F : List Addr} : H a = some (.lst vs) → Rps K H vs ds F → Rp K H (.ref a) (.lst ds) (a :: F)
  | rol {a : Addr} {vs : List V} {ds : List D} : RoL K H a vs → Rps K H vs ds [] → Rp K H (.ref a) (.rol ds) []
  | dct {a : Addr} {kvs : List (Key × V)} {ds : List (D × D)} : H a = some (.dK kvs) → kvs.map (fun p => kD p.1) = ds.map (·.1) → Rps K H (kvs.map (·.2)) (ds.map (·.2)) [] → Rp K H (.ref a) (.dct ds) [a]
  | rdc {a : Addr} {kvs : List (Key × V)} {ds : List (D × D)} : (∃ o, H a = some (.frz o (.dK kvs))) → kvs.map (fun p => kD p.1) = ds.map (·.1) → Rps K H (kvs.map (·.2)) (ds.map (·.2)) [] → Rp K H (.ref a) (.rdc ds) []
  | ins {a C dx : Addr} {fs : List (Str × V)} {c : Str} {gs : List (Str × D)} {F : List Addr} : H a = some (.ins C dx fs) → C = He.ga K c → fs.map (·.1) = gs.map (·.1) → Rps K H (fs.map (·.2)) (gs.map (·.2)) F → Rp K H (.ref a) (.ins c gs) (a :: F)
inductive Rps (K : PySem.W.Frag) (H : Hp) : List V → List D → List Addr → Prop
  | nil : Rps K H [] [] []
  | cons {v : V} {d : D} {vs : List V} {ds : List D} {F G : List Addr} : Rp K H v d F → Rps K H vs ds G → Rps K H (v :: vs) (d :: ds) (F ++ G)
end

mutual
/-- no part may change -/
def imm : D → Bool
  | .lst _ => false
  | .dct _ => false
  | .ins _ _ => false
  | .tup ds => imms ds
  | .rol ds => imms ds
  | _ => true
def imms : List D → Bool
  | [] => true
  | d :: ds => imm d && imms ds
end

section
variable {K : PySem.W.Frag} {H H' : Hp}
theorem RoL.keep {S : List Addr} {a : Addr} {xs : List V} (k : Keeps S H H') (h : RoL K H a xs) : RoL K H' a xs := by
  rcases h with ⟨o, h⟩ | h
  · exact .inl ⟨o, k _ _ h (.inl rfl)⟩
  · exact .inr h
theorem TqT.keep {S : List Addr} {a : Addr} {xs : List V} (k : Keeps S H H') (h : TqT K H a xs) : TqT K H' a xs := by
  rcases h with h | h
  · exact .inl (k _ _ h (.inl rfl))
  · exact .inr h
mutual
theorem Rp.keep {S : List Addr} (k : Keeps S H H') : ∀ {v : V} {d : D} {F : List Addr}, Rp K H v d F → (∀ a ∈ F, a ∉ S) → Rp K H' v d F
  | _, _, _, .non, _ => .non
  | _, _, _, .bl, _ => .bl
  | _, _, _, .int, _ => .int
  | _, _, _, .str h, _ => .str h
  | _, _, _, .raw, _ => .raw
  | _, _, _, .tup h r, q => .tup (TqT.keep k h) (Rps.keep k r q)
  | _, _, _, .lst h r, q => .lst (k _ _ h (.inr (q _ List.mem_cons_self))) (Rps.keep k r fun a m => q a (List.mem_cons_of_mem _ m))
  | _, _, _, .rol h r, q => .rol (RoL.keep k h) (Rps.keep k r fun a m => by cases m)
  | _, _, _, .dct h c r, q => .dct (k _ _ h (.inr (q _ List.mem_cons_self))) c (Rps.keep k r fun a m => by cases m)
  | _, _, _, .rdc h c r, q => .rdc (by obtain ⟨o, h⟩ := h; exact ⟨o, k _ _ h (.inl rfl)⟩) c (Rps.keep k r fun a m => by cases m)
  | _, _, _, .ins h c n r, q => .ins (k _ _ h (.inr (q _ List.mem_cons_self))) c n (Rps.keep k r fun a m => q a (List.mem_cons_of_mem _ m))
theorem Rps.keep {S : List Addr} (k : Keeps S H H') : ∀ {vs : List V} {ds : List D} {F : List Addr}, Rps K H vs ds F → (∀ a ∈ F, a ∉ S) → Rps K H' vs ds F
  | _, _, _, .nil, _ => .nil
  | _, _, _, .cons h r, q => .cons (Rp.keep k h fun a m => q a (List.mem_append_left _ m)) (Rps.keep k r fun a m => q a (List.mem_append_right _ m))
end
mutual
theorem Rp.alloc : ∀ {v : V} {d : D} {F : List Addr}, Rp K H v d F → ∀ a ∈ F, ∃ o, H a = some o ∧ isM o = true
  | _, _, _, .non, a, m => by cases m
  | _, _, _, .bl, a, m => by cases m
  | _, _, _, .int, a, m => by cases m
  | _, _, _, .str h, a, m => by cases m
  | _, _, _, .raw, a, m => by cases m
  | _, _, _, .tup h r, a, m => Rps.alloc r a m
  | _, _, _, .lst h r, a, m => by
    rcases List.mem_cons.mp m with e | m
    · subst e; exact ⟨_, h, rfl⟩
    · exact Rps.alloc r a m
  | _, _, _, .rol h r, a, m => by cases m
  | _, _, _, .dct h c r, a, m => by
    rcases List.mem_cons.mp m with e | m
    · subst e; exact ⟨_, h, rfl⟩
    · cases m
  | _, _, _, .rdc h c r, a, m => by cases m
  | _, _, _, .ins h c n r, a, m => by
    rcases List.mem_cons.mp m with e | m
    · subst e; exact ⟨_, h, rfl⟩
    · exact Rps.alloc r a m
theorem Rps.alloc : ∀ {vs : List V} {ds : List D} {F : List Addr}, Rps K H vs ds F → ∀ a ∈ F, ∃ o, H a = some o ∧ isM o = true
  | _, _, _, .nil, a, m => by cases m
  | _, _, _, .cons h r, a, m => by
    rcases List.mem_append.mp m with m | m
    · exact Rp.alloc h a m
    · exact Rps.alloc r a m
end
theorem Rp.there {v : V} {d : D} {F : List Addr} (r : Rp K H v d F) {a : Addr} (m : a ∈ F) : H a ≠ none := fun e => by
  obtain ⟨o, h, _⟩ := r.alloc a m
  rw [e] at h; cases h
theorem Rps.there {vs : List V} {ds : List D} {F : List Addr} (r : Rps K H vs ds F) {a : Addr} (m : a ∈ F) : H a ≠ none := fun e => by
  obtain ⟨o, h, _⟩ := r.alloc a m
  rw [e] at h; cases h
mutual
theorem Rp.fpImm : ∀ {v : V} {d : D} {F : List Addr}, Rp K H v d F → imm d = true → F = []
  | _, _, _, .non, _ => rfl
  | _, _, _, .bl, _ => rfl
  | _, _, _, .int, _ => rfl
  | _, _, _, .str h, _ => rfl
  | _, _, _, .raw, _ => rfl
  | _, _, _, .tup h r, q => Rps.fpImm r (by simpa [imm] using q)
  | _, _, _, .lst h r, q => by simp [imm] at q
  | _, _, _, .rol h r, q => rfl
  | _, _, _, .dct h c r, q => by simp [imm] at q
  | _, _, _, .rdc h c r, q => rfl
  | _, _, _, .ins h c n r, q => by simp [imm] at q
theorem Rps.fpImm : ∀ {vs : List V} {ds : List D} {F : List Addr}, Rps K H vs ds F → imms ds = true → F = []
  | _, _, _, .nil, _ => rfl
  | _, _, _, .cons (d := d) (ds := ds) h r, q => by
    have q' : (imm d && imms ds) = true := by simpa only [imms] using q
    obtain ⟨q1, q2⟩ := Bool.and_eq_true_iff.mp q'
    rw [Rp.fpImm h q1, Rps.fpImm r q2]; rfl
end
theorem Rp.same {v : V} {d : D} {F : List Addr} (r : Rp K H v d F) (k : Keeps [] H H') : Rp K H' v d F := r.keep k fun _ _ m => by cases m
theorem Rps.same {vs : List V} {ds : List D} {F : List Addr} (r : Rps K H vs ds F) (k : Keeps [] H H') : Rps K H' vs ds F := r.keep k fun _ _ m => by cases m
theorem Rps.length {vs : List V} {ds : List D} {F : List Addr} (r : Rps K H vs ds F) : vs.length = ds.length := by
  induction ds generalizing vs F with
  | nil => cases r; rfl
  | cons d ds ih => cases r with
    | cons h r => rw [List.length_cons, List.length_cons, ih r]
theorem Rps.append {vs ws : List V} {ds es : List D} {F G : List Addr} (r : Rps K H vs ds F) (q : Rps K H ws es G) : Rps K H (vs ++ ws) (ds ++ es) (F ++ G) := by
  induction ds generalizing vs F with
  | nil => cases r; exact q
  | cons d ds ih => cases r with
    | cons h r => rw [List.append_assoc]; exact .cons h (ih r)
/-- the i-th part -/
theorem Rps.get {vs : List V} {ds : List D} {F : List Addr} (r : Rps K H vs ds F) {i : Nat} {d : D} (e : ds[i]? = some d) : ∃ v G, vs[i]? = some v ∧ Rp K H v d G ∧ ∀ a ∈ G, a ∈ F := by
  induction ds generalizing vs F i with
  | nil => simp at e
  | cons d' ds ih =>
    cases r with
    | cons h r =>
      cases i with
      | zero => simp at e; subst e; exact ⟨_, _, rfl, h, fun a m => List.mem_append_left _ m⟩
      | succ i =>
        obtain ⟨v, G, h1, h2, h3⟩ := ih r (by simpa using e)
        exact ⟨v, G, by simpa using h1, h2, fun a m => List.mem_append_right _ (h3 a m)⟩
theorem Rps.getV {vs : List V} {ds : List D} {F : List Addr} (r : Rps K H vs ds F) {i : Nat} {v : V} (e : vs[i]? = some v) : ∃ d G, ds[i]? = some d ∧ Rp K H v d G ∧ ∀ a ∈ G, a ∈ F := by
  have hl := r.length
  obtain ⟨hi, _⟩ := List.getElem?_eq_some_iff.mp e
  obtain ⟨v', G, h1, h2, h3⟩ := r.get (List.getElem?_eq_getElem (show i < ds.length by omega))
  rw [e] at h1; cases h1
  exact ⟨_, G, List.getElem?_eq_getElem (show i < ds.length by omega), h2, h3⟩
theorem Rps.takeD {vs : List V} {ds : List D} (r : Rps K H vs ds []) (n : Nat) : Rps K H (vs.take n) (ds.take n) [] ∧ Rps K H (vs.drop n) (ds.drop n) [] := by
  induction ds generalizing vs n with
  | nil => cases r; simp; exact Rps.nil
  | cons d ds ih =>
    generalize hF : ([] : List Addr) = F at r
    cases r with
    | cons h r =>
      obtain ⟨e1, e2⟩ := List.append_eq_nil_iff.mp hF.symm
      subst e1 e2
      cases n with
      | zero => exact ⟨Rps.nil, Rps.cons h r⟩
      | succ n => exact ⟨Rps.cons h (ih r n).1, (ih r n).2⟩
end
theorem imms_all : ∀ {ds : List D}, imms ds = ds.all imm
  | [] => rfl
  | d :: ds => by rw [imms, List.all_cons, imms_all]
end Mir

namespace Mir
open PySem PySem.Spec L2

abbrev E := List (Option D)
structure Ex where
  cls : Str
  fs : List (Str × D)
inductive Rs (α : Type) where | ok (a : α) | exc (x : Ex) | bad
inductive Re (α : Type) where | ok (a : α) (e : E) | exc (x : Ex) (e : E) | bad
/-- what a statement ends in -/
inductive SR where | nx (e : E) | rt (d : D) (e : E) | bk (e : E) | ct (e : E) | exc (x : Ex) (e : E) | bad
abbrev MB := E → Rs D
abbrev ME := E → Re D
abbrev MT := E → Re Bool
abbrev MS := E → SR
def Rs.bind {α β : Type} (r : Rs α) (f : α → Rs β) : Rs β := match r with
  | .ok a => f a
  | .exc x => .exc x
  | .bad => .bad
def Re.bind {α β : Type} (r : Re α) (f : α → E → Re β) : Re β := match r with
  | .ok a e => f a e
  | .exc x e => .exc x e
  | .bad => .bad
def Rs.of {α : Type} : Option α → Rs α
  | some a => .ok a
  | none => .bad
def Rs.at {α : Type} (r : Rs α) (e : E) : Re α := match r with
  | .ok a => .ok a e
  | .exc x => .exc x e
  | .bad => .bad

inductive RelS (K : PySem.W.Frag) (H : Hp) : St → E → List Addr → Prop
  | nil : RelS K H [] [] []
  | no {x : Option V} {σ : St} {e : E} {F : List Addr} : RelS K H σ e F → RelS K H (x :: σ) (none :: e) F
  | so {v : V} {d : D} {σ : St} {e : E} {G F : List Addr} : Rp K H v d G → RelS K H σ e F → RelS K H (some v :: σ) (some d :: e) (G ++ F)

section
variable {K : PySem.W.Frag} {H H' : Hp} {σ : St} {e : E} {F : List Addr}
theorem RelS.keep {S : List Addr} (r : RelS K H σ e F) (k : Keeps S H H') (h : ∀ a ∈ F, a ∉ S) : RelS K H' σ e F := by
  induction r with
  | nil => exact .nil
  | no r ih => exact .no (ih h)
  | so p r ih => exact .so (p.keep k fun a m => h a (List.mem_append_left _ m)) (ih fun a m => h a (List.mem_append_right _ m))
theorem RelS.same (r : RelS K H σ e F) (k : Keeps [] H H') : RelS K H' σ e F := r.keep k fun _ _ m => by cases m
theorem RelS.len (r : RelS K H σ e F) : σ.length = e.length := by
  induction r with
  | nil => rfl
  | no r ih => rw [List.length_cons, List.length_cons, ih]
  | so p r ih => rw [List.length_cons, List.length_cons, ih]
theorem RelS.there (r : RelS K H σ e F) {a : Addr} (m : a ∈ F) : H a ≠ none := by
  induction r with
  | nil => cases m
  | no r ih => exact ih m
  | so p r ih =>
    rcases List.mem_append.mp m with m | m
    · exact p.there m
    · exact ih m
theorem RelS.alloc (r : RelS K H σ e F) {a : Addr} (m : a ∈ F) : ∃ o, H a = some o ∧ isM o = true := by
  induction r with
  | nil => cases m
  | no r ih => exact ih m
  | so p r ih =>
    rcases List.mem_append.mp m with m | m
    · exact p.alloc a m
    · exact ih m
theorem RelS.take (r : RelS K H σ e F) {i : Nat} {d : D} (h : e[i]? = some (some d)) : ∃ v G F0, σ[i]? = some (some v) ∧ Rp K H v d G ∧ RelS K H σ (e.set i none) F0 ∧ F.Perm (G ++ F0) := by
  induction r generalizing i with
  | nil => simp at h
  | no r ih =>
    cases i with
    | zero => simp at h
    | succ i =>
      obtain ⟨v, G, F0, h1, h2, h3, h4⟩ := ih (by simpa using h)
      exact ⟨v, G, F0, by simpa using h1, h2, .no h3, h4⟩
  | @so v' d' σ' e' G' F' p r ih =>
    cases i with
    | zero =>
      have e1 : d' = d := by simpa using h
      subst e1
      exact ⟨v', G', F', rfl, p, .no r, .refl _⟩
    | succ i =>
      obtain ⟨v, G, F0, h1, h2, h3, h4⟩ := ih (by simpa using h)
      refine ⟨v, G, G' ++ F0, by simpa using h1, h2, .so p h3, ?_⟩
      have q : (G' ++ F').Perm (G' ++ (G ++ F0)) := List.Perm.append_left _ h4
      refine q.trans ?_
      rw [← List.append_assoc, ← List.append_assoc]
      exact List.Perm.append_right _ List.perm_append_comm
theorem RelS.put (r : RelS K H σ e F) {i : Nat} {v : V} {d : D} {G : List Addr} (h : e[i]? = some none) (p : Rp K H v d G) : ∃ F', RelS K H (σ.set i (some v)) (e.set i (some d)) F' ∧ F'.Perm (G ++ F) := by
  induction r generalizing i with
  | nil => simp at h
  | no r ih =>
    cases i with
    | zero => exact ⟨_, .so p r, .refl _⟩
    | succ i =>
      obtain ⟨F', h1, h2⟩ := ih (by simpa using h)
      exact ⟨F', .no h1, h2⟩
  | @so v' d' σ' e' G' F' q r ih =>
    cases i with
    | zero => simp at h
    | succ i =>
      obtain ⟨F2, h1, h2⟩ := ih (by simpa using h)
      refine ⟨G' ++ F2, .so q h1, ?_⟩
      refine (List.Perm.append_left G' h2).trans ?_
      rw [← List.append_assoc, ← List.append_assoc]
      exact List.Perm.append_right _ List.perm_append_comm
theorem set_self {α : Type} : ∀ {l : List α} {i : Nat} {a : α}, l[i]? = some a → l.set i a = l
  | [], _, _, h => by simp at h
  | x :: l, 0, a, h => by simp at h; subst h; rfl
  | x :: l, i + 1, a, h => by
    rw [List.set_cons_succ, set_self (l := l) (by simpa using h)]
theorem RelS.get (r : RelS K H σ e F) {i : Nat} {d : D} (h : e[i]? = some (some d)) : ∃ v G, σ[i]? = some (some v) ∧ Rp K H v d G ∧ ∀ a ∈ G, a ∈ F := by
  obtain ⟨v, G, F0, h1, h2, h3, h4⟩ := r.take h
  exact ⟨v, G, h1, h2, fun a m => h4.mem_iff.mpr (List.mem_append_left _ m)⟩
/-- whatever stands at a place may be given up -/
theorem RelS.drop (r : RelS K H σ e F) (i : Nat) : ∃ F0 G, RelS K H σ (e.set i none) F0 ∧ F.Perm (G ++ F0) := by
  cases q : e[i]? with
  | none =>
    rw [List.set_eq_of_length_le (List.getElem?_eq_none_iff.mp q)]
    exact ⟨F, [], r, .refl _⟩
  | some o =>
    cases o with
    | none => rw [set_self q]; exact ⟨F, [], r, .refl _⟩
    | some d =>
      obtain ⟨v, G, F0, h1, h2, h3, h4⟩ := r.take q
      exact ⟨F0, G, h3, h4⟩
end

/-! ### states in a row -/
structure Ev (K : PySem.W.Frag) (F : List Addr) (H : Hp) (σ' : St) (H' : Hp) (e' : E) (F' : List Addr) : Prop where
  k : Keeps F H H'
  r : RelS K H' σ' e' F'
  nd : F'.Nodup
  new : ∀ a ∈ F', a ∈ F ∨ H a = none
section
variable {K : PySem.W.Frag} {H H1 H2 : Hp} {σ σ1 σ2 : St} {e e1 e2 : E} {F F1 F2 : List Addr}
theorem Ev.trans (x : Ev K F H σ1 H1 e1 F1) (y : Ev K F1 H1 σ2 H2 e2 F2) : Ev K F H σ2 H2 e2 F2 where
  k := x.k.trans y.k x.new
  r := y.r
  nd := y.nd
  new := fun a m => by
    rcases y.new a m with h | h
    · exact x.new a h
    · by_cases z : a ∈ F
      · exact .inl z
      · exact .inr (x.k.none h z)
/-- nothing but new things -/
theorem Ev.grow (x : Ev K F H σ1 H1 e1 F1) (k : Keeps [] H1 H2) : Ev K F H σ1 H2 e1 F1 :=
  x.trans ⟨k.mono (fun _ m => by cases m), x.r.same k, x.nd, fun a m => Or.inl m⟩
theorem Ev.refl (r : RelS K H σ e F) (nd : F.Nodup) : Ev K F H σ H e F := ⟨.refl _ _, r, nd, fun _ m => .inl m⟩
theorem Ev.pure (r : RelS K H σ e F) (nd : F.Nodup) (k : Keeps [] H H1) : Ev K F H σ H1 e F := (Ev.refl r nd).grow k
/-- the first of the slots -/
theorem Ev.head {v : V} {d : D} (x : Ev K F H (some v :: σ1) H1 (some d :: e1) F1) : ∃ G F0, F1 = G ++ F0 ∧ Rp K H1 v d G ∧ Ev K F H σ1 H1 e1 F0 ∧ (∀ a ∈ G, a ∉ F0) ∧ G.Nodup ∧ ∀ a ∈ G, a ∈ F ∨ H a = none := by
  obtain ⟨k, r, nd, nw⟩ := x
  cases r with
  | so p r =>
    obtain ⟨n1, n2, n3⟩ := List.nodup_append.mp nd
    exact ⟨_, _, rfl, p, ⟨k, r, n2, fun a m => nw a (List.mem_append_right _ m)⟩, fun a m m' => n3 a m a m' rfl, n1, fun a m => nw a (List.mem_append_left _ m)⟩
theorem Ev.cons {v : V} {d : D} {G : List Addr} (x : Ev K F H σ1 H1 e1 F1) (p : Rp K H1 v d G) (hd : ∀ a ∈ G, a ∉ F1) (nd : G.Nodup) (nw : ∀ a ∈ G, a ∈ F ∨ H a = none) : Ev K F H (some v :: σ1) H1 (some d :: e1) (G ++ F1) where
  k := x.k
  r := .so p x.r
  nd := List.nodup_append.mpr ⟨nd, x.nd, fun a m b m' z => by subst z; exact hd a m m'⟩
  new := fun a m => by
    rcases List.mem_append.mp m with m | m
    · exact nw a m
    · exact x.new a m
/-- a new thing on top -/
theorem Ev.consNew {v : V} {d : D} {G : List Addr} (x : Ev K F H σ1 H1 e1 F1) (k : Keeps [] H1 H2) (p : Rp K H2 v d G) (nd : G.Nodup) (nw : ∀ a ∈ G, H1 a = none) : Ev K F H (some v :: σ1) H2 (some d :: e1) (G ++ F1) :=
  (x.grow k).cons p (fun a m m' => x.r.there m' (nw a m)) nd fun a m => by
    by_cases z : a ∈ F
    · exact .inl z
    · exact .inr (x.k.none (nw a m) z)
theorem Ev.consImm {v : V} {d : D} {G : List Addr} (x : Ev K F H σ1 H1 e1 F1) (p : Rp K H1 v d G) (hi : imm d = true) : Ev K F H (some v :: σ1) H1 (some d :: e1) F1 := by
  have e := p.fpImm hi
  subst e
  exact x.cons p (fun _ m => by cases m) .nil (fun _ m => by cases m)
/-- a thing that waits while the rest goes on -/
theorem Ev.frame {v : V} {d : D} (x : Ev K F H (some v :: σ1) H1 (some d :: e1) F1) {F0 : List Addr} (hF : ∀ G F', F1 = G ++ F' → RelS K H1 σ1 e1 F' → Rp K H1 v d G → F' = F0) (y : Ev K F0 H1 σ2 H2 e2 F2) : ∃ F3, Ev K F H (some v :: σ2) H2 (some d :: e2) F3 := by
  obtain ⟨G, F', eF, p, x', hd, n1, nw⟩ := x.head
  have e0 := hF G F' eF x'.r p
  subst e0
  refine ⟨_, (x'.trans y).cons (p.keep y.k hd) (fun a m m' => ?_) n1 nw⟩
  rcases y.new a m' with h | h
  · exact hd a m h
  · exact p.there m h
/-- the slot i is given a value -/
theorem Ev.store {v : V} {d : D} (x : Ev K F H (some v :: σ1) H1 (some d :: e1) F1) (i : Nat) (hi : i < e1.length) : ∃ F3, Ev K F H (σ1.set i (some v)) H1 (e1.set i (some d)) F3 := by
  obtain ⟨G, F', eF, p, x', hd, n1, nw⟩ := x.head
  obtain ⟨F0, G0, r0, pm⟩ := x'.r.drop i
  have hn : (e1.set i none)[i]? = some none := by rw [List.getElem?_set_self hi]
  obtain ⟨F3, r3, pm3⟩ := r0.put hn p
  rw [List.set_set] at r3
  have nd0 := (List.nodup_append.mp (pm.nodup_iff.mp x'.nd)).2.1
  have sub : ∀ a ∈ F0, a ∈ F' := fun a m => pm.mem_iff.mpr (List.mem_append_right _ m)
  refine ⟨F3, x'.k, r3, pm3.nodup_iff.mpr (List.nodup_append.mpr ⟨n1, nd0, fun a m b m' z => by subst z; exact hd a m (sub a m')⟩), fun a m => ?_⟩
  rcases List.mem_append.mp (pm3.mem_iff.mp m) with m | m
  · exact nw a m
  · exact x'.new a (sub a m)
/-- a slot is emptied onto the top -/
theorem Ev.move {d : D} {i : Nat} (x : Ev K F H σ1 H1 e1 F1) (h : e1[i]? = some (some d)) : ∃ v F3, σ1[i]? = some (some v) ∧ Ev K F H (some v :: σ1) H1 (some d :: e1.set i none) F3 := by
  obtain ⟨v, G, F0, h1, h2, h3, h4⟩ := x.r.take h
  exact ⟨v, _, h1, x.k, .so h2 h3, h4.nodup_iff.mp x.nd, fun a m => x.new a (h4.mem_iff.mpr m)⟩
/-- the top goes back to its own slot -/
theorem Ev.back {v : V} {d : D} {i : Nat} (x : Ev K F H (some v :: σ1) H1 (some d :: e1) F1) (hs : σ1[i]? = some (some v)) : ∃ F3, Ev K F H σ1 H1 (e1.set i (some d)) F3 := by
  have hl : σ1.length = e1.length := by
    have := x.r.len
    simpa using this
  obtain ⟨hi, _⟩ := List.getElem?_eq_some_iff.mp hs
  obtain ⟨F3, y⟩ := x.store i (by omega)
  rw [set_self hs] at y
  exact ⟨F3, y⟩
end

/-! ### exceptions -/
structure RpX (K : PySem.W.Frag) (H : Hp) (c : Value) (dx : Option Addr) (x : Ex) : Prop where
  cls : c = .ref (He.ga K x.cls)
  fs : (x.fs = [] ∧ dx = none) ∨ ∃ d vs, x.fs ≠ [] ∧ dx = some d ∧ H d = some (.xd vs) ∧ vs.map (·.1) = x.fs.map (·.1) ∧ Rps K H (vs.map (·.2)) (x.fs.map (·.2)) []
theorem RpX.same {K : PySem.W.Frag} {H H' : Hp} {c : Value} {dx : Option Addr} {x : Ex} {S : List Addr} (p : RpX K H c dx x) (k : Keeps S H H') : RpX K H' c dx x := by
  refine ⟨p.cls, p.fs.imp id ?_⟩
  rintro ⟨d, vs, h0, h1, h2, h3, h4⟩
  exact ⟨d, vs, h0, h1, k _ _ h2 (.inl rfl), h3, h4.keep k fun _ m => by cases m⟩

/-! ### the readings of mirrors -/
def tB (K : PySem.W.Frag) (W : WX) (m : MB) : TE := fun σ H Q => ∃ e F, RelS K H σ e F ∧ match m e with
  | .ok d => ∀ v H' G, Keeps [] H H' → Rp K H' v d G → Q v H'
  | .exc x => ∀ c dx H', Keeps [] H H' → RpX K H' c dx x → W c dx σ H'
  | .bad => False
def tN (K : PySem.W.Frag) (W : WX) (m : MB) : TE := fun σ H Q => ∃ e F, RelS K H σ e F ∧ match m e with
  | .ok d => ∀ v H' G, Keeps [] H H' → Rp K H' v d G → G.Nodup → (∀ a ∈ G, H a = none) → Q v H'
  | .exc x => ∀ c dx H', Keeps [] H H' → RpX K H' c dx x → W c dx σ H'
  | .bad => False
def tE (K : PySem.W.Frag) (W : WX) (m : ME) : TE := fun σ H Q => ∃ e F, RelS K H σ e F ∧ F.Nodup ∧ match m e with
  | .ok d e' => ∀ v H' F', Ev K F H (some v :: σ) H' (some d :: e') F' → Q v H'
  | .exc x e' => ∀ c dx H' F', Ev K F H σ H' e' F' → RpX K H' c dx x → W c dx σ H'
  | .bad => False
def tT (K : PySem.W.Frag) (W : WX) (m : MT) : TT := fun σ H Q => ∃ e F, RelS K H σ e F ∧ F.Nodup ∧ match m e with
  | .ok b e' => ∀ H' F', Ev K F H σ H' e' F' → Q b H'
  | .exc x e' => ∀ c dx H' F', Ev K F H σ H' e' F' → RpX K H' c dx x → W c dx σ H'
  | .bad => False
/-- the slots that keep their values -/
abbrev Zs := Nat → Bool
def Fz (Z : Zs) (σ σ' : St) : Prop := σ'.length = σ.length ∧ ∀ i, Z i = true → σ'[i]? = σ[i]?
theorem Fz.refl (Z : Zs) (σ : St) : Fz Z σ σ := ⟨rfl, fun _ _ => rfl⟩
theorem Fz.trans {Z : Zs} {σ σ1 σ2 : St} (a : Fz Z σ σ1) (b : Fz Z σ1 σ2) : Fz Z σ σ2 := ⟨b.1.trans a.1, fun i m => (b.2 i m).trans (a.2 i m)⟩
theorem Fz.sub {Z Y : Zs} {σ σ1 : St} (a : Fz Y σ σ1) (h : ∀ i, Z i = true → Y i = true) : Fz Z σ σ1 := ⟨a.1, fun i m => a.2 i (h i m)⟩
def z0 : Zs := fun _ => false
def zc (i : Nat) (Z : Zs) : Zs := fun j => j == i || Z j
def zw (vs : List Nat) : Zs := fun j => !vs.contains j
def tM (K : PySem.W.Frag) (W : WX) (Z : Zs) (m : MS) : TS := fun D σ H => ∃ e F, RelS K H σ e F ∧ F.Nodup ∧ match m e with
  | .nx e' => ∀ σ' H' F', Ev K F H σ' H' e' F' → Fz Z σ σ' → D.nx σ' H'
  | .rt d e' => ∀ v σ' H' F', Ev K F H (some v :: σ') H' (some d :: e') F' → Fz Z σ σ' → D.rt v H'
  | .bk e' => ∀ σ' H' F', Ev K F H σ' H' e' F' → Fz Z σ σ' → D.bk σ' H'
  | .ct e' => ∀ σ' H' F', Ev K F H σ' H' e' F' → Fz Z σ σ' → D.ct σ' H'
  | .exc x e' => ∀ c dx σ' H' F', Ev K F H σ' H' e' F' → Fz Z σ σ' → RpX K H' c dx x → W c dx σ' H'
  | .bad => False

theorem PE.mono {X : Cx} {e : Expr} {t t' : TE} (p : PE X e t) (h : ∀ σ H Q, t' σ H Q → t σ H Q) : PE X e t' := ⟨fun pins s σ H Q I q => p.run pins s σ H Q I (h _ _ _ q)⟩
theorem PE.or {X : Cx} {e : Expr} {t t' : TE} (p : PE X e t) (p' : PE X e t') : PE X e (fun σ H Q => t σ H Q ∨ t' σ H Q) := ⟨fun pins s σ H Q I q => q.elim (p.run pins s σ H Q I) (p'.run pins s σ H Q I)⟩
theorem PT.mono {X : Cx} {e : Expr} {t t' : TT} (p : PT X e t) (h : ∀ σ H Q, t' σ H Q → t σ H Q) : PT X e t' := ⟨fun pins s σ H Q I q => p.run pins s σ H Q I (h _ _ _ q)⟩
theorem PW.mono {X : Cx} {e : Expr} {t t' : TT} (p : PW X e t) (h : ∀ σ H Q, t' σ H Q → t σ H Q) : PW X e t' := ⟨fun wh pins s σ H Q I q => p.run wh pins s σ H Q I (h _ _ _ q)⟩
theorem PA.mono {X : Cx} {e : List Expr} {t t' : TA} (p : PA X e t) (h : ∀ σ H Q, t' σ H Q → t σ H Q) : PA X e t' := ⟨fun pos pins s σ H Q I q => p.run pos pins s σ H Q I (h _ _ _ q)⟩
theorem PS.mono {X : Cx} {e : Stmt} {t t' : TS} (p : PS X e t) (h : ∀ D σ H, t' D σ H → t D σ H) : PS X e t' := ⟨fun pins s σ H Q I q => p.run pins s σ H Q I (h _ _ _ q)⟩
theorem PSs.mono {X : Cx} {e : List Stmt} {t t' : TS} (p : PSs X e t) (h : ∀ D σ H, t' D σ H → t D σ H) : PSs X e t' := ⟨fun pins s σ H Q I q => p.run pins s σ H Q I (h _ _ _ q)⟩
theorem PI.or {X : Cx} {tg e : Expr} {t t' : TI} (p : PI X tg e t) (p' : PI X tg e t') : PI X tg e (fun σ H R => t σ H R ∨ t' σ H R) := ⟨fun pins s σ H Q I q => q.elim (p.run pins s σ H Q I) (p'.run pins s σ H Q I)⟩

section
variable {X : Cx} {W : WX} {x : Expr}
theorem nb {m : MB} (p : PE X x (tN X.K W m)) : PE X x (tB X.K W m) := PE.mono p fun σ H Q ⟨e, F, r, h⟩ => ⟨e, F, r, by
  split at h
  · exact fun v H' G k p _ _ => h v H' G k p
  · exact h
  · exact h⟩
/-- a new thing, as a step -/
def ofN (m : MB) : ME := fun e => (m e).at e
theorem ne {m : MB} (p : PE X x (tN X.K W m)) : PE X x (tE X.K W (ofN m)) := PE.mono p fun σ H Q ⟨e, F, r, nd, h⟩ => ⟨e, F, r, by
  unfold ofN Rs.at at h
  cases q : m e with
  | ok d => rw [q] at h; exact fun v H' G k p n1 n2 => h v H' _ ((Ev.refl r nd).consNew k p n1 n2)
  | exc y => rw [q] at h; exact fun c dx H' k p => h c dx H' _ (Ev.pure r nd k) p
  | bad => rw [q] at h; exact h⟩
/-- a thing that can't change, as a step -/
def own (m : MB) : ME := fun e => (m e).bind (fun d => if imm d = true then .ok d else .bad) |>.at e
theorem be {m : MB} (p : PE X x (tB X.K W m)) : PE X x (tE X.K W (own m)) := PE.mono p fun σ H Q ⟨e, F, r, nd, h⟩ => ⟨e, F, r, by
  unfold own at h
  cases q : m e with
  | ok d =>
    rw [q] at h
    by_cases hi : imm d = true
    · simp only [Rs.bind, hi, if_true, Rs.at] at h
      exact fun v H' G k p => h v H' F ((Ev.pure r nd k).consImm p hi)
    · simp only [Rs.bind, hi, Rs.at] at h
      exact h.elim
  | exc y => rw [q] at h; exact fun c dx H' k p => h c dx H' _ (Ev.pure r nd k) p
  | bad => rw [q] at h; exact h⟩
end
end Mir

namespace Mir
open PySem PySem.Spec L2

/-! ### names and constants -/
def bVar (i : Nat) : MB := fun e => match e[i]? with
  | some (some d) => .ok d
  | _ => .bad
def eMv (i : Nat) : ME := fun e => match e[i]? with
  | some (some d) => .ok d (e.set i none)
  | _ => .bad
def bC (d : D) : MB := fun _ => .ok d
/-- a text's codes -/
def lit (s : String) : List Nat := (Str.ofString s).cps.toList
theorem lit_eq (s : String) : lit s = s.toList.map Char.toNat := by
  unfold lit
  rw [Str.ofString_eq_toList]
theorem okC_of {l : List Nat} (h : ∀ c ∈ l, c < 0x110000) : (⟨l.toArray⟩ : Str).cps.all (· < 0x110000) = true := by
  rw [← Array.all_toList]
  exact List.all_eq_true.mpr fun c m => decide_eq_true (h c (by simpa using m))
theorem okC_mem {x : Str} (h : x.cps.all (· < 0x110000) = true) : ∀ c ∈ x.cps.toList, c < 0x110000 := fun c m => by
  rw [← Array.all_toList] at h
  exact of_decide_eq_true (List.all_eq_true.mp h c m)
theorem lit_ok (s : String) : (Str.ofString s).cps.all (· < 0x110000) = true := by
  rw [Str.ofString_eq_toList]
  refine okC_of fun c m => ?_
  obtain ⟨ch, _, rfl⟩ := List.mem_map.mp m
  have h := ch.valid
  simp only [UInt32.isValidChar, Nat.isValidChar] at h
  show ch.val.toNat < 0x110000
  omega
section
variable {X : Cx} {W : WX} {pos : Pos}
theorem x_var {i : Nat} {x : Str} (hN : X.N[i]? = some x := by rfl) (hv : Vis X.env.scope x := by first | exact Or.inl rfl | exact Or.inr (Or.inl rfl) | exact Or.inr (Or.inr rfl)) (hd : (x == ("__debug__" : Str)) = false := by decide)
    (hcd : (x == ("__classdict__" : Str)) = false := by decide) : PE X (.Name x pos) (tB X.K W (bVar i)) := PE.mono (pe_var hN hv hd hcd) fun σ H Q ⟨e, F, r, h⟩ => by
  unfold bVar at h
  cases q : e[i]? with
  | none => rw [q] at h; exact h.elim
  | some o =>
    rw [q] at h
    cases o with
    | none => exact h.elim
    | some d =>
      obtain ⟨v, G, h1, h2, h3⟩ := r.get q
      exact ⟨v, h1, h v H G (.refl _ _) h2⟩
theorem x_mv {i : Nat} {x : Str} (hN : X.N[i]? = some x := by rfl) (hv : Vis X.env.scope x := by first | exact Or.inl rfl | exact Or.inr (Or.inl rfl) | exact Or.inr (Or.inr rfl)) (hd : (x == ("__debug__" : Str)) = false := by decide)
    (hcd : (x == ("__classdict__" : Str)) = false := by decide) : PE X (.Name x pos) (tE X.K W (eMv i)) := PE.mono (pe_var hN hv hd hcd) fun σ H Q ⟨e, F, r, nd, h⟩ => by
  unfold eMv at h
  cases q : e[i]? with
  | none => rw [q] at h; exact h.elim
  | some o =>
    rw [q] at h
    cases o with
    | none => exact h.elim
    | some d =>
      obtain ⟨v, F3, h1, h2⟩ := (Ev.refl r nd).move q
      exact ⟨v, h1, h v H F3 h2⟩
theorem tC_N {v : V} {d : D} (p : ∀ H, Rp X.K H v d []) {σ : L2.St} {H : Hp} {Q : VK} (h : tN X.K W (bC d) σ H Q) : tC v σ H Q := by
  obtain ⟨e, F, r, h⟩ := h
  exact h v H [] (.refl _ _) (p H) .nil fun _ m => by cases m
theorem x_int {i : Int} {j : Nat} : PE X (.Constant (.int i) j pos) (tN X.K W (bC (.int i))) := PE.mono pe_int fun _ _ _ h => tC_N (fun _ => .int) h
theorem x_bl {b : Bool} {j : Nat} : PE X (.Constant (.bool b) j pos) (tN X.K W (bC (.bl b))) := PE.mono pe_bl fun _ _ _ h => tC_N (fun _ => .bl) h
theorem x_non {j : Nat} : PE X (.Constant .none j pos) (tN X.K W (bC .non)) := PE.mono pe_non fun _ _ _ h => tC_N (fun _ => .non) h
theorem x_str {s : String} {j : Nat} : PE X (.Constant (.str (Str.ofString s)) j pos) (tN X.K W (bC (.str (lit s)))) := PE.mono pe_str fun _ _ _ h => tC_N (fun _ => .str (lit_ok s)) h
theorem x_glob {x : Str} {v : V} {u : Value} {d : D} (hg : Gl X x) (hm : X.mg x = some u) (r : RelV v u) (p : ∀ H, Rp X.K H v d []) (hd : (x == ("__debug__" : Str)) = false := by decide) : PE X (.Name x pos) (tN X.K W (bC d)) :=
  PE.mono (pe_glob hg hm r hd) fun _ _ _ h => tC_N p h
theorem x_bltn {x : Str} {v : V} {u : Value} (hg : Gl X x) (hm : X.mg x = none) (hv : bootBuiltins x = some u) (r : RelV v u) (hn : x ≠ "__name__" := by decide) (hd : (x == ("__debug__" : Str)) = false := by decide) : PE X (.Name x pos) (tN X.K W (bC (.raw v))) :=
  PE.mono (pe_bltn hg hm hv r hn hd) fun _ _ _ h => tC_N (fun _ => .raw) h
end

/-! ### two operands -/
def OpN (K : PySem.W.Frag) (r : R2) (f : D → D → Option D) : Prop := ∀ {H : Hp} {v1 v2 : V} {d1 d2 : D} {G1 G2 : List Addr} {d : D} {Q : VK}, Rp K H v1 d1 G1 → Rp K H v2 d2 G2 → f d1 d2 = some d →
  (∀ v H' G, Keeps [] H H' → Rp K H' v d G → G.Nodup → (∀ a ∈ G, H a = none) → Q v H') → r v1 v2 H Q
def OpB (K : PySem.W.Frag) (r : R2) (f : D → D → Option D) : Prop := ∀ {H : Hp} {v1 v2 : V} {d1 d2 : D} {G1 G2 : List Addr} {d : D} {Q : VK}, Rp K H v1 d1 G1 → Rp K H v2 d2 G2 → f d1 d2 = some d →
  (∀ v H' G, Keeps [] H H' → Rp K H' v d G → Q v H') → r v1 v2 H Q
def immF (f : D → D → Option D) : D → D → Option D := fun a b => (f a b).bind fun d => if imm d = true then some d else none
theorem OpB.imm {K : PySem.W.Frag} {r : R2} {f : D → D → Option D} (o : OpB K r f) : OpN K r (immF f) := fun {H v1 v2 d1 d2 G1 G2 d Q} p1 p2 e h => by
  unfold immF at e
  cases q : f d1 d2 with
  | none => rw [q] at e; cases e
  | some d' =>
    rw [q] at e
    by_cases hi : Mir.imm d' = true
    · simp only [Option.bind_some, hi, if_true, Option.some.injEq] at e
      subst e
      exact o p1 p2 q fun v H' G k p => by
        have e0 := p.fpImm hi
        subst e0
        exact h v H' [] k p .nil fun _ m => by cases m
    · simp only [Option.bind_some, hi, if_false] at e
      cases e
/-- both read -/
def bin (f : D → D → Option D) (ma mb : MB) : MB := fun e => (ma e).bind fun a => (mb e).bind fun b => .of (f a b)
/-- both as steps -/
def binE (f : D → D → Option D) (ma mb : ME) : ME := fun e => (ma e).bind fun a e1 => (mb e1).bind fun b e2 => (Rs.of (f a b)).at e2
/-- a name, a step -/
def binV (f : D → D → Option D) (i : Nat) (mb : ME) : ME := fun e => match e[i]? with
  | some (some _) => (mb e).bind fun b e2 => match e2[i]? with
    | some (some a) => (Rs.of (f a b)).at e2
    | _ => .bad
  | _ => .bad
section
variable {K : PySem.W.Frag} {W : WX} {r : R2} {f : D → D → Option D} {ma mb : MB} {na nb' : ME} {σ : L2.St} {H : Hp} {Q : VK}
theorem op_bb (o : OpN K r f) (h : tN K W (bin f ma mb) σ H Q) : tOp r (tB K W ma) (tB K W mb) σ H Q := by
  obtain ⟨e, F, rl, h⟩ := h
  unfold bin at h
  refine ⟨e, F, rl, ?_⟩
  cases qa : ma e with
  | bad => rw [qa] at h; exact h
  | exc y => rw [qa] at h; exact h
  | ok a =>
    rw [qa] at h
    intro v1 H1 G1 k1 p1
    refine ⟨e, F, rl.same k1, ?_⟩
    cases qb : mb e with
    | bad => simp only [Rs.bind, qb] at h
    | exc y =>
      simp only [Rs.bind, qb] at h
      exact fun c dx H' k p => h c dx H' (k1.trans k fun _ m => by cases m) p
    | ok b =>
      simp only [Rs.bind, qb] at h
      intro v2 H2 G2 k2 p2
      cases qf : f a b with
      | none => rw [qf] at h; exact h.elim
      | some d =>
        rw [qf] at h
        have k12 : Keeps [] H H2 := k1.trans k2 fun _ m => by cases m
        exact o (p1.same k2) p2 qf fun v H' G k p n1 n2 => h v H' G (k12.trans k fun _ m => by cases m) p n1 fun z m => k12.none (n2 z m) fun m => by cases m
theorem op_bbB (o : OpB K r f) (h : tB K W (bin f ma mb) σ H Q) : tOp r (tB K W ma) (tB K W mb) σ H Q := by
  obtain ⟨e, F, rl, h⟩ := h
  unfold bin at h
  refine ⟨e, F, rl, ?_⟩
  cases qa : ma e with
  | bad => rw [qa] at h; exact h
  | exc y => rw [qa] at h; exact h
  | ok a =>
    rw [qa] at h
    intro v1 H1 G1 k1 p1
    refine ⟨e, F, rl.same k1, ?_⟩
    cases qb : mb e with
    | bad => simp only [Rs.bind, qb] at h
    | exc y =>
      simp only [Rs.bind, qb] at h
      exact fun c dx H' k p => h c dx H' (k1.trans k fun _ m => by cases m) p
    | ok b =>
      simp only [Rs.bind, qb] at h
      intro v2 H2 G2 k2 p2
      cases qf : f a b with
      | none => rw [qf] at h; exact h.elim
      | some d =>
        rw [qf] at h
        exact o (p1.same k2) p2 qf fun v H' G k p => h v H' G ((k1.trans k2 fun _ m => by cases m).trans k fun _ m => by cases m) p
/-- two steps in a row, the second's top over the first's -/
theorem ev2 {F F1 F2 : List Addr} {H1 H2 : Hp} {v1 v2 : V} {a b : D} {e1 e2 : E} (x : Ev K F H (some v1 :: σ) H1 (some a :: e1) F1)
    (y : ∀ F0, RelS K H1 σ e1 F0 → F0.Nodup → ∃ F2, Ev K F0 H1 (some v2 :: σ) H2 (some b :: e2) F2) : ∃ G1 G2 F3, Rp K H2 v1 a G1 ∧ Rp K H2 v2 b G2 ∧ Ev K F H σ H2 e2 F3 := by
  obtain ⟨G, F0, eF, p, x', hd, n1, nw⟩ := x.head
  obtain ⟨F2, y'⟩ := y F0 x'.r x'.nd
  obtain ⟨G2, F3, eF2, p2, y2, hd2, n2, nw2⟩ := y'.head
  exact ⟨G, G2, F3, p.keep y'.k hd, p2, x'.trans y2⟩
theorem op_ee (o : OpN K r f) (h : tE K W (binE f na nb') σ H Q) : tOp r (tE K W na) (tE K W nb') σ H Q := by
  obtain ⟨e, F, rl, nd, h⟩ := h
  unfold binE at h
  refine ⟨e, F, rl, nd, ?_⟩
  cases qa : na e with
  | bad => rw [qa] at h; exact h
  | exc y e1 => rw [qa] at h; exact h
  | ok a e1 =>
    rw [qa] at h
    intro v1 H1 F1 x
    obtain ⟨G, F0, eF, p, x', hd, n1, nw⟩ := x.head
    refine ⟨e1, F0, x'.r, x'.nd, ?_⟩
    cases qb : nb' e1 with
    | bad => simp only [Re.bind, qb] at h
    | exc y e2 =>
      simp only [Re.bind, qb] at h
      exact fun c dx H' F' y p => h c dx H' F' (x'.trans y) p
    | ok b e2 =>
      simp only [Re.bind, qb] at h
      intro v2 H2 F2 y
      obtain ⟨G2, F3, eF2, p2, y2, hd2, n2, nw2⟩ := y.head
      cases qf : f a b with
      | none => rw [qf] at h; exact h.elim
      | some d =>
        rw [qf] at h
        exact o (p.keep y.k hd) p2 qf fun v H' G' k p' n1' n2' => h v H' _ ((x'.trans y2).consNew k p' n1' n2')
theorem op_ve {i : Nat} (o : OpN K r f) (h : tE K W (binV f i nb') σ H Q) : tOp r (tVar i) (tE K W nb') σ H Q := by
  obtain ⟨e, F, rl, nd, h⟩ := h
  unfold binV at h
  cases q : e[i]? with
  | none => rw [q] at h; exact h.elim
  | some oo =>
    rw [q] at h
    cases oo with
    | none => exact h.elim
    | some d0 =>
      obtain ⟨v1, G0, hs, _, _⟩ := rl.get q
      refine ⟨v1, hs, e, F, rl, nd, ?_⟩
      cases qb : nb' e with
      | bad => simp only [Re.bind, qb] at h
      | exc y e2 =>
        simp only [Re.bind, qb] at h
        exact fun c dx H' F' y p => h c dx H' F' y p
      | ok b e2 =>
        simp only [Re.bind, qb] at h
        intro v2 H2 F2 y
        obtain ⟨G2, F3, eF2, p2, y2, hd2, n2, nw2⟩ := y.head
        cases q2 : e2[i]? with
        | none => rw [q2] at h; exact h.elim
        | some o2 =>
          rw [q2] at h
          cases o2 with
          | none => exact h.elim
          | some a =>
            obtain ⟨v1', G1, hs', p1, _⟩ := y2.r.get q2
            rw [hs] at hs'; cases hs'
            simp only at h
            cases qf : f a b with
            | none => rw [qf] at h; exact h.elim
            | some d =>
              rw [qf] at h
              exact o p1 p2 qf fun v H' G' k p' n1' n2' => h v H' _ (y2.consNew k p' n1' n2')
end
end Mir

namespace Mir
open PySem PySem.Spec L2

/-! ### data as the library's -/
mutual
def D.py : D → PyData
  | .non => .none
  | .bl b => .bool b
  | .int i => .int i
  | .str s => .str ⟨s.toArray⟩
  | .tup ds => .tuple (D.pys ds)
  | .lst ds => .list (D.pys ds)
  | .rol ds => .list (D.pys ds)
  | _ => .none
def D.pys : List D → List PyData
  | [] => []
  | d :: ds => d.py :: D.pys ds
end
/-- plain data of this depth -/
def sh : Nat → D → Bool
  | 0, d => match d with
    | .non => true
    | .bl _ => true
    | .int _ => true
    | .str _ => true
    | _ => false
  | n + 1, d => match d with
    | .non => true
    | .bl _ => true
    | .int _ => true
    | .str _ => true
    | .tup ds => ds.all (sh n)
    | .lst ds => ds.all (sh n)
    | .rol ds => ds.all (sh n)
    | _ => false
@[simp] theorem sh_non (n : Nat) : sh n .non = true := by cases n <;> rfl
@[simp] theorem sh_bl (n : Nat) (b : Bool) : sh n (.bl b) = true := by cases n <;> rfl
@[simp] theorem sh_int (n : Nat) (i : Int) : sh n (.int i) = true := by cases n <;> rfl
@[simp] theorem sh_str (n : Nat) (s : List Nat) : sh n (.str s) = true := by cases n <;> rfl
@[simp] theorem sh_tup (n : Nat) (ds : List D) : sh (n + 1) (.tup ds) = ds.all (sh n) := rfl
@[simp] theorem sh_lst (n : Nat) (ds : List D) : sh (n + 1) (.lst ds) = ds.all (sh n) := rfl
theorem sh_mono : ∀ {n : Nat} {d : D}, sh n d = true → sh (n + 1) d = true
  | 0, d, h => by cases d <;> first | rfl | (simp [sh] at h)
  | n + 1, d, h => by
    cases d with
    | tup ds => exact List.all_eq_true.mpr fun x m => sh_mono (List.all_eq_true.mp (show ds.all (sh n) = true from h) x m)
    | lst ds => exact List.all_eq_true.mpr fun x m => sh_mono (List.all_eq_true.mp (show ds.all (sh n) = true from h) x m)
    | rol ds => exact List.all_eq_true.mpr fun x m => sh_mono (List.all_eq_true.mp (show ds.all (sh n) = true from h) x m)
    | _ => first | rfl | (simp [sh] at h)
section
variable {K : PySem.W.Frag} {H : Hp}
theorem pys_canLay {n : Nat} (ih : ∀ {v : V} {d : D} {F : List Addr}, Rp K H v d F → sh n d = true → d.py.canLay0 = true ∧ d.py.depth ≤ n ∧ Dp K H v d.py) :
    ∀ {ds : List D} {vs : List V} {F : List Addr}, Rps K H vs ds F → ds.all (sh n) = true → PyData.canLayAll0 (D.pys ds) = true ∧ PyData.depthAll (D.pys ds) ≤ n ∧ DpAll K H vs (D.pys ds)
  | [], _, _, r, _ => by
    cases r
    simp only [D.pys, PyData.canLayAll0, PyData.depthAll]
    exact ⟨trivial, Nat.zero_le _, .nil⟩
  | d :: ds, _, _, r, h => by
    cases r with
    | cons p r =>
      obtain ⟨h1, h2⟩ := Bool.and_eq_true_iff.mp (show (sh n d && ds.all (sh n)) = true from h)
      obtain ⟨a1, a2, a3⟩ := ih p h1
      obtain ⟨b1, b2, b3⟩ := pys_canLay ih r h2
      simp only [D.pys, PyData.canLayAll0, PyData.depthAll, a1, b1]
      exact ⟨rfl, Nat.max_le.mpr ⟨a2, b2⟩, .cons a3 b3⟩
theorem sh_ok : ∀ {n : Nat} {v : V} {d : D} {F : List Addr}, Rp K H v d F → sh n d = true → d.py.canLay0 = true ∧ d.py.depth ≤ n ∧ Dp K H v d.py
  | n, _, _, _, .non, _ => by simp only [D.py, PyData.canLay0, PyData.depth]; exact ⟨trivial, Nat.zero_le _, .non⟩
  | n, _, _, _, .bl, _ => by simp only [D.py, PyData.canLay0, PyData.depth]; exact ⟨trivial, Nat.zero_le _, .bl _⟩
  | n, _, _, _, .int, _ => by simp only [D.py, PyData.canLay0, PyData.depth]; exact ⟨trivial, Nat.zero_le _, .int _⟩
  | n, _, _, _, .str (x := x) h, _ => by
    have e : (⟨x.cps.toList.toArray⟩ : Str) = x := by cases x; simp
    simp only [D.py, PyData.canLay0, PyData.depth, e]
    exact ⟨h, Nat.zero_le _, .str _⟩
  | 0, _, _, _, .raw, h => by simp [sh] at h
  | n + 1, _, _, _, .raw, h => by simp [sh] at h
  | 0, _, _, _, .tup q r, h => by simp [sh] at h
  | n + 1, _, _, _, .tup q r, h => by
    obtain ⟨a1, a2, a3⟩ := pys_canLay (fun p z => sh_ok (n := n) p z) r h
    simp only [D.py, PyData.canLay0, PyData.depth]
    exact ⟨a1, Nat.succ_le_succ a2, .tup q.sq a3⟩
  | 0, _, _, _, .lst q r, h => by simp [sh] at h
  | n + 1, _, _, _, .lst q r, h => by
    obtain ⟨a1, a2, a3⟩ := pys_canLay (fun p z => sh_ok (n := n) p z) r h
    simp only [D.py, PyData.canLay0, PyData.depth]
    exact ⟨a1, Nat.succ_le_succ a2, .lst (.of q) a3⟩
  | 0, _, _, _, .rol q r, h => by simp [sh] at h
  | n + 1, _, _, _, .rol q r, h => by
    obtain ⟨a1, a2, a3⟩ := pys_canLay (fun p z => sh_ok (n := n) p z) r h
    simp only [D.py, PyData.canLay0, PyData.depth]
    exact ⟨a1, Nat.succ_le_succ a2, .lst q.sq a3⟩
  | 0, _, _, _, .dct q c r, h => by simp [sh] at h
  | 0, _, _, _, .rdc q c r, h => by simp [sh] at h
  | 0, _, _, _, .ins q c z r, h => by simp [sh] at h
  | n + 1, _, _, _, .dct q c r, h => by simp [sh] at h
  | n + 1, _, _, _, .rdc q c r, h => by simp [sh] at h
  | n + 1, _, _, _, .ins q c z r, h => by simp [sh] at h
theorem sh_shaped {n : Nat} {v : V} {d : D} {F : List Addr} (p : Rp K H v d F) (h : sh n d = true) (hn : n ≤ 64) : SeqAt.shaped d.py = true ∧ Dp K H v d.py := by
  obtain ⟨a, b, c⟩ := sh_ok p h
  exact ⟨Bool.and_eq_true_iff.mpr ⟨a, decide_eq_true (Nat.le_trans b hn)⟩, c⟩
end
/-- == -/
@[irreducible] def D.eqv (a b : D) : Bool := PyData.eqv a.py b.py
theorem D.eqv_def (a b : D) : D.eqv a b = PyData.eqv a.py b.py := by unfold D.eqv; rfl

section
variable {K : PySem.W.Frag} {H : Hp}
theorem rp_str {x : Str} {s : List Nat} (h : x.cps.all (· < 0x110000) = true) (e : x.cps.toList = s) : Rp K H (.str x) (.str s) [] := by subst e; exact .str h
theorem Rp.same0 {v : V} {d : D} {Q : VK} (h : ∀ v H' G, Keeps [] H H' → Rp K H' v d G → G.Nodup → (∀ a ∈ G, H a = none) → Q v H') (p : Rp K H v d []) : Q v H :=
  h v H [] (.refl _ _) p .nil fun _ m => by cases m
end
def fits (n : Nat) : Bool := decide (n ≤ sizeLine)
def fAdd : D → D → Option D
  | .int i, .int j => some (.int (i + j))
  | .str s, .str t => if fits (s.length + t.length) = true then some (.str (s ++ t)) else none
  | .lst a, .lst b => if imms a = true ∧ imms b = true ∧ fits (a.length + b.length) = true then some (.lst (a ++ b)) else none
  | .tup a, .tup b => if imms a = true ∧ imms b = true ∧ fits (a.length + b.length) = true then some (.tup (a ++ b)) else none
  | _, _ => none
def fSub : D → D → Option D
  | .int i, .int j => some (.int (i - j))
  | _, _ => none
def big64 (i : Int) : Bool := decide (-(2 ^ 64) < i ∧ i < 2 ^ 64)
def fMul : D → D → Option D
  | .int i, .int j => if (big64 i || big64 j) = true then some (.int (i * j)) else none
  | .str s, .int n => if 0 ≤ n ∧ n ≤ 16777216 ∧ fits (s.length * n.toNat) = true then some (.str (List.replicate n.toNat s).flatten) else none
  | .lst a, .int n => if 0 ≤ n ∧ n ≤ 16777216 ∧ imms a = true ∧ fits (a.length * n.toNat) = true then some (.lst (List.replicate n.toNat a).flatten) else none
  | _, _ => none
def fDiv : D → D → Option D
  | .int i, .int j => if 0 < j ∧ j < 1073741824 then some (.int (i / j)) else none
  | _, _ => none
def fMod : D → D → Option D
  | .int i, .int j => if 0 < j then some (.int (i % j)) else none
  | _, _ => none
def fPow : D → D → Option D
  | .int i, .int j => if 0 ≤ j ∧ j ≤ 1000000 ∧ i.natAbs < 2 ^ 64 then some (.int (i ^ j.toNat)) else none
  | _, _ => none
def fEq (a b : D) : Option D := if sh 40 a = true ∧ sh 40 b = true then some (.bl (D.eqv a b)) else none
def fNe (a b : D) : Option D := if sh 40 a = true ∧ sh 40 b = true then some (.bl (!D.eqv a b)) else none
def fLt : D → D → Option D
  | .int i, .int j => some (.bl (decide (i < j)))
  | .str s, .str t => some (.bl (decide (s < t)))
  | _, _ => none
def fLe : D → D → Option D
  | .int i, .int j => some (.bl (decide (i ≤ j)))
  | .str s, .str t => some (.bl (!decide (t < s)))
  | _, _ => none
def fGt : D → D → Option D
  | .int i, .int j => some (.bl (decide (j < i)))
  | .str s, .str t => some (.bl (decide (t < s)))
  | _, _ => none
def fGe : D → D → Option D
  | .int i, .int j => some (.bl (decide (j ≤ i)))
  | .str s, .str t => some (.bl (!decide (s < t)))
  | _, _ => none
def isNon : D → Bool
  | .non => true
  | _ => false
def fIsN : D → D → Option D
  | d, .non => match d with
    | .raw _ => none
    | d => some (.bl (isNon d))
  | _, _ => none
def fIsntN : D → D → Option D
  | d, .non => match d with
    | .raw _ => none
    | d => some (.bl (!isNon d))
  | _, _ => none
def anyEq (ds : List D) (d : D) : Bool := ds.any fun z => D.eqv z d
def fIn : D → D → Option D
  | .str s, .str t => match s with
    | [c] => some (.bl (decide (c ∈ t)))
    | _ => none
  | d, .tup ds => if sh 39 d = true ∧ sh 40 (.tup ds) = true then some (.bl (anyEq ds d)) else none
  | d, .lst ds => if sh 39 d = true ∧ sh 40 (.lst ds) = true then some (.bl (anyEq ds d)) else none
  | _, _ => none
def fNotIn : D → D → Option D
  | .str s, .str t => match s with
    | [c] => some (.bl (!decide (c ∈ t)))
    | _ => none
  | d, .tup ds => if sh 39 d = true ∧ sh 40 (.tup ds) = true then some (.bl (!anyEq ds d)) else none
  | d, .lst ds => if sh 39 d = true ∧ sh 40 (.lst ds) = true then some (.bl (!anyEq ds d)) else none
  | _, _ => none
def fIx : D → D → Option D
  | .tup ds, .int i => atI ds i
  | .lst ds, .int i => atI ds i
  | .rol ds, .int i => atI ds i
  | .str s, .int i => if fits s.length = true then (atI s i).map fun c => .str [c] else none
  | _, _ => none

theorem okC_append {x y : Str} (h1 : x.cps.all (· < 0x110000) = true) (h2 : y.cps.all (· < 0x110000) = true) : (x ++ y).cps.all (· < 0x110000) = true := by
  rw [← Array.all_toList] at h1 h2 ⊢
  have e : (x ++ y).cps.toList = x.cps.toList ++ y.cps.toList := by
    show (x.cps ++ y.cps).toList = _
    simp
  rw [e, List.all_append, h1, h2]
  rfl
theorem toList_append (x y : Str) : (x ++ y).cps.toList = x.cps.toList ++ y.cps.toList := by
  show (x.cps ++ y.cps).toList = _
  simp
theorem imms_append {a b : List D} : imms (a ++ b) = (imms a && imms b) := by rw [imms_all, imms_all, imms_all, List.all_append]
theorem fits_le {n : Nat} (h : fits n = true) : n ≤ sizeLine := of_decide_eq_true h
theorem Rps.rep {K : PySem.W.Frag} {H : Hp} {vs : List V} {ds : List D} (r : Rps K H vs ds []) : ∀ n : Nat, Rps K H (List.replicate n vs).flatten (List.replicate n ds).flatten []
  | 0 => .nil
  | n + 1 => by
    rw [List.replicate_succ, List.replicate_succ, List.flatten_cons, List.flatten_cons]
    exact Rps.append r (Rps.rep r n)

section
variable {X : Cx}
abbrev rAddA (K : PySem.W.Frag) : R2 := fun x y H Q => (rI0 fun i j => .int (i + j)) x y H Q ∨ (∃ i j, x = .str i ∧ y = .str j ∧ i.length + j.length ≤ sizeLine ∧ Q (.str (i ++ j)) H) ∨ rCat x y H Q ∨ rCatA K x y H Q
theorem o_add : OpR X (binaryOp .Add) (rAddA X.K) := op_add.or (op_add_str.or (op_cat.or op_catA))
theorem n_add {K : PySem.W.Frag} : OpN K (rAddA K) fAdd := by
  intro H v1 v2 d1 d2 G1 G2 d Q p1 p2 e h
  unfold fAdd at e
  split at e
  · cases e; cases p1; cases p2
    exact .inl ⟨_, _, rfl, rfl, Rp.same0 h .int⟩
  · split at e
    · rename_i hf
      cases e; cases p1; cases p2
      rename_i x hx y hy
      refine .inr (.inl ⟨_, _, rfl, rfl, ?_, Rp.same0 h (rp_str (okC_append hx hy) (toList_append _ _))⟩)
      simpa [Str.length] using fits_le hf
    · cases e
  · split at e
    · rename_i hf
      cases e
      cases p1 with | lst ha ra => ?_
      cases p2 with | lst hb rb => ?_
      have e1 := Rps.fpImm ra hf.1
      have e2 := Rps.fpImm rb hf.2.1
      subst e1 e2
      refine .inr (.inr (.inl ⟨_, _, _, _, rfl, rfl, ha, hb, by rw [ra.length, rb.length]; exact fits_le hf.2.2, fun p hp => ?_⟩))
      refine h _ _ [p] (.new hp _) (.lst upd_same ((ra.append rb).same (.new hp _))) (by simp) fun a m => ?_
      rw [List.mem_singleton.mp m]; exact hp
    · cases e
  · split at e
    · rename_i hf
      cases e
      cases p1 with | tup ha ra => ?_
      cases p2 with | tup hb rb => ?_
      have e1 := Rps.fpImm ra hf.1
      have e2 := Rps.fpImm rb hf.2.1
      subst e1 e2
      refine .inr (.inr (.inr ⟨_, _, _, _, rfl, rfl, ha.sq, hb.sq, by rw [ra.length, rb.length]; exact fits_le hf.2.2, fun z => ?_, fun _ z => ?_, fun _ _ p hp => ?_⟩))
      · subst z
        cases ra
        exact Rp.same0 h (.tup hb rb)
      · subst z
        cases rb
        exact Rp.same0 h (by rw [List.append_nil]; exact .tup ha ra)
      · exact h _ _ [] (.new hp _) (.tup (.of upd_same) ((ra.append rb).same (.new hp _))) .nil fun a m => by cases m
    · cases e
  · cases e
theorem n_sub {K : PySem.W.Frag} : OpN K (rI0 fun i j => .int (i - j)) fSub := by
  intro H v1 v2 d1 d2 G1 G2 d Q p1 p2 e h
  unfold fSub at e
  split at e
  · cases e; cases p1; cases p2
    exact ⟨_, _, rfl, rfl, Rp.same0 h .int⟩
  · cases e
/-- text times a number -/
def rMulS : R2 := fun x y H Q => ∃ z n, x = .str z ∧ y = .int n ∧ 0 ≤ n ∧ n ≤ 16777216 ∧ z.length * n.toNat ≤ sizeLine ∧ Q (.str ⟨(List.replicate n.toNat z.cps.toList).flatten.toArray⟩) H
theorem foldl_cat (c : Array Nat) : ∀ (n : Nat) (acc : Array Nat), ((List.replicate n c).foldl (· ++ ·) acc).toList = acc.toList ++ (List.replicate n c.toList).flatten
  | 0, acc => by simp
  | n + 1, acc => by
    rw [List.replicate_succ, List.foldl_cons, foldl_cat c n, List.replicate_succ, List.flatten_cons]
    simp
theorem o_mulS : OpR X (binaryOp .Mult) rMulS := by
  intro pins s σ H x y v u Q I rx ry h
  obtain ⟨z, n, rfl, rfl, h0, hb, hz, q⟩ := h
  obtain ⟨t, rfl⟩ := rx
  obtain ⟨t', rfl⟩ := ry
  have hsl := sizeLine_eq
  have e : Txt.mul z n = ⟨(List.replicate n.toNat z.cps.toList).flatten.toArray⟩ := by
    unfold Txt.mul
    by_cases h1 : n < 1
    · rw [if_pos h1]
      have : n.toNat = 0 := by omega
      rw [this]
      rfl
    · rw [if_neg h1]
      by_cases h2 : (n == 1 || z.length == 0) = true
      · rw [if_pos h2]
        rcases Bool.or_eq_true_iff.mp h2 with h3 | h3
        · have e3 : n = 1 := eq_of_beq h3
          subst e3
          cases z
          simp
        · have e3 : z.cps.size = 0 := eq_of_beq h3
          have e4 : z.cps.toList = [] := by
            rw [← List.length_eq_zero_iff, Array.length_toList]; exact e3
          rw [e4]
          have e5 : z = ⟨#[]⟩ := by
            cases z
            rename_i c
            congr 1
            exact Array.eq_empty_of_size_eq_zero e3
          rw [e5]
          simp
      · rw [if_neg h2]
        congr 1
        rw [← Array.toList_inj, foldl_cat]
        simp
  refine SB.mul (n := n) ⟨?_, fun h1 h2 => ?_, fun h1 h2 => ?_⟩ fun t2 k => ?_
  · have a1 : ¬ n < -(2 ^ 63 : Int) := by omega
    have a2 : ¬ n ≥ 2 ^ 63 := by omega
    rw [decide_eq_false a1, decide_eq_false a2]; rfl
  · have hn1 : (z.length : Int) * n ≤ 16777216 := by
      have : ((z.length * n.toNat : Nat) : Int) ≤ 16777216 := by omega
      rw [Int.natCast_mul, Int.toNat_of_nonneg h0] at this
      exact this
    have hn2 : (z.length : Int) ≤ (2 ^ 63 - 1) / n := by
      refine Int.le_ediv_of_mul_le (by omega) (by omega)
    omega
  · show decide _ = false
    exact decide_eq_false (by omega)
  · rw [e]
    exact ⟨.str _, H, I.tok _, ⟨_, rfl⟩, q⟩
abbrev rMulA : R2 := fun x y H Q => (rI CMul fun i j => .int (i * j)) x y H Q ∨ rMulS x y H Q ∨ rRep x y H Q
theorem o_mul : OpR X (binaryOp .Mult) rMulA := op_mul.or (o_mulS.or op_rep)
theorem okC_flat {l : List Nat} (h : ∀ c ∈ l, c < 0x110000) (n : Nat) : ∀ c ∈ (List.replicate n l).flatten, c < 0x110000 := fun c m => by
  obtain ⟨x, hx, hc⟩ := List.mem_flatten.mp m
  rw [List.eq_of_mem_replicate hx] at hc
  exact h c hc
theorem n_mul {K : PySem.W.Frag} : OpN K rMulA fMul := by
  intro H v1 v2 d1 d2 G1 G2 d Q p1 p2 e h
  have hsl := sizeLine_eq
  unfold fMul at e
  split at e
  · split at e
    · rename_i hf
      cases e; cases p1; cases p2
      refine .inl ⟨_, _, rfl, rfl, ?_, Rp.same0 h .int⟩
      exact (Bool.or_eq_true_iff.mp hf).imp of_decide_eq_true of_decide_eq_true
    · cases e
  · split at e
    · rename_i hf
      cases e; cases p1; cases p2
      rename_i x hx
      refine .inr (.inl ⟨_, _, rfl, rfl, hf.1, hf.2.1, ?_, Rp.same0 h (rp_str (okC_of (okC_flat (okC_mem hx) _)) rfl)⟩)
      simpa [Str.length] using fits_le hf.2.2
    · cases e
  · split at e
    · rename_i hf
      cases e
      cases p1 with | lst ha ra => ?_
      cases p2
      have e1 := Rps.fpImm ra hf.2.2.1
      subst e1
      refine .inr (.inr ⟨_, _, _, rfl, rfl, ha, by omega, by omega, by rw [ra.length]; exact fits_le hf.2.2.2, fun p hp => ?_⟩)
      refine h _ _ [p] (.new hp _) (.lst upd_same ((ra.rep _).same (.new hp _))) (by simp) fun a m => ?_
      rw [List.mem_singleton.mp m]; exact hp
    · cases e
  · cases e
theorem n_div {K : PySem.W.Frag} : OpN K (rI CDiv fun i j => .int (i / j)) fDiv := by
  intro H v1 v2 d1 d2 G1 G2 d Q p1 p2 e h
  unfold fDiv at e
  split at e
  · split at e
    · rename_i hf
      cases e; cases p1; cases p2
      exact ⟨_, _, rfl, rfl, hf, Rp.same0 h .int⟩
    · cases e
  · cases e
theorem n_mod {K : PySem.W.Frag} : OpN K (rI (fun _ j => 0 < j) fun i j => .int (i % j)) fMod := by
  intro H v1 v2 d1 d2 G1 G2 d Q p1 p2 e h
  unfold fMod at e
  split at e
  · split at e
    · rename_i hf
      cases e; cases p1; cases p2
      exact ⟨_, _, rfl, rfl, hf, Rp.same0 h .int⟩
    · cases e
  · cases e
theorem n_pow {K : PySem.W.Frag} : OpN K (rI CPow fun i j => .int (i ^ j.toNat)) fPow := by
  intro H v1 v2 d1 d2 G1 G2 d Q p1 p2 e h
  unfold fPow at e
  split at e
  · split at e
    · rename_i hf
      cases e; cases p1; cases p2
      exact ⟨_, _, rfl, rfl, hf, Rp.same0 h .int⟩
    · cases e
  · cases e
theorem n_eq {K : PySem.W.Frag} : OpN K (rEqD K) fEq := by
  intro H v1 v2 d1 d2 G1 G2 d Q p1 p2 e h
  unfold fEq at e
  split at e
  · rename_i hf
    cases e
    obtain ⟨s1, q1⟩ := sh_shaped p1 hf.1 (by decide)
    obtain ⟨s2, q2⟩ := sh_shaped p2 hf.2 (by decide)
    exact ⟨_, _, q1, q2, s1, s2, by have z := Rp.same0 h .bl; rw [D.eqv_def] at z; exact z⟩
  · cases e
theorem n_ne {K : PySem.W.Frag} : OpN K (rNeD K) fNe := by
  intro H v1 v2 d1 d2 G1 G2 d Q p1 p2 e h
  unfold fNe at e
  split at e
  · rename_i hf
    cases e
    obtain ⟨s1, q1⟩ := sh_shaped p1 hf.1 (by decide)
    obtain ⟨s2, q2⟩ := sh_shaped p2 hf.2 (by decide)
    exact ⟨_, _, q1, q2, s1, s2, by have z := Rp.same0 h .bl; rw [D.eqv_def] at z; exact z⟩
  · cases e
abbrev rLtA : R2 := fun x y H Q => (rI0 fun i j => .bl (decide (i < j))) x y H Q ∨ ∃ i j, x = .str i ∧ y = .str j ∧ Q (.bl (decide (i.cps.toList < j.cps.toList))) H
abbrev rLeA : R2 := fun x y H Q => (rI0 fun i j => .bl (decide (i ≤ j))) x y H Q ∨ ∃ i j, x = .str i ∧ y = .str j ∧ Q (.bl (!decide (j.cps.toList < i.cps.toList))) H
abbrev rGtA : R2 := fun x y H Q => (rI0 fun i j => .bl (decide (j < i))) x y H Q ∨ ∃ i j, x = .str i ∧ y = .str j ∧ Q (.bl (decide (j.cps.toList < i.cps.toList))) H
abbrev rGeA : R2 := fun x y H Q => (rI0 fun i j => .bl (decide (j ≤ i))) x y H Q ∨ ∃ i j, x = .str i ∧ y = .str j ∧ Q (.bl (!decide (i.cps.toList < j.cps.toList))) H
theorem o_lt : OpR X (compareOp .Lt) rLtA := op_lt.or op_lt_str
theorem o_le : OpR X (compareOp .LtE) rLeA := op_le.or op_le_str
theorem o_gt : OpR X (compareOp .Gt) rGtA := op_gt.or op_gt_str
theorem o_ge : OpR X (compareOp .GtE) rGeA := op_ge.or op_ge_str
theorem n_lt {K : PySem.W.Frag} : OpN K rLtA fLt := by
  intro H v1 v2 d1 d2 G1 G2 d Q p1 p2 e h
  unfold fLt at e
  split at e
  · cases e; cases p1; cases p2; exact .inl ⟨_, _, rfl, rfl, Rp.same0 h .bl⟩
  · cases e; cases p1; cases p2; exact .inr ⟨_, _, rfl, rfl, Rp.same0 h .bl⟩
  · cases e
theorem n_le {K : PySem.W.Frag} : OpN K rLeA fLe := by
  intro H v1 v2 d1 d2 G1 G2 d Q p1 p2 e h
  unfold fLe at e
  split at e
  · cases e; cases p1; cases p2; exact .inl ⟨_, _, rfl, rfl, Rp.same0 h .bl⟩
  · cases e; cases p1; cases p2; exact .inr ⟨_, _, rfl, rfl, Rp.same0 h .bl⟩
  · cases e
theorem n_gt {K : PySem.W.Frag} : OpN K rGtA fGt := by
  intro H v1 v2 d1 d2 G1 G2 d Q p1 p2 e h
  unfold fGt at e
  split at e
  · cases e; cases p1; cases p2; exact .inl ⟨_, _, rfl, rfl, Rp.same0 h .bl⟩
  · cases e; cases p1; cases p2; exact .inr ⟨_, _, rfl, rfl, Rp.same0 h .bl⟩
  · cases e
theorem n_ge {K : PySem.W.Frag} : OpN K rGeA fGe := by
  intro H v1 v2 d1 d2 G1 G2 d Q p1 p2 e h
  unfold fGe at e
  split at e
  · cases e; cases p1; cases p2; exact .inl ⟨_, _, rfl, rfl, Rp.same0 h .bl⟩
  · cases e; cases p1; cases p2; exact .inr ⟨_, _, rfl, rfl, Rp.same0 h .bl⟩
  · cases e
theorem n_isN {K : PySem.W.Frag} : OpN K (fun x y H Q => y = .non ∧ Q (.bl (decide (x = .non))) H) fIsN := by
  intro H v1 v2 d1 d2 G1 G2 d Q p1 p2 e h
  unfold fIsN at e
  split at e
  · split at e
    · cases e
    · rename_i hne
      cases e; cases p2
      refine ⟨rfl, ?_⟩
      have q : decide (v1 = .non) = Mir.isNon d1 := by
        cases p1 <;> first | rfl | exact absurd rfl (hne _)
      rw [q]
      exact Rp.same0 h .bl
  · cases e
theorem n_isntN {K : PySem.W.Frag} : OpN K (fun x y H Q => y = .non ∧ Q (.bl (!decide (x = .non))) H) fIsntN := by
  intro H v1 v2 d1 d2 G1 G2 d Q p1 p2 e h
  unfold fIsntN at e
  split at e
  · split at e
    · cases e
    · rename_i hne
      cases e; cases p2
      refine ⟨rfl, ?_⟩
      have q : decide (v1 = .non) = Mir.isNon d1 := by
        cases p1 <;> first | rfl | exact absurd rfl (hne _)
      rw [q]
      exact Rp.same0 h .bl
  · cases e
end
end Mir

namespace Mir
open PySem PySem.Spec L2

/-! ### in, is, places -/
section
variable {X : Cx}
def rInT (K : PySem.W.Frag) (neg : Bool) : R2 := fun x y H Q => ∃ d ds, Dp K H x d ∧ Dp K H y (.tuple ds) ∧ SeqAt.shaped d = true ∧ SeqAt.shaped (.tuple ds) = true ∧ Q (.bl (if neg then !ds.any fun z => PyData.eqv z d else ds.any fun z => PyData.eqv z d)) H
theorem room_tup {A : Around} {d : PyData} {xs : List PyData} (sd : SeqAt.shaped d = true) (hu : A.units + 65 < cLine) : A.units + 1 + min (PyData.depthAll xs) d.depth < cLine := by
  have h1 := SeqAt.depth_of_shaped sd
  have h2 : min (PyData.depthAll xs) d.depth ≤ d.depth := Nat.min_le_right _ _
  omega
theorem o_inT (hu : X.A.units + 65 < cLine) : OpR X (compareOp .In) (rInT X.K false) := by
  intro pins s σ H x y v u Q I rx ry h
  obtain ⟨d, ds, hd, he, sd, se, q⟩ := h
  obtain ⟨as, r1⟩ := Dp.reads I d x v hd rx
  obtain ⟨bs, r2⟩ := Dp.reads I (.tuple ds) y u he ry
  exact SeqAt.in_tuple_reads r2 r1 (SeqAt.canLay_of_shaped se) (SeqAt.canLay_of_shaped sd) (room_tup sd hu) ⟨.bl _, H, I, rfl, q⟩
theorem o_notInT (hu : X.A.units + 65 < cLine) : OpR X (compareOp .NotIn) (rInT X.K true) := by
  intro pins s σ H x y v u Q I rx ry h
  obtain ⟨d, ds, hd, he, sd, se, q⟩ := h
  obtain ⟨as, r1⟩ := Dp.reads I d x v hd rx
  obtain ⟨bs, r2⟩ := Dp.reads I (.tuple ds) y u he ry
  exact SeqAt.notIn_tuple_reads r2 r1 (SeqAt.canLay_of_shaped se) (SeqAt.canLay_of_shaped sd) (room_tup sd hu) ⟨.bl _, H, I, rfl, q⟩
abbrev rInA (K : PySem.W.Frag) : R2 := fun x y H Q => (∃ (c : Nat) (z : Str), x = .str ⟨#[c]⟩ ∧ y = .str z ∧ Q (.bl (decide (c ∈ z.cps.toList))) H) ∨ rInT K false x y H Q ∨ rInD K x y H Q
abbrev rNotInA (K : PySem.W.Frag) : R2 := fun x y H Q => (∃ (c : Nat) (z : Str), x = .str ⟨#[c]⟩ ∧ y = .str z ∧ Q (.bl (!decide (c ∈ z.cps.toList))) H) ∨ rInT K true x y H Q ∨ rNotInD K x y H Q
theorem o_in (hu : X.A.units + 65 < cLine) : OpR X (compareOp .In) (rInA X.K) := op_in_sign.or ((o_inT hu).or (op_inD hu))
theorem o_notIn (hu : X.A.units + 65 < cLine) : OpR X (compareOp .NotIn) (rNotInA X.K) := op_notIn_sign.or ((o_notInT hu).or (op_notInD hu))
theorem any_pys (d : D) : ∀ ds : List D, ((D.pys ds).any fun z => PyData.eqv z d.py) = anyEq ds d
  | [] => rfl
  | x :: ds => by
    simp only [D.pys, List.any_cons, anyEq, D.eqv_def]
    rw [any_pys d ds]
    simp only [anyEq, D.eqv_def]
theorem str_one {x : Str} {c : Nat} (h : x.cps.toList = [c]) : x = ⟨#[c]⟩ := by
  cases x
  congr 1
  rw [← Array.toList_inj]
  simpa using h
theorem n_in {K : PySem.W.Frag} : OpN K (rInA K) fIn := by
  intro H v1 v2 d1 d2 G1 G2 d Q p1 p2 e h
  unfold fIn at e
  split at e
  · split at e
    · rename_i c
      cases e; cases p2
      generalize hs : ([c] : List Nat) = s at p1
      cases p1 with | str hx => ?_
      exact .inl ⟨c, _, by rw [str_one hs.symm], rfl, Rp.same0 h .bl⟩
    · cases e
  · split at e
    · rename_i hf
      cases e
      obtain ⟨s1, q1⟩ := sh_shaped p1 hf.1 (by decide)
      obtain ⟨s2, q2⟩ := sh_shaped p2 hf.2 (by decide)
      refine .inr (.inl ⟨_, _, q1, q2, s1, s2, ?_⟩)
      have z := Rp.same0 h .bl
      rw [← any_pys] at z
      exact z
    · cases e
  · split at e
    · rename_i hf
      cases e
      obtain ⟨s1, q1⟩ := sh_shaped p1 hf.1 (by decide)
      obtain ⟨s2, q2⟩ := sh_shaped p2 hf.2 (by decide)
      refine .inr (.inr ⟨_, _, q1, q2, s1, s2, ?_⟩)
      have z := Rp.same0 h .bl
      rw [← any_pys] at z
      exact z
    · cases e
  · cases e
theorem n_notIn {K : PySem.W.Frag} : OpN K (rNotInA K) fNotIn := by
  intro H v1 v2 d1 d2 G1 G2 d Q p1 p2 e h
  unfold fNotIn at e
  split at e
  · split at e
    · rename_i c
      cases e; cases p2
      generalize hs : ([c] : List Nat) = s at p1
      cases p1 with | str hx => ?_
      exact .inl ⟨c, _, by rw [str_one hs.symm], rfl, Rp.same0 h .bl⟩
    · cases e
  · split at e
    · rename_i hf
      cases e
      obtain ⟨s1, q1⟩ := sh_shaped p1 hf.1 (by decide)
      obtain ⟨s2, q2⟩ := sh_shaped p2 hf.2 (by decide)
      refine .inr (.inl ⟨_, _, q1, q2, s1, s2, ?_⟩)
      have z := Rp.same0 h .bl
      rw [← any_pys] at z
      exact z
    · cases e
  · split at e
    · rename_i hf
      cases e
      obtain ⟨s1, q1⟩ := sh_shaped p1 hf.1 (by decide)
      obtain ⟨s2, q2⟩ := sh_shaped p2 hf.2 (by decide)
      refine .inr (.inr ⟨_, _, q1, q2, s1, s2, ?_⟩)
      have z := Rp.same0 h .bl
      rw [← any_pys] at z
      exact z
    · cases e
  · cases e
/-- is, is not: None and truth values -/
def fIs : D → D → Option D
  | .bl a, .bl b => some (.bl (decide (a = b)))
  | a, b => fIsN a b
def fIsnt : D → D → Option D
  | .bl a, .bl b => some (.bl (!decide (a = b)))
  | a, b => fIsntN a b
abbrev rIsA : R2 := fun x y H Q => rIsB x y H Q ∨ (y = .non ∧ Q (.bl (decide (x = .non))) H)
abbrev rIsntA : R2 := fun x y H Q => rNotB x y H Q ∨ (y = .non ∧ Q (.bl (!decide (x = .non))) H)
theorem o_is : OpR X (compareOp .Is) rIsA := op_isBl.or op_isN
theorem o_isnt : OpR X (compareOp .IsNot) rIsntA := op_notBl.or op_notN
theorem n_is {K : PySem.W.Frag} : OpN K rIsA fIs := by
  intro H v1 v2 d1 d2 G1 G2 d Q p1 p2 e h
  unfold fIs at e
  split at e
  · cases e; cases p1; cases p2; exact .inl ⟨_, _, rfl, rfl, Rp.same0 h .bl⟩
  · exact .inr (n_isN p1 p2 e h)
theorem n_isnt {K : PySem.W.Frag} : OpN K rIsntA fIsnt := by
  intro H v1 v2 d1 d2 G1 G2 d Q p1 p2 e h
  unfold fIsnt at e
  split at e
  · cases e; cases p1; cases p2; exact .inl ⟨_, _, rfl, rfl, Rp.same0 h .bl⟩
  · exact .inr (n_isntN p1 p2 e h)

theorem Rps.atI {K : PySem.W.Frag} {H : Hp} {vs : List V} {ds : List D} {F : List Addr} (r : Rps K H vs ds F) {i : Int} {d : D} (e : L2.atI ds i = some d) : ∃ v G, L2.atI vs i = some v ∧ Rp K H v d G := by
  unfold L2.atI at e ⊢
  rw [r.length]
  cases q : ixN ds.length i with
  | none => rw [q] at e; cases e
  | some j =>
    rw [q] at e
    obtain ⟨v, G, h1, h2, _⟩ := r.get (show ds[j]? = some d from e)
    exact ⟨v, G, h1, h2⟩
theorem atI_mem {α : Type} {xs : List α} {i : Int} {a : α} (h : L2.atI xs i = some a) : a ∈ xs := by
  unfold L2.atI at h
  cases q : ixN xs.length i with
  | none => rw [q] at h; cases h
  | some j => rw [q] at h; exact List.mem_of_getElem? (show xs[j]? = some a from h)
theorem b_ix {K : PySem.W.Frag} : OpB K (rIx K) fIx := by
  intro H v1 v2 d1 d2 G1 G2 d Q p1 p2 e h
  unfold fIx at e
  split at e
  · cases p2
    cases p1 with | tup ha ra => ?_
    obtain ⟨v, G, h1, h2⟩ := ra.atI e
    exact .inr (.inl ⟨_, _, _, v, rfl, rfl, ha.sq, h1, h v H G (.refl _ _) h2⟩)
  · cases p2
    cases p1 with | lst ha ra => ?_
    obtain ⟨v, G, h1, h2⟩ := ra.atI e
    exact .inl ⟨_, _, _, v, rfl, rfl, .of ha, h1, h v H G (.refl _ _) h2⟩
  · cases p2
    cases p1 with | rol ha ra => ?_
    obtain ⟨v, G, h1, h2⟩ := ra.atI e
    exact .inl ⟨_, _, _, v, rfl, rfl, ha.sq, h1, h v H G (.refl _ _) h2⟩
  · split at e
    · rename_i hf
      cases p2
      cases p1 with | str hx => ?_
      obtain ⟨c, e1, e2⟩ := Option.map_eq_some_iff.mp e
      subst e2
      refine .inr (.inr ⟨_, _, c, rfl, rfl, ?_, e1, h _ H [] (.refl _ _) (rp_str (okC_of fun z m => ?_) rfl)⟩)
      · simpa [Str.length] using fits_le hf
      · rw [List.mem_singleton.mp m]; exact okC_mem hx c (atI_mem e1)
    · cases e
  · cases e
end

/-! ### rules for two operands -/
section
variable {X : Cx} {W : WX} {a b : Expr} {pos : Pos} {ma mb : MB} {na n2 : ME} {f : D → D → Option D} {r : R2}
theorem x_op {op : Operator} (o : OpR X (binaryOp op) r) (n : OpN X.K r f) (pa : PE X a (tB X.K W ma)) (pb : PE X b (tB X.K W mb)) : PE X (.BinOp a op b pos) (tN X.K W (bin f ma mb)) := PE.mono (pe_op o pa pb) fun _ _ _ => op_bb n
theorem e_op {op : Operator} (o : OpR X (binaryOp op) r) (n : OpN X.K r f) (pa : PE X a (tE X.K W na)) (pb : PE X b (tE X.K W n2)) : PE X (.BinOp a op b pos) (tE X.K W (binE f na n2)) := PE.mono (pe_op o pa pb) fun _ _ _ => op_ee n
theorem x_cmp {op : CmpOp} (o : OpR X (compareOp op) r) (n : OpN X.K r f) (pa : PE X a (tB X.K W ma)) (pb : PE X b (tB X.K W mb)) (hm : behindInMarks op b = false) : PE X (.Compare a [op] [b] pos) (tN X.K W (bin f ma mb)) := PE.mono (pe_cmpR o pa pb hm) fun _ _ _ => op_bb n
theorem e_cmp {op : CmpOp} (o : OpR X (compareOp op) r) (n : OpN X.K r f) (pa : PE X a (tE X.K W na)) (pb : PE X b (tE X.K W n2)) (hm : behindInMarks op b = false) : PE X (.Compare a [op] [b] pos) (tE X.K W (binE f na n2)) := PE.mono (pe_cmpR o pa pb hm) fun _ _ _ => op_ee n
theorem v_cmp {op : CmpOp} {i : Nat} {x : Str} {p1 : Pos} (o : OpR X (compareOp op) r) (n : OpN X.K r f) (pb : PE X b (tE X.K W n2)) (hm : behindInMarks op b = false) (hN : X.N[i]? = some x := by rfl) (hv : Vis X.env.scope x := by first | exact Or.inl rfl | exact Or.inr (Or.inl rfl) | exact Or.inr (Or.inr rfl)) (hd : (x == ("__debug__" : Str)) = false := by decide)
    (hcd : (x == ("__classdict__" : Str)) = false := by decide) : PE X (.Compare (.Name x p1) [op] [b] pos) (tE X.K W (binV f i n2)) := PE.mono (pe_cmpR o (pe_var hN hv hd hcd) pb hm) fun _ _ _ => op_ve n
/-- a[b] -/
theorem x_ix (pa : PE X a (tB X.K W ma)) (pb : PE X b (tB X.K W mb)) (hs : PlainIx b := by exact fun _ _ => rfl) : PE X (.Subscript a b pos) (tB X.K W (bin fIx ma mb)) := PE.mono (pe_ix ix_seq pa pb hs) fun _ _ _ => op_bbB b_ix
theorem e_ix (pa : PE X a (tE X.K W na)) (pb : PE X b (tE X.K W n2)) (hs : PlainIx b := by exact fun _ _ => rfl) : PE X (.Subscript a b pos) (tE X.K W (binE (immF fIx) na n2)) := PE.mono (pe_ix ix_seq pa pb hs) fun _ _ _ => op_ee b_ix.imm
theorem v_ix {i : Nat} {x : Str} {p1 : Pos} (pb : PE X b (tE X.K W n2)) (hs : PlainIx b := by exact fun _ _ => rfl) (hN : X.N[i]? = some x := by rfl) (hv : Vis X.env.scope x := by first | exact Or.inl rfl | exact Or.inr (Or.inl rfl) | exact Or.inr (Or.inr rfl)) (hd : (x == ("__debug__" : Str)) = false := by decide)
    (hcd : (x == ("__classdict__" : Str)) = false := by decide) : PE X (.Subscript (.Name x p1) b pos) (tE X.K W (binV (immF fIx) i n2)) := PE.mono (pe_ix ix_seq (pe_var hN hv hd hcd) pb hs) fun _ _ _ => op_ve b_ix.imm
theorem v_op {op : Operator} {i : Nat} {x : Str} {p1 : Pos} (o : OpR X (binaryOp op) r) (n : OpN X.K r f) (pb : PE X b (tE X.K W n2)) (hN : X.N[i]? = some x := by rfl) (hv : Vis X.env.scope x := by first | exact Or.inl rfl | exact Or.inr (Or.inl rfl) | exact Or.inr (Or.inr rfl)) (hd : (x == ("__debug__" : Str)) = false := by decide)
    (hcd : (x == ("__classdict__" : Str)) = false := by decide) : PE X (.BinOp (.Name x p1) op b pos) (tE X.K W (binV f i n2)) := PE.mono (pe_op o (pe_var hN hv hd hcd) pb) fun _ _ _ => op_ve n
end

/-! ### one operand, three operands -/
def un (f : D → Option D) (m : MB) : MB := fun e => (m e).bind fun a => .of (f a)
def unE (f : D → Option D) (m : ME) : ME := fun e => (m e).bind fun a e1 => (Rs.of (f a)).at e1
def fNeg : D → Option D
  | .int i => some (.int (-i))
  | _ => none
def UnN (K : PySem.W.Frag) (r : V → Hp → VK → Prop) (f : D → Option D) : Prop := ∀ {H : Hp} {v : V} {a d : D} {G : List Addr} {Q : VK}, Rp K H v a G → f a = some d →
  (∀ v H' G, Keeps [] H H' → Rp K H' v d G → G.Nodup → (∀ a ∈ G, H a = none) → Q v H') → r v H Q
section
variable {K : PySem.W.Frag} {W : WX} {r : V → Hp → VK → Prop} {f : D → Option D} {m : MB} {n : ME} {σ : L2.St} {H : Hp} {Q : VK}
theorem un_b (o : UnN K r f) (h : tN K W (un f m) σ H Q) : tB K W m σ H fun x H1 => r x H1 Q := by
  obtain ⟨e, F, rl, h⟩ := h
  unfold un at h
  refine ⟨e, F, rl, ?_⟩
  cases qa : m e with
  | bad => rw [qa] at h; exact h
  | exc y => rw [qa] at h; exact h
  | ok a =>
    rw [qa] at h
    intro v1 H1 G1 k1 p1
    cases qf : f a with
    | none => simp only [Rs.bind, qf, Rs.of] at h
    | some d =>
      simp only [Rs.bind, qf, Rs.of] at h
      exact o p1 qf fun v H' G k p n1 n2 => h v H' G (k1.trans k fun _ m => by cases m) p n1 fun z m => k1.none (n2 z m) fun m => by cases m
theorem un_e (o : UnN K r f) (h : tE K W (unE f n) σ H Q) : tE K W n σ H fun x H1 => r x H1 Q := by
  obtain ⟨e, F, rl, nd, h⟩ := h
  unfold unE at h
  refine ⟨e, F, rl, nd, ?_⟩
  cases qa : n e with
  | bad => rw [qa] at h; exact h
  | exc y e1 => rw [qa] at h; exact h
  | ok a e1 =>
    rw [qa] at h
    intro v1 H1 F1 x
    obtain ⟨G, F0, eF, p, x', hd, n1, nw⟩ := x.head
    cases qf : f a with
    | none => simp only [Re.bind, qf, Rs.of, Rs.at] at h
    | some d =>
      simp only [Re.bind, qf, Rs.of, Rs.at] at h
      exact o p qf fun v H' G' k p' n1' n2' => h v H' _ (x'.consNew k p' n1' n2')
end
theorem n_neg {K : PySem.W.Frag} : UnN K (rU fun i => .int (-i)) fNeg := by
  intro H v a d G Q p e h
  unfold fNeg at e
  split at e
  · cases e; cases p; exact ⟨_, rfl, Rp.same0 h .int⟩
  · cases e
section
variable {X : Cx} {W : WX} {a : Expr} {pos : Pos} {m : MB} {n : ME}
theorem x_neg (pa : PE X a (tB X.K W m)) : PE X (.UnaryOp .USub a pos) (tN X.K W (un fNeg m)) := PE.mono (pe_un un_neg pa) fun _ _ _ => un_b n_neg
theorem e_neg (pa : PE X a (tE X.K W n)) : PE X (.UnaryOp .USub a pos) (tE X.K W (unE fNeg n)) := PE.mono (pe_un un_neg pa) fun _ _ _ => un_e n_neg
end

/-! ### slices -/
def cutL {α : Type} (xs : List α) (lo hi : Option Int) : List α := (xs.drop (HT.sIx xs.length 0 lo)).take (HT.sIx xs.length xs.length hi - HT.sIx xs.length 0 lo)
def fCut (d : D) (lo hi : Option Int) : Option D := match d with
  | .str s => if fits s.length = true then some (.str (cutL s lo hi)) else none
  | .tup ds => if imms ds = true then some (.tup (cutL ds lo hi)) else none
  | .lst ds => if imms ds = true then some (.lst (cutL ds lo hi)) else none
  | .rol ds => if imms ds = true then some (.lst (cutL ds lo hi)) else none
  | _ => none
/-- an end of a slice -/
def cutP (m : Option MB) : E → Rs (Option Int) := fun e => match m with
  | none => .ok none
  | some m => (m e).bind fun d => match d with
    | .int i => .ok (some i)
    | _ => .bad
def cut (m : MB) (lo hi : Option MB) : MB := fun e => (m e).bind fun d => (cutP lo e).bind fun l => (cutP hi e).bind fun u => .of (fCut d l u)
def tPo (K : PySem.W.Frag) (W : WX) (m : Option MB) : TO := fun σ H Q => ∃ e F, RelS K H σ e F ∧ match cutP m e with
  | .ok o => ∀ H', Keeps [] H H' → Q o H'
  | .exc x => ∀ c dx H', Keeps [] H H' → RpX K H' c dx x → W c dx σ H'
  | .bad => False
theorem PO.mono {X : Cx} {e : Option Expr} {t t' : TO} (p : PO X e t) (h : ∀ σ H Q, t' σ H Q → t σ H Q) : PO X e t' := ⟨fun pins s σ H Q I q => p.run pins s σ H Q I (h _ _ _ q)⟩
section
variable {X : Cx} {W : WX} {e a : Expr} {lo hi : Option Expr} {pos p2 : Pos} {m : MB} {ml mh : Option MB}
theorem o_none : PO X none (tPo X.K W none) := PO.mono po_none fun σ H Q ⟨e, F, r, h⟩ => h H (.refl _ _)
theorem o_some (p : PE X e (tB X.K W m)) : PO X (some e) (tPo X.K W (some m)) := PO.mono (po_some p) fun σ H Q ⟨e, F, r, h⟩ => by
  refine ⟨e, F, r, ?_⟩
  unfold cutP at h
  cases q : m e with
  | bad => simp only [q, Rs.bind] at h
  | exc y => simp only [q, Rs.bind] at h; exact h
  | ok d =>
    simp only [q, Rs.bind] at h
    intro v H' G k p
    cases d with
    | int i => cases p; exact ⟨i, rfl, h H' k⟩
    | _ => exact h.elim
abbrev rSlA' (K : PySem.W.Frag) : V → Option Int → Option Int → Hp → VK → Prop := fun x lo hi H Q => rSlS x lo hi H Q ∨ rSlA K x lo hi H Q ∨ rSlL K x lo hi H Q
theorem sl_all : SlR X (rSlA' X.K) := sl_str.or (sl_tupA.or sl_list)
theorem Rps.cut {K : PySem.W.Frag} {H : Hp} {vs : List V} {ds : List D} (r : Rps K H vs ds []) (lo hi : Option Int) : Rps K H (cutV vs lo hi) (cutL ds lo hi) [] := by
  unfold cutV cutL
  rw [r.length]
  exact ((r.takeD _).2.takeD _).1
theorem cutL_whole {K : PySem.W.Frag} {H : Hp} {vs : List V} {ds : List D} {F : List Addr} {lo hi : Option Int} (ra : Rps K H vs ds F) (z : HT.sIx vs.length 0 lo = 0 ∧ HT.sIx vs.length vs.length hi = vs.length) : cutL ds lo hi = ds := by
  unfold cutL
  rw [← ra.length, z.1, z.2, List.drop_zero, Nat.sub_zero, ra.length, List.take_length]
theorem fCut_ok {K : PySem.W.Frag} {H : Hp} {v : V} {d d' : D} {G : List Addr} {lo hi : Option Int} {Q : VK} (p : Rp K H v d G) (e : fCut d lo hi = some d')
    (h : ∀ v H' G, Keeps [] H H' → Rp K H' v d' G → G.Nodup → (∀ a ∈ G, H a = none) → Q v H') : rSlA' K v lo hi H Q := by
  unfold fCut at e
  split at e
  · split at e
    · rename_i hf
      cases e
      cases p with | str hx => ?_
      rename_i x
      have ez : (cutS x lo hi).cps.toList = cutL x.cps.toList lo hi := by
        unfold cutS cutL
        rw [Array.length_toList]
        rfl
      refine .inl ⟨_, rfl, by simpa [Str.length] using fits_le hf, Rp.same0 h (rp_str ?_ ez)⟩
      rw [show cutS x lo hi = ⟨(cutL x.cps.toList lo hi).toArray⟩ by rw [← ez]]
      refine okC_of fun c m => okC_mem hx c ?_
      unfold cutL at m
      exact List.mem_of_mem_drop (List.mem_of_mem_take m)
    · cases e
  · split at e
    · rename_i hf
      cases e
      cases p with | tup ha ra => ?_
      have e1 := Rps.fpImm ra hf
      subst e1
      refine .inr (.inl ⟨_, _, rfl, ha.sq, fun z => ?_, fun _ p hp => ?_⟩)
      · rw [cutL_whole ra z] at h
        exact Rp.same0 h (.tup ha ra)
      · exact h _ _ [] (.new hp _) (.tup (.of upd_same) ((ra.cut lo hi).same (.new hp _))) .nil fun a m => by cases m
    · cases e
  · split at e
    · rename_i hf
      cases e
      cases p with | lst ha ra => ?_
      have e1 := Rps.fpImm ra hf
      subst e1
      refine .inr (.inr ⟨_, _, rfl, .of ha, fun p hp => ?_⟩)
      refine h _ _ [p] (.new hp _) (.lst upd_same ((ra.cut lo hi).same (.new hp _))) (by simp) fun a m => ?_
      rw [List.mem_singleton.mp m]; exact hp
    · cases e
  · split at e
    · rename_i hf
      cases e
      cases p with | rol ha ra => ?_
      refine .inr (.inr ⟨_, _, rfl, ha.sq, fun p hp => ?_⟩)
      refine h _ _ [p] (.new hp _) (.lst upd_same ((ra.cut lo hi).same (.new hp _))) (by simp) fun a m => ?_
      rw [List.mem_singleton.mp m]; exact hp
    · cases e
  · cases e
theorem x_cut (pa : PE X a (tB X.K W m)) (pl : PO X lo (tPo X.K W ml)) (ph : PO X hi (tPo X.K W mh)) : PE X (.Subscript a (.Slice lo hi none p2) pos) (tN X.K W (cut m ml mh)) :=
  PE.mono (pe_slice sl_all pa pl ph) fun σ H Q ⟨e, F, r, h⟩ => by
    unfold cut at h
    refine ⟨e, F, r, ?_⟩
    cases qa : m e with
    | bad => simp only [qa, Rs.bind] at h
    | exc y => simp only [qa, Rs.bind] at h; exact h
    | ok d =>
      simp only [qa, Rs.bind] at h
      intro v H1 G1 k1 p1
      refine ⟨e, F, r.same k1, ?_⟩
      cases ql : cutP ml e with
      | bad => simp only [ql] at h
      | exc y => simp only [ql] at h; exact fun c dx H' k p => h c dx H' (k1.trans k fun _ m => by cases m) p
      | ok l =>
        simp only [ql] at h
        intro H2 k2
        refine ⟨e, F, (r.same k1).same k2, ?_⟩
        have k12 : Keeps [] H H2 := k1.trans k2 fun _ m => by cases m
        cases qh : cutP mh e with
        | bad => simp only [qh] at h
        | exc y => simp only [qh] at h; exact fun c dx H' k p => h c dx H' (k12.trans k fun _ m => by cases m) p
        | ok u =>
          simp only [qh] at h
          intro H3 k3
          have k13 : Keeps [] H H3 := k12.trans k3 fun _ m => by cases m
          cases qf : fCut d l u with
          | none => simp only [qf, Rs.of] at h
          | some d' =>
            simp only [qf, Rs.of] at h
            exact fCut_ok ((p1.same k2).same k3) qf fun v H' G k p n1 n2 => h v H' G (k13.trans k fun _ m => by cases m) p n1 fun z m => k13.none (n2 z m) fun m => by cases m
end
end Mir

namespace Mir
open PySem PySem.Spec L2

abbrev MA := E → Rs (List D)
abbrev MAE := E → Re (List D)
/-! ### argument lists -/
def tAB (K : PySem.W.Frag) (W : WX) (m : MA) : TA := fun σ H Q => ∃ e F, RelS K H σ e F ∧ match m e with
  | .ok ds => ∀ vs H' G, Keeps [] H H' → Rps K H' vs ds G → Q vs H'
  | .exc x => ∀ c dx H', Keeps [] H H' → RpX K H' c dx x → W c dx σ H'
  | .bad => False
/-- values on top of the slots -/
structure EvA (K : PySem.W.Frag) (F : List Addr) (H : Hp) (vs : List V) (σ' : L2.St) (H' : Hp) (ds : List D) (e' : E) (G F' : List Addr) : Prop where
  ev : Ev K F H σ' H' e' F'
  ps : Rps K H' vs ds G
  hd : ∀ a ∈ G, a ∉ F'
  nd : G.Nodup
  new : ∀ a ∈ G, a ∈ F ∨ H a = none
def tAE (K : PySem.W.Frag) (W : WX) (m : MAE) : TA := fun σ H Q => ∃ e F, RelS K H σ e F ∧ F.Nodup ∧ match m e with
  | .ok ds e' => ∀ vs H' G F', EvA K F H vs σ H' ds e' G F' → Q vs H'
  | .exc x e' => ∀ c dx H' F', Ev K F H σ H' e' F' → RpX K H' c dx x → W c dx σ H'
  | .bad => False
def aNil : MA := fun _ => .ok []
def aCons (m : MB) (ms : MA) : MA := fun e => (m e).bind fun d => (ms e).bind fun ds => .ok (d :: ds)
def anil : MAE := fun e => .ok [] e
def acons (m : ME) (ms : MAE) : MAE := fun e => (m e).bind fun d e1 => (ms e1).bind fun ds e2 => .ok (d :: ds) e2
section
variable {X : Cx} {W : WX} {e : Expr} {es : List Expr} {m : MB} {ms : MA} {n : ME} {ns : MAE}
theorem a_nil : PA X [] (tAB X.K W aNil) := PA.mono pa_nil fun σ H Q ⟨e, F, r, h⟩ => h [] H [] (.refl _ _) .nil
theorem a_cons (p : PE X e (tB X.K W m)) (q : PA X es (tAB X.K W ms)) (hs : starEach (e :: es) X.env = (false, eval e X.env) :: starEach es X.env := by rfl) : PA X (e :: es) (tAB X.K W (aCons m ms)) := PA.mono (pa_cons p q hs) fun σ H Q ⟨e, F, r, h⟩ => by
  unfold aCons at h
  refine ⟨e, F, r, ?_⟩
  cases qa : m e with
  | bad => simp only [qa, Rs.bind] at h
  | exc y => simp only [qa, Rs.bind] at h; exact h
  | ok d =>
    simp only [qa, Rs.bind] at h
    intro v H1 G1 k1 p1
    refine ⟨e, F, r.same k1, ?_⟩
    cases qb : ms e with
    | bad => simp only [qb] at h
    | exc y => simp only [qb] at h; exact fun c dx H' k p => h c dx H' (k1.trans k fun _ m => by cases m) p
    | ok ds =>
      simp only [qb] at h
      exact fun vs H2 G2 k2 p2 => h (v :: vs) H2 _ (k1.trans k2 fun _ m => by cases m) (.cons (p1.same k2) p2)
theorem ae_nil : PA X [] (tAE X.K W anil) := PA.mono pa_nil fun σ H Q ⟨e, F, r, nd, h⟩ => h [] H [] F ⟨Ev.refl r nd, .nil, (fun _ m => by cases m), .nil, fun _ m => by cases m⟩
theorem ae_cons (p : PE X e (tE X.K W n)) (q : PA X es (tAE X.K W ns)) (hs : starEach (e :: es) X.env = (false, eval e X.env) :: starEach es X.env := by rfl) : PA X (e :: es) (tAE X.K W (acons n ns)) := PA.mono (pa_cons p q hs) fun σ H Q ⟨e, F, r, nd, h⟩ => by
  unfold acons at h
  refine ⟨e, F, r, nd, ?_⟩
  cases qa : n e with
  | bad => simp only [qa, Re.bind] at h
  | exc y e1 => simp only [qa, Re.bind] at h; exact h
  | ok d e1 =>
    simp only [qa, Re.bind] at h
    intro v H1 F1 x
    obtain ⟨G, F0, eF, p, x', hd, n1, nw⟩ := x.head
    refine ⟨e1, F0, x'.r, x'.nd, ?_⟩
    cases qb : ns e1 with
    | bad => simp only [qb] at h
    | exc y e2 => simp only [qb] at h; exact fun c dx H' F' y p => h c dx H' F' (x'.trans y) p
    | ok ds e2 =>
      simp only [qb] at h
      intro vs H2 G2 F2 y
      have dj : ∀ a ∈ G, a ∉ G2 := fun a m m' => (y.new a m').elim (hd a m) (p.there m)
      have dj2 : ∀ a ∈ G, a ∉ F2 := fun a m m' => (y.ev.new a m').elim (hd a m) (p.there m)
      refine h (v :: vs) H2 (G ++ G2) F2 ⟨x'.trans y.ev, .cons (p.keep y.ev.k hd) y.ps, fun a m => ?_, ?_, fun a m => ?_⟩
      · rcases List.mem_append.mp m with m | m
        · exact dj2 a m
        · exact y.hd a m
      · exact List.nodup_append.mpr ⟨n1, y.nd, fun a m b m' z => by subst z; exact dj a m m'⟩
      · rcases List.mem_append.mp m with m | m
        · exact nw a m
        · rcases y.new a m with z | z
          · exact x'.new a z
          · by_cases zz : a ∈ F
            · exact .inl zz
            · exact .inr (x'.k.none z zz)
end

/-! ### displays -/
def dTup (ms : MA) : MB := fun e => (ms e).bind fun ds => if imms ds = true ∧ fits ds.length = true then .ok (.tup ds) else .bad
def dLst (ms : MA) : MB := fun e => (ms e).bind fun ds => if imms ds = true ∧ fits ds.length = true then .ok (.lst ds) else .bad
def dTupE (ms : MAE) : ME := fun e => (ms e).bind fun ds e1 => if fits ds.length = true then .ok (.tup ds) e1 else .bad
def dLstE (ms : MAE) : ME := fun e => (ms e).bind fun ds e1 => if fits ds.length = true then .ok (.lst ds) e1 else .bad
section
variable {X : Cx} {W : WX} {es : List Expr} {pos : Pos} {ms : MA} {ns : MAE}
theorem x_tup {x1} (p : PA X es (tAB X.K W ms)) : PE X (.Tuple es x1 pos) (tN X.K W (dTup ms)) := PE.mono (pe_tup p) fun σ H Q ⟨e, F, r, h⟩ => by
  unfold dTup at h
  refine ⟨e, F, r, ?_⟩
  cases qa : ms e with
  | bad => simp only [qa, Rs.bind] at h
  | exc y => simp only [qa, Rs.bind] at h; exact h
  | ok ds =>
    simp only [qa, Rs.bind] at h
    intro vs H1 G k p
    by_cases hi : imms ds = true ∧ fits ds.length = true
    · rw [if_pos hi] at h
      have e1 := p.fpImm hi.1
      subst e1
      refine ⟨by rw [p.length]; exact fits_le hi.2, fun q hq => ?_⟩
      exact h _ _ [] (k.trans (.new hq []) fun _ m => by cases m) (.tup (.of upd_same) (p.same (.new hq _))) .nil fun _ m => by cases m
    · rw [if_neg hi] at h; exact h.elim
theorem x_lst (p : PA X es (tAB X.K W ms)) : PE X (.List es pos) (tN X.K W (dLst ms)) := PE.mono (pe_lst p) fun σ H Q ⟨e, F, r, h⟩ => by
  unfold dLst at h
  refine ⟨e, F, r, ?_⟩
  cases qa : ms e with
  | bad => simp only [qa, Rs.bind] at h
  | exc y => simp only [qa, Rs.bind] at h; exact h
  | ok ds =>
    simp only [qa, Rs.bind] at h
    intro vs H1 G k p
    by_cases hi : imms ds = true ∧ fits ds.length = true
    · rw [if_pos hi] at h
      have e1 := p.fpImm hi.1
      subst e1
      refine ⟨by rw [p.length]; exact fits_le hi.2, fun q hq => ?_⟩
      refine h _ _ [q] (k.trans (.new hq []) fun _ m => by cases m) (.lst upd_same (p.same (.new hq _))) (by simp) fun a m => ?_
      rw [List.mem_singleton.mp m]
      exact k.none hq fun m => by cases m
    · rw [if_neg hi] at h; exact h.elim
theorem e_tup {x1} (p : PA X es (tAE X.K W ns)) : PE X (.Tuple es x1 pos) (tE X.K W (dTupE ns)) := PE.mono (pe_tup p) fun σ H Q ⟨e, F, r, nd, h⟩ => by
  unfold dTupE at h
  refine ⟨e, F, r, nd, ?_⟩
  cases qa : ns e with
  | bad => simp only [qa, Re.bind] at h
  | exc y e1 => simp only [qa, Re.bind] at h; exact h
  | ok ds e1 =>
    simp only [qa, Re.bind] at h
    intro vs H1 G F1 x
    by_cases hi : fits ds.length = true
    · rw [if_pos hi] at h
      refine ⟨by rw [x.ps.length]; exact fits_le hi, fun q hq => ?_⟩
      exact h _ _ _ ((x.ev.grow (.new hq [])).cons (.tup (.of upd_same) (x.ps.same (.new hq _))) x.hd x.nd x.new)
    · rw [if_neg hi] at h; exact h.elim
theorem e_lst (p : PA X es (tAE X.K W ns)) : PE X (.List es pos) (tE X.K W (dLstE ns)) := PE.mono (pe_lst p) fun σ H Q ⟨e, F, r, nd, h⟩ => by
  unfold dLstE at h
  refine ⟨e, F, r, nd, ?_⟩
  cases qa : ns e with
  | bad => simp only [qa, Re.bind] at h
  | exc y e1 => simp only [qa, Re.bind] at h; exact h
  | ok ds e1 =>
    simp only [qa, Re.bind] at h
    intro vs H1 G F1 x
    by_cases hi : fits ds.length = true
    · rw [if_pos hi] at h
      refine ⟨by rw [x.ps.length]; exact fits_le hi, fun q hq => ?_⟩
      refine h _ _ _ ((x.ev.grow (.new hq [])).cons (.lst upd_same (x.ps.same (.new hq _))) (fun a m m' => ?_) ?_ fun a m => ?_)
      · rcases List.mem_cons.mp m with z | m
        · subst z; exact x.ev.r.there m' hq
        · exact x.hd a m m'
      · exact List.nodup_cons.mpr ⟨fun m => x.ps.there m hq, x.nd⟩
      · rcases List.mem_cons.mp m with z | m
        · subst z
          by_cases zz : a ∈ F
          · exact .inl zz
          · exact .inr (x.ev.k.none hq zz)
        · exact x.new a m
    · rw [if_neg hi] at h; exact h.elim
end

/-! ### built-in calls by values -/
def CallN (K : PySem.W.Frag) (r : List V → Hp → VK → Prop) (f : List D → Option D) : Prop := ∀ {H : Hp} {vs : List V} {ds : List D} {d : D} {G : List Addr} {Q : VK}, Rps K H vs ds G → f ds = some d →
  (∀ v H' G, Keeps [] H H' → Rp K H' v d G → G.Nodup → (∀ a ∈ G, H a = none) → Q v H') → r vs H Q
def cal (f : List D → Option D) (ms : MA) : MB := fun e => (ms e).bind fun ds => .of (f ds)
def calE (f : List D → Option D) (ms : MAE) : ME := fun e => (ms e).bind fun ds e1 => (Rs.of (f ds)).at e1
section
variable {K : PySem.W.Frag} {W : WX} {r : List V → Hp → VK → Prop} {f : List D → Option D} {ms : MA} {ns : MAE} {σ : L2.St} {H : Hp} {Q : VK}
theorem cal_b (o : CallN K r f) (h : tN K W (cal f ms) σ H Q) : tAB K W ms σ H fun vs H1 => r vs H1 Q := by
  obtain ⟨e, F, rl, h⟩ := h
  unfold cal at h
  refine ⟨e, F, rl, ?_⟩
  cases qa : ms e with
  | bad => rw [qa] at h; exact h
  | exc y => rw [qa] at h; exact h
  | ok ds =>
    rw [qa] at h
    intro vs H1 G1 k1 p1
    cases qf : f ds with
    | none => simp only [Rs.bind, qf, Rs.of] at h
    | some d =>
      simp only [Rs.bind, qf, Rs.of] at h
      exact o p1 qf fun v H' G k p n1 n2 => h v H' G (k1.trans k fun _ m => by cases m) p n1 fun z m => k1.none (n2 z m) fun m => by cases m
theorem cal_e (o : CallN K r f) (h : tE K W (calE f ns) σ H Q) : tAE K W ns σ H fun vs H1 => r vs H1 Q := by
  obtain ⟨e, F, rl, nd, h⟩ := h
  unfold calE at h
  refine ⟨e, F, rl, nd, ?_⟩
  cases qa : ns e with
  | bad => rw [qa] at h; exact h
  | exc y e1 => rw [qa] at h; exact h
  | ok ds e1 =>
    rw [qa] at h
    intro vs H1 G F1 x
    cases qf : f ds with
    | none => simp only [Re.bind, qf, Rs.of, Rs.at] at h
    | some d =>
      simp only [Re.bind, qf, Rs.of, Rs.at] at h
      exact o x.ps qf fun v H' G' k p' n1' n2' => h v H' _ (x.ev.consNew k p' n1' n2')
variable {X : Cx} {x : Str} {p pos : Pos} {e : Expr} {es : List Expr} {id T : String}
theorem x_callB (hc : CallR X (.builtin id) r) (o : CallN X.K r f) (hg : Gl X x) (hm : X.mg x = none) (hv : bootBuiltins x = some (.builtin id)) (ha : PA X (e :: es) (tAB X.K W ms)) : PE X (.Call (.Name x p) (e :: es) [] pos) (tCB r (tAB X.K W ms)) → PE X (.Call (.Name x p) (e :: es) [] pos) (tN X.K W (cal f ms)) :=
  fun q => PE.mono q fun _ _ _ => cal_b o
theorem x_call (o : CallN X.K r f) (q : PE X (.Call (.Name x p) (e :: es) [] pos) (tCB r (tAB X.K W ms))) : PE X (.Call (.Name x p) (e :: es) [] pos) (tN X.K W (cal f ms)) := PE.mono q fun _ _ _ => cal_b o
theorem e_call (o : CallN X.K r f) (q : PE X (.Call (.Name x p) (e :: es) [] pos) (tCB r (tAE X.K W ns))) : PE X (.Call (.Name x p) (e :: es) [] pos) (tE X.K W (calE f ns)) := PE.mono q fun _ _ _ => cal_e o
end
def lenD : D → Option Nat
  | .str s => if fits s.length = true then some s.length else none
  | .tup ds => some ds.length
  | .lst ds => some ds.length
  | .rol ds => some ds.length
  | _ => none
def fLen : List D → Option D
  | [d] => (lenD d).map fun (n : Nat) => .int (n : Int)
  | _ => none
def fInt : List D → Option D
  | [.int i] => some (.int i)
  | [.bl b] => some (.int (if b = true then 1 else 0))
  | [.str s] => if s.length ≤ 640 then (PySem.intText? ⟨s.toArray⟩).map .int else none
  | _ => none
def fStr : List D → Option D
  | [.int i] => if big64 i = true then some (.str (lit (toString i))) else none
  | [.str s] => some (.str s)
  | _ => none
def fAbs : List D → Option D
  | [.int i] => some (.int (if i < 0 then -i else i))
  | _ => none
def fMax : List D → Option D
  | [.int i, .int j] => some (.int (if j > i then j else i))
  | _ => none
def fMin : List D → Option D
  | [.int i, .int j] => some (.int (if j < i then j else i))
  | _ => none
def fOrd : List D → Option D
  | [.str [c]] => some (.int c)
  | _ => none
def fTuple : List D → Option D
  | [.tup ds] => if imms ds = true then some (.tup ds) else none
  | [.lst ds] => if imms ds = true then some (.tup ds) else none
  | [.rol ds] => if imms ds = true then some (.tup ds) else none
  | _ => none
def fList : List D → Option D
  | [.tup ds] => if imms ds = true then some (.lst ds) else none
  | [.lst ds] => if imms ds = true then some (.lst ds) else none
  | [.rol ds] => if imms ds = true then some (.lst ds) else none
  | _ => none
def fDivmod : List D → Option D
  | [.int i, .int j] => if 0 < j ∧ j < 1073741824 then some (.tup [.int (i / j), .int (i % j)]) else none
  | _ => none
def tyName : D → Option String
  | .non => some "NoneType"
  | .bl _ => some "bool"
  | .int _ => some "int"
  | .str _ => some "str"
  | .tup _ => some "tuple"
  | .lst _ => some "list"
  | .rol _ => some "list"
  | .dct _ => some "dict"
  | _ => none
def fIsi : List D → Option D
  | [d, .raw (.ty n)] => (tyName d).bind fun a => (kitB a n).map .bl
  | _ => none
/-- isinstance of one of two -/
def fIsi2 : List D → Option D
  | [d, .tup [.raw (.ty n), .raw (.ty m)]] => (tyName d).bind fun a => (kitB a n).bind fun b => (kitB a m).map fun c => .bl (b || c)
  | _ => none
section
variable {X : Cx} {K : PySem.W.Frag}
theorem SqL.rol {H : Hp} {a : Addr} {o : Obj} {vs : List V} (h : H a = some (.frz o (.lst vs))) : SqL K H a vs := .inl (.inr ⟨o, h⟩)
theorem n_len : CallN K (fun xs H Q => ∃ (x : V) (n : Nat), xs = [x] ∧ LenV K x H n ∧ Q (.int n) H) fLen := by
  intro H vs ds d G Q p e h
  unfold fLen at e
  split at e
  · obtain ⟨n, e1, e2⟩ := Option.map_eq_some_iff.mp e
    subst e2
    cases p with | cons p q => ?_
    cases q
    refine ⟨_, n, rfl, ?_, Rp.same0 h .int⟩
    unfold lenD at e1
    split at e1
    · split at e1
      · rename_i hf
        cases e1; cases p
        exact ⟨by simpa [Str.length] using fits_le hf, by simp [Str.length]⟩
      · cases e1
    · cases e1
      cases p with | tup ha ra => ?_
      exact .inr ⟨_, ha.sq, ra.length.symm⟩
    · cases e1
      cases p with | lst ha ra => ?_
      exact .inl ⟨_, .of ha, ra.length.symm⟩
    · cases e1
      cases p with | rol ha ra => ?_
      exact .inl ⟨_, ha.sq, ra.length.symm⟩
    · cases e1
  · cases e
abbrev rIntA : List V → Hp → VK → Prop := fun xs H Q => ((∃ i, xs = [.int i] ∧ Q (.int i) H) ∨ ∃ k, xs = [.bl k] ∧ Q (.int (if k then 1 else 0)) H) ∨ ∃ a n, xs = [.str a] ∧ PySem.intText? a = some n ∧ a.length ≤ 640 ∧ Q (.int n) H
theorem c_int : CallR X (.type "int") rIntA := call_int1.or call_int_str
theorem n_int : CallN K rIntA fInt := by
  intro H vs ds d G Q p e h
  unfold fInt at e
  split at e
  · cases e
    cases p with | cons p q => ?_
    cases q; cases p
    exact .inl (.inl ⟨_, rfl, Rp.same0 h .int⟩)
  · cases e
    cases p with | cons p q => ?_
    cases q; cases p
    exact .inl (.inr ⟨_, rfl, Rp.same0 h .int⟩)
  · split at e
    · rename_i hl
      obtain ⟨n, e1, e2⟩ := Option.map_eq_some_iff.mp e
      subst e2
      cases p with | cons p q => ?_
      cases q
      cases p with | str hx => ?_
      refine .inr ⟨_, n, rfl, ?_, by simpa [Str.length] using hl, Rp.same0 h .int⟩
      rw [← e1]
    · cases e
  · cases e
abbrev rStrA : List V → Hp → VK → Prop := fun xs H Q => (∃ i, xs = [.int i] ∧ i.natAbs.log2 < 1920 ∧ Q (.str (toString i)) H) ∨ ∃ a, xs = [.str a] ∧ Q (.str a) H
theorem c_str : CallR X (.type "str") rStrA := call_str_int.or SkE.call_str_str
theorem n_str : CallN K rStrA fStr := by
  intro H vs ds d G Q p e h
  unfold fStr at e
  split at e
  · split at e
    · rename_i i hi
      cases e
      cases p with | cons p q => ?_
      cases q; cases p
      have hb : -(2 ^ 64) < i ∧ i < 2 ^ 64 := of_decide_eq_true hi
      refine .inl ⟨_, rfl, ?_, Rp.same0 h (.str (lit_ok _))⟩
      have h1 : i.natAbs < 2 ^ 64 := by omega
      by_cases hz : i.natAbs = 0
      · rw [hz]; decide
      · exact Nat.lt_trans ((Nat.log2_lt hz).mpr h1) (by decide)
    · cases e
  · cases e
    cases p with | cons p q => ?_
    cases q
    cases p with | str hx => ?_
    exact .inr ⟨_, rfl, Rp.same0 h (.str hx)⟩
  · cases e
theorem n_abs : CallN K (fun xs H Q => ∃ i, xs = [.int i] ∧ Q (.int (if i < 0 then -i else i)) H) fAbs := by
  intro H vs ds d G Q p e h
  unfold fAbs at e
  split at e
  · cases e
    cases p with | cons p q => ?_
    cases q; cases p
    exact ⟨_, rfl, Rp.same0 h .int⟩
  · cases e
theorem n_max : CallN K (fun xs H Q => ∃ i j, xs = [.int i, .int j] ∧ Q (.int (if j > i then j else i)) H) fMax := by
  intro H vs ds d G Q p e h
  unfold fMax at e
  split at e
  · cases e
    cases p with | cons p q => ?_
    cases q with | cons q z => ?_
    cases z; cases p; cases q
    exact ⟨_, _, rfl, Rp.same0 h .int⟩
  · cases e
theorem n_min : CallN K (fun xs H Q => ∃ i j, xs = [.int i, .int j] ∧ Q (.int (if j < i then j else i)) H) fMin := by
  intro H vs ds d G Q p e h
  unfold fMin at e
  split at e
  · cases e
    cases p with | cons p q => ?_
    cases q with | cons q z => ?_
    cases z; cases p; cases q
    exact ⟨_, _, rfl, Rp.same0 h .int⟩
  · cases e
theorem n_ord : CallN K (fun xs H Q => ∃ x, xs = [.str x] ∧ x.length = 1 ∧ Q (.int (x.cps.getD 0 0 : Nat)) H) fOrd := by
  intro H vs ds d G Q p e h
  unfold fOrd at e
  split at e
  · rename_i c
    cases e
    cases p with | cons p q => ?_
    cases q
    generalize hs : ([c] : List Nat) = s at p
    cases p with | str hx => ?_
    refine ⟨_, rfl, ?_, ?_⟩
    · rw [str_one hs.symm]; rfl
    · rw [str_one hs.symm]; exact Rp.same0 h .int
  · cases e
abbrev rTupleA (K : PySem.W.Frag) : List V → Hp → VK → Prop := fun xs H Q => ∃ p ys, xs = [.ref p] ∧ ((SqL K H p ys ∧ ∀ l, H l = none → Q (.ref l) (upd H l (.tup ys))) ∨ (SqT K H p ys ∧ Q (.ref p) H))
theorem n_tuple : CallN K (rTupleA K) fTuple := by
  intro H vs ds d G Q p e h
  have newT : ∀ {vs : List V} {ds : List D} (r : Rps K H vs ds []), (∀ v H' G, Keeps [] H H' → Rp K H' v (.tup ds) G → G.Nodup → (∀ a ∈ G, H a = none) → Q v H') → ∀ l, H l = none → Q (.ref l) (upd H l (.tup vs)) :=
    fun r h l hl => h _ _ [] (.new hl _) (.tup (.of upd_same) (r.same (.new hl _))) .nil fun _ m => by cases m
  unfold fTuple at e
  split at e
  · split at e
    · rename_i hi
      cases e
      cases p with | cons p q => ?_
      cases q
      cases p with | tup ha ra => ?_
      have e1 := Rps.fpImm ra hi
      subst e1
      exact ⟨_, _, rfl, .inr ⟨ha.sq, Rp.same0 h (.tup ha ra)⟩⟩
    · cases e
  · split at e
    · rename_i hi
      cases e
      cases p with | cons p q => ?_
      cases q
      cases p with | lst ha ra => ?_
      have e1 := Rps.fpImm ra hi
      subst e1
      exact ⟨_, _, rfl, .inl ⟨.of ha, newT ra h⟩⟩
    · cases e
  · split at e
    · rename_i hi
      cases e
      cases p with | cons p q => ?_
      cases q
      cases p with | rol ha ra => ?_
      exact ⟨_, _, rfl, .inl ⟨ha.sq, newT ra h⟩⟩
    · cases e
  · cases e
abbrev rListA (K : PySem.W.Frag) : List V → Hp → VK → Prop := fun xs H Q => ∃ p ys, xs = [.ref p] ∧ (SqL K H p ys ∨ SqT K H p ys) ∧ ∀ l, H l = none → Q (.ref l) (upd H l (.lst ys))
theorem n_list : CallN K (rListA K) fList := by
  intro H vs ds d G Q p e h
  have newL : ∀ {vs : List V} {ds : List D} (r : Rps K H vs ds []), (∀ v H' G, Keeps [] H H' → Rp K H' v (.lst ds) G → G.Nodup → (∀ a ∈ G, H a = none) → Q v H') → ∀ l, H l = none → Q (.ref l) (upd H l (.lst vs)) :=
    fun r h l hl => h _ _ [l] (.new hl _) (.lst upd_same (r.same (.new hl _))) (by simp) fun a m => by rw [List.mem_singleton.mp m]; exact hl
  unfold fList at e
  split at e
  · split at e
    · rename_i hi
      cases e
      cases p with | cons p q => ?_
      cases q
      cases p with | tup ha ra => ?_
      have e1 := Rps.fpImm ra hi
      subst e1
      exact ⟨_, _, rfl, .inr ha.sq, newL ra h⟩
    · cases e
  · split at e
    · rename_i hi
      cases e
      cases p with | cons p q => ?_
      cases q
      cases p with | lst ha ra => ?_
      have e1 := Rps.fpImm ra hi
      subst e1
      exact ⟨_, _, rfl, .inl (.of ha), newL ra h⟩
    · cases e
  · split at e
    · rename_i hi
      cases e
      cases p with | cons p q => ?_
      cases q
      cases p with | rol ha ra => ?_
      exact ⟨_, _, rfl, .inl (ha.sq), newL ra h⟩
    · cases e
  · cases e
theorem n_divmod : CallN K (fun xs H Q => ∃ i j, xs = [.int i, .int j] ∧ CDiv i j ∧ ∀ p, H p = none → Q (.ref p) (upd H p (.tup [.int (i / j), .int (i % j)]))) fDivmod := by
  intro H vs ds d G Q p e h
  unfold fDivmod at e
  split at e
  · split at e
    · rename_i hf
      cases e
      cases p with | cons p q => ?_
      cases q with | cons q z => ?_
      cases z; cases p; cases q
      exact ⟨_, _, rfl, hf, fun l hl => h _ _ [] (.new hl _) (.tup (.of upd_same) (.cons .int (.cons .int .nil))) .nil fun _ m => by cases m⟩
    · cases e
  · cases e
theorem tyX {H : Hp} {v : V} {d : D} {G : List Addr} {a : String} (p : Rp K H v d G) (e : tyName d = some a) : TyX K H v (.type a) := by
  cases p with
  | non => cases e; exact .base .non
  | bl => cases e; exact .base (.bl _)
  | int => cases e; exact .base (.int _)
  | str h => cases e; exact .base (.str _)
  | raw => cases e
  | tup h r =>
    cases e
    rcases h with h | ⟨o, its, n, h, c, _⟩
    · exact .base (.tup h)
    · exact .kTuple h c
  | lst h r => cases e; exact .base (.lst h)
  | rol h r =>
    cases e
    rcases h with ⟨o, h⟩ | ⟨o, its, n, h, c, _⟩
    · exact .base (.frz h)
    · exact .kList h c
  | dct h c r => cases e; exact .base (.dK h)
  | rdc h c r => cases e
  | ins _ _ _ _ => cases e
theorem n_isi : CallN K (rIsi K) fIsi := by
  intro H vs ds d G Q p e h
  unfold fIsi at e
  split at e
  · rename_i x n
    cases p with | cons p q => ?_
    cases q with | cons q z => ?_
    cases z; cases q
    obtain ⟨a, e1, e2⟩ := Option.bind_eq_some_iff.mp e
    obtain ⟨b, e3, e4⟩ := Option.map_eq_some_iff.mp e2
    subst e4
    exact ⟨_, _, _, _, b, rfl, .ty n, tyX p e1, kit_ty e3, Rp.same0 h .bl⟩
  · cases e
abbrev rIsi2A (K : PySem.W.Frag) : List V → Hp → VK → Prop := fun xs H Q => rIsiT K xs H Q ∨ rIsiK K xs H Q
theorem c_isi2 : CallR X (.builtin "isinstance") (rIsi2A X.K) := call_isiT.or call_isiK
theorem n_isi2 : CallN K (rIsi2A K) fIsi2 := by
  intro H vs ds d G Q p e h
  unfold fIsi2 at e
  split at e
  · rename_i x n m
    cases p with | cons p q => ?_
    cases q with | cons q z => ?_
    cases z
    cases q with | tup ht rt => ?_
    cases rt with | cons r1 r2 => ?_
    cases r2 with | cons r2 r3 => ?_
    cases r1; cases r2; cases r3
    obtain ⟨a, e1, e2⟩ := Option.bind_eq_some_iff.mp e
    obtain ⟨b, e3, e4⟩ := Option.bind_eq_some_iff.mp e2
    obtain ⟨c, e5, e6⟩ := Option.map_eq_some_iff.mp e4
    subst e6
    have any : PySem.W.kitAny K (.type a) [.type n, .type m] = some (b || c) := by
      refine kitAny_cons (kit_ty e3) (fun z => ?_) fun z => by rw [z]; rfl
      subst z
      exact kitAny_cons (kit_ty e5) (fun z => by rw [z]; exact kitAny_nil) fun z => by rw [z]; rfl
    rcases ht with ht | ⟨o, its, n', hk, hc, hd, hz, hv⟩
    · exact .inl ⟨_, _, _, _, _, _, rfl, ht, .cons (.ty n) (.cons (.ty m) .nil), tyX p e1, any, Rp.same0 h .bl⟩
    · have e7 : its.toList = [.type n, .type m] := ClsV.all (.cons (.ty n) (.cons (.ty m) .nil)) hv
      obtain ⟨oc, od, dt, sl⟩ := o
      simp only at hc hd
      subst hc hd
      have e8 : its = [Value.type n, Value.type m].toArray := by rw [← e7]
      subst e8
      exact .inr ⟨_, _, _, _, _, _, _, _, rfl, hk, tyX p e1, any, Rp.same0 h .bl⟩
  · cases e
end
end Mir

namespace Mir
open PySem PySem.Spec L2

section
variable {K : PySem.W.Frag} {W : WX} {σ : L2.St} {H : Hp} {Q : VK}
theorem ofN_N {m : MB} (h : tE K W (ofN m) σ H Q) : tN K W m σ H Q := by
  obtain ⟨e, F, r, nd, h⟩ := h
  refine ⟨e, F, r, ?_⟩
  unfold ofN Rs.at at h
  cases q : m e with
  | ok d => rw [q] at h; exact fun v H' G k p n1 n2 => h v H' _ ((Ev.refl r nd).consNew k p n1 n2)
  | exc y => rw [q] at h; exact fun c dx H' k p => h c dx H' _ (Ev.pure r nd k) p
  | bad => rw [q] at h; exact h
theorem own_B {m : MB} (h : tE K W (own m) σ H Q) : tB K W m σ H Q := by
  obtain ⟨e, F, r, nd, h⟩ := h
  refine ⟨e, F, r, ?_⟩
  unfold own at h
  cases q : m e with
  | ok d =>
    rw [q] at h
    by_cases hi : imm d = true
    · simp only [Rs.bind, hi, if_true, Rs.at] at h
      exact fun v H' G k p => h v H' F ((Ev.pure r nd k).consImm p hi)
    · simp only [Rs.bind, hi, Rs.at] at h
      exact h.elim
  | exc y => rw [q] at h; exact fun c dx H' k p => h c dx H' _ (Ev.pure r nd k) p
  | bad => rw [q] at h; exact h
end
/-! ### tests -/
def tst (n : ME) : MT := fun e => (n e).bind fun d e1 => match d with
  | .bl b => .ok b e1
  | _ => .bad
def andT (t u : MT) : MT := fun e => (t e).bind fun c e1 => if c = true then u e1 else .ok false e1
def orT (t u : MT) : MT := fun e => (t e).bind fun c e1 => if c = true then .ok true e1 else u e1
def notT (t : MT) : MT := fun e => (t e).bind fun c e1 => .ok (!c) e1
section
variable {K : PySem.W.Frag} {W : WX} {σ : L2.St} {H : Hp}
theorem tst_of {n : ME} {Q : Bool → Hp → Prop} (h : tT K W (tst n) σ H Q) : tE K W n σ H fun x H' => ∃ k, x = .bl k ∧ Q k H' := by
  obtain ⟨e, F, r, nd, h⟩ := h
  refine ⟨e, F, r, nd, ?_⟩
  unfold tst at h
  cases q : n e with
  | bad => simp only [q, Re.bind] at h
  | exc y e1 => simp only [q, Re.bind] at h; exact h
  | ok d e1 =>
    simp only [q, Re.bind] at h
    intro v H' F' x
    obtain ⟨G, F0, eF, p, x', hd, n1, nw⟩ := x.head
    cases d with
    | bl b => cases p; exact ⟨b, rfl, h H' F0 x'⟩
    | _ => exact h.elim
theorem and_of {t u : MT} {Q : Bool → Hp → Prop} (h : tT K W (andT t u) σ H Q) : tAnd (tT K W t) (tT K W u) σ H Q := by
  obtain ⟨e, F, r, nd, h⟩ := h
  refine ⟨e, F, r, nd, ?_⟩
  unfold andT at h
  cases q : t e with
  | bad => simp only [q, Re.bind] at h
  | exc y e1 => simp only [q, Re.bind] at h; exact h
  | ok c e1 =>
    simp only [q, Re.bind] at h
    intro H1 F1 x
    cases c with
    | false => exact h H1 F1 x
    | true =>
      simp only [if_true] at h ⊢
      refine ⟨e1, F1, x.r, x.nd, ?_⟩
      cases q2 : u e1 with
      | bad => rw [q2] at h; exact h
      | exc y e2 => rw [q2] at h; exact fun c dx H' F' y p => h c dx H' F' (x.trans y) p
      | ok b e2 => rw [q2] at h; exact fun H' F' y => h H' F' (x.trans y)
theorem or_of {t u : MT} {Q : Bool → Hp → Prop} (h : tT K W (orT t u) σ H Q) : tOr (tT K W t) (tT K W u) σ H Q := by
  obtain ⟨e, F, r, nd, h⟩ := h
  refine ⟨e, F, r, nd, ?_⟩
  unfold orT at h
  cases q : t e with
  | bad => simp only [q, Re.bind] at h
  | exc y e1 => simp only [q, Re.bind] at h; exact h
  | ok c e1 =>
    simp only [q, Re.bind] at h
    intro H1 F1 x
    cases c with
    | true => exact h H1 F1 x
    | false =>
      simp only [Bool.false_eq_true, if_false] at h ⊢
      refine ⟨e1, F1, x.r, x.nd, ?_⟩
      cases q2 : u e1 with
      | bad => rw [q2] at h; exact h
      | exc y e2 => rw [q2] at h; exact fun c dx H' F' y p => h c dx H' F' (x.trans y) p
      | ok b e2 => rw [q2] at h; exact fun H' F' y => h H' F' (x.trans y)
theorem not_of {t : MT} {Q : Bool → Hp → Prop} (h : tT K W (notT t) σ H Q) : tNot (tT K W t) σ H Q := by
  obtain ⟨e, F, r, nd, h⟩ := h
  refine ⟨e, F, r, nd, ?_⟩
  unfold notT at h
  cases q : t e with
  | bad => simp only [q, Re.bind] at h
  | exc y e1 => simp only [q, Re.bind] at h; exact h
  | ok c e1 =>
    simp only [q, Re.bind] at h
    exact fun H1 F1 x => h H1 F1 x
variable {X : Cx} {a b : Expr} {pos : Pos} {ma mb : MB} {na n2 : ME} {f : D → D → Option D} {r : R2} {t u : MT} {rest : List Expr}
theorem t_val {e : Expr} {n : ME} (h : PE X e (tE X.K W n)) (he : ∀ whole, isTrue e X.env whole = (do let v ← whole; standAt e.pos; holding [v] (truthy v)) := by intro _; rfl) : PT X e (tT X.K W (tst n)) := PT.mono (pt_val h he) fun _ _ _ h => tst_of h
theorem t_cmp {op : CmpOp} (o : OpR X (compareOp op) r) (n : OpN X.K r f) (pa : PE X a (tB X.K W ma)) (pb : PE X b (tB X.K W mb)) (hm : behindInMarks op b = false) : PT X (.Compare a [op] [b] pos) (tT X.K W (tst (ofN (bin f ma mb)))) := PT.mono (pt_cmpR o pa pb hm) fun _ _ _ h => op_bb n (ofN_N (tst_of h))
theorem te_cmp {op : CmpOp} (o : OpR X (compareOp op) r) (n : OpN X.K r f) (pa : PE X a (tE X.K W na)) (pb : PE X b (tE X.K W n2)) (hm : behindInMarks op b = false) : PT X (.Compare a [op] [b] pos) (tT X.K W (tst (binE f na n2))) := PT.mono (pt_cmpR o pa pb hm) fun _ _ _ h => op_ee n (tst_of h)
theorem tv_cmp {op : CmpOp} {i : Nat} {x : Str} {p1 : Pos} (o : OpR X (compareOp op) r) (n : OpN X.K r f) (pb : PE X b (tE X.K W n2)) (hm : behindInMarks op b = false) (hN : X.N[i]? = some x := by rfl) (hv : Vis X.env.scope x := by first | exact Or.inl rfl | exact Or.inr (Or.inl rfl) | exact Or.inr (Or.inr rfl)) (hd : (x == ("__debug__" : Str)) = false := by decide)
    (hcd : (x == ("__classdict__" : Str)) = false := by decide) : PT X (.Compare (.Name x p1) [op] [b] pos) (tT X.K W (tst (binV f i n2))) := PT.mono (pt_cmpR o (pe_var hN hv hd hcd) pb hm) fun _ _ _ h => op_ve n (tst_of h)
theorem t_and1 (ha : PT X a (tT X.K W t)) : PW X (.BoolOp .And [a] pos) (tT X.K W t) := pw_and1 ha
theorem t_or1 (ha : PT X a (tT X.K W t)) : PW X (.BoolOp .Or [a] pos) (tT X.K W t) := pw_or1 ha
theorem t_and (ha : PT X a (tT X.K W t)) (hb : PW X (.BoolOp .And (b :: rest) pos) (tT X.K W u)) : PW X (.BoolOp .And (a :: b :: rest) pos) (tT X.K W (andT t u)) := PW.mono (pw_and ha hb) fun _ _ _ h => and_of h
theorem t_or (ha : PT X a (tT X.K W t)) (hb : PW X (.BoolOp .Or (b :: rest) pos) (tT X.K W u)) : PW X (.BoolOp .Or (a :: b :: rest) pos) (tT X.K W (orT t u)) := PW.mono (pw_or ha hb) fun _ _ _ h => or_of h
theorem t_not (ha : PT X a (tT X.K W t)) : PT X (.UnaryOp .Not a pos) (tT X.K W (notT t)) := PT.mono (pt_not ha) fun _ _ _ h => not_of h
end

/-! ### and, or, not as values -/
def bl1 {α : Type} (d : D) (k : Bool → Rs α) : Rs α := match d with
  | .bl b => k b
  | _ => .bad
def bl2 {α : Type} (d : D) (k : Bool → Re α) : Re α := match d with
  | .bl b => k b
  | _ => .bad
def andB (ma mb : MB) : MB := fun e => (ma e).bind fun a => bl1 a fun k => if k = true then (mb e).bind fun b => bl1 b fun c => .ok (.bl c) else .ok (.bl false)
def orB (ma mb : MB) : MB := fun e => (ma e).bind fun a => bl1 a fun k => if k = true then .ok (.bl true) else (mb e).bind fun b => bl1 b fun c => .ok (.bl c)
def notB (ma : MB) : MB := fun e => (ma e).bind fun a => bl1 a fun k => .ok (.bl (!k))
def andE (ma mb : ME) : ME := fun e => (ma e).bind fun a e1 => bl2 a fun k => if k = true then (mb e1).bind fun b e2 => bl2 b fun c => .ok (.bl c) e2 else .ok (.bl false) e1
def orE (ma mb : ME) : ME := fun e => (ma e).bind fun a e1 => bl2 a fun k => if k = true then .ok (.bl true) e1 else (mb e1).bind fun b e2 => bl2 b fun c => .ok (.bl c) e2
def notE (ma : ME) : ME := fun e => (ma e).bind fun a e1 => bl2 a fun k => .ok (.bl (!k)) e1
section
variable {K : PySem.W.Frag} {W : WX} {σ : L2.St} {H : Hp} {Q : VK}
theorem bl_B {m : MB} (h : tN K W (fun e => (m e).bind fun b => bl1 b fun c => .ok (.bl c)) σ H Q) : tB K W m σ H Q := by
  obtain ⟨e, F, r, h⟩ := h
  refine ⟨e, F, r, ?_⟩
  cases q : m e with
  | bad => simp only [q, Rs.bind] at h
  | exc y => simp only [q, Rs.bind] at h; exact h
  | ok d =>
    simp only [q, Rs.bind] at h
    intro v H' G k p
    cases d with
    | bl b => cases p; exact h _ H' [] k .bl .nil fun _ m => by cases m
    | _ => exact h.elim
theorem bl_E {m : ME} (h : tE K W (fun e => (m e).bind fun b e2 => bl2 b fun c => .ok (.bl c) e2) σ H Q) : tE K W m σ H Q := by
  obtain ⟨e, F, r, nd, h⟩ := h
  refine ⟨e, F, r, nd, ?_⟩
  cases q : m e with
  | bad => simp only [q, Re.bind] at h
  | exc y e1 => simp only [q, Re.bind] at h; exact h
  | ok d e1 =>
    simp only [q, Re.bind] at h
    cases d with
    | bl b => exact h
    | _ => exact h.elim
theorem andB_of {ma mb : MB} (h : tN K W (andB ma mb) σ H Q) : tAndV (tB K W ma) (tB K W mb) σ H Q := by
  obtain ⟨e, F, r, h⟩ := h
  refine ⟨e, F, r, ?_⟩
  unfold andB at h
  cases q : ma e with
  | bad => simp only [q, Rs.bind] at h
  | exc y => simp only [q, Rs.bind] at h; exact h
  | ok d =>
    simp only [q, Rs.bind] at h
    intro v H' G k p
    cases d with
    | bl b =>
      cases p
      refine ⟨b, rfl, ?_⟩
      cases b with
      | true =>
        simp only [bl1, if_true] at h ⊢
        refine bl_B ⟨e, F, r.same k, ?_⟩
        cases q2 : mb e with
        | bad => simp only [q2] at h
        | exc y =>
          simp only [q2, Rs.bind] at h ⊢
          exact fun c dx H2 k2 p => h c dx H2 (k.trans k2 (fun _ m => by cases m)) p
        | ok d2 =>
          simp only [q2, Rs.bind] at h ⊢
          cases d2 with
          | bl c => exact fun v H2 G2 k2 p2 n1 n2 => h v H2 G2 (k.trans k2 (fun _ m => by cases m)) p2 n1 (fun z m => k.none (n2 z m) (fun m => by cases m))
          | _ => exact h.elim
      | false =>
        simp only [bl1] at h
        exact h _ H' [] k .bl .nil fun _ m => by cases m
    | _ => exact h.elim
theorem orB_of {ma mb : MB} (h : tN K W (orB ma mb) σ H Q) : tOrV (tB K W ma) (tB K W mb) σ H Q := by
  obtain ⟨e, F, r, h⟩ := h
  refine ⟨e, F, r, ?_⟩
  unfold orB at h
  cases q : ma e with
  | bad => simp only [q, Rs.bind] at h
  | exc y => simp only [q, Rs.bind] at h; exact h
  | ok d =>
    simp only [q, Rs.bind] at h
    intro v H' G k p
    cases d with
    | bl b =>
      cases p
      refine ⟨b, rfl, ?_⟩
      cases b with
      | false =>
        simp only [bl1, Bool.false_eq_true, if_false] at h ⊢
        refine bl_B ⟨e, F, r.same k, ?_⟩
        cases q2 : mb e with
        | bad => simp only [q2] at h
        | exc y =>
          simp only [q2, Rs.bind] at h ⊢
          exact fun c dx H2 k2 p => h c dx H2 (k.trans k2 (fun _ m => by cases m)) p
        | ok d2 =>
          simp only [q2, Rs.bind] at h ⊢
          cases d2 with
          | bl c => exact fun v H2 G2 k2 p2 n1 n2 => h v H2 G2 (k.trans k2 (fun _ m => by cases m)) p2 n1 (fun z m => k.none (n2 z m) (fun m => by cases m))
          | _ => exact h.elim
      | true =>
        simp only [bl1] at h
        exact h _ H' [] k .bl .nil fun _ m => by cases m
    | _ => exact h.elim
theorem notB_of {ma : MB} (h : tN K W (notB ma) σ H Q) : tNotV (tB K W ma) σ H Q := by
  obtain ⟨e, F, r, h⟩ := h
  refine ⟨e, F, r, ?_⟩
  unfold notB at h
  cases q : ma e with
  | bad => simp only [q, Rs.bind] at h
  | exc y => simp only [q, Rs.bind] at h; exact h
  | ok d =>
    simp only [q, Rs.bind] at h
    intro v H' G k p
    cases d with
    | bl b => cases p; exact ⟨b, rfl, h _ H' [] k .bl .nil fun _ m => by cases m⟩
    | _ => exact h.elim
theorem andE_of {ma mb : ME} (h : tE K W (andE ma mb) σ H Q) : tAndV (tE K W ma) (tE K W mb) σ H Q := by
  obtain ⟨e, F, r, nd, h⟩ := h
  refine ⟨e, F, r, nd, ?_⟩
  unfold andE at h
  cases q : ma e with
  | bad => simp only [q, Re.bind] at h
  | exc y e1 => simp only [q, Re.bind] at h; exact h
  | ok d e1 =>
    simp only [q, Re.bind] at h
    intro v H1 F1 x
    obtain ⟨G, F0, eF, p, x', hd, n1, nw⟩ := x.head
    cases d with
    | bl b =>
      cases p
      refine ⟨b, rfl, ?_⟩
      cases b with
      | true =>
        simp only [bl2, if_true] at h ⊢
        refine bl_E ⟨e1, F0, x'.r, x'.nd, ?_⟩
        cases q2 : mb e1 with
        | bad => simp only [q2] at h
        | exc y e2 =>
          simp only [q2, Re.bind] at h ⊢
          exact fun c dx H2 F2 y p => h c dx H2 F2 (x'.trans y) p
        | ok d2 e2 =>
          simp only [q2, Re.bind] at h ⊢
          cases d2 with
          | bl c => exact fun v H2 F2 y => h v H2 F2 (x'.trans y)
          | _ => exact h.elim
      | false =>
        simp only [bl2] at h
        exact h _ H1 _ (x'.consImm .bl rfl)
    | _ => exact h.elim
theorem orE_of {ma mb : ME} (h : tE K W (orE ma mb) σ H Q) : tOrV (tE K W ma) (tE K W mb) σ H Q := by
  obtain ⟨e, F, r, nd, h⟩ := h
  refine ⟨e, F, r, nd, ?_⟩
  unfold orE at h
  cases q : ma e with
  | bad => simp only [q, Re.bind] at h
  | exc y e1 => simp only [q, Re.bind] at h; exact h
  | ok d e1 =>
    simp only [q, Re.bind] at h
    intro v H1 F1 x
    obtain ⟨G, F0, eF, p, x', hd, n1, nw⟩ := x.head
    cases d with
    | bl b =>
      cases p
      refine ⟨b, rfl, ?_⟩
      cases b with
      | false =>
        simp only [bl2, Bool.false_eq_true, if_false] at h ⊢
        refine bl_E ⟨e1, F0, x'.r, x'.nd, ?_⟩
        cases q2 : mb e1 with
        | bad => simp only [q2] at h
        | exc y e2 =>
          simp only [q2, Re.bind] at h ⊢
          exact fun c dx H2 F2 y p => h c dx H2 F2 (x'.trans y) p
        | ok d2 e2 =>
          simp only [q2, Re.bind] at h ⊢
          cases d2 with
          | bl c => exact fun v H2 F2 y => h v H2 F2 (x'.trans y)
          | _ => exact h.elim
      | true =>
        simp only [bl2] at h
        exact h _ H1 _ (x'.consImm .bl rfl)
    | _ => exact h.elim
theorem notE_of {ma : ME} (h : tE K W (notE ma) σ H Q) : tNotV (tE K W ma) σ H Q := by
  obtain ⟨e, F, r, nd, h⟩ := h
  refine ⟨e, F, r, nd, ?_⟩
  unfold notE at h
  cases q : ma e with
  | bad => simp only [q, Re.bind] at h
  | exc y e1 => simp only [q, Re.bind] at h; exact h
  | ok d e1 =>
    simp only [q, Re.bind] at h
    intro v H1 F1 x
    obtain ⟨G, F0, eF, p, x', hd, n1, nw⟩ := x.head
    cases d with
    | bl b => cases p; exact ⟨b, rfl, h _ H1 _ (x'.consImm .bl rfl)⟩
    | _ => exact h.elim
variable {X : Cx} {a b : Expr} {pos : Pos} {ma mb : MB} {na nb' : ME} {rest : List Expr}
theorem x_one {op} {t : TE} (h : PE X a t) : PE X (.BoolOp op [a] pos) t := pe_one h
theorem x_and (ha : PE X a (tB X.K W ma)) (hb : PE X (.BoolOp .And (b :: rest) pos) (tB X.K W mb)) : PE X (.BoolOp .And (a :: b :: rest) pos) (tN X.K W (andB ma mb)) := PE.mono (pe_and ha hb) fun _ _ _ h => andB_of h
theorem x_or (ha : PE X a (tB X.K W ma)) (hb : PE X (.BoolOp .Or (b :: rest) pos) (tB X.K W mb)) : PE X (.BoolOp .Or (a :: b :: rest) pos) (tN X.K W (orB ma mb)) := PE.mono (pe_or ha hb) fun _ _ _ h => orB_of h
theorem x_not (ha : PE X a (tB X.K W ma)) : PE X (.UnaryOp .Not a pos) (tN X.K W (notB ma)) := PE.mono (pe_not ha) fun _ _ _ h => notB_of h
theorem e_and (ha : PE X a (tE X.K W na)) (hb : PE X (.BoolOp .And (b :: rest) pos) (tE X.K W nb')) : PE X (.BoolOp .And (a :: b :: rest) pos) (tE X.K W (andE na nb')) := PE.mono (pe_and ha hb) fun _ _ _ h => andE_of h
theorem e_or (ha : PE X a (tE X.K W na)) (hb : PE X (.BoolOp .Or (b :: rest) pos) (tE X.K W nb')) : PE X (.BoolOp .Or (a :: b :: rest) pos) (tE X.K W (orE na nb')) := PE.mono (pe_or ha hb) fun _ _ _ h => orE_of h
theorem e_not (ha : PE X a (tE X.K W na)) : PE X (.UnaryOp .Not a pos) (tE X.K W (notE na)) := PE.mono (pe_not ha) fun _ _ _ h => notE_of h
end

/-! ### a chain of two comparisons -/
def chB (f g : D → D → Option D) (ma mb mc : MB) : MB := fun e => (ma e).bind fun a => (mb e).bind fun b => (Rs.of (f a b)).bind fun z => bl1 z fun k => if k = true then (mc e).bind fun c => (Rs.of (g b c)).bind fun y => bl1 y fun q => .ok (.bl q) else .ok (.bl false)
section
variable {K : PySem.W.Frag} {W : WX} {σ : L2.St} {H : Hp} {Q : VK} {r r' : R2} {f g : D → D → Option D} {ma mb mc : MB}
theorem ch_of (o : OpN K r f) (o' : OpN K r' g) (h : tN K W (chB f g ma mb mc) σ H Q) : tChain r r' (tB K W ma) (tB K W mb) (tB K W mc) σ H Q := by
  obtain ⟨e, F, rl, h⟩ := h
  unfold chB at h
  refine ⟨e, F, rl, ?_⟩
  cases qa : ma e with
  | bad => simp only [qa, Rs.bind] at h
  | exc y => simp only [qa, Rs.bind] at h; exact h
  | ok a =>
    simp only [qa, Rs.bind] at h
    intro v1 H1 G1 k1 p1
    refine ⟨e, F, rl.same k1, ?_⟩
    cases qb : mb e with
    | bad => simp only [qb] at h
    | exc y => simp only [qb] at h; exact fun c dx H' k p => h c dx H' (k1.trans k fun _ m => by cases m) p
    | ok b =>
      simp only [qb] at h
      intro v2 H2 G2 k2 p2
      have k12 : Keeps [] H H2 := k1.trans k2 fun _ m => by cases m
      cases qf : f a b with
      | none => simp only [qf, Rs.of] at h
      | some z =>
        simp only [qf, Rs.of] at h
        refine o (p1.same k2) p2 qf fun v H3 G k3 p n1 n2 => ?_
        have k13 : Keeps [] H H3 := k12.trans k3 fun _ m => by cases m
        cases z with
        | bl k =>
          cases p
          refine ⟨k, rfl, ?_⟩
          cases k with
          | false => exact h _ H3 [] k13 .bl .nil fun _ m => by cases m
          | true =>
            simp only [bl1, if_true] at h ⊢
            refine ⟨e, F, ((rl.same k1).same k2).same k3, ?_⟩
            cases qc : mc e with
            | bad => simp only [qc] at h
            | exc y => simp only [qc] at h; exact fun c dx H' k p => h c dx H' (k13.trans k fun _ m => by cases m) p
            | ok c =>
              simp only [qc] at h
              intro v4 H4 G4 k4 p4
              cases qg : g b c with
              | none => simp only [qg] at h
              | some y =>
                simp only [qg] at h
                refine o' ((p2.same k3).same k4) p4 qg fun v H5 G k5 p n1 n2 => ?_
                cases y with
                | bl q => cases p; exact h _ H5 [] ((k13.trans k4 fun _ m => by cases m).trans k5 fun _ m => by cases m) .bl .nil fun _ m => by cases m
                | _ => exact h.elim
        | _ => exact h.elim
variable {X : Cx} {a b c : Expr} {pos : Pos}
theorem x_chain {op op' : CmpOp} (ho : OpR X (compareOp op) r) (o : OpN X.K r f) (ho' : OpR X (compareOp op') r') (o' : OpN X.K r' g) (pa : PE X a (tB X.K W ma)) (pb : PE X b (tB X.K W mb)) (pc : PE X c (tB X.K W mc))
    (q : PE X (.Compare a [op, op'] [b, c] pos) (tChain r r' (tB X.K W ma) (tB X.K W mb) (tB X.K W mc))) : PE X (.Compare a [op, op'] [b, c] pos) (tN X.K W (chB f g ma mb mc)) := PE.mono q fun _ _ _ h => ch_of o o' h
theorem t_chain {op op' : CmpOp} (o : OpN X.K r f) (o' : OpN X.K r' g)
    (q : PT X (.Compare a [op, op'] [b, c] pos) (tTest (tChain r r' (tB X.K W ma) (tB X.K W mb) (tB X.K W mc)))) : PT X (.Compare a [op, op'] [b, c] pos) (tT X.K W (tst (ofN (chB f g ma mb mc)))) := PT.mono q fun _ _ _ h => ch_of o o' (ofN_N (tst_of h))
end
end Mir

namespace Mir
open PySem PySem.Spec L2

/-! ### statements -/
section
variable {K : PySem.W.Frag} {H H1 : Hp} {σ σ1 : L2.St} {e e1 : E} {F F1 : List Addr}
theorem set_over {α : Type} {l : List α} {i : Nat} (h : l.length ≤ i) (a : α) : l.set i a = l := List.set_eq_of_length_le h
/-- a store at any place -/
theorem Ev.put {v : V} {d : D} (x : Ev K F H (some v :: σ1) H1 (some d :: e1) F1) (i : Nat) : ∃ F3, Ev K F H (σ1.set i (some v)) H1 (e1.set i (some d)) F3 := by
  by_cases hi : i < e1.length
  · exact x.store i hi
  · obtain ⟨G, F0, eF, p, x', hd, n1, nw⟩ := x.head
    have hl := x'.r.len
    rw [set_over (by omega), set_over (by omega)]
    exact ⟨F0, x'⟩
/-- what stands in the slot i is changed where it stands -/
theorem Ev.update {d : D} {i : Nat} (x : Ev K F H σ H1 e1 F1) (h : e1[i]? = some (some d)) :
    ∃ v G, σ[i]? = some (some v) ∧ Rp K H1 v d G ∧ (∀ a ∈ G, a ∈ F1) ∧ G.Nodup ∧ ∀ H2 d' G', Keeps G H1 H2 → Rp K H2 v d' G' → G'.Nodup → (∀ a ∈ G', a ∈ G ∨ ((a ∈ F ∨ H a = none) ∧ a ∉ F1)) → ∃ F', Ev K F H σ H2 (e1.set i (some d')) F' := by
  obtain ⟨v, G, F0, h1, h2, h3, h4⟩ := x.r.take h
  obtain ⟨n1, n2, n3⟩ := List.nodup_append.mp (h4.nodup_iff.mp x.nd)
  have sub : ∀ a ∈ G, a ∈ F1 := fun a m => h4.mem_iff.mpr (List.mem_append_left _ m)
  have sub0 : ∀ a ∈ F0, a ∈ F1 := fun a m => h4.mem_iff.mpr (List.mem_append_right _ m)
  refine ⟨v, G, h1, h2, sub, n1, fun H2 d' G' k p nd hG => ?_⟩
  have dj : ∀ a ∈ F0, a ∉ G := fun a m m' => n3 a m' a m rfl
  have r0 := h3.keep k dj
  have hi : i < e1.length := (List.getElem?_eq_some_iff.mp h).1
  obtain ⟨F', r1, pm⟩ := r0.put (i := i) (by rw [List.getElem?_set_self hi]) p
  rw [List.set_set, set_self h1] at r1
  refine ⟨F', x.k.trans k fun a m => x.new a (sub a m), r1, pm.nodup_iff.mpr (List.nodup_append.mpr ⟨nd, n2, fun a m b m' z => ?_⟩), fun a m => ?_⟩
  · subst z
    rcases hG a m with z | z
    · exact dj a m' z
    · exact z.2 (sub0 a m')
  · rcases List.mem_append.mp (pm.mem_iff.mp m) with m | m
    · rcases hG a m with z | z
      · exact x.new a (sub a z)
      · exact z.1
    · exact x.new a (sub0 a m)
end
def mNil : MS := fun e => .nx e
def mSeq (a b : MS) : MS := fun e => match a e with
  | .nx e1 => b e1
  | r => r
def mSet (i : Nat) (n : ME) : MS := fun e => match n e with
  | .ok d e1 => .nx (e1.set i (some d))
  | .exc x e1 => .exc x e1
  | .bad => .bad
def mExpr (n : ME) : MS := fun e => match n e with
  | .ok _ e1 => .nx e1
  | .exc x e1 => .exc x e1
  | .bad => .bad
def mIf (t : MT) (a b : MS) : MS := fun e => match t e with
  | .ok c e1 => if c = true then a e1 else b e1
  | .exc x e1 => .exc x e1
  | .bad => .bad
def mRet (n : ME) : MS := fun e => match n e with
  | .ok d e1 => .rt d e1
  | .exc x e1 => .exc x e1
  | .bad => .bad
def mRetN : MS := fun e => .rt .non e
def mBreak : MS := fun e => .bk e
def mCont : MS := fun e => .ct e
/-- name op= expression -/
def mAug (i : Nat) (f : D → D → Option D) (n : ME) : MS := fun e => match e[i]? with
  | some (some a) => if imm a = true then (match n e with
    | .ok b e1 => (match f a b with
      | some d => .nx (e1.set i (some d))
      | none => .bad)
    | .exc x e1 => .exc x e1
    | .bad => .bad) else .bad
  | _ => .bad
theorem Fz.set {Z : Zs} {σ : L2.St} {i : Nat} {v : Option V} (h : Z i = false) : Fz Z σ (σ.set i v) := ⟨List.length_set, fun j m => by
  rw [List.getElem?_set_ne]
  intro z
  rw [← z, h] at m
  cases m⟩
section
variable {X : Cx} {W : WX} {Z : Zs}
/-- the rest of a row, from a later state -/
theorem tM_next {m : MS} {D : Ends} {σ σ1 : L2.St} {H H1 : Hp} {e1 : E} {F F1 : List Addr} {K : PySem.W.Frag} (x : Ev K F H σ1 H1 e1 F1) (z : Fz Z σ σ1)
    (h : match m e1 with
      | .nx e' => ∀ σ' H' F', Ev K F H σ' H' e' F' → Fz Z σ σ' → D.nx σ' H'
      | .rt d e' => ∀ v σ' H' F', Ev K F H (some v :: σ') H' (some d :: e') F' → Fz Z σ σ' → D.rt v H'
      | .bk e' => ∀ σ' H' F', Ev K F H σ' H' e' F' → Fz Z σ σ' → D.bk σ' H'
      | .ct e' => ∀ σ' H' F', Ev K F H σ' H' e' F' → Fz Z σ σ' → D.ct σ' H'
      | .exc x e' => ∀ c dx σ' H' F', Ev K F H σ' H' e' F' → Fz Z σ σ' → RpX K H' c dx x → W c dx σ' H'
      | .bad => False) : tM K W Z m D σ1 H1 := by
  refine ⟨e1, F1, x.r, x.nd, ?_⟩
  cases q : m e1 with
  | nx e' => rw [q] at h; exact fun σ' H' F' y w => h σ' H' F' (x.trans y) (z.trans w)
  | rt d e' => rw [q] at h; exact fun v σ' H' F' y w => h v σ' H' F' (x.trans y) (z.trans w)
  | bk e' => rw [q] at h; exact fun σ' H' F' y w => h σ' H' F' (x.trans y) (z.trans w)
  | ct e' => rw [q] at h; exact fun σ' H' F' y w => h σ' H' F' (x.trans y) (z.trans w)
  | exc y e' => rw [q] at h; exact fun c dx σ' H' F' y w p => h c dx σ' H' F' (x.trans y) (z.trans w) p
  | bad => rw [q] at h; exact h
theorem m_nil : PSs X [] (tM X.K W Z mNil) := PSs.mono pss_nil fun D σ H ⟨e, F, r, nd, h⟩ => h σ H F (.refl r nd) (.refl _ _)
theorem m_cons {st : Stmt} {rest : List Stmt} {a b : MS} (p : PS X st (tM X.K W Z a)) (q : PSs X rest (tM X.K W Z b)) : PSs X (st :: rest) (tM X.K W Z (mSeq a b)) := PSs.mono (pss_cons p q) fun D σ H ⟨e, F, r, nd, h⟩ => by
  refine ⟨e, F, r, nd, ?_⟩
  unfold mSeq at h
  cases qa : a e with
  | nx e1 => rw [qa] at h; exact fun σ' H' F' x z => tM_next x z h
  | rt d e' => rw [qa] at h; exact h
  | bk e' => rw [qa] at h; exact h
  | ct e' => rw [qa] at h; exact h
  | exc y e' => rw [qa] at h; exact h
  | bad => rw [qa] at h; exact h
theorem m_one {st : Stmt} {a : MS} (p : PS X st (tM X.K W Z a)) : PSs X [st] (tM X.K W Z a) := pss_one p
theorem m_pass {pos : Pos} : PS X (.Pass pos) (tM X.K W Z mNil) := PS.mono ps_pass fun D σ H ⟨e, F, r, nd, h⟩ => h σ H F (.refl r nd) (.refl _ _)
theorem m_break {pos : Pos} : PS X (.Break pos) (tM X.K W Z mBreak) := PS.mono ps_break fun D σ H ⟨e, F, r, nd, h⟩ => h σ H F (.refl r nd) (.refl _ _)
theorem m_cont {pos : Pos} : PS X (.Continue pos) (tM X.K W Z mCont) := PS.mono ps_continue fun D σ H ⟨e, F, r, nd, h⟩ => h σ H F (.refl r nd) (.refl _ _)
theorem tSet_of {K : PySem.W.Frag} {i : Nat} {n : ME} {D : Ends} {σ : L2.St} {H : Hp} (hz : Z i = false) (h : tM K W Z (mSet i n) D σ H) : tAsg (tE K W n) (gName i) D σ H := by
  obtain ⟨e, F, r, nd, h⟩ := h
  refine ⟨e, F, r, nd, ?_⟩
  unfold mSet at h
  cases q : n e with
  | bad => rw [q] at h; exact h
  | exc y e1 => rw [q] at h; exact fun c dx H' F' x p => h c dx σ H' F' x (.refl _ _) p
  | ok d e1 =>
    rw [q] at h
    intro v H' F' x
    obtain ⟨F3, y⟩ := x.put i
    exact h _ H' F3 y (.set hz)
theorem m_set {i : Nat} {x : Str} {e : Expr} {n : ME} {pos pos' : Pos} (he : PE X e (tE X.K W n)) (hN : X.N.Nodup) (hz : Z i = false := by rfl) (hi : X.N[i]? = some x := by rfl) (hx : Loc X.env.scope x := by first | exact Or.inl rfl | exact Or.inr rfl)
    (hs : swapsWith e (some (.Name x pos')) pos.line X.env = pure false := by rfl) (hf : X.fn x = true ∨ X.env.scope.names.lookup x = some .local := by first | exact .inl rfl | exact .inr rfl | assumption) :
    PS X (.Assign [.Name x pos'] e pos) (tM X.K W Z (mSet i n)) := PS.mono (ps_set hN hi hx he hs hf) fun D σ H => tSet_of hz
theorem m_expr {e : Expr} {n : ME} {pos : Pos} (he : PE X e (tE X.K W n)) (hs : swapsWith e none pos.line X.env = pure false := by rfl) : PS X (.Expr e pos) (tM X.K W Z (mExpr n)) := PS.mono (ps_expr he hs) fun D σ H ⟨e, F, r, nd, h⟩ => by
  refine ⟨e, F, r, nd, ?_⟩
  unfold mExpr at h
  cases q : n e with
  | bad => rw [q] at h; exact h
  | exc y e1 => rw [q] at h; exact fun c dx H' F' x p => h c dx σ H' F' x (.refl _ _) p
  | ok d e1 =>
    rw [q] at h
    intro v H' F' x
    obtain ⟨G, F0, eF, p, x', hd, n1, nw⟩ := x.head
    exact h _ H' F0 x' (.refl _ _)
theorem m_if {c : Expr} {t : MT} {ss us : List Stmt} {a b : MS} {pos : Pos} (hc : PT X c (tT X.K W t)) (ha : PSs X ss (tM X.K W Z a)) (hb : PSs X us (tM X.K W Z b)) : PS X (.If c ss us pos) (tM X.K W Z (mIf t a b)) := PS.mono (ps_if hc ha hb) fun D σ H ⟨e, F, r, nd, h⟩ => by
  refine ⟨e, F, r, nd, ?_⟩
  unfold mIf at h
  cases q : t e with
  | bad => rw [q] at h; exact h
  | exc y e1 => rw [q] at h; exact fun c dx H' F' x p => h c dx σ H' F' x (.refl _ _) p
  | ok k e1 =>
    rw [q] at h
    intro H1 F1 x
    cases k with
    | true => exact tM_next x (.refl _ _) h
    | false => exact tM_next x (.refl _ _) h
theorem m_ret {e : Expr} {n : ME} {pos : Pos} (he : PE X e (tE X.K W n)) : PS X (.Return (some e) pos) (tM X.K W Z (mRet n)) := PS.mono (ps_ret he) fun D σ H ⟨e, F, r, nd, h⟩ => by
  refine ⟨e, F, r, nd, ?_⟩
  unfold mRet at h
  cases q : n e with
  | bad => rw [q] at h; exact h
  | exc y e1 => rw [q] at h; exact fun c dx H' F' x p => h c dx σ H' F' x (.refl _ _) p
  | ok d e1 => rw [q] at h; exact fun v H' F' x => h v σ H' F' x (.refl _ _)
theorem m_retN {pos : Pos} : PS X (.Return none pos) (tM X.K W Z mRetN) := PS.mono ps_retN fun D σ H ⟨e, F, r, nd, h⟩ => h .non σ H F ((Ev.refl r nd).consImm .non rfl) (.refl _ _)
theorem m_aug {i : Nat} {x : Str} {e : Expr} {n : ME} {op : Operator} {f : D → D → Option D} {ti : TIp} {pos pos' : Pos} (ho : PIp X op ti) (o : OpN X.K ti f) (he : PE X e (tE X.K W n)) (hN : X.N.Nodup) (hz : Z i = false := by rfl) (hi : X.N[i]? = some x := by rfl) (hx : Loc X.env.scope x := by first | exact Or.inl rfl | exact Or.inr rfl)
    (hf : X.fn x = true ∨ X.env.scope.names.lookup x = some .local := by first | exact .inl rfl | exact .inr rfl | assumption) : PS X (.AugAssign (.Name x pos') op e pos) (tM X.K W Z (mAug i f n)) := PS.mono (ps_aug hN hi hx he ho hf) fun D σ H ⟨e, F, r, nd, h⟩ => by
  unfold mAug at h
  cases q : e[i]? with
  | none => rw [q] at h; exact h.elim
  | some oo =>
    rw [q] at h
    cases oo with
    | none => exact h.elim
    | some a =>
      simp only at h
      obtain ⟨v1, G0, hs, p1, _⟩ := r.get q
      by_cases hi : imm a = true
      · rw [if_pos hi] at h
        have e0 := p1.fpImm hi
        subst e0
        refine ⟨v1, hs, e, F, r, nd, ?_⟩
        cases qb : n e with
        | bad => rw [qb] at h; exact h
        | exc y e1 => rw [qb] at h; exact fun c dx H' F' x p => h c dx σ H' F' x (.refl _ _) p
        | ok b e1 =>
          rw [qb] at h
          intro v2 H2 F2 y
          obtain ⟨G2, F3, eF2, p2, y2, hd2, n2, nw2⟩ := y.head
          simp only at h
          cases qf : f a b with
          | none => rw [qf] at h; exact h.elim
          | some d =>
            rw [qf] at h
            refine o (p1.keep y.k fun _ m => by cases m) p2 qf fun v H' G' k p' n1' n2' => ?_
            obtain ⟨F4, w⟩ := (y2.consNew k p' n1' n2').put i
            exact h _ H' F4 w (.set hz)
      · rw [if_neg hi] at h; exact h.elim
end
abbrev rAug : TIp := fun x y H Q => (rI0 fun i j => .int (i + j)) x y H Q ∨ ∃ i j, x = .str i ∧ y = .str j ∧ i.length + j.length ≤ sizeLine ∧ Q (.str (i ++ j)) H
def fAug : D → D → Option D
  | .int i, .int j => some (.int (i + j))
  | .str s, .str t => if fits (s.length + t.length) = true then some (.str (s ++ t)) else none
  | _, _ => none
theorem PIp.of {X : Cx} {op : Operator} {r : R2} (h : OpR X (inplaceOp op) r) : PIp X op r := fun pins s σ H x y v u Q I rx ry q => h pins s σ H x y v u Q I rx ry q
theorem i_add {X : Cx} : PIp X .Add rAug := PIp.of (iop_add.or iop_add_str)
theorem i_sub {X : Cx} : PIp X .Sub (rI0 fun i j => .int (i - j)) := PIp.of iop_sub
theorem i_mul {X : Cx} : PIp X .Mult (rI CMul fun i j => .int (i * j)) := PIp.of iop_mul
theorem i_fdiv {X : Cx} : PIp X .FloorDiv (rI CDiv fun i j => .int (i / j)) := PIp.of iop_fdiv
theorem n_aug {K : PySem.W.Frag} : OpN K rAug fAug := by
  intro H v1 v2 d1 d2 G1 G2 d Q p1 p2 e h
  unfold fAug at e
  split at e
  · cases e; cases p1; cases p2
    exact .inl ⟨_, _, rfl, rfl, Rp.same0 h .int⟩
  · split at e
    · rename_i hf
      cases e; cases p1; cases p2
      rename_i x hx y hy
      refine .inr ⟨_, _, rfl, rfl, ?_, Rp.same0 h (rp_str (okC_append hx hy) (toList_append _ _))⟩
      simpa [Str.length] using fits_le hf
    · cases e
  · cases e

/-! ### targets -/
abbrev MG := D → E → Option E
def gN (i : Nat) : MG := fun d e => some (e.set i (some d))
def gNs : List Nat → List D → E → Option E
  | [], [], e => some e
  | i :: is, d :: ds, e => gNs is ds (e.set i (some d))
  | _, _, _ => none
def gT (is : List Nat) : MG := fun d e => match d with
  | .tup ds => if imms ds = true then gNs is ds e else none
  | _ => none
/-- a target's reading: an immutable thing comes -/
def tG (K : PySem.W.Frag) (Z : Zs) (g : MG) : TG := fun v σ H Q => ∃ d e F e', Rp K H v d [] ∧ RelS K H σ e F ∧ F.Nodup ∧ g d e = some e' ∧ ∀ σ' H' F', Ev K F H σ' H' e' F' → Fz Z σ σ' → Q σ' H'
def tGs (K : PySem.W.Frag) (Z : Zs) (is : List Nat) : TGs := fun vs σ H Q => ∃ ds e F e', Rps K H vs ds [] ∧ RelS K H σ e F ∧ F.Nodup ∧ gNs is ds e = some e' ∧ ∀ σ' H' F', Ev K F H σ' H' e' F' → Fz Z σ σ' → Q σ' H'
theorem PG.mono {X : Cx} {e : Expr} {t t' : TG} (p : PG X e t) (h : ∀ v σ H Q, t' v σ H Q → t v σ H Q) : PG X e t' := ⟨fun pins s σ H v u Q I r q => p.run pins s σ H v u Q I r (h _ _ _ _ q)⟩
theorem PGs.mono {X : Cx} {e : List Expr} {t t' : TGs} (p : PGs X e t) (h : ∀ v σ H Q, t' v σ H Q → t v σ H Q) : PGs X e t' := ⟨fun pins s σ H v u Q I r q => p.run pins s σ H v u Q I r (h _ _ _ _ q)⟩
section
variable {X : Cx} {W : WX} {Z : Zs} {pos : Pos}
theorem g_name {i : Nat} {x : Str} (hN : X.N.Nodup) (hz : Z i = false := by rfl) (hi : X.N[i]? = some x := by rfl) (hx : Loc X.env.scope x := by first | exact Or.inl rfl | exact Or.inr rfl) (hf : X.fn x = true ∨ X.env.scope.names.lookup x = some .local := by first | exact .inl rfl | exact .inr rfl | assumption) :
    PG X (.Name x pos) (tG X.K Z (gN i)) := PG.mono (pg_name hN hi hx hf) fun v σ H Q ⟨d, e, F, e', p, r, nd, h1, h⟩ => by
  cases h1
  obtain ⟨F3, y⟩ := ((Ev.refl r nd).cons p (fun _ m => by cases m) .nil fun _ m => by cases m).put i
  exact h _ H F3 y (.set hz)
theorem gs_nil : PGs X [] (tGs X.K Z []) := PGs.mono pgs_nil fun vs σ H Q ⟨ds, e, F, e', p, r, nd, h1, h⟩ => by
  cases ds with
  | nil => cases p; cases h1; exact ⟨rfl, h σ H F (.refl r nd) (.refl _ _)⟩
  | cons _ _ => cases h1
theorem gs_cons {i : Nat} {is : List Nat} {x : Str} {px : Pos} {es : List Expr} (hN : X.N.Nodup) (q : PGs X es (tGs X.K Z is)) (hz : Z i = false := by rfl) (hi : X.N[i]? = some x := by rfl) (hx : Loc X.env.scope x := by first | exact Or.inl rfl | exact Or.inr rfl) (hf : X.fn x = true ∨ X.env.scope.names.lookup x = some .local := by first | exact .inl rfl | exact .inr rfl | assumption)
    (hs : (assignEach (.Name x px :: es) X.env).map (·.2) = assign (.Name x px) X.env :: (assignEach es X.env).map (·.2) := by rfl) : PGs X (.Name x px :: es) (tGs X.K Z (i :: is)) := PGs.mono (pgs_cons (g_name (Z := Z) hN hz hi hx hf) q hs) fun vs σ H Q ⟨ds, e, F, e', p, r, nd, h1, h⟩ => by
  cases ds with
  | nil => cases h1
  | cons d ds =>
    generalize hG : ([] : List Addr) = G at p
    cases p with | cons p ps => ?_
    obtain ⟨z1, z2⟩ := List.append_eq_nil_iff.mp hG.symm
    subst z1 z2
    refine ⟨_, _, rfl, d, e, F, _, p, r, nd, rfl, fun σ1 H1 F1 x w => ?_⟩
    exact ⟨ds, _, F1, e', ps.keep x.k (fun _ m => by cases m), x.r, x.nd, h1, fun σ2 H2 F2 y w2 => h σ2 H2 F2 (x.trans y) (w.trans w2)⟩
theorem g_tup {es : List Expr} {k : Nat} {is : List Nat} (hc : X.calm = true) (q : PGs X es (tGs X.K Z is)) (hn : (assignEach es X.env).length = is.length := by rfl) (hst : (assignEach es X.env).findIdx? (·.1) = none := by rfl) : PG X (.Tuple es k pos) (tG X.K Z (gT is)) :=
  PG.mono (pg_tup hc q hn hst) fun v σ H Q ⟨d, e, F, e', p, r, nd, h1, h⟩ => by
    unfold gT at h1
    cases d with
    | tup ds =>
      by_cases hi : imms ds = true
      · simp only [hi, if_true] at h1
        cases p with | tup ht rp => ?_
        refine ⟨_, _, rfl, ht.sq, ?_, ds, e, F, e', rp, r, nd, h1, h⟩
        rw [rp.length]
        have len : ∀ (is : List Nat) (ds : List D) (e : E), gNs is ds e = some e' → ds.length = is.length := by
          intro is
          induction is with
          | nil => intro ds e h; cases ds with
            | nil => rfl
            | cons _ _ => cases h
          | cons i is ih => intro ds e h; cases ds with
            | nil => cases h
            | cons d ds => rw [List.length_cons, List.length_cons, ih ds _ h]
        exact len is ds e h1
      · simp only [hi] at h1
        cases h1
    | _ => cases h1
/-- target = value, for what can't change -/
def mAsg (g : MG) (n : ME) : MS := fun e => match n e with
  | .ok d e1 => if imm d = true then (match g d e1 with
    | some e2 => .nx e2
    | none => .bad) else .bad
  | .exc x e1 => .exc x e1
  | .bad => .bad
theorem m_asg {tg e : Expr} {g : MG} {n : ME} (he : PE X e (tE X.K W n)) (hg : PG X tg (tG X.K Z g)) (hs : swapsWithSole [tg] e pos.line X.env = pure false := by rfl) (hw : swappedStores [tg] e X.env = pure none := by rfl)
    (h1 : (assignEach [tg] X.env).map (·.2) = [assign tg X.env] := by rfl) : PS X (.Assign [tg] e pos) (tM X.K W Z (mAsg g n)) := PS.mono (ps_asg he hg hs hw h1) fun D σ H ⟨e, F, r, nd, h⟩ => by
  refine ⟨e, F, r, nd, ?_⟩
  unfold mAsg at h
  cases q : n e with
  | bad => rw [q] at h; exact h
  | exc y e1 => rw [q] at h; exact fun c dx H' F' x p => h c dx σ H' F' x (.refl _ _) p
  | ok d e1 =>
    rw [q] at h
    simp only at h
    intro v H' F' x
    obtain ⟨G, F0, eF, p, x', hd, n1, nw⟩ := x.head
    by_cases hi : imm d = true
    · rw [if_pos hi] at h
      have e0 := p.fpImm hi
      subst e0
      cases qg : g d e1 with
      | none => rw [qg] at h; exact h.elim
      | some e2 =>
        rw [qg] at h
        exact ⟨d, e1, F0, e2, p, x'.r, x'.nd, qg, fun σ2 H2 F2 y w => h σ2 H2 F2 (x'.trans y) w⟩
    · rw [if_neg hi] at h; exact h.elim
/-- a, b = x, y of plain local names -/
def mPar (i j : Nat) (ns : MAE) : MS := fun e => match ns e with
  | .ok ds e1 => (match ds with
    | [a, b] => if imm a = true ∧ imm b = true then .nx ((e1.set i (some a)).set j (some b)) else .bad
    | _ => .bad)
  | .exc x e1 => .exc x e1
  | .bad => .bad
theorem m_par {i j : Nat} {x y : Str} {a b : Expr} {ns : MAE} {px py pt : Pos} {kt k2 pt2} (ha : PA X [a, b] (tAE X.K W ns)) (hc : X.calm = true) (hN : X.N.Nodup) (hzi : Z i = false := by rfl) (hzj : Z j = false := by rfl) (hi : X.N[i]? = some x := by rfl) (hj : X.N[j]? = some y := by rfl) (hij : i ≠ j := by decide)
    (hx : X.env.scope.names.lookup x = some .local := by rfl) (hy : X.env.scope.names.lookup y = some .local := by rfl)
    (hw : swappedStores [.Tuple [.Name x px, .Name y py] kt pt] (.Tuple [a, b] k2 pt2) X.env = pure (some [x, y]) := by rfl)
    (hs : swapsWithSole [.Tuple [.Name x px, .Name y py] kt pt] (.Tuple [a, b] k2 pt2) pos.line X.env = pure false := by rfl) :
    PS X (.Assign [.Tuple [.Name x px, .Name y py] kt pt] (.Tuple [a, b] k2 pt2) pos) (tM X.K W Z (mPar i j ns)) := PS.mono (ps_par hc hN hi hj hij hx hy ha hw hs) fun D σ H ⟨e, F, r, nd, h⟩ => by
  refine ⟨e, F, r, nd, ?_⟩
  unfold mPar at h
  cases q : ns e with
  | bad => rw [q] at h; exact h
  | exc y e1 => rw [q] at h; exact fun c dx H' F' x p => h c dx σ H' F' x (.refl _ _) p
  | ok ds e1 =>
    rw [q] at h
    simp only at h
    intro vs H' G F' x
    cases ds with
    | nil => exact h.elim
    | cons a ds =>
      cases ds with
      | nil => exact h.elim
      | cons b ds =>
        cases ds with
        | cons _ _ => exact h.elim
        | nil =>
          by_cases hi : imm a = true ∧ imm b = true
          · simp only [hi, and_self, if_true] at h
            obtain ⟨ev, ps, hd, n1, nw⟩ := x
            cases ps with | cons pa ps => ?_
            cases ps with | cons pb ps => ?_
            cases ps
            obtain ⟨F3, y1⟩ := (ev.consImm pa hi.1).put i
            obtain ⟨F4, y2⟩ := (y1.consImm pb hi.2).put j
            exact ⟨_, _, rfl, h _ H' F4 y2 ((Fz.set hzi).trans (.set hzj))⟩
          · simp only [hi, if_false] at h
end

/-! ### loops -/
def mLoop (g : MG) (b : MS) : List D → E → SR
  | [], e => .nx e
  | d :: ds, e => match g d e with
    | some e1 => (match b e1 with
      | .nx e2 => mLoop g b ds e2
      | .ct e2 => mLoop g b ds e2
      | .bk e2 => .nx e2
      | r => r)
    | none => .bad
def mWhile (t : MT) (b : MS) : Nat → E → SR
  | 0, _ => .bad
  | n + 1, e => match t e with
    | .ok c e1 => if c = true then (match b e1 with
      | .nx e2 => mWhile t b n e2
      | .ct e2 => mWhile t b n e2
      | .bk e2 => .nx e2
      | r => r) else .nx e1
    | .exc x e1 => .exc x e1
    | .bad => .bad
/-- what is walked -/
structure Src (K : PySem.W.Frag) (J : It) (items : List D) (P : Hp → Prop) (A : List Addr) : Prop where
  go : ∀ i H, P H → i < items.length → J.go i H
  yld : ∀ i H x H', P H → (h : i < items.length) → J.yld i H x H' → Keeps [] H H' ∧ Rp K H' x items[i] []
  stop : ∀ H, P H → J.stop items.length H
  st : ∀ S H H', (∀ a ∈ A, a ∉ S) → Keeps S H H' → P H → P H'
section
variable {K : PySem.W.Frag} {W : WX} {Z : Zs}
/-- the post of a statement, from (σ, H, F) -/
def Post (K : PySem.W.Frag) (W : WX) (Z : Zs) (D : Ends) (F : List Addr) (σ : L2.St) (H : Hp) : SR → Prop
  | .nx e' => ∀ σ' H' F', Ev K F H σ' H' e' F' → Fz Z σ σ' → D.nx σ' H'
  | .rt d e' => ∀ v σ' H' F', Ev K F H (some v :: σ') H' (some d :: e') F' → Fz Z σ σ' → D.rt v H'
  | .bk e' => ∀ σ' H' F', Ev K F H σ' H' e' F' → Fz Z σ σ' → D.bk σ' H'
  | .ct e' => ∀ σ' H' F', Ev K F H σ' H' e' F' → Fz Z σ σ' → D.ct σ' H'
  | .exc x e' => ∀ c dx σ' H' F', Ev K F H σ' H' e' F' → Fz Z σ σ' → RpX K H' c dx x → W c dx σ' H'
  | .bad => False
theorem Post.tM {D : Ends} {m : MS} {σ σ1 : L2.St} {H H1 : Hp} {e1 : E} {F F1 : List Addr} (x : Ev K F H σ1 H1 e1 F1) (z : Fz Z σ σ1) (h : Post K W Z D F σ H (m e1)) : tM K W Z m D σ1 H1 := tM_next x z h
theorem tM.post {D : Ends} {m : MS} {σ : L2.St} {H : Hp} (h : tM K W Z m D σ H) : ∃ e F, RelS K H σ e F ∧ F.Nodup ∧ Post K W Z D F σ H (m e) := h
/-- the post with what the walked thing is -/
def PostP (K : PySem.W.Frag) (W : WX) (Z : Zs) (P : Hp → Prop) (A : List Addr) (D : Ends) (F : List Addr) (σ : L2.St) (H : Hp) : SR → Prop
  | .nx e' => ∀ σ' H' F', Ev K F H σ' H' e' F' → Fz Z σ σ' → P H' → (∀ a ∈ A, a ∉ F') → D.nx σ' H'
  | .rt d e' => ∀ v σ' H' F', Ev K F H (some v :: σ') H' (some d :: e') F' → Fz Z σ σ' → P H' → (∀ a ∈ A, a ∉ F') → D.rt v H'
  | .bk e' => ∀ σ' H' F', Ev K F H σ' H' e' F' → Fz Z σ σ' → P H' → (∀ a ∈ A, a ∉ F') → D.bk σ' H'
  | .ct e' => ∀ σ' H' F', Ev K F H σ' H' e' F' → Fz Z σ σ' → P H' → (∀ a ∈ A, a ∉ F') → D.ct σ' H'
  | .exc x e' => ∀ c dx σ' H' F', Ev K F H σ' H' e' F' → Fz Z σ σ' → P H' → (∀ a ∈ A, a ∉ F') → RpX K H' c dx x → W c dx σ' H'
  | .bad => False
theorem Post.toP {P : Hp → Prop} {A : List Addr} {D : Ends} {F : List Addr} {σ : L2.St} {H : Hp} {s : SR} (h : Post K W Z D F σ H s) : PostP K W Z P A D F σ H s := by
  cases s with
  | nx e' => exact fun σ' H' F' x z _ _ => h σ' H' F' x z
  | rt d e' => exact fun v σ' H' F' x z _ _ => h v σ' H' F' x z
  | bk e' => exact fun σ' H' F' x z _ _ => h σ' H' F' x z
  | ct e' => exact fun σ' H' F' x z _ _ => h σ' H' F' x z
  | exc y e' => exact fun c dx σ' H' F' x z _ _ p => h c dx σ' H' F' x z p
  | bad => exact h
theorem loop_okP {J : It} {items : List D} {P : Hp → Prop} {A : List Addr} (src : Src K J items P A) {g : MG} {b : MS} {D : Ends} {σ σ0 : L2.St} {H H0 : Hp} {e : E} {F F0 : List Addr} (x0 : Ev K F0 H0 σ H e F) (z0 : Fz Z σ0 σ) (hA : ∀ a ∈ A, a ∉ F ∧ H a ≠ none) (hp : P H)
    (h : PostP K W Z P A D F0 σ0 H0 (mLoop g b items e)) :
    ∃ V : Nat → Nat → L2.St → Hp → Prop, (∃ m, V 0 m σ H) ∧ ∀ i m σ' H', V i m σ' H' → (J.stop i H' ∧ D.nx σ' H') ∨ (J.go i H' ∧ ∃ N : L2.St → Hp → Prop, (∀ σ2 H2, N σ2 H2 → ∃ m', m' < m ∧ V (i + 1) m' σ2 H2) ∧
      ∀ y H2, J.yld i H' y H2 → tG K Z g y σ' H2 fun σ3 H3 => tM K W Z b { D with nx := N, ct := N, bk := D.nx } σ3 H3) := by
  refine ⟨fun i m σ' H' => i + m = items.length ∧ P H' ∧ ∃ e' F', Ev K F H σ' H' e' F' ∧ Fz Z σ σ' ∧ mLoop g b (items.drop i) e' = mLoop g b items e, ⟨items.length, by omega, hp, e, F, .refl x0.r x0.nd, .refl _ _, by rw [List.drop_zero]⟩, fun i m σ' H' hV => ?_⟩
  obtain ⟨him, hp', e', F', ev, fz, hl⟩ := hV
  have hA' : ∀ a ∈ A, a ∉ F' := fun a m z => (ev.new a z).elim (hA a m).1 (hA a m).2
  by_cases hi : i < items.length
  · refine .inr ⟨src.go i H' hp' hi, fun σ2 H2 => P H2 ∧ ∃ e2 F2, Ev K F H σ2 H2 e2 F2 ∧ Fz Z σ σ2 ∧ mLoop g b (items.drop (i + 1)) e2 = mLoop g b items e, fun σ2 H2 hN => ?_, fun y H2 hy => ?_⟩
    · obtain ⟨q1, e2, F2, q2, q3, q4⟩ := hN
      exact ⟨m - 1, by omega, by omega, q1, e2, F2, q2, q3, q4⟩
    · obtain ⟨ky, py⟩ := src.yld i H' y H2 hp' hi hy
      rw [List.drop_eq_getElem_cons hi, mLoop] at hl
      cases qg : g items[i] e' with
      | none => rw [qg] at hl; rw [← hl] at h; exact h.elim
      | some e1 =>
        rw [qg] at hl
        simp only at hl
        refine ⟨items[i], e', F', e1, py, ev.r.same ky, ev.nd, qg, fun σ3 H3 F3 ev3 fz3 => ?_⟩
        have evA : Ev K F H σ3 H3 e1 F3 := (ev.grow ky).trans ev3
        refine ⟨e1, F3, evA.r, evA.nd, ?_⟩
        have P3 : P H3 := src.st F' H2 H3 hA' ev3.k (src.st [] H' H2 (fun _ _ m => by cases m) ky hp')
        have hA3 : ∀ a ∈ A, a ∉ F3 := fun a m z => (evA.new a z).elim (hA a m).1 (hA a m).2
        have nin : ∀ {σ4 : L2.St} {H4 : Hp} {e4 : E} {F4 : List Addr}, Ev K F3 H3 σ4 H4 e4 F4 → ∀ a ∈ A, a ∉ F4 := fun ev4 a m z => ((evA.trans ev4).new a z).elim (hA a m).1 (hA a m).2
        cases qb : b e1 with
        | nx e2 =>
          rw [qb] at hl
          exact fun σ4 H4 F4 ev4 fz4 => ⟨src.st F3 H3 H4 hA3 ev4.k P3, e2, F4, evA.trans ev4, fz.trans (fz3.trans fz4), hl⟩
        | ct e2 =>
          rw [qb] at hl
          exact fun σ4 H4 F4 ev4 fz4 => ⟨src.st F3 H3 H4 hA3 ev4.k P3, e2, F4, evA.trans ev4, fz.trans (fz3.trans fz4), hl⟩
        | bk e2 =>
          rw [qb] at hl
          rw [← hl] at h
          exact fun σ4 H4 F4 ev4 fz4 => h σ4 H4 F4 (x0.trans (evA.trans ev4)) (z0.trans (fz.trans (fz3.trans fz4))) (src.st F3 H3 H4 hA3 ev4.k P3) (nin ev4)
        | rt d e2 =>
          rw [qb] at hl
          rw [← hl] at h
          exact fun v σ4 H4 F4 ev4 fz4 => h v σ4 H4 F4 (x0.trans (evA.trans ev4)) (z0.trans (fz.trans (fz3.trans fz4))) (src.st F3 H3 H4 hA3 ev4.k P3) (nin ev4)
        | exc w e2 =>
          rw [qb] at hl
          rw [← hl] at h
          exact fun c dx σ4 H4 F4 ev4 fz4 p => h c dx σ4 H4 F4 (x0.trans (evA.trans ev4)) (z0.trans (fz.trans (fz3.trans fz4))) (src.st F3 H3 H4 hA3 ev4.k P3) (nin ev4) p
        | bad =>
          rw [qb] at hl
          rw [← hl] at h
          exact h.elim
  · have ei : i = items.length := by omega
    subst ei
    rw [List.drop_length, mLoop] at hl
    rw [← hl] at h
    exact .inl ⟨src.stop H' hp', h σ' H' F' (x0.trans ev) (z0.trans fz) hp' hA'⟩
theorem loop_ok {J : It} {items : List D} {P : Hp → Prop} {A : List Addr} (src : Src K J items P A) {g : MG} {b : MS} {D : Ends} {σ σ0 : L2.St} {H H0 : Hp} {e : E} {F F0 : List Addr} (x0 : Ev K F0 H0 σ H e F) (z0 : Fz Z σ0 σ) (hA : ∀ a ∈ A, a ∉ F ∧ H a ≠ none) (hp : P H)
    (h : Post K W Z D F0 σ0 H0 (mLoop g b items e)) :
    ∃ V : Nat → Nat → L2.St → Hp → Prop, (∃ m, V 0 m σ H) ∧ ∀ i m σ' H', V i m σ' H' → (J.stop i H' ∧ D.nx σ' H') ∨ (J.go i H' ∧ ∃ N : L2.St → Hp → Prop, (∀ σ2 H2, N σ2 H2 → ∃ m', m' < m ∧ V (i + 1) m' σ2 H2) ∧
      ∀ y H2, J.yld i H' y H2 → tG K Z g y σ' H2 fun σ3 H3 => tM K W Z b { D with nx := N, ct := N, bk := D.nx } σ3 H3) := loop_okP src x0 z0 hA hp h.toP
def fuel : Nat := 1000000000
def mWh (t : MT) (b : MS) : MS := fun e => mWhile t b fuel e
theorem tWhile_of {t : MT} {b : MS} {D : Ends} {σ : L2.St} {H : Hp} (h : tM K W Z (mWh t b) D σ H) : tWhile (tT K W t) (tM K W Z b) D σ H := by
  obtain ⟨e, F, r, nd, h⟩ := tM.post h
  unfold mWh at h
  refine ⟨fun m σ' H' => ∃ e' F', Ev K F H σ' H' e' F' ∧ Fz Z σ σ' ∧ mWhile t b m e' = mWhile t b fuel e, ⟨fuel, e, F, .refl r nd, .refl _ _, rfl⟩, fun m σ' H' hV => ?_⟩
  obtain ⟨e', F', ev, fz, hl⟩ := hV
  refine ⟨e', F', ev.r, ev.nd, ?_⟩
  cases m with
  | zero => rw [mWhile] at hl; rw [← hl] at h; exact h.elim
  | succ m =>
    rw [mWhile] at hl
    cases qt : t e' with
    | bad => rw [qt] at hl; rw [← hl] at h; exact h.elim
    | exc y e1 => rw [qt] at hl; rw [← hl] at h; exact fun c dx H2 F2 ev2 p => h c dx σ' H2 F2 (ev.trans ev2) fz p
    | ok c e1 =>
      rw [qt] at hl
      simp only at hl
      intro H2 F2 ev2
      have evA : Ev K F H σ' H2 e1 F2 := ev.trans ev2
      cases c with
      | false =>
        simp only [Bool.false_eq_true, if_false] at hl ⊢
        rw [← hl] at h
        exact h σ' H2 F2 evA fz
      | true =>
        simp only [if_true] at hl ⊢
        refine ⟨fun σ2 H2 => ∃ e2 F2, Ev K F H σ2 H2 e2 F2 ∧ Fz Z σ σ2 ∧ mWhile t b m e2 = mWhile t b fuel e, fun σ2 H2 hN => ⟨m, Nat.lt_succ_self m, hN⟩, e1, F2, evA.r, evA.nd, ?_⟩
        cases qb : b e1 with
        | nx e2 =>
          rw [qb] at hl
          exact fun σ4 H4 F4 ev4 fz4 => ⟨e2, F4, evA.trans ev4, fz.trans fz4, hl⟩
        | ct e2 =>
          rw [qb] at hl
          exact fun σ4 H4 F4 ev4 fz4 => ⟨e2, F4, evA.trans ev4, fz.trans fz4, hl⟩
        | bk e2 =>
          rw [qb] at hl
          rw [← hl] at h
          exact fun σ4 H4 F4 ev4 fz4 => h σ4 H4 F4 (evA.trans ev4) (fz.trans fz4)
        | rt d e2 =>
          rw [qb] at hl
          rw [← hl] at h
          exact fun v σ4 H4 F4 ev4 fz4 => h v σ4 H4 F4 (evA.trans ev4) (fz.trans fz4)
        | exc w e2 =>
          rw [qb] at hl
          rw [← hl] at h
          exact fun c dx σ4 H4 F4 ev4 fz4 p => h c dx σ4 H4 F4 (evA.trans ev4) (fz.trans fz4) p
        | bad =>
          rw [qb] at hl
          rw [← hl] at h
          exact h.elim
end
theorem m_while {X : Cx} {W : WX} {Z : Zs} {c : Expr} {t : MT} {body : List Stmt} {b : MS} {pos : Pos} (hc : PT X c (tT X.K W t)) (hb : PSs X body (tM X.K W Z b)) (hp : PassesOwn (model X.prog X.w) X.A X.env X.xe) : PS X (.While c body [] pos) (tM X.K W Z (mWh t b)) :=
  PS.mono (ps_while hp hc hb) fun D σ H h => tWhile_of h
end Mir

namespace Mir
open PySem PySem.Spec L2

/-! ### what is walked -/
abbrev MW := E → Re (List D)
def tW (K : PySem.W.Frag) (W : WX) (m : MW) : TI := fun σ H R => ∃ e F, RelS K H σ e F ∧ F.Nodup ∧ match m e with
  | .ok items e1 => ∀ J H1 F1 A P, Src K J items P A → P H1 → Ev K F H σ H1 e1 F1 → (∀ a ∈ A, a ∉ F1 ∧ H1 a ≠ none) → R J H1
  | .exc x e1 => ∀ c dx H' F', Ev K F H σ H' e1 F' → RpX K H' c dx x → W c dx σ H'
  | .bad => False
theorem PI.mono {X : Cx} {tg e : Expr} {t t' : TI} (p : PI X tg e t) (h : ∀ σ H R, t' σ H R → t σ H R) : PI X tg e t' := ⟨fun pins s σ H Q I q => p.run pins s σ H Q I (h _ _ _ q)⟩
def itemsOf : D → Option (List D)
  | .tup ds => if imms ds = true then some ds else none
  | .lst ds => if imms ds = true then some ds else none
  | .rol ds => if imms ds = true then some ds else none
  | .str s => some (s.map fun c => .str [c])
  | _ => none
section
variable {K : PySem.W.Frag} {H : Hp}
theorem src_lst {a : Addr} {vs : List V} {ds : List D} : Src K (Itl K a) ds (fun H => H a = some (.lst vs) ∧ Rps K H vs ds []) [a] where
  go := fun i H hp hi => by
    obtain ⟨v, G, h1, h2, _⟩ := hp.2.get (List.getElem?_eq_getElem hi)
    exact ⟨_, v, .of hp.1, h1⟩
  yld := fun i H x H' hp hi hy => by
    obtain ⟨rfl, hx⟩ := hy
    obtain ⟨v, G, h1, h2, h3⟩ := hp.2.get (List.getElem?_eq_getElem hi)
    have e1 := hx _ (SqL.of hp.1)
    rw [h1] at e1; cases e1
    cases G with
    | nil => exact ⟨.refl _ _, h2⟩
    | cons b G => exact absurd (h3 b List.mem_cons_self) (fun m => by cases m)
  stop := fun H hp => ⟨_, .of hp.1, by rw [hp.2.length]; exact Nat.le_refl _⟩
  st := fun S H H' hA k hp => ⟨k _ _ hp.1 (.inr (hA a List.mem_cons_self)), hp.2.keep k fun _ m => by cases m⟩
theorem src_rol {a : Addr} {vs : List V} {ds : List D} : Src K (Itl K a) ds (fun H => RoL K H a vs ∧ Rps K H vs ds []) [] where
  go := fun i H hp hi => by
    obtain ⟨v, G, h1, h2, _⟩ := hp.2.get (List.getElem?_eq_getElem hi)
    exact ⟨_, v, hp.1.sq, h1⟩
  yld := fun i H x H' hp hi hy => by
    obtain ⟨rfl, hx⟩ := hy
    obtain ⟨v, G, h1, h2, h3⟩ := hp.2.get (List.getElem?_eq_getElem hi)
    have e1 := hx _ (hp.1.sq)
    rw [h1] at e1; cases e1
    cases G with
    | nil => exact ⟨.refl _ _, h2⟩
    | cons b G => exact absurd (h3 b List.mem_cons_self) (fun m => by cases m)
  stop := fun H hp => ⟨_, hp.1.sq, by rw [hp.2.length]; exact Nat.le_refl _⟩
  st := fun S H H' hA k hp => ⟨RoL.keep k hp.1, hp.2.keep k fun _ m => by cases m⟩
theorem src_tup {a : Addr} {vs : List V} {ds : List D} : Src K (Itt K a) ds (fun H => TqT K H a vs ∧ Rps K H vs ds []) [] where
  go := fun i H hp hi => by
    obtain ⟨v, G, h1, h2, _⟩ := hp.2.get (List.getElem?_eq_getElem hi)
    exact ⟨_, v, hp.1.sq, h1⟩
  yld := fun i H x H' hp hi hy => by
    obtain ⟨rfl, hx⟩ := hy
    obtain ⟨v, G, h1, h2, h3⟩ := hp.2.get (List.getElem?_eq_getElem hi)
    have e1 := hx _ hp.1.sq
    rw [h1] at e1; cases e1
    cases G with
    | nil => exact ⟨.refl _ _, h2⟩
    | cons b G => exact absurd (h3 b List.mem_cons_self) (fun m => by cases m)
  stop := fun H hp => ⟨_, hp.1.sq, by rw [hp.2.length]; exact Nat.le_refl _⟩
  st := fun S H H' hA k hp => ⟨hp.1.keep k, hp.2.keep k fun _ m => by cases m⟩
theorem src_str {x : Str} (h : x.cps.all (· < 0x110000) = true) : Src K (Its x) (x.cps.toList.map fun c => .str [c]) (fun _ => True) [] where
  go := fun i H hp hi => by show i < x.cps.size; simpa using hi
  yld := fun i H v H' hp hi hy => by
    obtain ⟨rfl, c, hc, rfl⟩ := hy
    have hm : c ∈ x.cps.toList := by
      have := Array.mem_of_getElem? hc
      simpa using this
    have e1 : (x.cps.toList.map fun c => D.str [c])[i] = .str [c] := by
      rw [List.getElem_map]
      congr 2
      have : x.cps.toList[i]? = some c := by simpa using hc
      rw [List.getElem?_eq_getElem (by simpa using hi)] at this
      exact Option.some.inj this
    rw [e1]
    exact ⟨.refl _ _, rp_str (okC_of fun z m => by rw [List.mem_singleton.mp m]; exact okC_mem h c hm) rfl⟩
  stop := fun H hp => by show x.cps.size ≤ _; simp
  st := fun _ _ _ _ _ _ => trivial
/-- lo, lo + 1, .. -/
def rangeD (lo : Int) (n : Nat) : List D := (List.range n).map fun k => .int (lo + (k : Nat))
theorem src_rng {lo : Int} {n : Nat} : Src K (Itr lo n) (rangeD lo n) (fun _ => True) [] where
  go := fun i H hp hi => by show i < n; simpa [rangeD] using hi
  yld := fun i H v H' hp hi hy => by
    obtain ⟨rfl, rfl⟩ := hy
    have e1 : (rangeD lo n)[i] = .int (lo + (i : Nat)) := by simp [rangeD]
    rw [e1]
    exact ⟨.refl _ _, .int⟩
  stop := fun H hp => by show n ≤ _; simp [rangeD]
  st := fun _ _ _ _ _ _ => trivial
end
def wV (n : ME) : MW := fun e => match n e with
  | .ok d e1 => (match itemsOf d with
    | some ds => .ok ds e1
    | none => .bad)
  | .exc x e1 => .exc x e1
  | .bad => .bad
def small62 (j : Int) : Bool := decide (-(2 ^ 62) ≤ j ∧ j < 2 ^ 62)
def wR (ns : MAE) : MW := fun e => match ns e with
  | .ok ds e1 => (match ds with
    | [.int j] => if small62 j = true then .ok (rangeD 0 j.toNat) e1 else .bad
    | [.int i, .int j] => if small62 i = true ∧ small62 j = true then .ok (rangeD i (j - i).toNat) e1 else .bad
    | _ => .bad)
  | .exc x e1 => .exc x e1
  | .bad => .bad
section
variable {X : Cx} {W : WX} {Z : Zs} {tg : Expr} {pos : Pos}
theorem w_val {it : Expr} {n : ME} (p : PE X it (tE X.K W n)) : PI X tg it (tW X.K W (wV n)) := PI.mono (PI.or (pi_list p) (PI.or (pi_tup p) (pi_str p))) fun σ H R ⟨e, F, r, nd, h⟩ => by
  unfold wV at h
  cases q : n e with
  | bad => rw [q] at h; exact h.elim
  | exc y e1 => rw [q] at h; exact .inl ⟨e, F, r, nd, by rw [q]; exact h⟩
  | ok d e1 =>
    rw [q] at h
    simp only at h
    cases qi : itemsOf d with
    | none => rw [qi] at h; exact h.elim
    | some ds =>
      rw [qi] at h
      simp only at h
      unfold itemsOf at qi
      split at qi
      · split at qi
        · rename_i hi
          cases qi
          refine .inr (.inl ⟨e, F, r, nd, ?_⟩)
          rw [q]
          intro v H' F' x
          obtain ⟨G, F0, eF, p, x', hd, n1, nw⟩ := x.head
          cases p with | tup ht rp => ?_
          have e0 := rp.fpImm hi
          subst e0
          exact ⟨_, rfl, ⟨_, ht.sq⟩, h _ H' F0 [] _ src_tup ⟨ht, rp⟩ x' fun _ m => by cases m⟩
        · cases qi
      · split at qi
        · rename_i hi
          cases qi
          refine .inl ⟨e, F, r, nd, ?_⟩
          rw [q]
          intro v H' F' x
          obtain ⟨G, F0, eF, p, x', hd, n1, nw⟩ := x.head
          cases p with | lst ht rp => ?_
          have e0 := rp.fpImm hi
          subst e0
          exact ⟨_, rfl, ⟨_, .of ht⟩, h _ H' F0 [_] _ src_lst ⟨ht, rp⟩ x' fun a m => ⟨hd a m, by rw [List.mem_singleton.mp m, ht]; exact fun z => by cases z⟩⟩
        · cases qi
      · split at qi
        · rename_i hi
          cases qi
          refine .inl ⟨e, F, r, nd, ?_⟩
          rw [q]
          intro v H' F' x
          obtain ⟨G, F0, eF, p, x', hd, n1, nw⟩ := x.head
          cases p with | rol ht rp => ?_
          exact ⟨_, rfl, ⟨_, ht.sq⟩, h _ H' F0 [] _ src_rol ⟨ht, rp⟩ x' fun _ m => by cases m⟩
        · cases qi
      · cases qi
        refine .inr (.inr ⟨e, F, r, nd, ?_⟩)
        rw [q]
        intro v H' F' x
        obtain ⟨G, F0, eF, p, x', hd, n1, nw⟩ := x.head
        cases p with | str hx => ?_
        exact ⟨_, rfl, h _ H' F0 [] _ (src_str hx) trivial x' fun _ m => by cases m⟩
      · cases qi
theorem w_rng1 {a : Expr} {ns : MAE} {p : Pos} (hg : Gl X "range") (hm : X.mg "range" = none) (ha : PA X [a] (tAE X.K W ns)) (h1 : ∀ e ds e1, ns e = .ok ds e1 → ds.length = 1) (hs : starEach [a] X.env = [(false, eval a X.env)] := by rfl) : PI X tg (.Call (.Name "range" p) [a] [] pos) (tW X.K W (wR ns)) :=
  PI.mono (pi_range1 hg hm ha hs) fun σ H R ⟨e, F, r, nd, h⟩ => by
    refine ⟨e, F, r, nd, ?_⟩
    unfold wR at h
    cases q : ns e with
    | bad => rw [q] at h; exact h
    | exc y e1 => rw [q] at h; exact h
    | ok ds e1 =>
      rw [q] at h
      have hl := h1 e ds e1 q
      intro vs H' G F' x
      obtain ⟨ev, ps, hd, n1, nw⟩ := x
      cases ds with
      | nil => cases hl
      | cons d ds =>
        cases ds with
        | cons _ _ => cases hl
        | nil =>
          cases d with
          | int j =>
            simp only at h
            by_cases hj : small62 j = true
            · simp only [hj, if_true] at h
              cases ps with | cons p1 p2 => ?_
              cases p2; cases p1
              have hb : -(2 ^ 62) ≤ j ∧ j < 2 ^ 62 := of_decide_eq_true hj
              exact ⟨j, rfl, hb.1, hb.2, h _ H' F' [] _ src_rng trivial ev fun _ m => by cases m⟩
            · simp only [hj] at h
              exact h.elim
          | _ => exact h.elim
theorem w_rng2 {a b : Expr} {ns : MAE} {p : Pos} (ha : PA X [a, b] (tAE X.K W ns)) (h1 : ∀ e ds e1, ns e = .ok ds e1 → ds.length = 2) (q : PI X tg (.Call (.Name "range" p) [a, b] [] pos) (iRng2 (tAE X.K W ns))) : PI X tg (.Call (.Name "range" p) [a, b] [] pos) (tW X.K W (wR ns)) :=
  PI.mono q fun σ H R ⟨e, F, r, nd, h⟩ => by
    refine ⟨e, F, r, nd, ?_⟩
    unfold wR at h
    cases q : ns e with
    | bad => rw [q] at h; exact h
    | exc y e1 => rw [q] at h; exact h
    | ok ds e1 =>
      rw [q] at h
      have hl := h1 e ds e1 q
      intro vs H' G F' x
      obtain ⟨ev, ps, hd, n1, nw⟩ := x
      cases ds with
      | nil => cases hl
      | cons d ds =>
        cases ds with
        | nil => cases hl
        | cons d2 ds =>
          cases ds with
          | cons _ _ => cases hl
          | nil =>
            cases d with
            | int i =>
              cases d2 with
              | int j =>
                simp only at h
                by_cases hj : small62 i = true ∧ small62 j = true
                · simp only [hj, and_self, if_true] at h
                  cases ps with | cons p1 p2 => ?_
                  cases p2 with | cons p2 p3 => ?_
                  cases p3; cases p1; cases p2
                  have hb : -(2 ^ 62) ≤ i ∧ i < 2 ^ 62 := of_decide_eq_true hj.1
                  have hb2 : -(2 ^ 62) ≤ j ∧ j < 2 ^ 62 := of_decide_eq_true hj.2
                  exact ⟨i, j, rfl, ⟨hb.1, hb.2, hb2.1, hb2.2⟩, h _ H' F' [] _ src_rng trivial ev fun _ m => by cases m⟩
                · simp only [hj, if_false] at h
              | _ => exact h.elim
            | _ => exact h.elim
/-- for -/
def mFor (w : MW) (g : MG) (b : MS) : MS := fun e => match w e with
  | .ok items e1 => mLoop g b items e1
  | .exc x e1 => .exc x e1
  | .bad => .bad
theorem m_for {it : Expr} {w : MW} {g : MG} {b : MS} {body : List Stmt} (hw : PI X tg it (tW X.K W w)) (hg : PG X tg (tG X.K Z g)) (hb : PSs X body (tM X.K W Z b)) (hp : PassesOwn (model X.prog X.w) X.A X.env X.xe) (hc : X.calm = true) (hs : ∀ x, foldedSetIterable it X.env x = pure x := by intro _; rfl) : PS X (.For tg it body [] pos) (tM X.K W Z (mFor w g b)) :=
  PS.mono (ps_for hp hc hw hg hb hs) fun D σ H h => by
    obtain ⟨e, F, r, nd, h⟩ := tM.post h
    refine ⟨e, F, r, nd, ?_⟩
    unfold mFor at h
    cases q : w e with
    | bad => rw [q] at h; exact h
    | exc y e1 => rw [q] at h; exact fun c dx H' F' x p => h c dx σ H' F' x (.refl _ _) p
    | ok items e1 =>
      rw [q] at h
      exact fun J H1 F1 A P src hP x hA => loop_ok src x (.refl _ _) hA hP h
/-- an outcome with the slot i filled again -/
def SR.fill (i : Nat) (d : D) : SR → SR
  | .nx e => .nx (e.set i (some d))
  | .rt x e => .rt x (e.set i (some d))
  | .bk e => .bk (e.set i (some d))
  | .ct e => .ct (e.set i (some d))
  | .exc x e => .exc x (e.set i (some d))
  | .bad => .bad
/-- for over a name's thing, which the body leaves alone -/
def mForV (i : Nat) (g : MG) (b : MS) : MS := fun e => match e[i]? with
  | some (some d) => (match itemsOf d with
    | some items => if imm d = true then mLoop g b items e else (mLoop g b items (e.set i none)).fill i d
    | none => .bad)
  | _ => .bad
theorem m_forV {i : Nat} {x : Str} {px : Pos} {g : MG} {b : MS} {body : List Stmt} (hg : PG X tg (tG X.K (zc i Z) g)) (hb : PSs X body (tM X.K W (zc i Z) b)) (hp : PassesOwn (model X.prog X.w) X.A X.env X.xe) (hc : X.calm = true) (hN : X.N[i]? = some x := by rfl) (hv : Vis X.env.scope x := by first | exact Or.inl rfl | exact Or.inr (Or.inl rfl) | exact Or.inr (Or.inr rfl)) (hd : (x == ("__debug__" : Str)) = false := by decide)
    (hcd : (x == ("__classdict__" : Str)) = false := by decide) : PS X (.For tg (.Name x px) body [] pos) (tM X.K W Z (mForV i g b)) :=
  PS.mono (ps_for hp hc (PI.or (pi_list (pe_var hN hv hd hcd)) (PI.or (pi_tup (pe_var hN hv hd hcd)) (pi_str (pe_var hN hv hd hcd)))) hg hb) fun D σ H h => by
    obtain ⟨e, F, r, nd, h⟩ := tM.post h
    have zi : zc i Z i = true := by simp [zc]
    have sub : ∀ j, Z j = true → zc i Z j = true := fun j m => by simp [zc, m]
    have weak : ∀ {s : SR}, Post X.K W Z D F σ H s → Post X.K W (zc i Z) D F σ H s := by
      intro s h
      cases s with
      | nx e' => exact fun σ' H' F' x z => h σ' H' F' x (z.sub sub)
      | rt d e' => exact fun v σ' H' F' x z => h v σ' H' F' x (z.sub sub)
      | bk e' => exact fun σ' H' F' x z => h σ' H' F' x (z.sub sub)
      | ct e' => exact fun σ' H' F' x z => h σ' H' F' x (z.sub sub)
      | exc y e' => exact fun c dx σ' H' F' x z p => h c dx σ' H' F' x (z.sub sub) p
      | bad => exact h
    unfold mForV at h
    cases q : e[i]? with
    | none => rw [q] at h; exact h.elim
    | some oo =>
      rw [q] at h
      cases oo with
      | none => exact h.elim
      | some d =>
        simp only at h
        cases qi : itemsOf d with
        | none => rw [qi] at h; exact h.elim
        | some items =>
          rw [qi] at h
          simp only at h
          obtain ⟨v, G, hs, p, hGF⟩ := r.get q
          have x0 : Ev X.K F H σ H e F := .refl r nd
          unfold itemsOf at qi
          split at qi
          · split at qi
            · rename_i hi
              cases qi
              cases p with | tup ht rp => ?_
              have e0 := rp.fpImm hi
              subst e0
              rw [if_pos (show imm (.tup _) = true by simpa [imm] using hi)] at h
              exact .inr (.inl ⟨_, hs, _, rfl, ⟨_, ht.sq⟩, loop_ok src_tup x0 (.refl _ _) (fun _ m => by cases m) ⟨ht, rp⟩ (weak h)⟩)
            · cases qi
          · split at qi
            · rename_i ds hi
              cases qi
              rw [if_neg (show ¬ imm (.lst _) = true by simp [imm])] at h
              obtain ⟨v', F3, hs', y⟩ := x0.move q
              rw [hs] at hs'; cases hs'
              obtain ⟨G1, F0, eF, p1, y', hd1, n1, nw1⟩ := y.head
              cases p with | lst ht rp => ?_
              cases p1 with | lst ht1 rp1 => ?_
              rw [ht] at ht1; cases ht1
              have e0 := rp1.fpImm hi
              subst e0
              have e1 := rp.fpImm hi
              subst e1
              rename_i a vs
              have hA : ∀ b ∈ [a], b ∉ F0 ∧ H b ≠ none := fun b m => ⟨hd1 b m, by rw [List.mem_singleton.mp m, ht]; exact fun z => by cases z⟩
              have back : ∀ {σ' : L2.St} {H' : Hp} {e' : E} {F' : List Addr}, Ev X.K F H σ' H' e' F' → Fz (zc i Z) σ σ' → (H' a = some (.lst vs) ∧ Rps X.K H' vs items []) → (∀ b ∈ [a], b ∉ F') → ∃ F2, Ev X.K F H σ' H' (e'.set i (some (.lst items))) F2 := by
                intro σ' H' e' F' x z hP ha
                refine (x.cons (v := .ref a) (d := .lst items) (G := [a]) (.lst hP.1 hP.2) ha (by simp) (fun b m => .inl (by rw [List.mem_singleton.mp m]; exact hGF a List.mem_cons_self))).back ?_
                rw [z.2 i zi]
                exact hs
              have backR : ∀ {v : V} {d : Mir.D} {σ' : L2.St} {H' : Hp} {e' : E} {F' : List Addr}, Ev X.K F H (some v :: σ') H' (some d :: e') F' → Fz (zc i Z) σ σ' → (H' a = some (.lst vs) ∧ Rps X.K H' vs items []) → (∀ b ∈ [a], b ∉ F') → ∃ F2, Ev X.K F H (some v :: σ') H' (some d :: e'.set i (some (.lst items))) F2 := by
                intro v d σ' H' e' F' x z hP ha
                have y := (x.cons (v := .ref a) (d := .lst items) (G := [a]) (.lst hP.1 hP.2) ha (by simp) (fun b m => .inl (by rw [List.mem_singleton.mp m]; exact hGF a List.mem_cons_self))).back (i := i + 1) (by
                  rw [List.getElem?_cons_succ, z.2 i zi]
                  exact hs)
                exact y
              refine .inl ⟨_, hs, a, rfl, ⟨_, .of ht⟩, loop_okP src_lst y' (.refl _ _) hA ⟨ht, rp1⟩ ?_⟩
              cases qs : mLoop g b items (e.set i none) with
              | nx e' =>
                rw [qs] at h
                intro σ' H' F' x z hP ha
                obtain ⟨F2, w⟩ := back x z hP ha
                exact h σ' H' F2 w (z.sub sub)
              | bk e' =>
                rw [qs] at h
                intro σ' H' F' x z hP ha
                obtain ⟨F2, w⟩ := back x z hP ha
                exact h σ' H' F2 w (z.sub sub)
              | ct e' =>
                rw [qs] at h
                intro σ' H' F' x z hP ha
                obtain ⟨F2, w⟩ := back x z hP ha
                exact h σ' H' F2 w (z.sub sub)
              | rt d e' =>
                rw [qs] at h
                intro v σ' H' F' x z hP ha
                obtain ⟨F2, w⟩ := backR x z hP ha
                exact h v σ' H' F2 w (z.sub sub)
              | exc y e' =>
                rw [qs] at h
                intro c dx σ' H' F' x z hP ha p
                obtain ⟨F2, w⟩ := back x z hP ha
                exact h c dx σ' H' F2 w (z.sub sub) p
              | bad => rw [qs] at h; exact h
            · cases qi
          · split at qi
            · rename_i hi
              cases qi
              cases p with | rol ht rp => ?_
              rw [if_pos (show imm (.rol _) = true by simpa [imm] using hi)] at h
              exact .inl ⟨_, hs, _, rfl, ⟨_, ht.sq⟩, loop_ok src_rol x0 (.refl _ _) (fun _ m => by cases m) ⟨ht, rp⟩ (weak h)⟩
            · cases qi
          · cases qi
            cases p with | str hx => ?_
            rw [if_pos (show imm (.str _) = true by rfl)] at h
            exact .inr (.inr ⟨_, hs, _, rfl, loop_ok (src_str hx) x0 (.refl _ _) (fun _ m => by cases m) trivial (weak h)⟩)
          · cases qi
end
end Mir

namespace Mir
open PySem PySem.Spec L2

/-! ### comprehensions -/
def wipeE (e : E) : List Nat → E
  | [] => e
  | v :: vs => (wipeE e vs).set v none
def mComp (g : MG) (tt : MT) (te : ME) (vs : List Nat) : List D → E → List D → Re (List D)
  | [], e, acc => .ok acc e
  | d :: ds, e, acc => match g d e with
    | some e1 => (match tt e1 with
      | .ok b e2 => if b = true then (match te e2 with
          | .ok y e3 => mComp g tt te vs ds (wipeE e3 vs) (acc ++ [y])
          | _ => .bad) else mComp g tt te vs ds (wipeE e2 vs) acc
      | _ => .bad)
    | none => .bad
/-- [te for g in w if tt] -/
def eComp (w : MW) (g : MG) (tt : MT) (te : ME) (vs : List Nat) : ME := fun e => match w e with
  | .ok items e1 => if fits items.length = true then (match mComp g tt te vs items (wipeE e1 vs) [] with
    | .ok acc e2 => .ok (.lst acc) e2
    | _ => .bad) else .bad
  | .exc x e1 => .exc x e1
  | .bad => .bad
def tY : MT := fun e => .ok true e
def wF : WX := fun _ _ _ _ => False
section
variable {K : PySem.W.Frag} {H : Hp}
theorem wipeE_len (e : E) : ∀ vs : List Nat, (wipeE e vs).length = e.length
  | [] => rfl
  | v :: vs => by rw [wipeE, List.length_set, wipeE_len e vs]
theorem wipeE_in {e : E} {i : Nat} {d : D} : ∀ {vs : List Nat}, (wipeE e vs)[i]? = some (some d) → i ∉ vs ∧ e[i]? = some (some d)
  | [], h => ⟨by simp, h⟩
  | v :: vs, h => by
    rw [wipeE] at h
    by_cases hv : v = i
    · subst hv
      by_cases hl : v < (wipeE e vs).length
      · rw [List.getElem?_set_self hl] at h; cases h
      · rw [List.getElem?_eq_none (by simpa using hl)] at h; cases h
    · rw [List.getElem?_set_ne hv] at h
      obtain ⟨h1, h2⟩ := wipeE_in h
      exact ⟨fun m => (List.mem_cons.mp m).elim (fun z => hv z.symm) h1, h2⟩
theorem RelS.wipe {σ : L2.St} {e : E} {F : List Addr} (r : RelS K H σ e F) (nd : F.Nodup) : ∀ vs : List Nat, ∃ F0, RelS K H σ (wipeE e vs) F0 ∧ F0.Nodup ∧ ∀ a ∈ F0, a ∈ F
  | [] => ⟨F, r, nd, fun _ m => m⟩
  | v :: vs => by
    obtain ⟨F0, h1, h2, h3⟩ := RelS.wipe r nd vs
    obtain ⟨F1, G, q1, q2⟩ := h1.drop v
    exact ⟨F1, q1, (List.nodup_append.mp (q2.nodup_iff.mp h2)).2.1, fun a m => h3 a (q2.mem_iff.mpr (List.mem_append_right _ m))⟩
theorem RelS.agree {σ σ' : L2.St} {e : E} {F : List Addr} (r : RelS K H σ e F) (hl : σ'.length = σ.length) (h : ∀ (i : Nat) (d : D), e[i]? = some (some d) → σ'[i]? = σ[i]?) : RelS K H σ' e F := by
  induction r generalizing σ' with
  | nil =>
    have : σ' = [] := List.length_eq_zero_iff.mp hl
    subst this
    exact .nil
  | no r ih =>
    cases σ' with
    | nil => simp at hl
    | cons x σ' => exact .no (ih (by simpa using hl) fun i d q => by simpa using h (i + 1) d (by simpa using q))
  | so p r ih =>
    cases σ' with
    | nil => simp at hl
    | cons x σ' =>
      have e0 := h 0 _ rfl
      simp only [List.getElem?_cons_zero, Option.some.injEq] at e0
      subst e0
      exact .so p (ih (by simpa using hl) fun i d q => by simpa using h (i + 1) d (by simpa using q))
theorem wipe_at {σ : L2.St} {i : Nat} : ∀ {vs : List Nat}, i ∈ vs → (L2.wipe σ vs)[i]? = if i < σ.length then some none else none
  | [], m => by cases m
  | v :: vs, m => by
    rw [L2.wipe]
    by_cases hv : v = i
    · subst hv
      by_cases hl : v < σ.length
      · rw [List.getElem?_set_self (by rw [L2.wipe_length]; exact hl), if_pos hl]
      · rw [List.getElem?_eq_none (by rw [List.length_set, L2.wipe_length]; omega), if_neg hl]
    · rw [List.getElem?_set_ne hv]
      exact wipe_at ((List.mem_cons.mp m).elim (fun z => absurd z.symm hv) id)
theorem wipe_same {σ σ2 : L2.St} {vs : List Nat} (hl : σ2.length = σ.length) (h : ∀ i, i ∉ vs → σ2[i]? = σ[i]?) : L2.wipe σ2 vs = L2.wipe σ vs := by
  refine List.ext_getElem? fun i => ?_
  by_cases m : i ∈ vs
  · rw [wipe_at m, wipe_at m, hl]
  · rw [wipe_out m, wipe_out m, h i m]
theorem wipe_agree {σ : L2.St} {e : E} {F : List Addr} {vs : List Nat} (r : RelS K H σ e F) (hw : ∀ i d, e[i]? = some (some d) → i ∉ vs) : RelS K H (L2.wipe σ vs) e F :=
  r.agree (L2.wipe_length _ _) fun i d q => wipe_out (hw i d q)
end
/-- the list so far, at L -/
structure Acc (K : PySem.W.Frag) (F : List Addr) (H H' : Hp) (L : Addr) (acc : List D) (F' : List Addr) : Prop where
  ex : ∃ vs G, H' L = some (.lst vs) ∧ Rps K H' vs acc G ∧ (∀ a ∈ G, a ∉ F') ∧ L ∉ G ∧ G.Nodup ∧ ∀ a ∈ G, a ∈ F ∨ H a = none
  nin : L ∉ F'
  new : L ∈ F ∨ H L = none
section
variable {K : PySem.W.Frag}
theorem Acc.keep {F F' F2 : List Addr} {H H' H2 : Hp} {L : Addr} {acc : List D} {σ2 : L2.St} {e2 : E} (a : Acc K F H H' L acc F') (y : Ev K F' H' σ2 H2 e2 F2) : Acc K F H H2 L acc F2 := by
  obtain ⟨⟨vs, G, h1, h2, h3, h4, h5, h6⟩, n1, n2⟩ := a
  refine ⟨⟨vs, G, y.k _ _ h1 (.inr n1), h2.keep y.k h3, fun b m m' => ?_, h4, h5, h6⟩, fun m => ?_, n2⟩
  · exact (y.new b m').elim (h3 b m) (h2.there m)
  · exact (y.new L m).elim n1 (by rw [h1]; exact fun z => by cases z)
theorem Acc.less {F F' F2 : List Addr} {H H' : Hp} {L : Addr} {acc : List D} (a : Acc K F H H' L acc F') (h : ∀ b ∈ F2, b ∈ F') : Acc K F H H' L acc F2 := by
  obtain ⟨⟨vs, G, h1, h2, h3, h4, h5, h6⟩, n1, n2⟩ := a
  exact ⟨⟨vs, G, h1, h2, fun b m m' => h3 b m (h b m'), h4, h5, h6⟩, fun m => n1 (h L m), n2⟩
end
theorem comp_ok {K : PySem.W.Frag} {J : It} {items : List D} {P : Hp → Prop} {A : List Addr} (src : Src K J items P A) {g : MG} {tt : MT} {te : ME} {vs : List Nat} {σ : L2.St} {H0 H1 : Hp} {F0 F1 : List Addr} {e1 : E} {Q : VK}
    (x0 : Ev K F0 H0 σ H1 e1 F1) (hA : ∀ a ∈ A, a ∉ F1 ∧ H1 a ≠ none) (hp : P H1) (hfit : fits items.length = true) (hw0 : ∀ i d, e1[i]? = some (some d) → i ∉ vs)
    (h : match mComp g tt te vs items e1 [] with
      | .ok acc e2 => ∀ v H' F', Ev K F0 H0 (some v :: σ) H' (some (.lst acc) :: e2) F' → Q v H'
      | _ => False) (L : Addr) (hL : H1 L = none) :
    ∃ V : Nat → Nat → Hp → Prop, (∃ m, V 0 m (upd H1 L (.lst []))) ∧ ∀ i m H, V i m H → (J.stop i H ∧ Q (.ref L) H) ∨ (J.go i H ∧ ∃ Nx : Hp → Prop, (∀ H', Nx H' → ∃ m', m' < m ∧ V (i + 1) m' H') ∧ ∀ x H', J.yld i H x H' →
      tG K (zw vs) g x (L2.wipe σ vs) H' fun σ2 H2 => L2.wipe σ2 vs = L2.wipe σ vs ∧ tT K wF tt σ2 H2 fun b H3 =>
        if b = true then tE K wF te σ2 H3 fun y H4 => ∃ acc, H4 L = some (.lst acc) ∧ acc.length < sizeLine ∧ Nx (upd H4 L (.lst (acc ++ [y]))) else Nx H3) := by
  have k0 : Keeps [] H1 (upd H1 L (.lst [])) := .new hL []
  have x1 : Ev K F0 H0 σ (upd H1 L (.lst [])) e1 F1 := x0.grow k0
  have LA : L ∉ A := fun m => (hA L m).2 hL
  have newL : L ∈ F0 ∨ H0 L = none := by
    by_cases z : L ∈ F0
    · exact .inl z
    · exact .inr (x0.k.none hL z)
  have a0 : Acc K F0 H0 (upd H1 L (.lst [])) L [] F1 := ⟨⟨[], [], upd_same, .nil, (fun _ m => by cases m), (fun m => by cases m), .nil, fun _ m => by cases m⟩, fun m => x0.r.there m hL, newL⟩
  have hA1 : ∀ a ∈ A, a ∉ F1 ∧ (upd H1 L (.lst [])) a ≠ none := fun a m => ⟨(hA a m).1, by rw [upd_ne (fun z => LA (by rw [← z]; exact m))]; exact (hA a m).2⟩
  refine ⟨fun i m H' => i + m = items.length ∧ P H' ∧ ∃ e' F' acc, Ev K F0 H0 σ H' e' F' ∧ Acc K F0 H0 H' L acc F' ∧ (∀ a ∈ A, a ∉ F' ∧ H' a ≠ none) ∧ (∀ j d, e'[j]? = some (some d) → j ∉ vs) ∧ acc.length ≤ i ∧ mComp g tt te vs (items.drop i) e' acc = mComp g tt te vs items e1 [],
    ⟨items.length, by omega, src.st [] _ _ (fun _ _ m => by cases m) k0 hp, e1, F1, [], x1, a0, hA1, hw0, Nat.le_refl _, by rw [List.drop_zero]⟩, fun i m H' hV => ?_⟩
  obtain ⟨him, hp', e', F', acc, ev, ac, hA', hw, hlen, hl⟩ := hV
  by_cases hi : i < items.length
  · refine .inr ⟨src.go i H' hp' hi, fun H2 => P H2 ∧ ∃ e2 F2 acc, Ev K F0 H0 σ H2 e2 F2 ∧ Acc K F0 H0 H2 L acc F2 ∧ (∀ a ∈ A, a ∉ F2 ∧ H2 a ≠ none) ∧ (∀ j d, e2[j]? = some (some d) → j ∉ vs) ∧ acc.length ≤ i + 1 ∧ mComp g tt te vs (items.drop (i + 1)) e2 acc = mComp g tt te vs items e1 [],
      fun H2 hN => ?_, fun y H2 hy => ?_⟩
    · obtain ⟨q1, e2, F2, acc2, q2, q3, q4, q5, q6, q7⟩ := hN
      exact ⟨m - 1, by omega, by omega, q1, e2, F2, acc2, q2, q3, q4, q5, q6, q7⟩
    · obtain ⟨ky, py⟩ := src.yld i H' y H2 hp' hi hy
      rw [List.drop_eq_getElem_cons hi, mComp] at hl
      cases qg : g items[i] e' with
      | none => rw [qg] at hl; rw [← hl] at h; exact h.elim
      | some e2 =>
        rw [qg] at hl
        simp only at hl
        have evy : Ev K F0 H0 σ H2 e' F' := ev.grow ky
        have acy : Acc K F0 H0 H2 L acc F' := ac.keep ⟨ky.mono (fun _ m => by cases m), ev.r.same ky, ev.nd, fun a m => .inl m⟩
        have py' : P H2 := src.st [] _ _ (fun _ _ m => by cases m) ky hp'
        have there : ∀ {S : List Addr} {Ha Hb : Hp}, (∀ a ∈ A, a ∉ S) → Keeps S Ha Hb → (∀ a ∈ A, Ha a ≠ none) → ∀ a ∈ A, Hb a ≠ none := fun {S Ha Hb} hs k ht a m z => by
          cases q : Ha a with
          | none => exact ht a m q
          | some o => rw [k a o q (.inr (hs a m))] at z; cases z
        refine ⟨items[i], e', F', e2, py, wipe_agree evy.r hw, evy.nd, qg, fun σ2 H3 F3 ev3 fz3 => ⟨?_, ?_⟩⟩
        · have w1 : L2.wipe (L2.wipe σ vs) vs = L2.wipe σ vs := wipe_same (L2.wipe_length _ _) fun i m => wipe_out m
          rw [wipe_same fz3.1 fun i m => fz3.2 i (by simp [zw, m]), w1]
        · have P3 : P H3 := src.st F' H2 H3 (fun a m => (hA' a m).1) ev3.k py'
          have ac3 := acy.keep ev3
          have at2 : ∀ a ∈ A, H2 a ≠ none := there (S := []) (fun _ _ m => by cases m) ky fun a m => (hA' a m).2
          have at3 : ∀ a ∈ A, a ∉ F3 ∧ H3 a ≠ none := fun a m => ⟨fun z => (ev3.new a z).elim (hA' a m).1 (at2 a m), there (fun a m => (hA' a m).1) ev3.k at2 a m⟩
          -- the outer slots again
          have outer : ∀ {σ4 : L2.St} {H4 : Hp} {e4 : E} {F4 : List Addr}, Ev K F' H2 σ4 H4 e4 F4 → Fz (zw vs) (L2.wipe σ vs) σ4 → ∃ F5, Ev K F0 H0 σ H4 (wipeE e4 vs) F5 ∧ ∀ a ∈ F5, a ∈ F4 := by
            intro σ4 H4 e4 F4 ev4 fz4
            obtain ⟨F5, r5, n5, s5⟩ := ev4.r.wipe ev4.nd vs
            refine ⟨F5, ⟨evy.k.trans ev4.k evy.new, r5.agree (by rw [fz4.1, L2.wipe_length]) fun j d q => ?_, n5, fun a m => ?_⟩, s5⟩
            · obtain ⟨m1, _⟩ := wipeE_in q
              rw [fz4.2 j (by simp [zw, m1]), wipe_out m1]
            · rcases ev4.new a (s5 a m) with z | z
              · exact evy.new a z
              · by_cases zz : a ∈ F0
                · exact .inl zz
                · exact .inr (evy.k.none z zz)
          refine ⟨e2, F3, ev3.r, ev3.nd, ?_⟩
          cases qt : tt e2 with
          | bad => rw [qt] at hl; rw [← hl] at h; exact h.elim
          | exc z e3 => rw [qt] at hl; rw [← hl] at h; exact h.elim
          | ok b e3 =>
            rw [qt] at hl
            simp only at hl
            intro H4 F4 ev4
            have evB := ev3.trans ev4
            have ac4 := ac3.keep ev4
            have P4 : P H4 := src.st F3 H3 H4 (fun a m => (at3 a m).1) ev4.k P3
            have at4 : ∀ a ∈ A, a ∉ F4 ∧ H4 a ≠ none := fun a m => ⟨fun z => (ev4.new a z).elim (at3 a m).1 (at3 a m).2, there (fun a m => (at3 a m).1) ev4.k (fun a m => (at3 a m).2) a m⟩
            cases b with
            | false =>
              simp only [Bool.false_eq_true, if_false] at hl ⊢
              obtain ⟨F5, ev5, s5⟩ := outer evB fz3
              exact ⟨P4, _, F5, acc, ev5, ac4.less s5, fun a m => ⟨fun z => (at4 a m).1 (s5 a z), (at4 a m).2⟩, fun j d q => (wipeE_in q).1, by omega, hl⟩
            | true =>
              simp only [if_true] at hl ⊢
              refine ⟨e3, F4, ev4.r, ev4.nd, ?_⟩
              cases qe : te e3 with
              | bad => rw [qe] at hl; rw [← hl] at h; exact h.elim
              | exc z e4 => rw [qe] at hl; rw [← hl] at h; exact h.elim
              | ok d e4 =>
                rw [qe] at hl
                simp only at hl
                intro v H5 F5 ev5
                obtain ⟨Gv, F6, eF, pv, ev6, hd6, n6, nw6⟩ := ev5.head
                obtain ⟨⟨ws, G, g1, g2, g3, h4, h5, h6⟩, n4, nL2⟩ := ac4
                have L4 : H4 L ≠ none := by rw [g1]; exact fun z => by cases z
                have h1 := ev6.k _ _ g1 (.inr n4)
                have h2 := g2.keep ev6.k g3
                have h3 : ∀ a ∈ G, a ∉ F6 := fun a m m' => (ev6.new a m').elim (g3 a m) (g2.there m)
                have nL : L ∉ F6 := fun m => (ev6.new L m).elim n4 L4
                have P5 : P H5 := src.st F4 H4 H5 (fun a m => (at4 a m).1) ev6.k P4
                have at5 : ∀ a ∈ A, a ∉ F6 ∧ H5 a ≠ none := fun a m => ⟨fun z => (ev6.new a z).elim (at4 a m).1 (at4 a m).2, there (fun a m => (at4 a m).1) ev6.k (fun a m => (at4 a m).2) a m⟩
                have lw : ws.length < sizeLine := by
                  rw [h2.length]
                  have := fits_le hfit
                  omega
                refine ⟨ws, h1, lw, ?_⟩
                have LGv : L ∉ Gv := fun m => (nw6 L m).elim n4 L4
                have dGv : ∀ a ∈ Gv, a ∉ G := fun a m m' => (nw6 a m).elim (g3 a m') (g2.there m')
                have kL : Keeps [L] H5 (upd H5 L (.lst (ws ++ [v]))) := .upd h1 rfl List.mem_cons_self
                obtain ⟨F7, ev7, s7⟩ := outer (evB.trans ev6) fz3
                have L7 : L ∉ F7 := fun m => nL (s7 L m)
                have kF : Keeps F0 H0 (upd H5 L (.lst (ws ++ [v]))) := fun a o q z => by
                  by_cases y : a = L
                  · subst y
                    rcases nL2 with n | n
                    · rcases z with z | z
                      · have := ev7.k a o q (.inl z)
                        rw [h1] at this; cases this; cases z
                      · exact absurd n z
                    · rw [n] at q; cases q
                  · rw [upd_ne y]; exact ev7.k a o q z
                have ev8 : Ev K F0 H0 σ (upd H5 L (.lst (ws ++ [v]))) (wipeE e4 vs) F7 := ⟨kF, ev7.r.keep kL fun a m z => L7 (by rw [← List.mem_singleton.mp z]; exact m), ev7.nd, ev7.new⟩
                refine ⟨src.st [L] _ _ (fun a m z => LA (by rw [← List.mem_singleton.mp z]; exact m)) kL P5, _, F7, acc ++ [d], ev8, ⟨⟨ws ++ [v], G ++ (Gv ++ []), upd_same, (h2.keep kL fun a m z => h4 (by rw [← List.mem_singleton.mp z]; exact m)).append (.cons (pv.keep kL fun a m z => LGv (by rw [← List.mem_singleton.mp z]; exact m)) .nil), fun a m m' => ?_, fun m => ?_, ?_, fun a m => ?_⟩, L7, nL2⟩,
                  fun a m => ⟨fun z => (at5 a m).1 (s7 a z), by rw [upd_ne (fun z => LA (by rw [← z]; exact m))]; exact (at5 a m).2⟩, fun j d q => (wipeE_in q).1, by rw [List.length_append, List.length_singleton]; omega, hl⟩
                · rw [List.append_nil] at m
                  rcases List.mem_append.mp m with m | m
                  · exact h3 a m (s7 a m')
                  · exact hd6 a m (s7 a m')
                · rw [List.append_nil] at m
                  exact (List.mem_append.mp m).elim h4 LGv
                · rw [List.append_nil]
                  exact List.nodup_append.mpr ⟨h5, n6, fun a m b m' z => by subst z; exact dGv a m' m⟩
                · rw [List.append_nil] at m
                  rcases List.mem_append.mp m with m | m
                  · exact h6 a m
                  · rcases nw6 a m with z | z
                    · rcases evB.new a z with z | z
                      · exact evy.new a z
                      · by_cases zz : a ∈ F0
                        · exact .inl zz
                        · exact .inr (evy.k.none z zz)
                    · by_cases zz : a ∈ F0
                      · exact .inl zz
                      · exact .inr ((evy.k.trans evB.k evy.new).none z zz)
  · have ei : i = items.length := by omega
    subst ei
    rw [List.drop_length, mComp] at hl
    rw [← hl] at h
    obtain ⟨⟨ws, G, h1, h2, h3, h4, h5, h6⟩, nL, nL2⟩ := ac
    refine .inl ⟨src.stop H' hp', h (.ref L) H' _ (ev.cons (.lst h1 h2) (fun a m => ?_) (List.nodup_cons.mpr ⟨h4, h5⟩) fun a m => ?_)⟩
    · rcases List.mem_cons.mp m with z | m
      · subst z; exact nL
      · exact h3 a m
    · rcases List.mem_cons.mp m with z | m
      · subst z; exact nL2
      · exact h6 a m

theorem PTs.mono {X : Cx} {e : List Expr} {t t' : TT} (p : PTs X e t) (h : ∀ σ H Q, t' σ H Q → t σ H Q) : PTs X e t' := ⟨fun pins s σ H Q I q => p.run pins s σ H Q I (h _ _ _ q)⟩
section
variable {K : PySem.W.Frag} {W : WX} {σ : L2.St} {H : Hp} {Q : VK} {w : MW} {g : MG} {tt : MT} {te : ME} {vs : List Nat}
theorem lc_of (h : tE K W (eComp w g tt te vs) σ H Q) : tLc (tW K W w) (tG K (zw vs) g) (tT K wF tt) (tE K wF te) vs σ H Q := by
  obtain ⟨e, F, r, nd, h⟩ := h
  refine ⟨e, F, r, nd, ?_⟩
  unfold eComp at h
  cases q : w e with
  | bad => rw [q] at h; exact h
  | exc y e1 => rw [q] at h; exact h
  | ok items e1 =>
    rw [q] at h
    simp only at h
    by_cases hf : fits items.length = true
    · rw [if_pos hf] at h
      intro J H1 F1 A P src hp x hA L hL
      obtain ⟨F2, r2, n2, s2⟩ := x.r.wipe x.nd vs
      have x2 : Ev K F H σ H1 (wipeE e1 vs) F2 := ⟨x.k, r2, n2, fun a m => x.new a (s2 a m)⟩
      refine comp_ok src x2 (fun a m => ⟨fun z => (hA a m).1 (s2 a z), (hA a m).2⟩) hp hf (fun i d q => (wipeE_in q).1) ?_ L hL
      cases qc : mComp g tt te vs items (wipeE e1 vs) [] with
      | ok acc e2 => rw [qc] at h; exact h
      | exc y e2 => rw [qc] at h; exact h
      | bad => rw [qc] at h; exact h
    · rw [if_neg hf] at h; exact h.elim
end
section
variable {X : Cx} {W : WX} {Z : Zs} {w : MW} {g : MG} {tt : MT} {te : ME}
theorem ts_nil : PTs X [] (tT X.K wF tY) := PTs.mono pts_nil fun σ H Q ⟨e, F, r, nd, h⟩ => h H F (.refl r nd)
theorem ts_one {c : Expr} {t : MT} (h : PT X c (tT X.K wF t)) : PTs X [c] (tT X.K wF t) := pts_one h
theorem e_comp {elt tg iter : Expr} {ifs : List Expr} {scope : Scope} {own : List (Str × Nat)} {pos : Pos} (hi : PI X tg iter (tW X.K W w)) (hc : X.calm = true) (hN : X.N.Nodup) (ok : BlkOk X.N X.env.scope scope own)
    (hg : ∀ (s : Shared) (H : Hp) (C : Addr) (cl : List (Str × Addr)) (fp : List Addr), PG (X.blk s H scope (compEnvC scope cl C X.env) fp) tg (tG X.K (zw (own.map (·.2))) g)) (ht : ∀ (s : Shared) (H : Hp) (C : Addr) (cl : List (Str × Addr)) (fp : List Addr), PTs (X.blk s H scope (compEnvC scope cl C X.env) fp) ifs (tT X.K wF tt))
    (he : ∀ (s : Shared) (H : Hp) (C : Addr) (cl : List (Str × Addr)) (fp : List Addr), PE (X.blk s H scope (compEnvC scope cl C X.env) fp) elt (tE X.K wF te)) (hs : ∀ x, foldedSetIterable iter X.env x = pure x := by intro _; rfl) :
    PE X (.ListComp elt [⟨tg, iter, ifs, 0⟩] scope pos) (tE X.K W (eComp w g tt te (own.map (·.2)))) := PE.mono (pe_lc hc hN hi ok hg ht he hs) fun _ _ _ h => lc_of h
theorem m_setLc {i : Nat} {y : Str} {py : Pos} {elt tg iter : Expr} {ifs : List Expr} {scope : Scope} {own : List (Str × Nat)} {pos spos : Pos} (hi : PI X tg iter (tW X.K W w)) (hc : X.calm = true) (hN : X.N.Nodup)
    (hsw : swapsWith (.ListComp elt [⟨tg, iter, ifs, 0⟩] scope pos) (some (.Name y py)) spos.line X.env = pure true) (ok : BlkOk X.N X.env.scope scope own)
    (hg : ∀ (s : Shared) (H : Hp) (C : Addr) (cl : List (Str × Addr)) (fp : List Addr), PG (X.blk s H scope (compEnvC scope cl C X.env) fp) tg (tG X.K (zw (own.map (·.2))) g)) (ht : ∀ (s : Shared) (H : Hp) (C : Addr) (cl : List (Str × Addr)) (fp : List Addr), PTs (X.blk s H scope (compEnvC scope cl C X.env) fp) ifs (tT X.K wF tt))
    (he : ∀ (s : Shared) (H : Hp) (C : Addr) (cl : List (Str × Addr)) (fp : List Addr), PE (X.blk s H scope (compEnvC scope cl C X.env) fp) elt (tE X.K wF te)) (hz : Z i = false := by rfl) (hy : X.N[i]? = some y := by rfl) (hyl : X.env.scope.names.lookup y = some .local := by rfl) (hs : ∀ x, foldedSetIterable iter X.env x = pure x := by intro _; rfl) :
    PS X (.Assign [.Name y py] (.ListComp elt [⟨tg, iter, ifs, 0⟩] scope pos) spos) (tM X.K W Z (mSet i (eComp w g tt te (own.map (·.2))))) := PS.mono (ps_setLc hc hN hy hyl hsw hi ok hg ht he hs) fun D σ H h => by
  obtain ⟨e, F, r, nd, h⟩ := h
  refine lc_of (Q := fun x H1 => gName i x σ H1 D.nx) (W := W) ⟨e, F, r, nd, ?_⟩
  unfold mSet at h
  cases q : eComp w g tt te (own.map (·.2)) e with
  | bad => rw [q] at h; exact h
  | exc y e1 => rw [q] at h; exact fun c dx H' F' x p => h c dx σ H' F' x (.refl _ _) p
  | ok d e1 =>
    rw [q] at h
    intro v H' F' x
    obtain ⟨F3, y⟩ := x.put i
    exact h _ H' F3 y (.set hz)
end
end Mir

namespace Mir
open PySem PySem.Spec L2

/-! ### defs whose arguments can't change -/
abbrev MD := List D → Rs D
def spN (K : PySem.W.Frag) (n : Nat) (m : MD) : Sp := fun vs H Q E => vs.length = n ∧ ∃ ds, Rps K H vs ds [] ∧ match m ds with
  | .ok d => ∀ v H' G, Keeps [] H H' → Rp K H' v d G → G.Nodup → (∀ a ∈ G, H a = none) → Q v H'
  | .exc x => ∀ c dx H', Keeps [] H H' → RpX K H' c dx x → E c dx H'
  | .bad => False
def mRes : SR → Rs D
  | .rt d _ => .ok d
  | .nx _ => .ok .non
  | .exc x _ => .exc x
  | _ => .bad
def mDef (k : Nat) (mb : MS) : MD := fun ds => if imms ds = true then mRes (mb (ds.map some ++ List.replicate k none)) else .bad
theorem RelS.nones {K : PySem.W.Frag} {H : Hp} : ∀ k : Nat, RelS K H (List.replicate k none) (List.replicate k none) []
  | 0 => .nil
  | k + 1 => .no (RelS.nones k)
theorem RelS.start {K : PySem.W.Frag} {H : Hp} {k : Nat} : ∀ {vs : List V} {ds : List D} {F : List Addr}, Rps K H vs ds F → RelS K H (vs.map some ++ List.replicate k none) (ds.map some ++ List.replicate k none) F
  | _, _, _, .nil => RelS.nones k
  | _, _, _, .cons p r => .so p (RelS.start r)
section
variable {P : Program} {w : World} {K : PySem.W.Frag} {mg : Str → Option Value} {base : Heap}
theorem body_ok {W : WX} {mb : MS} {N : List Str} {vs : List V} {ds : List D} {H : Hp} {Q : VK} {E : XK} {n : Nat} (hN : N.length - vs.length = n) (hW : ∀ c dx σ H', E c dx H' → W c dx σ H')
    (r : Rps K H vs ds []) (h : match mDef n mb ds with
      | .ok d => ∀ v H' G, Keeps [] H H' → Rp K H' v d G → G.Nodup → (∀ a ∈ G, H a = none) → Q v H'
      | .exc x => ∀ c dx H', Keeps [] H H' → RpX K H' c dx x → E c dx H'
      | .bad => False) : tM K W z0 mb { nx := fun _ H' => Q .non H', rt := Q } (L2.start N vs) H := by
  unfold mDef at h
  by_cases hi : imms ds = true
  · rw [if_pos hi] at h
    unfold L2.start
    rw [hN]
    refine ⟨_, _, RelS.start r, .nil, ?_⟩
    cases q : mb (ds.map some ++ List.replicate n none) with
    | nx e' => rw [q] at h; exact fun σ' H' F' x _ => h .non H' [] x.k .non .nil fun _ m => by cases m
    | rt d e' =>
      rw [q] at h
      intro v σ' H' F' x _
      obtain ⟨G, F0, eF, p, x', hd, n1, nw⟩ := x.head
      exact h v H' G x.k p n1 fun a m => (nw a m).elim (fun z => by cases z) id
    | exc y e' =>
      rw [q] at h
      exact fun c dx σ' H' F' x _ p => hW c dx σ' H' (h c dx H' x.k p)
    | bk e' => rw [q] at h; exact h.elim
    | ct e' => rw [q] at h; exact h.elim
    | bad => rw [q] at h; exact h.elim
  · rw [if_neg hi] at h; exact h.elim
/-- a def that lets nothing out -/
theorem ok_def {x qual : Str} {st : Stmt} {f : Addr} {fd : FuncData} {N ps : List Str} {k : Nat} {mb : MS} (F : Fun K x qual st f fd) (S : FnScope N ps (defScope st)) {n q : Nat} (hn : ps.length = n) (hq : N.length - n = q)
    (hb : ∀ (cdv : Value) (A : Around) (outer : List Env) (s : Shared) (H : Hp) (E : XK), Room k (A.deeper (PyProof.Rows.envOfC qual (defScope st) s.heap.objs.size f cdv)) →
      PSs (cxOf CX0 P w K mg base N qual (defScope st) f cdv A outer s H E).nox (defBody st) (tM K wF z0 mb))
    (hx : ∀ ds x, mDef q mb ds ≠ .exc x) : FnOk P w K mg base CX0 (k + 1) f fd ps (spN K n (mDef q mb)) :=
  F.ok S (fun vs H Q E h => h.1.trans hn.symm) fun cdv A outer s H vs Q E hr h => ⟨_, hb cdv A outer s H E hr, by
    obtain ⟨hl, ds, r, h⟩ := h
    refine body_ok (n := q) (E := fun _ _ _ => False) (by rw [hl]; exact hq) (fun _ _ _ _ z => z.elim) r ?_
    cases e : mDef q mb ds with
    | ok d => rw [e] at h; exact h
    | exc x => exact absurd e (hx ds x)
    | bad => rw [e] at h; exact h⟩
/-- a def that may raise -/
theorem ok_defX {x qual : Str} {st : Stmt} {f : Addr} {fd : FuncData} {N ps : List Str} {k : Nat} {mb : MS} (F : Fun K x qual st f fd) (S : FnScope N ps (defScope st)) {n q : Nat} (hn : ps.length = n) (hq : N.length - n = q)
    (hb : ∀ (cdv : Value) (A : Around) (outer : List Env) (s : Shared) (H : Hp) (E : XK), Room k (A.deeper (PyProof.Rows.envOfC qual (defScope st) s.heap.objs.size f cdv)) →
      PSs (cxOf (L2.CX P w) P w K mg base N qual (defScope st) f cdv A outer s H E) (defBody st) (tM K (fun c dx _ H' => E c dx H') z0 mb)) : FnOk P w K mg base (L2.CX P w) (k + 1) f fd ps (spN K n (mDef q mb)) :=
  F.okX S (fun vs H Q E h => h.1.trans hn.symm) fun cdv A outer s H vs Q E hr h => ⟨_, hb cdv A outer s H E hr, by
    obtain ⟨hl, ds, r, h⟩ := h
    exact body_ok (n := q) (by rw [hl]; exact hq) (fun _ _ _ _ z => z) r h⟩
end
/-! ### their calls -/
def cN (m : MD) (ms : MA) : MB := fun e => (ms e).bind fun ds => if imms ds = true then m ds else .bad
def cE (m : MD) (ns : MAE) : ME := fun e => (ns e).bind fun ds e1 => if imms ds = true then (m ds).at e1 else .bad
section
variable {K : PySem.W.Frag} {W : WX} {σ : L2.St} {H : Hp} {Q : VK} {n : Nat} {m : MD} {ms : MA} {ns : MAE} {E : St → XK}
theorem def_b (hl : ∀ e ds, ms e = .ok ds → ds.length = n) (hE : ∀ c dx H', W c dx σ H' → E σ c dx H') (h : tN K W (cN m ms) σ H Q) : tAB K W ms σ H fun vs H1 => spN K n m vs H1 Q (E σ) := by
  obtain ⟨e, F, r, h⟩ := h
  refine ⟨e, F, r, ?_⟩
  unfold cN at h
  cases q : ms e with
  | bad => rw [q] at h; exact h
  | exc y => rw [q] at h; exact h
  | ok ds =>
    simp only [q, Rs.bind] at h
    intro vs H1 G k p
    by_cases hi : imms ds = true
    · rw [if_pos hi] at h
      have e0 := p.fpImm hi
      subst e0
      refine ⟨p.length.trans (hl e ds q), ds, p, ?_⟩
      cases qm : m ds with
      | ok d => rw [qm] at h; exact fun v H' G k' p' n1 n2 => h v H' G (k.trans k' fun _ m => by cases m) p' n1 fun z m => k.none (n2 z m) fun m => by cases m
      | exc y => rw [qm] at h; exact fun c dx H' k' p' => hE _ _ _ (h c dx H' (k.trans k' fun _ m => by cases m) p')
      | bad => rw [qm] at h; exact h
    · rw [if_neg hi] at h; exact h.elim
theorem def_e (hl : ∀ e ds e1, ns e = .ok ds e1 → ds.length = n) (hE : ∀ c dx H', W c dx σ H' → E σ c dx H') (h : tE K W (cE m ns) σ H Q) : tAE K W ns σ H fun vs H1 => spN K n m vs H1 Q (E σ) := by
  obtain ⟨e, F, r, nd, h⟩ := h
  refine ⟨e, F, r, nd, ?_⟩
  unfold cE at h
  cases q : ns e with
  | bad => rw [q] at h; exact h
  | exc y e1 => rw [q] at h; exact h
  | ok ds e1 =>
    simp only [q, Re.bind] at h
    intro vs H1 G F1 x
    by_cases hi : imms ds = true
    · rw [if_pos hi] at h
      have e0 := x.ps.fpImm hi
      subst e0
      refine ⟨x.ps.length.trans (hl e ds e1 q), ds, x.ps, ?_⟩
      cases qm : m ds with
      | ok d => rw [qm] at h; exact fun v H' G k' p' n1 n2 => h v H' _ (x.ev.consNew k' p' n1 n2)
      | exc y => rw [qm] at h; exact fun c dx H' k' p' => hE _ _ _ (h c dx H' F1 (x.ev.grow k') p')
      | bad => rw [qm] at h; exact h
    · rw [if_neg hi] at h; exact h.elim
variable {X : Cx} {k : Nat} {f : Addr} {fd : FuncData} {ps : List Str} {x : Str} {p pos : Pos} {e : Expr} {es : List Expr}
/-- a call of a def that lets nothing out -/
theorem x_def (F : FnOk X.prog X.w X.K X.mg X.base CX0 k f fd ps (spN X.K n m)) (hr : Room k X.A) (hm : X.mg x = some (.ref f)) (hk : PySem.W.keepIn X.K (.ref f) = true) (hb : Binds X.K fd ps []) (hg : Gl X x) (hl : ∀ e ds, ms e = .ok ds → ds.length = n) (hx : ∀ ds y, m ds ≠ .exc y)
    (ha : PA X (e :: es) (tAB X.K W ms)) (q : PE X (.Call (.Name x p) (e :: es) [] pos) (tCall (spN X.K n m) [] E0 (tAB X.K W ms))) : PE X (.Call (.Name x p) (e :: es) [] pos) (tN X.K W (cN m ms)) := PE.mono q fun σ H Q ⟨e, F, r, h⟩ => by
  refine ⟨e, F, r, ?_⟩
  unfold cN at h
  cases q : ms e with
  | bad => rw [q] at h; exact h
  | exc y => rw [q] at h; exact h
  | ok ds =>
    simp only [q, Rs.bind] at h
    intro vs H1 G k p
    by_cases hi : imms ds = true
    · rw [if_pos hi] at h
      have e0 := p.fpImm hi
      subst e0
      rw [List.append_nil]
      refine ⟨p.length.trans (hl e ds q), ds, p, ?_⟩
      cases qm : m ds with
      | ok d => rw [qm] at h; exact fun v H' G k' p' n1 n2 => h v H' G (k.trans k' fun _ m => by cases m) p' n1 fun z m => k.none (n2 z m) fun m => by cases m
      | exc y => exact absurd qm (hx ds y)
      | bad => rw [qm] at h; exact h
    · rw [if_neg hi] at h; exact h.elim
theorem e_def (hl : ∀ e ds e1, ns e = .ok ds e1 → ds.length = n) (hx : ∀ ds y, m ds ≠ .exc y)
    (q : PE X (.Call (.Name x p) (e :: es) [] pos) (tCall (spN X.K n m) [] E0 (tAE X.K W ns))) : PE X (.Call (.Name x p) (e :: es) [] pos) (tE X.K W (cE m ns)) := PE.mono q fun σ H Q ⟨e, F, r, nd, h⟩ => by
  refine ⟨e, F, r, nd, ?_⟩
  unfold cE at h
  cases q : ns e with
  | bad => rw [q] at h; exact h
  | exc y e1 => rw [q] at h; exact h
  | ok ds e1 =>
    simp only [q, Re.bind] at h
    intro vs H1 G F1 x
    by_cases hi : imms ds = true
    · rw [if_pos hi] at h
      have e0 := x.ps.fpImm hi
      subst e0
      rw [List.append_nil]
      refine ⟨x.ps.length.trans (hl e ds e1 q), ds, x.ps, ?_⟩
      cases qm : m ds with
      | ok d => rw [qm] at h; exact fun v H' G k' p' n1 n2 => h v H' _ (x.ev.consNew k' p' n1 n2)
      | exc y => exact absurd qm (hx ds y)
      | bad => rw [qm] at h; exact h
    · rw [if_neg hi] at h; exact h.elim
/-- a call of a def that may raise -/
theorem x_defX (hl : ∀ e ds, ms e = .ok ds → ds.length = n) (q : PE X (.Call (.Name x p) (e :: es) [] pos) (tCallS (spN X.K n m) (WE W) (tAB X.K W ms))) : PE X (.Call (.Name x p) (e :: es) [] pos) (tN X.K W (cN m ms)) :=
  PE.mono q fun σ H Q h => def_b hl (fun _ _ _ z => z) h
theorem e_defX (hl : ∀ e ds e1, ns e = .ok ds e1 → ds.length = n) (q : PE X (.Call (.Name x p) (e :: es) [] pos) (tCallS (spN X.K n m) (WE W) (tAE X.K W ns))) : PE X (.Call (.Name x p) (e :: es) [] pos) (tE X.K W (cE m ns)) :=
  PE.mono q fun σ H Q h => def_e hl (fun _ _ _ z => z) h
end

/-! ### defs that change what they are handed -/
inductive DR where | rt (d : D) (os : List D) | exc (x : Ex) (os : List D) | bad
abbrev MI := List D → DR
def spI (K : PySem.W.Frag) (n : Nat) (m : MI) : Sp := fun vs H Q E => vs.length = n ∧ ∃ ds F, Rps K H vs ds F ∧ F.Nodup ∧ match m ds with
  | .rt d os => ∀ v H' G F', Keeps F H H' → Rps K H' vs os F' → Rp K H' v d G → F'.Nodup → G.Nodup → (∀ a ∈ G, a ∉ F') → (∀ a ∈ F', a ∈ F ∨ H a = none) → (∀ a ∈ G, a ∈ F ∨ H a = none) → Q v H'
  | .exc x os => ∀ c dx H' F', Keeps F H H' → Rps K H' vs os F' → F'.Nodup → (∀ a ∈ F', a ∈ F ∨ H a = none) → RpX K H' c dx x → E c dx H'
  | .bad => False
/-- what the changed arguments are at the end -/
def outsOf (Z : Zs) : Nat → List D → E → Option (List D)
  | _, [], _ => some []
  | j, d :: ds, e => if Z j = true then (match e[j]? with
      | some (some d') => (outsOf Z (j + 1) ds (e.set j none)).map (d' :: ·)
      | _ => none) else if imm d = true then (outsOf Z (j + 1) ds e).map (d :: ·) else none
def mResI (Z : Zs) (ds : List D) : SR → DR
  | .rt d e => match outsOf Z 0 ds e with
    | some os => .rt d os
    | none => .bad
  | .nx e => match outsOf Z 0 ds e with
    | some os => .rt .non os
    | none => .bad
  | .exc x e => match outsOf Z 0 ds e with
    | some os => .exc x os
    | none => .bad
  | _ => .bad
def mDefI (k : Nat) (Z : Zs) (mb : MS) : MI := fun ds => mResI Z ds (mb (ds.map some ++ List.replicate k none))
theorem outs_ok {K : PySem.W.Frag} {H H' : Hp} {Z : Zs} {σ' : L2.St} {S : List Addr} (k : Keeps S H H') : ∀ {vs : List V} {ds os : List D} {F F' : List Addr} {e' : E} (j : Nat), Rps K H vs ds F → RelS K H' σ' e' F' → F'.Nodup →
    (∀ i v, vs[i]? = some v → Z (j + i) = true → σ'[j + i]? = some (some v)) → outsOf Z j ds e' = some os → ∃ Fo, Rps K H' vs os Fo ∧ Fo.Nodup ∧ ∀ a ∈ Fo, a ∈ F'
  | _, _, os, _, F', e', j, .nil, r, nd, hs, h => by
    cases h
    exact ⟨[], .nil, .nil, fun _ m => by cases m⟩
  | _, _, os, _, F', e', j, .cons (v := v) (d := d) (vs := vs) (ds := ds) (F := F1) (G := G1) p rs, r, nd, hs, h => by
    unfold outsOf at h
    by_cases hz : Z j = true
    · rw [if_pos hz] at h
      cases q : e'[j]? with
      | none => rw [q] at h; cases h
      | some oo =>
        rw [q] at h
        cases oo with
        | none => cases h
        | some d' =>
          obtain ⟨os', h1, h2⟩ := Option.map_eq_some_iff.mp h
          subst h2
          obtain ⟨v', G, F0, q1, q2, q3, q4⟩ := r.take q
          have e0 := hs 0 v rfl (by rw [Nat.add_zero]; exact hz)
          rw [Nat.add_zero, q1] at e0
          injection e0 with e0
          injection e0 with e0
          subst e0
          have n0 := q4.nodup_iff.mp nd
          obtain ⟨n1, n2, n3⟩ := List.nodup_append.mp n0
          obtain ⟨Fo, r1, r2, r3⟩ := outs_ok k (j + 1) rs q3 n2 (fun i w hw hz' => by
            have := hs (i + 1) w (by simpa using hw) (by rw [show j + (i + 1) = j + 1 + i by omega]; exact hz')
            rw [show j + (i + 1) = j + 1 + i by omega] at this
            exact this) h1
          refine ⟨G ++ Fo, .cons q2 r1, List.nodup_append.mpr ⟨n1, r2, fun a m b m' z => by subst z; exact n3 a m a (r3 a m') rfl⟩, fun a m => q4.mem_iff.mpr ?_⟩
          rcases List.mem_append.mp m with m | m
          · exact List.mem_append_left _ m
          · exact List.mem_append_right _ (r3 a m)
    · rw [if_neg hz] at h
      by_cases hi : imm d = true
      · rw [if_pos hi] at h
        obtain ⟨os', h1, h2⟩ := Option.map_eq_some_iff.mp h
        subst h2
        have e0 := p.fpImm hi
        subst e0
        obtain ⟨Fo, r1, r2, r3⟩ := outs_ok k (j + 1) rs r nd (fun i w hw hz' => by
          have := hs (i + 1) w (by simpa using hw) (by rw [show j + (i + 1) = j + 1 + i by omega]; exact hz')
          rw [show j + (i + 1) = j + 1 + i by omega] at this
          exact this) h1
        exact ⟨[] ++ Fo, .cons (p.keep k fun _ m => by cases m) r1, r2, r3⟩
      · rw [if_neg hi] at h; cases h
section
variable {P : Program} {w : World} {K : PySem.W.Frag} {mg : Str → Option Value} {base : Heap}
theorem start_at {N : List Str} {vs : List V} {i : Nat} {v : V} (h : vs[i]? = some v) : (L2.start N vs)[i]? = some (some v) := by
  unfold L2.start
  obtain ⟨hi, _⟩ := List.getElem?_eq_some_iff.mp h
  rw [List.getElem?_append_left (by simpa using hi), List.getElem?_map, h]
  rfl
theorem bodyI_ok {W : WX} {mb : MS} {N : List Str} {Z : Zs} {vs : List V} {ds : List D} {F : List Addr} {H : Hp} {Q : VK} {E : XK} {n : Nat} (hN : N.length - vs.length = n) (hW : ∀ c dx σ H', E c dx H' → W c dx σ H')
    (r : Rps K H vs ds F) (nd : F.Nodup) (h : match mDefI n Z mb ds with
      | .rt d os => ∀ v H' G F', Keeps F H H' → Rps K H' vs os F' → Rp K H' v d G → F'.Nodup → G.Nodup → (∀ a ∈ G, a ∉ F') → (∀ a ∈ F', a ∈ F ∨ H a = none) → (∀ a ∈ G, a ∈ F ∨ H a = none) → Q v H'
      | .exc x os => ∀ c dx H' F', Keeps F H H' → Rps K H' vs os F' → F'.Nodup → (∀ a ∈ F', a ∈ F ∨ H a = none) → RpX K H' c dx x → E c dx H'
      | .bad => False) : tM K W Z mb { nx := fun _ H' => Q .non H', rt := Q } (L2.start N vs) H := by
  unfold mDefI at h
  have r0 : RelS K H (L2.start N vs) (ds.map some ++ List.replicate n none) F := by
    unfold L2.start
    rw [hN]
    exact RelS.start r
  have at_ : ∀ {σ' : L2.St}, Fz Z (L2.start N vs) σ' → ∀ i v, vs[i]? = some v → Z (0 + i) = true → σ'[0 + i]? = some (some v) := fun fz i v hv hz => by
    rw [Nat.zero_add] at hz ⊢
    rw [fz.2 i hz]
    exact start_at hv
  refine ⟨_, F, r0, nd, ?_⟩
  cases q : mb (ds.map some ++ List.replicate n none) with
  | nx e' =>
    rw [q] at h
    intro σ' H' F' x fz
    simp only [mResI] at h
    cases qo : outsOf Z 0 ds e' with
    | none => simp only [qo] at h
    | some os =>
      simp only [qo] at h
      obtain ⟨Fo, r1, r2, r3⟩ := outs_ok x.k 0 r x.r x.nd (at_ fz) qo
      exact h .non H' [] Fo x.k r1 .non r2 .nil (fun _ m => by cases m) (fun a m => x.new a (r3 a m)) fun _ m => by cases m
  | rt d e' =>
    rw [q] at h
    intro v σ' H' F' x fz
    obtain ⟨G, F0, eF, p, x', hd, n1, nw⟩ := x.head
    simp only [mResI] at h
    cases qo : outsOf Z 0 ds e' with
    | none => simp only [qo] at h
    | some os =>
      simp only [qo] at h
      obtain ⟨Fo, r1, r2, r3⟩ := outs_ok x'.k 0 r x'.r x'.nd (at_ fz) qo
      exact h v H' G Fo x'.k r1 p r2 n1 (fun a m m' => hd a m (r3 a m')) (fun a m => x'.new a (r3 a m)) nw
  | exc y e' =>
    rw [q] at h
    intro c dx σ' H' F' x fz p
    simp only [mResI] at h
    cases qo : outsOf Z 0 ds e' with
    | none => simp only [qo] at h
    | some os =>
      simp only [qo] at h
      obtain ⟨Fo, r1, r2, r3⟩ := outs_ok x.k 0 r x.r x.nd (at_ fz) qo
      exact hW c dx σ' H' (h c dx H' Fo x.k r1 r2 (fun a m => x.new a (r3 a m)) p)
  | bk e' => rw [q] at h; exact h.elim
  | ct e' => rw [q] at h; exact h.elim
  | bad => rw [q] at h; exact h.elim
theorem ok_defI {x qual : Str} {st : Stmt} {f : Addr} {fd : FuncData} {N ps : List Str} {k : Nat} {Z : Zs} {mb : MS} (F : Fun K x qual st f fd) (S : FnScope N ps (defScope st)) {n q : Nat} (hn : ps.length = n) (hq : N.length - n = q)
    (hb : ∀ (cdv : Value) (A : Around) (outer : List Env) (s : Shared) (H : Hp) (E : XK), Room k (A.deeper (PyProof.Rows.envOfC qual (defScope st) s.heap.objs.size f cdv)) →
      PSs (cxOf CX0 P w K mg base N qual (defScope st) f cdv A outer s H E).nox (defBody st) (tM K wF Z mb))
    (hx : ∀ ds x os, mDefI q Z mb ds ≠ .exc x os) : FnOk P w K mg base CX0 (k + 1) f fd ps (spI K n (mDefI q Z mb)) :=
  F.ok S (fun vs H Q E h => h.1.trans hn.symm) fun cdv A outer s H vs Q E hr h => ⟨_, hb cdv A outer s H E hr, by
    obtain ⟨hl, ds, F, r, nd, h⟩ := h
    refine bodyI_ok (n := q) (E := fun _ _ _ => False) (by rw [hl]; exact hq) (fun _ _ _ _ z => z.elim) r nd ?_
    cases e : mDefI q Z mb ds with
    | rt d os => rw [e] at h; exact h
    | exc x os => exact absurd e (hx ds x os)
    | bad => rw [e] at h; exact h⟩
theorem ok_defIX {x qual : Str} {st : Stmt} {f : Addr} {fd : FuncData} {N ps : List Str} {k : Nat} {Z : Zs} {mb : MS} (F : Fun K x qual st f fd) (S : FnScope N ps (defScope st)) {n q : Nat} (hn : ps.length = n) (hq : N.length - n = q)
    (hb : ∀ (cdv : Value) (A : Around) (outer : List Env) (s : Shared) (H : Hp) (E : XK), Room k (A.deeper (PyProof.Rows.envOfC qual (defScope st) s.heap.objs.size f cdv)) →
      PSs (cxOf (L2.CX P w) P w K mg base N qual (defScope st) f cdv A outer s H E) (defBody st) (tM K (fun c dx _ H' => E c dx H') Z mb)) : FnOk P w K mg base (L2.CX P w) (k + 1) f fd ps (spI K n (mDefI q Z mb)) :=
  F.okX S (fun vs H Q E h => h.1.trans hn.symm) fun cdv A outer s H vs Q E hr h => ⟨_, hb cdv A outer s H E hr, by
    obtain ⟨hl, ds, F, r, nd, h⟩ := h
    exact bodyI_ok (n := q) (by rw [hl]; exact hq) (fun _ _ _ _ z => z) r nd h⟩
end
end Mir

namespace Mir
open PySem PySem.Spec L2

/-! ### names handed on, to be changed -/
def slotV (σ : L2.St) (i : Nat) : V := match σ[i]? with
  | some (some v) => v
  | _ => .non
def tVars : List Nat → TA → TA
  | [], t => t
  | k :: ks, t => tCons (tVar k) (tVars ks t)
def there : List Nat → E → Bool
  | [], _ => true
  | k :: ks, e => match e[k]? with
    | some (some _) => there ks e
    | _ => false
def takeS : List Nat → E → Option (List D × E)
  | [], e => some ([], e)
  | k :: ks, e => match e[k]? with
    | some (some d) => (takeS ks (e.set k none)).map fun p => (d :: p.1, p.2)
    | _ => none
def putS : List Nat → List D → E → Option E
  | [], _, e => some e
  | k :: ks, d :: os, e => putS ks os (e.set k (some d))
  | _ :: _, [], _ => none
section
variable {K : PySem.W.Frag} {W : WX} {σ : L2.St} {H : Hp} {e : E} {F : List Addr}
theorem there_at (r : RelS K H σ e F) : ∀ {ks : List Nat}, there ks e = true → ∀ k ∈ ks, σ[k]? = some (some (slotV σ k))
  | [], _, k, m => by cases m
  | j :: ks, h, k, m => by
    unfold there at h
    cases q : e[j]? with
    | none => rw [q] at h; cases h
    | some oo =>
      rw [q] at h
      cases oo with
      | none => cases h
      | some d =>
        rcases List.mem_cons.mp m with z | m
        · subst z
          obtain ⟨v, G, h1, _, _⟩ := r.get q
          unfold slotV
          rw [h1]
        · exact there_at r h k m
theorem tVars_of {t : TA} : ∀ {ks : List Nat} {Q : List V → Hp → Prop}, (∀ k ∈ ks, σ[k]? = some (some (slotV σ k))) → t σ H (fun vs H1 => Q (ks.map (slotV σ) ++ vs) H1) → tVars ks t σ H Q
  | [], Q, _, h => h
  | k :: ks, Q, hk, h => ⟨slotV σ k, hk k List.mem_cons_self, tVars_of (fun j m => hk j (List.mem_cons_of_mem _ m)) h⟩
theorem takeS_ok : ∀ {ks : List Nat} {e e2 : E} {dk : List D} {F : List Addr}, RelS K H σ e F → takeS ks e = some (dk, e2) →
    ∃ Gk F2, Rps K H (ks.map (slotV σ)) dk Gk ∧ RelS K H σ e2 F2 ∧ F.Perm (Gk ++ F2) ∧ ∀ k ∈ ks, e2[k]? = some none
  | [], e, e2, dk, F, r, h => by
    cases h
    exact ⟨[], F, .nil, r, .refl _, fun _ m => by cases m⟩
  | k :: ks, e, e2, dk, F, r, h => by
    unfold takeS at h
    cases q : e[k]? with
    | none => rw [q] at h; cases h
    | some oo =>
      rw [q] at h
      cases oo with
      | none => cases h
      | some d =>
        obtain ⟨p, h1, h2⟩ := Option.map_eq_some_iff.mp h
        obtain ⟨ds, e3⟩ := p
        cases h2
        obtain ⟨v, G, F0, q1, q2, q3, q4⟩ := r.take q
        obtain ⟨Gk, F2, r1, r2, r3, r4⟩ := takeS_ok q3 h1
        have ev : slotV σ k = v := by unfold slotV; rw [q1]
        refine ⟨G ++ Gk, F2, ?_, r2, ?_, fun j m => ?_⟩
        · rw [List.map_cons, ev]
          exact .cons q2 r1
        · rw [List.append_assoc]
          exact q4.trans (List.Perm.append_left G r3)
        · rcases List.mem_cons.mp m with z | m
          · subst z
            have kl : j < e.length := (List.getElem?_eq_some_iff.mp q).1
            have keepn : ∀ {ks : List Nat} {e e2 : E} {dk : List D}, takeS ks e = some (dk, e2) → e[j]? = some none → e2[j]? = some none := by
              intro ks
              induction ks with
              | nil => intro e e2 dk h hn; cases h; exact hn
              | cons k ks ih =>
                intro e e2 dk h hn
                unfold takeS at h
                cases qq : e[k]? with
                | none => rw [qq] at h; cases h
                | some oo =>
                  rw [qq] at h
                  cases oo with
                  | none => cases h
                  | some d =>
                    obtain ⟨p, h1, h2⟩ := Option.map_eq_some_iff.mp h
                    obtain ⟨ds, e3⟩ := p
                    cases h2
                    refine ih h1 ?_
                    by_cases z : k = j
                    · subst z; rw [hn] at qq; cases qq
                    · rw [List.getElem?_set_ne z]; exact hn
            exact keepn h1 (by rw [List.getElem?_set_self kl])
          · exact r4 j m
theorem putS_ok : ∀ {ks : List Nat} {e e3 : E} {vr : List V} {os : List D} {F Fo : List Addr}, ks.Nodup → RelS K H σ e F → (∀ k ∈ ks, e[k]? = some none) → (∀ k ∈ ks, σ[k]? = some (some (slotV σ k))) → Rps K H (ks.map (slotV σ) ++ vr) os Fo → putS ks os e = some e3 →
    ∃ F3 Fr, RelS K H σ e3 F3 ∧ (F3 ++ Fr).Perm (Fo ++ F)
  | [], e, e3, vr, os, F, Fo, _, r, _, _, ro, h => by
    cases h
    exact ⟨F, Fo, r, List.perm_append_comm⟩
  | k :: ks, e, e3, vr, os, F, Fo, nd, r, hn, hs, ro, h => by
    obtain ⟨nk, nd'⟩ := List.nodup_cons.mp nd
    cases ro with | cons p ro => ?_
    rename_i d ds F1 G1
    unfold putS at h
    obtain ⟨F2, r2, pm⟩ := r.put (hn k List.mem_cons_self) p
    rw [set_self (hs k List.mem_cons_self)] at r2
    obtain ⟨F3, Fr, r3, pm3⟩ := putS_ok nd' r2 (fun j m => by
      have hne : k ≠ j := fun z => nk (z ▸ m)
      rw [List.getElem?_set_ne hne]
      exact hn j (List.mem_cons_of_mem _ m)) (fun j m => hs j (List.mem_cons_of_mem _ m)) ro h
    refine ⟨F3, Fr, r3, pm3.trans ((List.Perm.append_left _ pm).trans ?_)⟩
    rw [← List.append_assoc]
    exact List.Perm.append_right _ List.perm_append_comm
end
/-- f(x, .., e, ..): the first arguments are names -/
def eIO (ks : List Nat) (m : MI) (ns : MAE) : ME := fun e => if there ks e = true then (ns e).bind fun ds e1 => match takeS ks e1 with
  | some (dk, e2) => (match m (dk ++ ds) with
    | .rt d os => (match putS ks os e2 with
      | some e3 => .ok d e3
      | none => .bad)
    | .exc x os => (match putS ks os e2 with
      | some e3 => .exc x e3
      | none => .bad)
    | .bad => .bad)
  | none => .bad else .bad
section
variable {K : PySem.W.Frag} {W : WX} {σ : L2.St} {H : Hp} {Q : VK} {n : Nat} {m : MI} {ns : MAE} {E : XK} {ks : List Nat}
theorem io_of (nk : ks.Nodup) (hl : ∀ e ds e1, ns e = .ok ds e1 → ks.length + ds.length = n) (hE : ∀ c dx H', W c dx σ H' → E c dx H') (h : tE K W (eIO ks m ns) σ H Q) : tVars ks (tAE K W ns) σ H fun vs H1 => spI K n m vs H1 Q E := by
  obtain ⟨e, F, r, nd, h⟩ := h
  unfold eIO at h
  by_cases ht : there ks e = true
  · rw [if_pos ht] at h
    have hs := there_at r ht
    refine tVars_of hs ⟨e, F, r, nd, ?_⟩
    cases q : ns e with
    | bad => rw [q] at h; exact h
    | exc y e1 => rw [q] at h; exact h
    | ok ds e1 =>
      simp only [q, Re.bind] at h
      intro vs H1 G F1 x
      cases qt : takeS ks e1 with
      | none => rw [qt] at h; exact h.elim
      | some pr =>
        obtain ⟨dk, e2⟩ := pr
        rw [qt] at h
        simp only at h
        obtain ⟨Gk, F2, t1, t2, t3, t4⟩ := takeS_ok x.ev.r qt
        obtain ⟨n1, n2, n3⟩ := List.nodup_append.mp (t3.nodup_iff.mp x.ev.nd)
        have inF1 : ∀ a ∈ Gk, a ∈ F1 := fun a m => t3.mem_iff.mpr (List.mem_append_left _ m)
        have inF2 : ∀ a ∈ F2, a ∈ F1 := fun a m => t3.mem_iff.mpr (List.mem_append_right _ m)
        refine ⟨?_, dk ++ ds, Gk ++ G, t1.append x.ps, List.nodup_append.mpr ⟨n1, x.nd, fun a m b m' z => by subst z; exact x.hd a m' (inF1 a m)⟩, ?_⟩
        · rw [List.length_append, List.length_map, x.ps.length]; exact hl e ds e1 q
        · have dj2 : ∀ a ∈ F2, a ∉ Gk ++ G := fun a m m' => by
            rcases List.mem_append.mp m' with m' | m'
            · exact n3 a m' a m rfl
            · exact x.hd a m' (inF2 a m)
          have newS : ∀ a ∈ Gk ++ G, a ∈ F ∨ H a = none := fun a m => by
            rcases List.mem_append.mp m with m | m
            · exact x.ev.new a (inF1 a m)
            · exact x.new a m
          -- the state behind the call
          have fin : ∀ {H' : Hp} {F' : List Addr} {os : List D} {e3 : List (Option D)}, Keeps (Gk ++ G) H1 H' → Rps K H' (ks.map (slotV σ) ++ vs) os F' → F'.Nodup → (∀ a ∈ F', a ∈ Gk ++ G ∨ H1 a = none) → putS ks os e2 = some e3 → ∃ F3, Ev K F H σ H' e3 F3 ∧ ∀ a ∈ F3, a ∈ F' ∨ a ∈ F2 := by
            intro H' F' os e3 k ro no new hp
            have r2 := t2.keep k dj2
            obtain ⟨F3, Fr, r3, pm⟩ := putS_ok nk r2 t4 hs ro hp
            have nF : (F' ++ F2).Nodup := List.nodup_append.mpr ⟨no, n2, fun a m b m' z => by
              subst z
              rcases new a m with z | z
              · exact dj2 a m' z
              · exact t2.there m' z⟩
            have sub : ∀ a ∈ F3, a ∈ F' ∨ a ∈ F2 := fun a m => List.mem_append.mp (pm.mem_iff.mp (List.mem_append_left _ m))
            refine ⟨F3, ⟨x.ev.k.trans k newS, r3, (List.nodup_append.mp (pm.nodup_iff.mpr nF)).1, fun a m => ?_⟩, sub⟩
            rcases sub a m with m | m
            · rcases new a m with z | z
              · exact newS a z
              · by_cases zz : a ∈ F
                · exact .inl zz
                · exact .inr (x.ev.k.none z zz)
            · exact x.ev.new a (inF2 a m)
          cases qm : m (dk ++ ds) with
          | bad => rw [qm] at h; exact h.elim
          | exc y os =>
            rw [qm] at h
            simp only at h
            intro c dx H' F' k ro no new px
            cases qp : putS ks os e2 with
            | none => rw [qp] at h; exact h.elim
            | some e3 =>
              rw [qp] at h
              obtain ⟨F3, w, _⟩ := fin k ro no new qp
              exact hE c dx H' (h c dx H' F3 w px)
          | rt d os =>
            rw [qm] at h
            simp only at h
            intro v H' Gv F' k ro p no nv hd new nw
            cases qp : putS ks os e2 with
            | none => rw [qp] at h; exact h.elim
            | some e3 =>
              rw [qp] at h
              obtain ⟨F3, w, sub⟩ := fin k ro no new qp
              refine h v H' _ (w.cons p (fun a m m' => ?_) nv fun a m => ?_)
              · rcases sub a m' with z | z
                · exact hd a m z
                · rcases nw a m with y | y
                  · exact dj2 a z y
                  · exact t2.there z y
              · rcases nw a m with z | z
                · exact newS a z
                · by_cases zz : a ∈ F
                  · exact .inl zz
                  · exact .inr (x.ev.k.none z zz)
  · rw [if_neg ht] at h; exact h.elim
variable {X : Cx} {x : Str} {p pos px : Pos} {e : Expr} {es : List Expr} {t : TA}
theorem av_cons {i : Nat} {y : Str} (q : PA X es (tVars ks t)) (hN : X.N[i]? = some y := by rfl) (hv : Vis X.env.scope y := by first | exact Or.inl rfl | exact Or.inr (Or.inl rfl) | exact Or.inr (Or.inr rfl)) (hd : (y == ("__debug__" : Str)) = false := by decide)
    (hcd : (y == ("__classdict__" : Str)) = false := by decide) (hs : starEach (.Name y px :: es) X.env = (false, eval (.Name y px) X.env) :: starEach es X.env := by rfl) : PA X (.Name y px :: es) (tVars (i :: ks) t) := pa_cons (pe_var hN hv hd hcd) q hs
theorem av_nil (q : PA X es t) : PA X es (tVars [] t) := q
theorem e_io (nk : ks.Nodup) (hl : ∀ e ds e1, ns e = .ok ds e1 → ks.length + ds.length = n) (hx : ∀ ds y os, m ds ≠ .exc y os)
    (q : PE X (.Call (.Name x p) (e :: es) [] pos) (tCall (spI X.K n m) [] E0 (tVars ks (tAE X.K W ns)))) : PE X (.Call (.Name x p) (e :: es) [] pos) (tE X.K W (eIO ks m ns)) := PE.mono q fun σ H Q h => by
  have h2 := io_of (K := X.K) (W := W) (E := fun _ _ _ => True) nk hl (fun _ _ _ _ => trivial) h
  have mono : ∀ (ks : List Nat) {Q Q' : List V → Hp → Prop} {σ H}, (∀ vs H, Q vs H → Q' vs H) → tVars ks (tAE X.K W ns) σ H Q → tVars ks (tAE X.K W ns) σ H Q' := by
    intro ks
    induction ks with
    | nil =>
      intro Q Q' σ H hq ⟨e, F, r, nd, h⟩
      refine ⟨e, F, r, nd, ?_⟩
      cases q : ns e with
      | ok ds e1 => rw [q] at h; exact fun vs H' G F' x => hq _ _ (h vs H' G F' x)
      | exc y e1 => rw [q] at h; exact h
      | bad => rw [q] at h; exact h
    | cons k ks ih =>
      intro Q Q' σ H hq ⟨v, h1, h⟩
      exact ⟨v, h1, ih (fun vs H => hq (v :: vs) H) h⟩
  refine mono ks (fun vs H1 h => ?_) h2
  rw [List.append_nil]
  obtain ⟨hv, ds, F, r, nd, h⟩ := h
  refine ⟨hv, ds, F, r, nd, ?_⟩
  cases qm : m ds with
  | rt d os => rw [qm] at h; exact h
  | exc y os => exact absurd qm (hx ds y os)
  | bad => rw [qm] at h; exact h
theorem e_ioX (nk : ks.Nodup) (hl : ∀ e ds e1, ns e = .ok ds e1 → ks.length + ds.length = n)
    (q : PE X (.Call (.Name x p) (e :: es) [] pos) (tCallS (spI X.K n m) (WE W) (tVars ks (tAE X.K W ns)))) : PE X (.Call (.Name x p) (e :: es) [] pos) (tE X.K W (eIO ks m ns)) := PE.mono q fun σ H Q h => io_of nk hl (fun _ _ _ z => z) h
end

/-! ### methods that change a name's thing -/
def MutM (K : PySem.W.Frag) (T : String) (r : V → List V → Hp → VK → Prop) (f : D → List D → Option (D × D)) : Prop := ∀ {H : Hp} {v : V} {vs : List V} {d : D} {as : List D} {G Ga : List Addr} {res d' : D} {Q : VK},
  Rp K H v d G → Rps K H vs as Ga → G.Nodup → Ga.Nodup → (∀ a ∈ Ga, a ∉ G) → f d as = some (res, d') →
  (∀ u H' G' Gr, Keeps G H H' → Rp K H' v d' G' → Rp K H' u res Gr → G'.Nodup → Gr.Nodup → (∀ a ∈ Gr, a ∉ G') → (∀ a ∈ G', a ∈ G ∨ a ∈ Ga ∨ H a = none) → (∀ a ∈ Gr, a ∈ G ∨ a ∈ Ga ∨ H a = none) → Q u H') → r v vs H Q
def isLst : D → Bool
  | .lst _ => true
  | _ => false
/-- x.m(e, ..), x the list in the slot i -/
def eMut (i : Nat) (f : D → List D → Option (D × D)) (ns : MAE) : ME := fun e => match e[i]? with
  | some (some d0) => if isLst d0 = true then (ns e).bind fun as e1 => match e1[i]? with
    | some (some d) => (match f d as with
      | some p => .ok p.1 (e1.set i (some p.2))
      | none => .bad)
    | _ => .bad else .bad
  | _ => .bad
section
variable {K : PySem.W.Frag} {W : WX} {σ : L2.St} {H : Hp} {Q : VK} {i : Nat} {f : D → List D → Option (D × D)} {ns : MAE} {r : V → List V → Hp → VK → Prop}
theorem Ev.update2 {H1 : Hp} {e1 : E} {F F1 : List Addr} {d : D} (x : Ev K F H σ H1 e1 F1) (h : e1[i]? = some (some d)) :
    ∃ v G, σ[i]? = some (some v) ∧ Rp K H1 v d G ∧ (∀ a ∈ G, a ∈ F1) ∧ G.Nodup ∧ ∀ H2 d' G' u res Gr, Keeps G H1 H2 → Rp K H2 v d' G' → Rp K H2 u res Gr → G'.Nodup → Gr.Nodup → (∀ a ∈ Gr, a ∉ G') →
      (∀ a ∈ G', a ∈ G ∨ ((a ∈ F ∨ H a = none) ∧ a ∉ F1)) → (∀ a ∈ Gr, a ∈ G ∨ ((a ∈ F ∨ H a = none) ∧ a ∉ F1)) → ∃ F', Ev K F H (some u :: σ) H2 (some res :: e1.set i (some d')) F' := by
  obtain ⟨v, G, F0, h1, h2, h3, h4⟩ := x.r.take h
  obtain ⟨n1, n2, n3⟩ := List.nodup_append.mp (h4.nodup_iff.mp x.nd)
  have sub : ∀ a ∈ G, a ∈ F1 := fun a m => h4.mem_iff.mpr (List.mem_append_left _ m)
  have sub0 : ∀ a ∈ F0, a ∈ F1 := fun a m => h4.mem_iff.mpr (List.mem_append_right _ m)
  refine ⟨v, G, h1, h2, sub, n1, fun H2 d' G' u res Gr k p pr nd nr dj hG hR => ?_⟩
  have dj0 : ∀ a ∈ F0, a ∉ G := fun a m m' => n3 a m' a m rfl
  have r0 := h3.keep k dj0
  have hi : i < e1.length := (List.getElem?_eq_some_iff.mp h).1
  obtain ⟨F', r1, pm⟩ := r0.put (i := i) (by rw [List.getElem?_set_self hi]) p
  rw [List.set_set, set_self h1] at r1
  have out : ∀ a, a ∈ G ∨ ((a ∈ F ∨ H a = none) ∧ a ∉ F1) → a ∉ F0 := fun a z m => z.elim (dj0 a m) fun z => z.2 (sub0 a m)
  have nw : ∀ a, a ∈ G ∨ ((a ∈ F ∨ H a = none) ∧ a ∉ F1) → a ∈ F ∨ H a = none := fun a z => z.elim (fun z => x.new a (sub a z)) fun z => z.1
  have w : Ev K F H σ H2 (e1.set i (some d')) F' := ⟨x.k.trans k fun a m => x.new a (sub a m), r1, pm.nodup_iff.mpr (List.nodup_append.mpr ⟨nd, n2, fun a m b m' z => by subst z; exact out a (hG a m) m'⟩), fun a m => by
    rcases List.mem_append.mp (pm.mem_iff.mp m) with m | m
    · exact nw a (hG a m)
    · exact x.new a (sub0 a m)⟩
  exact ⟨_, w.cons pr (fun a m m' => by
    rcases List.mem_append.mp (pm.mem_iff.mp m') with m' | m'
    · exact dj a m m'
    · exact out a (hR a m) m') nr fun a m => nw a (hR a m)⟩
theorem tyV_lst {v : V} {d : D} {G : List Addr} (p : Rp K H v d G) (h : isLst d = true) : tyV K "list" v H := by
  cases p with
  | lst ha ra => exact .inl ⟨rfl, _, .of ha⟩
  | _ => cases h
theorem mut_of (o : MutM K "list" r f) (h : tE K W (eMut i f ns) σ H Q) : tVar i σ H fun x H1 => tyV K "list" x H1 ∧ tAE K W ns σ H1 fun xs H2 => r x xs H2 Q := by
  obtain ⟨e, F, rl, nd, h⟩ := h
  unfold eMut at h
  cases q : e[i]? with
  | none => rw [q] at h; exact h.elim
  | some oo =>
    rw [q] at h
    cases oo with
    | none => exact h.elim
    | some d0 =>
      simp only at h
      by_cases hl : isLst d0 = true
      · rw [if_pos hl] at h
        obtain ⟨v, G0, hs, p0, _⟩ := rl.get q
        refine ⟨v, hs, tyV_lst p0 hl, e, F, rl, nd, ?_⟩
        cases qn : ns e with
        | bad => rw [qn] at h; exact h
        | exc y e1 => rw [qn] at h; exact h
        | ok as e1 =>
          simp only [qn, Re.bind] at h
          intro vs H1 Ga F1 x
          cases q1 : e1[i]? with
          | none => rw [q1] at h; exact h.elim
          | some oo =>
            rw [q1] at h
            cases oo with
            | none => exact h.elim
            | some d =>
              simp only at h
              cases qf : f d as with
              | none => rw [qf] at h; exact h.elim
              | some pr =>
                obtain ⟨res, d'⟩ := pr
                rw [qf] at h
                simp only at h
                obtain ⟨v2, G2, k1, k2, k3, k4, k5⟩ := x.ev.update2 q1
                rw [hs] at k1; cases k1
                refine o k2 x.ps k4 x.nd (fun a m m' => x.hd a m (k3 a m')) qf fun u H' G' Gr k p' pr ng ngr hdr hG hR => ?_
                have inF : ∀ a, a ∈ G2 ∨ a ∈ Ga ∨ H1 a = none → a ∈ G2 ∨ ((a ∈ F ∨ H a = none) ∧ a ∉ F1) := fun a z => by
                  rcases z with z | z | z
                  · exact .inl z
                  · exact .inr ⟨x.new a z, x.hd a z⟩
                  · refine .inr ⟨?_, fun m => x.ev.r.there m z⟩
                    by_cases zz : a ∈ F
                    · exact .inl zz
                    · exact .inr (x.ev.k.none z zz)
                obtain ⟨F', w⟩ := k5 H' d' G' u res Gr k p' pr ng ngr hdr (fun a m => inF a (hG a m)) fun a m => inF a (hR a m)
                exact h u H' F' w
      · rw [if_neg hl] at h; exact h.elim
end
end Mir

namespace Mir
open PySem PySem.Spec L2

def fAppend : D → List D → Option (D × D)
  | .lst ds, [d] => if ds.length < sizeLine then some (.non, .lst (ds ++ [d])) else none
  | _, _ => none
def fExtend : D → List D → Option (D × D)
  | .lst ds, [.lst es] => if imms es = true ∧ fits (ds.length + es.length) = true then some (.non, .lst (ds ++ es)) else none
  | _, _ => none
def fPop : D → List D → Option (D × D)
  | .lst ds, [] => if imms ds = true then (ds[ds.length - 1]?).map fun d => (d, .lst ds.dropLast) else none
  | _, _ => none
section
variable {K : PySem.W.Frag}
theorem n_append : MutM K "list" rAppend fAppend := by
  intro H v vs d as G Ga res d' Q p ps n1 n2 dj e h
  unfold fAppend at e
  split at e
  · split at e
    · rename_i ds x hlt
      cases e
      cases p with | lst ha ra => ?_
      cases ps with | cons px pn => ?_
      cases pn
      rename_i a ws F1 v0 F0
      obtain ⟨m1, m2⟩ := List.nodup_cons.mp n1
      refine ⟨a, ws, v0, rfl, rfl, ha, by rw [ra.length]; exact hlt, ?_⟩
      have k : Keeps (a :: F1) H (upd H a (.lst (ws ++ [v0]))) := .upd ha rfl List.mem_cons_self
      have k1 : Keeps [a] H (upd H a (.lst (ws ++ [v0]))) := .upd ha rfl List.mem_cons_self
      rw [List.append_nil] at dj n2
      refine h .non _ (a :: (F1 ++ (F0 ++ []))) [] k (.lst upd_same ((ra.keep k1 fun b m z => m1 (by rw [← List.mem_singleton.mp z]; exact m)).append (.cons (px.keep k1 fun b m z => dj b m (by rw [List.mem_singleton.mp z]; exact List.mem_cons_self)) .nil))) .non ?_ .nil (fun _ m => by cases m) (fun b m => ?_) fun _ m => by cases m
      · rw [List.append_nil]
        refine List.nodup_cons.mpr ⟨fun m => ?_, List.nodup_append.mpr ⟨m2, n2, fun b m c m' z => by subst z; exact dj b m' (List.mem_cons_of_mem _ m)⟩⟩
        rcases List.mem_append.mp m with m | m
        · exact m1 m
        · exact dj a m List.mem_cons_self
      · rw [List.append_nil] at m
        rcases List.mem_cons.mp m with z | m
        · exact .inl (z ▸ List.mem_cons_self)
        · rcases List.mem_append.mp m with m | m
          · exact .inl (List.mem_cons_of_mem _ m)
          · exact .inr (.inl (by rw [List.append_nil]; exact m))
    · cases e
  · cases e
theorem n_extend : MutM K "list" rExtend fExtend := by
  intro H v vs d as G Ga res d' Q p ps n1 n2 dj e h
  unfold fExtend at e
  split at e
  · split at e
    · rename_i ds es hf
      cases e
      cases p with | lst ha ra => ?_
      cases ps with | cons px pn => ?_
      cases pn
      cases px with | lst hb rb => ?_
      have e0 := rb.fpImm hf.1
      subst e0
      rename_i a ws F1 b zs
      obtain ⟨m1, m2⟩ := List.nodup_cons.mp n1
      refine ⟨a, b, ws, zs, rfl, rfl, ha, hb, by rw [ra.length, rb.length]; exact fits_le hf.2, ?_⟩
      have k : Keeps (a :: F1) H (upd H a (.lst (ws ++ zs))) := .upd ha rfl List.mem_cons_self
      have k1 : Keeps [a] H (upd H a (.lst (ws ++ zs))) := .upd ha rfl List.mem_cons_self
      refine h .non _ (a :: (F1 ++ [])) [] k (.lst upd_same ((ra.keep k1 fun b m z => m1 (by rw [← List.mem_singleton.mp z]; exact m)).append (rb.keep k1 fun _ m => by cases m))) .non (by rw [List.append_nil]; exact n1) .nil (fun _ m => by cases m) (fun c m => .inl (by rw [List.append_nil] at m; exact m)) fun _ m => by cases m
    · cases e
  · cases e
theorem Rps.dropLast {H : Hp} {vs : List V} {ds : List D} (r : Rps K H vs ds []) : Rps K H vs.dropLast ds.dropLast [] := by
  rw [List.dropLast_eq_take, List.dropLast_eq_take, r.length]
  exact (r.takeD _).1
theorem n_pop : MutM K "list" rPop fPop := by
  intro H v vs d as G Ga res d' Q p ps n1 n2 dj e h
  unfold fPop at e
  split at e
  · split at e
    · rename_i ds hi
      obtain ⟨x, e1, e2⟩ := Option.map_eq_some_iff.mp e
      cases e2
      cases p with | lst ha ra => ?_
      cases ps
      have e0 := ra.fpImm hi
      subst e0
      obtain ⟨y, Gy, h1, h2, h3⟩ := ra.get e1
      have e3 : Gy = [] := by
        cases Gy with
        | nil => rfl
        | cons b Gy => exact absurd (h3 b List.mem_cons_self) (fun m => by cases m)
      subst e3
      rename_i a ws
      rw [← ra.length] at h1
      refine ⟨a, ws, y, rfl, rfl, ha, h1, ?_⟩
      have k1 : Keeps [a] H (upd H a (.lst ws.dropLast)) := .upd ha rfl List.mem_cons_self
      exact h y _ [a] [] k1 (.lst upd_same (ra.dropLast.keep k1 fun _ m => by cases m)) (h2.keep k1 fun _ m => by cases m) (by simp) .nil (fun _ m => by cases m) (fun c m => .inl m) fun _ m => by cases m
    · cases e
  · cases e
end
section
variable {X : Cx} {W : WX} {i : Nat} {x : Str} {p apos cpos : Pos} {e : Expr} {es : List Expr} {ns : MAE}
theorem e_append (q : PE X (.Call (.Attribute (.Name x p) "append" apos) (e :: es) [] cpos) (tBM X.K "list" rAppend (tVar i) (tAE X.K W ns))) : PE X (.Call (.Attribute (.Name x p) "append" apos) (e :: es) [] cpos) (tE X.K W (eMut i fAppend ns)) := PE.mono q fun _ _ _ h => mut_of n_append h
theorem e_extend (q : PE X (.Call (.Attribute (.Name x p) "extend" apos) (e :: es) [] cpos) (tBM X.K "list" rExtend (tVar i) (tAE X.K W ns))) : PE X (.Call (.Attribute (.Name x p) "extend" apos) (e :: es) [] cpos) (tE X.K W (eMut i fExtend ns)) := PE.mono q fun _ _ _ h => mut_of n_extend h
theorem e_pop (q : PE X (.Call (.Attribute (.Name x p) "pop" apos) [] [] cpos) (tBM0 X.K "list" rPop (tVar i))) : PE X (.Call (.Attribute (.Name x p) "pop" apos) [] [] cpos) (tE X.K W (eMut i fPop anil)) := PE.mono q fun σ H Q h => by
  obtain ⟨v, h1, h2, e, F, r, nd, h⟩ := mut_of n_pop h
  exact ⟨v, h1, h2, h [] H [] F ⟨.refl r nd, .nil, (fun _ m => by cases m), .nil, fun _ m => by cases m⟩⟩
end
/-- x[k] = e, x a list of things that can't change -/
def mSetIx (i : Nat) (mk : MB) (n : ME) : MS := fun e => match n e with
  | .ok y e1 => if imm y = true then (match e1[i]? with
    | some (some (.lst ds)) => if imms ds = true then (match mk e1 with
      | .ok (.int k) => (match ixN ds.length k with
        | some j => .nx (e1.set i (some (.lst (ds.set j y))))
        | none => .bad)
      | .exc x => .exc x e1
      | _ => .bad) else .bad
    | _ => .bad) else .bad
  | .exc x e1 => .exc x e1
  | .bad => .bad
theorem Rps.setI {K : PySem.W.Frag} {H : Hp} : ∀ {vs : List V} {ds : List D} {v : V} {d : D} (j : Nat), Rps K H vs ds [] → Rp K H v d [] → Rps K H (vs.set j v) (ds.set j d) []
  | vs, ds, v, d, j, r, p => by
    generalize hF : ([] : List Addr) = F at r
    induction ds generalizing vs j F with
    | nil => cases r; exact .nil
    | cons x ds ih =>
      cases r with | cons q r => ?_
      obtain ⟨e1, e2⟩ := List.append_eq_nil_iff.mp hF.symm
      subst e1 e2
      cases j with
      | zero => exact Rps.cons p r
      | succ j => exact Rps.cons q (ih _ j _ rfl r)
theorem m_setIx {X : Cx} {W : WX} {Z : Zs} {i : Nat} {x : Str} {px pos tpos : Pos} {k e : Expr} {mk : MB} {n : ME} (he : PE X e (tE X.K W n)) (hk : PE X k (tB X.K W mk)) (hN : X.N[i]? = some x := by rfl) (hv : Vis X.env.scope x := by first | exact Or.inl rfl | exact Or.inr (Or.inl rfl) | exact Or.inr (Or.inr rfl)) (hd : (x == ("__debug__" : Str)) = false := by decide)
    (hcd : (x == ("__classdict__" : Str)) = false := by decide) (ha : ∀ v, assign (.Subscript (.Name x px) k tpos) X.env v = (do
      let ov ← holding [v] (eval (.Name x px) X.env)
      let iv ← holding [v, ov] (eval k X.env)
      standAt tpos
      holding [v, ov, iv] (setItem ov iv v)
      release [v, ov, iv] []) := by intro _; rfl) (hs : swapsWithSole [.Subscript (.Name x px) k tpos] e pos.line X.env = pure false := by rfl) (hw : swappedStores [.Subscript (.Name x px) k tpos] e X.env = pure none := by rfl)
    (h1 : (assignEach [.Subscript (.Name x px) k tpos] X.env).map (·.2) = [assign (.Subscript (.Name x px) k tpos) X.env] := by rfl) :
    PS X (.Assign [.Subscript (.Name x px) k tpos] e pos) (tM X.K W Z (mSetIx i mk n)) := PS.mono (ps_asg he (pg_sub (pe_var hN hv hd hcd) hk set_list ha) hs hw h1) fun D σ H ⟨e, F, r, nd, h⟩ => by
  refine ⟨e, F, r, nd, ?_⟩
  unfold mSetIx at h
  cases q : n e with
  | bad => rw [q] at h; exact h
  | exc y e1 => rw [q] at h; exact fun c dx H' F' x p => h c dx σ H' F' x (.refl _ _) p
  | ok y e1 =>
    rw [q] at h
    simp only at h
    by_cases hi : imm y = true
    · rw [if_pos hi] at h
      intro v H1 F1 x0
      obtain ⟨G, F0, eF, p, x', hdj, n1, nw⟩ := x0.head
      have e0 := p.fpImm hi
      subst e0
      cases q1 : e1[i]? with
      | none => rw [q1] at h; exact h.elim
      | some oo =>
        rw [q1] at h
        cases oo with
        | none => exact h.elim
        | some d =>
          cases d with
          | lst ds =>
            simp only at h
            by_cases hds : imms ds = true
            · rw [if_pos hds] at h
              obtain ⟨w, G2, k1, k2, k3, k4, k5⟩ := x'.update q1
              cases k2 with | lst ha2 ra => ?_
              have e1' := ra.fpImm hds
              subst e1'
              rename_i a ws
              refine ⟨.ref a, k1, e1, F0, x'.r, ?_⟩
              cases qk : mk e1 with
              | bad => rw [qk] at h; exact h.elim
              | exc z => rw [qk] at h; exact fun c dx H' k px => h c dx σ H' F0 (x'.grow k) (.refl _ _) px
              | ok dk =>
                rw [qk] at h
                intro vk H2 Gk kk pk
                cases dk with
                | int j =>
                  cases pk
                  simp only at h
                  cases qj : ixN ds.length j with
                  | none => rw [qj] at h; exact h.elim
                  | some j' =>
                    rw [qj] at h
                    simp only at h
                    have hb : H2 a = some (.lst ws) := kk _ _ ha2 (.inr fun m => by cases m)
                    refine ⟨a, ws, j, j', rfl, rfl, hb, by rw [ra.length]; exact qj, ?_⟩
                    have kU : Keeps [a] H2 (upd H2 a (.lst (ws.set j' v))) := .upd hb rfl List.mem_cons_self
                    have kA : Keeps [a] H1 (upd H2 a (.lst (ws.set j' v))) := (kk.mono (fun _ m => by cases m)).trans kU fun b m => .inl m
                    obtain ⟨F9, w9⟩ := k5 _ (.lst (ds.set j' y)) [a] kA (.lst upd_same ((Rps.setI j' (ra.same kk) (p.same kk)).keep kU fun _ m => by cases m)) (by simp) fun b m => .inl m
                    exact h σ _ F9 w9 (.refl _ _)
                | _ => exact h.elim
            · rw [if_neg hds] at h; exact h.elim
          | _ => exact h.elim
    · rw [if_neg hi] at h; exact h.elim
end Mir

namespace Mir
open PySem PySem.Spec L2

/-! ### a thing that is never changed again -/
def frz (n : ME) : ME := fun e => match n e with
  | .ok d e1 => (match d with
    | .lst ds => if imms ds = true then .ok (.rol ds) e1 else .bad
    | _ => .bad)
  | .exc x e1 => .exc x e1
  | .bad => .bad
theorem e_frz {X : Cx} {W : WX} {x : Expr} {n : ME} (p : PE X x (tE X.K W n)) : PE X x (tE X.K W (frz n)) := by
  refine ⟨fun pins s σ H Q I ⟨e, F, r, nd, h⟩ => ?_⟩
  unfold frz at h
  cases q : n e with
  | bad => rw [q] at h; exact h.elim
  | exc y e1 =>
    rw [q] at h
    exact p.run pins s σ H Q I ⟨e, F, r, nd, by rw [q]; exact h⟩
  | ok d e1 =>
    rw [q] at h
    cases d with
    | lst ds =>
      simp only at h
      by_cases hi : imms ds = true
      · rw [if_pos hi] at h
        refine thn (p.run pins s σ H (fun v H' => ∃ F', Ev X.K F H (some v :: σ) H' (some (.lst ds) :: e1) F') I ⟨e, F, r, nd, by rw [q]; exact fun v H' F' x => ⟨F', x⟩⟩) fun u s1 hq => ?_
        obtain ⟨v, H1, I1, rv, F', x⟩ := hq
        obtain ⟨G, F0, eF, pv, x', hd, n1, nw⟩ := x.head
        cases pv with | lst ha ra => ?_
        have e0 := ra.fpImm hi
        subst e0
        rename_i a vs
        obtain ⟨od, I2⟩ := I1.lock ha trivial
        refine ⟨.ref a, _, I2, rv, ?_⟩
        have na : a ∉ F0 := hd a List.mem_cons_self
        have k : Keeps [a] H1 (upd H1 a (.frz od (.lst vs))) := .upd ha rfl List.mem_cons_self
        have kF : Keeps F H (upd H1 a (.frz od (.lst vs))) := fun b o hb z => by
          by_cases y : b = a
          · subst y
            rcases nw b List.mem_cons_self with n | n
            · rcases z with z | z
              · have := x'.k b o hb (.inl z)
                rw [ha] at this; cases this; cases z
              · exact absurd n z
            · rw [n] at hb; cases hb
          · rw [upd_ne y]; exact x'.k b o hb z
        have w : Ev X.K F H σ (upd H1 a (.frz od (.lst vs))) e1 F0 := ⟨kF, x'.r.keep k fun b m z => na (by rw [← List.mem_singleton.mp z]; exact m), x'.nd, x'.new⟩
        exact h (.ref a) _ F0 (w.consImm (.rol (.inl ⟨_, upd_same⟩) (ra.keep k fun _ m => by cases m)) (by simpa [imm] using hi))
      · rw [if_neg hi] at h; exact h.elim
    | _ => exact h.elim

/-! ### the text's defs, as they stand -/
structure DefAt (K : PySem.W.Frag) (mg : Str → Option Value) (x qual : Str) (st : Stmt) (ps : List Str) (f : Addr) (fd : FuncData) : Prop where
  F : Fun K x qual st f fd
  b : Binds K fd ps []
  g : mg x = some (.ref f)
/-- a def keeps a promise, by at most k levels -/
def Okd (P : Program) (w : World) (K : PySem.W.Frag) (mg : Str → Option Value) (base : Heap) (CX : CXT) (k : Nat) (x : Str) (sp : Sp) : Prop :=
  ∃ (f : Addr) (fd : FuncData) (ps : List Str), FnOk P w K mg base CX k f fd ps sp ∧ PySem.W.keepIn K (.ref f) = true ∧ Binds K fd ps [] ∧ mg x = some (.ref f)
def noX {α : Type} : Rs α → Rs α
  | .exc _ => .bad
  | r => r
def noI : DR → DR
  | .exc _ _ => .bad
  | r => r
theorem noX_ne {α : Type} {r : Rs α} {y : Ex} : noX r ≠ .exc y := by cases r <;> simp [noX]
theorem noI_ne {r : DR} {y : Ex} {os : List D} : noI r ≠ .exc y os := by cases r <;> simp [noI]
def mDef0 (k : Nat) (mb : MS) : MD := fun ds => noX (mDef k mb ds)
def mDefI0 (k : Nat) (Z : Zs) (mb : MS) : MI := fun ds => noI (mDefI k Z mb ds)
section
variable {P : Program} {w : World} {K : PySem.W.Frag} {mg : Str → Option Value} {base : Heap}
theorem okd {x qual : Str} {st : Stmt} {N ps : List Str} {k : Nat} {mb : MS} {n q : Nat} (D : ∃ f fd, DefAt K mg x qual st ps f fd) (S : FnScope N ps (defScope st)) (hn : ps.length = n) (hq : N.length - n = q)
    (hb : ∀ (f : Addr) (cdv : Value) (A : Around) (outer : List Env) (s : Shared) (H : Hp) (E : XK), Room k (A.deeper (PyProof.Rows.envOfC qual (defScope st) s.heap.objs.size f cdv)) →
      PSs (cxOf CX0 P w K mg base N qual (defScope st) f cdv A outer s H E).nox (defBody st) (tM K wF z0 mb)) : Okd P w K mg base CX0 (k + 1) x (spN K n (mDef0 q mb)) := by
  obtain ⟨f, fd, D⟩ := D
  refine ⟨f, fd, ps, D.F.ok S (fun vs H Q E h => h.1.trans hn.symm) fun cdv A outer s H vs Q E hr h => ⟨_, hb f cdv A outer s H E hr, ?_⟩, D.F.kp, D.b, D.g⟩
  obtain ⟨hl, ds, r, h⟩ := h
  refine body_ok (n := q) (E := fun _ _ _ => False) (by rw [hl]; exact hq) (fun _ _ _ _ z => z.elim) r ?_
  unfold mDef0 at h
  cases e : mDef q mb ds with
  | ok d => rw [e] at h; exact h
  | exc x => rw [e] at h; exact h.elim
  | bad => rw [e] at h; exact h
theorem okdI {x qual : Str} {st : Stmt} {N ps : List Str} {k : Nat} {Z : Zs} {mb : MS} {n q : Nat} (D : ∃ f fd, DefAt K mg x qual st ps f fd) (S : FnScope N ps (defScope st)) (hn : ps.length = n) (hq : N.length - n = q)
    (hb : ∀ (f : Addr) (cdv : Value) (A : Around) (outer : List Env) (s : Shared) (H : Hp) (E : XK), Room k (A.deeper (PyProof.Rows.envOfC qual (defScope st) s.heap.objs.size f cdv)) →
      PSs (cxOf CX0 P w K mg base N qual (defScope st) f cdv A outer s H E).nox (defBody st) (tM K wF Z mb)) : Okd P w K mg base CX0 (k + 1) x (spI K n (mDefI0 q Z mb)) := by
  obtain ⟨f, fd, D⟩ := D
  refine ⟨f, fd, ps, D.F.ok S (fun vs H Q E h => h.1.trans hn.symm) fun cdv A outer s H vs Q E hr h => ⟨_, hb f cdv A outer s H E hr, ?_⟩, D.F.kp, D.b, D.g⟩
  obtain ⟨hl, ds, F, r, nd, h⟩ := h
  refine bodyI_ok (n := q) (E := fun _ _ _ => False) (by rw [hl]; exact hq) (fun _ _ _ _ z => z.elim) r nd ?_
  unfold mDefI0 at h
  cases e : mDefI q Z mb ds with
  | rt d os => rw [e] at h; exact h
  | exc x os => rw [e] at h; exact h.elim
  | bad => rw [e] at h; exact h
/-- a def may raise -/
theorem okdX {x qual : Str} {st : Stmt} {N ps : List Str} {k : Nat} {mb : MS} {n q : Nat} (D : ∃ f fd, DefAt K mg x qual st ps f fd) (S : FnScope N ps (defScope st)) (hn : ps.length = n) (hq : N.length - n = q)
    (hb : ∀ (f : Addr) (cdv : Value) (A : Around) (outer : List Env) (s : Shared) (H : Hp) (E : XK), Room k (A.deeper (PyProof.Rows.envOfC qual (defScope st) s.heap.objs.size f cdv)) →
      PSs (cxOf (L2.CX P w) P w K mg base N qual (defScope st) f cdv A outer s H E) (defBody st) (tM K (fun c dx _ H' => E c dx H') z0 mb)) : Okd P w K mg base (L2.CX P w) (k + 1) x (spN K n (mDef q mb)) := by
  obtain ⟨f, fd, D⟩ := D
  exact ⟨f, fd, ps, ok_defX D.F S hn hq fun cdv A outer s H E hr => hb f cdv A outer s H E hr, D.F.kp, D.b, D.g⟩
theorem okdIX {x qual : Str} {st : Stmt} {N ps : List Str} {k : Nat} {Z : Zs} {mb : MS} {n q : Nat} (D : ∃ f fd, DefAt K mg x qual st ps f fd) (S : FnScope N ps (defScope st)) (hn : ps.length = n) (hq : N.length - n = q)
    (hb : ∀ (f : Addr) (cdv : Value) (A : Around) (outer : List Env) (s : Shared) (H : Hp) (E : XK), Room k (A.deeper (PyProof.Rows.envOfC qual (defScope st) s.heap.objs.size f cdv)) →
      PSs (cxOf (L2.CX P w) P w K mg base N qual (defScope st) f cdv A outer s H E) (defBody st) (tM K (fun c dx _ H' => E c dx H') Z mb)) : Okd P w K mg base (L2.CX P w) (k + 1) x (spI K n (mDefI q Z mb)) := by
  obtain ⟨f, fd, D⟩ := D
  exact ⟨f, fd, ps, ok_defIX D.F S hn hq fun cdv A outer s H E hr => hb f cdv A outer s H E hr, D.F.kp, D.b, D.g⟩
/-- no turn left -/
theorem okd0 {x qual : Str} {st : Stmt} {ps : List Str} {k n : Nat} {CX : CXT} (D : ∃ f fd, DefAt K mg x qual st ps f fd) (hn : ps.length = n) : Okd P w K mg base CX k x (spN K n fun _ => .bad) := by
  obtain ⟨f, fd, D⟩ := D
  refine ⟨f, fd, ps, ⟨fun vs H Q E h => h.1.trans hn.symm, fun A outer s H args us vs Q E _ _ _ _ h => ?_⟩, D.F.kp, D.b, D.g⟩
  obtain ⟨_, ds, _, h⟩ := h
  exact h.elim
theorem okdI0 {x qual : Str} {st : Stmt} {ps : List Str} {k n : Nat} {CX : CXT} (D : ∃ f fd, DefAt K mg x qual st ps f fd) (hn : ps.length = n) : Okd P w K mg base CX k x (spI K n fun _ => .bad) := by
  obtain ⟨f, fd, D⟩ := D
  refine ⟨f, fd, ps, ⟨fun vs H Q E h => h.1.trans hn.symm, fun A outer s H args us vs Q E _ _ _ _ h => ?_⟩, D.F.kp, D.b, D.g⟩
  obtain ⟨_, ds, F, _, _, h⟩ := h
  exact h.elim
theorem Okd.mono {CX : CXT} {j k : Nat} {x : Str} {sp : Sp} (o : Okd P w K mg base CX j x sp) (h : j ≤ k) : Okd P w K mg base CX k x sp := by
  obtain ⟨f, fd, ps, F, r⟩ := o
  exact ⟨f, fd, ps, F.mono h, r⟩
end
/-! ### calls by name -/
theorem ln {e : E} {ds : List D} (h : aNil e = .ok ds) : ds.length = 0 := by cases h; rfl
theorem lc {m : MB} {ms : MA} {n : Nat} (h : ∀ e ds, ms e = .ok ds → ds.length = n) : ∀ e ds, aCons m ms e = .ok ds → ds.length = n + 1 := fun e ds q => by
  unfold aCons at q
  cases q1 : m e with
  | ok d =>
    simp only [q1, Rs.bind] at q
    cases q2 : ms e with
    | ok ds2 => simp only [q2] at q; cases q; rw [List.length_cons, h e ds2 q2]
    | exc y => simp only [q2] at q; cases q
    | bad => simp only [q2] at q; cases q
  | exc y => simp only [q1, Rs.bind] at q; cases q
  | bad => simp only [q1, Rs.bind] at q; cases q
theorem len0 : ∀ e ds e1, anil e = .ok ds e1 → ds.length = 0 := fun e ds e1 h => by cases h; rfl
theorem lec {m : ME} {ms : MAE} {n : Nat} (h : ∀ e ds e1, ms e = .ok ds e1 → ds.length = n) : ∀ e ds e1, acons m ms e = .ok ds e1 → ds.length = n + 1 := fun e ds e1 q => by
  unfold acons at q
  cases q1 : m e with
  | ok d e2 =>
    simp only [q1, Re.bind] at q
    cases q2 : ms e2 with
    | ok ds2 e3 => simp only [q2] at q; cases q; rw [List.length_cons, h e2 ds2 _ q2]
    | exc y e3 => simp only [q2] at q; cases q
    | bad => simp only [q2] at q; cases q
  | exc y e2 => simp only [q1, Re.bind] at q; cases q
  | bad => simp only [q1, Re.bind] at q; cases q
section
variable {X : Cx} {W : WX} {k j n : Nat} {x : Str} {p pos : Pos} {e : Expr} {es : List Expr} {m : MD} {mi : MI} {ms : MA} {ns : MAE} {ks : List Nat}
theorem xd (o : Okd X.prog X.w X.K X.mg X.base CX0 k x (spN X.K n m)) (hr : Room j X.A) (hl : ∀ e ds, ms e = .ok ds → ds.length = n) (hx : ∀ ds y, m ds ≠ .exc y) (ha : PA X (e :: es) (tAB X.K W ms)) (hk : k ≤ j := by first | decide | omega | (simp only [Nat.add_eq]; omega)) (hg : Gl X x := by rfl) (hdb : (x == ("__debug__" : Str)) = false := by decide)
    (he : starEach (e :: es) X.env = (false, eval e X.env) :: starEach es X.env := by rfl) (hpl : (backTo pos (starEach es X.env)).any (·.1) = false := by rfl) : PE X (.Call (.Name x p) (e :: es) [] pos) (tN X.K W (cN m ms)) := by
  obtain ⟨f, fd, ps, F, hkp, b, g⟩ := o
  exact x_def F (hr.mono hk) g hkp b hg hl hx ha (pe_call F (hr.mono hk) hg g hkp b .nil pass0 ha hdb he hpl)
theorem ed (o : Okd X.prog X.w X.K X.mg X.base CX0 k x (spN X.K n m)) (hr : Room j X.A) (hl : ∀ e ds e1, ns e = .ok ds e1 → ds.length = n) (hx : ∀ ds y, m ds ≠ .exc y) (ha : PA X (e :: es) (tAE X.K W ns)) (hk : k ≤ j := by first | decide | omega | (simp only [Nat.add_eq]; omega)) (hg : Gl X x := by rfl) (hdb : (x == ("__debug__" : Str)) = false := by decide)
    (he : starEach (e :: es) X.env = (false, eval e X.env) :: starEach es X.env := by rfl) (hpl : (backTo pos (starEach es X.env)).any (·.1) = false := by rfl) : PE X (.Call (.Name x p) (e :: es) [] pos) (tE X.K W (cE m ns)) := by
  obtain ⟨f, fd, ps, F, hkp, b, g⟩ := o
  exact e_def hl hx (pe_call F (hr.mono hk) hg g hkp b .nil pass0 ha hdb he hpl)
theorem ei (o : Okd X.prog X.w X.K X.mg X.base CX0 k x (spI X.K n mi)) (hr : Room j X.A) (nk : ks.Nodup) (hl : ∀ e ds e1, ns e = .ok ds e1 → ks.length + ds.length = n) (hx : ∀ ds y os, mi ds ≠ .exc y os) (ha : PA X (e :: es) (tVars ks (tAE X.K W ns))) (hk : k ≤ j := by first | decide | omega | (simp only [Nat.add_eq]; omega)) (hg : Gl X x := by rfl) (hdb : (x == ("__debug__" : Str)) = false := by decide)
    (he : starEach (e :: es) X.env = (false, eval e X.env) :: starEach es X.env := by rfl) (hpl : (backTo pos (starEach es X.env)).any (·.1) = false := by rfl) : PE X (.Call (.Name x p) (e :: es) [] pos) (tE X.K W (eIO ks mi ns)) := by
  obtain ⟨f, fd, ps, F, hkp, b, g⟩ := o
  exact e_io nk hl hx (pe_call F (hr.mono hk) hg g hkp b .nil pass0 ha hdb he hpl)
theorem xdX (o : Okd X.prog X.w X.K X.mg X.base (L2.CX X.prog X.w) k x (spN X.K n m)) (hr : Room j X.A) (tk : Takes X W) (hl : ∀ e ds, ms e = .ok ds → ds.length = n) (ha : PA X (e :: es) (tAB X.K W ms)) (hk : k ≤ j := by first | decide | omega | (simp only [Nat.add_eq]; omega)) (hg : Gl X x := by rfl) (hdb : (x == ("__debug__" : Str)) = false := by decide)
    (he : starEach (e :: es) X.env = (false, eval e X.env) :: starEach es X.env := by rfl) (hpl : (backTo pos (starEach es X.env)).any (·.1) = false := by rfl) : PE X (.Call (.Name x p) (e :: es) [] pos) (tN X.K W (cN m ms)) := by
  obtain ⟨f, fd, ps, F, hkp, b, g⟩ := o
  exact x_defX hl (pe_callS F (hr.mono hk) hg g hkp b (fun σ => passAt tk σ) ha hdb he hpl)
theorem edX (o : Okd X.prog X.w X.K X.mg X.base (L2.CX X.prog X.w) k x (spN X.K n m)) (hr : Room j X.A) (tk : Takes X W) (hl : ∀ e ds e1, ns e = .ok ds e1 → ds.length = n) (ha : PA X (e :: es) (tAE X.K W ns)) (hk : k ≤ j := by first | decide | omega | (simp only [Nat.add_eq]; omega)) (hg : Gl X x := by rfl) (hdb : (x == ("__debug__" : Str)) = false := by decide)
    (he : starEach (e :: es) X.env = (false, eval e X.env) :: starEach es X.env := by rfl) (hpl : (backTo pos (starEach es X.env)).any (·.1) = false := by rfl) : PE X (.Call (.Name x p) (e :: es) [] pos) (tE X.K W (cE m ns)) := by
  obtain ⟨f, fd, ps, F, hkp, b, g⟩ := o
  exact e_defX hl (pe_callS F (hr.mono hk) hg g hkp b (fun σ => passAt tk σ) ha hdb he hpl)
theorem eiX (o : Okd X.prog X.w X.K X.mg X.base (L2.CX X.prog X.w) k x (spI X.K n mi)) (hr : Room j X.A) (tk : Takes X W) (nk : ks.Nodup) (hl : ∀ e ds e1, ns e = .ok ds e1 → ks.length + ds.length = n) (ha : PA X (e :: es) (tVars ks (tAE X.K W ns))) (hk : k ≤ j := by first | decide | omega | (simp only [Nat.add_eq]; omega)) (hg : Gl X x := by rfl) (hdb : (x == ("__debug__" : Str)) = false := by decide)
    (he : starEach (e :: es) X.env = (false, eval e X.env) :: starEach es X.env := by rfl) (hpl : (backTo pos (starEach es X.env)).any (·.1) = false := by rfl) : PE X (.Call (.Name x p) (e :: es) [] pos) (tE X.K W (eIO ks mi ns)) := by
  obtain ⟨f, fd, ps, F, hkp, b, g⟩ := o
  exact e_ioX nk hl (pe_callS F (hr.mono hk) hg g hkp b (fun σ => passAt tk σ) ha hdb he hpl)
/-- a module's constant -/
def ConAt (K : PySem.W.Frag) (mg : Str → Option Value) (x : Str) (d : D) : Prop := ∃ v u, mg x = some u ∧ RelV v u ∧ ∀ H, Rp K H v d []
theorem xc {d : D} (c : ConAt X.K X.mg x d) (hg : Gl X x := by rfl) (hd : (x == ("__debug__" : Str)) = false := by decide) : PE X (.Name x pos) (tN X.K W (bC d)) := by
  obtain ⟨v, u, h1, h2, h3⟩ := c
  exact x_glob hg h1 h2 h3 hd
end
theorem bb_len : bootBuiltins "len" = some (.builtin "len") := by decide +kernel
theorem bb_isinstance : bootBuiltins "isinstance" = some (.builtin "isinstance") := by decide +kernel
theorem bb_min : bootBuiltins "min" = some (.builtin "min") := by decide +kernel
theorem bb_max : bootBuiltins "max" = some (.builtin "max") := by decide +kernel
theorem bb_abs : bootBuiltins "abs" = some (.builtin "abs") := by decide +kernel
theorem bb_ord : bootBuiltins "ord" = some (.builtin "ord") := by decide +kernel
theorem bb_divmod : bootBuiltins "divmod" = some (.builtin "divmod") := by decide +kernel
theorem bb_int : bootBuiltins "int" = some (.type "int") := by decide +kernel
theorem bb_str : bootBuiltins "str" = some (.type "str") := by decide +kernel
theorem bb_bool : bootBuiltins "bool" = some (.type "bool") := by decide +kernel
theorem bb_tuple : bootBuiltins "tuple" = some (.type "tuple") := by decide +kernel
theorem bb_list : bootBuiltins "list" = some (.type "list") := by decide +kernel
theorem bb_dict : bootBuiltins "dict" = some (.type "dict") := by decide +kernel
end Mir

namespace Mir
open PySem PySem.Spec L2

/-! ### calls of no arguments -/
section
variable {X : Cx} {W : WX} {k j : Nat} {x : Str} {p pos : Pos} {m : MD}
theorem xd0 (o : Okd X.prog X.w X.K X.mg X.base CX0 k x (spN X.K 0 m)) (hr : Room j X.A) (hx : ∀ ds y, m ds ≠ .exc y) (hk : k ≤ j := by first | decide | omega | (simp only [Nat.add_eq]; omega)) (hg : Gl X x := by rfl) (hdb : (x == ("__debug__" : Str)) = false := by decide) : PE X (.Call (.Name x p) [] [] pos) (tN X.K W (cN m aNil)) := by
  obtain ⟨f, fd, ps, F, hkp, b, g⟩ := o
  refine PE.mono (pe_call0 F (hr.mono hk) hg g hkp b .nil (pass0 (X := X)) hdb) fun σ H Q ⟨e, F, r, h⟩ => ?_
  unfold cN at h
  have e1 : aNil e = .ok [] := rfl
  rw [e1] at h
  simp only [Rs.bind, imms, if_true] at h
  refine ⟨rfl, [], .nil, ?_⟩
  cases qm : m [] with
  | ok d => rw [qm] at h; exact h
  | exc y => exact absurd qm (hx [] y)
  | bad => rw [qm] at h; exact h
end

/-! ### a slice of a step's value -/
def cutE (n : ME) (lo hi : Option MB) : ME := fun e => (n e).bind fun d e1 => ((cutP lo e1).bind fun l => (cutP hi e1).bind fun u => .of (fCut d l u)).at e1
section
variable {X : Cx} {W : WX} {e a : Expr} {lo hi : Option Expr} {pos p2 : Pos} {n : ME} {ml mh : Option MB}
theorem e_cut (pa : PE X a (tE X.K W n)) (pl : PO X lo (tPo X.K W ml)) (ph : PO X hi (tPo X.K W mh)) : PE X (.Subscript a (.Slice lo hi none p2) pos) (tE X.K W (cutE n ml mh)) :=
  PE.mono (pe_slice sl_all pa pl ph) fun σ H Q ⟨e, F, r, nd, h⟩ => by
    unfold cutE at h
    refine ⟨e, F, r, nd, ?_⟩
    cases qa : n e with
    | bad => simp only [qa, Re.bind] at h
    | exc y e1 => simp only [qa, Re.bind] at h; exact h
    | ok d e1 =>
      simp only [qa, Re.bind] at h
      intro v H1 F1 x
      obtain ⟨G, F0, eF, p, x', hd, n1, nw⟩ := x.head
      refine ⟨e1, F0, x'.r, ?_⟩
      cases ql : cutP ml e1 with
      | bad => simp only [ql, Rs.bind, Rs.at] at h
      | exc y => simp only [ql, Rs.bind, Rs.at] at h; exact fun c dx H' k p => h c dx H' F0 (x'.grow k) p
      | ok l =>
        simp only [ql, Rs.bind] at h
        intro H2 k2
        refine ⟨e1, F0, x'.r.same k2, ?_⟩
        cases qh : cutP mh e1 with
        | bad => simp only [qh, Rs.at] at h
        | exc y => simp only [qh, Rs.at] at h; exact fun c dx H' k p => h c dx H' F0 ((x'.grow k2).grow k) p
        | ok u =>
          simp only [qh] at h
          intro H3 k3
          cases qf : fCut d l u with
          | none => simp only [qf, Rs.of, Rs.at] at h
          | some d' =>
            simp only [qf, Rs.of, Rs.at] at h
            exact fCut_ok ((p.same k2).same k3) qf fun v H' G' k p' n1' n2' => h v H' _ (((x'.grow k2).grow k3).consNew k p' n1' n2')
end
end Mir

namespace Mir
open PySem PySem.Spec L2

/-! ### the law's own end -/
section
variable {P : Program} {w : World} {K : PySem.W.Frag} {mg : Str → Option Value} {base : Heap}
/-- the law's def, by its own function object -/
theorem okdF {x qual : Str} {st : Stmt} {N ps : List Str} {k : Nat} {mb : MS} {n q : Nat} {f : Addr} {fd : FuncData} (D : DefAt K mg x qual st ps f fd) (S : FnScope N ps (defScope st)) (hn : ps.length = n) (hq : N.length - n = q)
    (hb : ∀ (f : Addr) (cdv : Value) (A : Around) (outer : List Env) (s : Shared) (H : Hp) (E : XK), Room k (A.deeper (PyProof.Rows.envOfC qual (defScope st) s.heap.objs.size f cdv)) →
      PSs (cxOf CX0 P w K mg base N qual (defScope st) f cdv A outer s H E).nox (defBody st) (tM K wF z0 mb)) : FnOk P w K mg base CX0 (k + 1) f fd ps (spN K n (mDef0 q mb)) :=
  D.F.ok S (fun vs H Q E h => h.1.trans hn.symm) fun cdv A outer s H vs Q E hr h => ⟨_, hb f cdv A outer s H E hr, by
    obtain ⟨hl, ds, r, h⟩ := h
    refine body_ok (n := q) (E := fun _ _ _ => False) (by rw [hl]; exact hq) (fun _ _ _ _ z => z.elim) r ?_
    unfold mDef0 at h
    cases e : mDef q mb ds with
    | ok d => rw [e] at h; exact h
    | exc x => rw [e] at h; exact h.elim
    | bad => rw [e] at h; exact h⟩
theorem rps_ints {K : PySem.W.Frag} {H : Hp} : ∀ {ns : List Int}, Rps K H (ns.map V.int) (ns.map D.int) []
  | [] => .nil
  | n :: ns => .cons .int rps_ints
theorem rol_start {K : PySem.W.Frag} {H : Hp} {a : Addr} {ns : List Int} (ho : Only H) (hS : SqL K H a (ns.map V.int)) : Rp K H (.ref a) (.rol (ns.map D.int)) [] := by
  refine .rol ?_ rps_ints
  rcases hS with (h | ⟨o, h⟩) | h
  · rcases ho a with z | ⟨o, xs, z⟩ <;> (rw [h] at z; cases z)
  · exact .inl ⟨o, h⟩
  · exact .inr h
theorem law_start {K : PySem.W.Frag} {H : Hp} {a : Addr} {ns : List Int} {m : MD} {E : XK} (ho : Only H) (hS : SqL K H a (ns.map V.int)) (hm : m [.rol (ns.map D.int)] = .ok (.bl true)) :
    spN K 1 m [.ref a] H (fun v _ => v = .bl true) E := by
  refine ⟨rfl, [.rol (ns.map D.int)], .cons (rol_start ho hS) .nil, ?_⟩
  rw [hm]
  intro v H' G _ p _ _
  cases p
  rfl
end
/-! ### facts of the top -/
theorem defAt {K : PySem.W.Frag} {mg : Str → Option Value} {h : Heap} {x : Str} {st : Stmt} {ps : List Str} {f : Addr} {fd : FuncData} (X : K.In h) (G : h.Ns mainGlobals mg) (F : Fun K x x st f fd) (b : Binds K fd ps []) (a : PySem.W.nsIn K mainGlobals x = some (some (.ref f))) : DefAt K mg x x st ps f fd := ⟨F, b, PySem.W.mg_of X G a⟩
theorem conInt {K : PySem.W.Frag} {mg : Str → Option Value} {h : Heap} {x : Str} {i : Int} {t : Tok} (X : K.In h) (G : h.Ns mainGlobals mg) (a : PySem.W.nsIn K mainGlobals x = some (some (.int i t))) : ConAt K mg x (.int i) := ⟨.int i, .int i t, PySem.W.mg_of X G a, ⟨t, rfl⟩, fun _ => .int⟩
theorem conStr {K : PySem.W.Frag} {mg : Str → Option Value} {h : Heap} {x : Str} {s : String} {t : Tok} (X : K.In h) (G : h.Ns mainGlobals mg) (a : PySem.W.nsIn K mainGlobals x = some (some (.str (Str.ofString s) t))) : ConAt K mg x (.str (lit s)) := ⟨.str (Str.ofString s), .str (Str.ofString s) t, PySem.W.mg_of X G a, ⟨t, rfl⟩, fun _ => .str (lit_ok s)⟩
/-- a value of the written part shows a datum -/
def RpK (K : PySem.W.Frag) (u : Value) (d : D) : Prop := ∃ v, RelV v u ∧ ∀ H, Rp K H v d []
theorem kInt {K : PySem.W.Frag} {i : Int} {t : Tok} : RpK K (.int i t) (.int i) := ⟨.int i, ⟨t, rfl⟩, fun _ => .int⟩
theorem kStr {K : PySem.W.Frag} {s : String} {t : Tok} : RpK K (.str (Str.ofString s) t) (.str (lit s)) := ⟨.str (Str.ofString s), ⟨t, rfl⟩, fun _ => .str (lit_ok s)⟩
theorem kNon {K : PySem.W.Frag} : RpK K .none .non := ⟨.non, rfl, fun _ => .non⟩
theorem kBl {K : PySem.W.Frag} {b : Bool} : RpK K (.bool b) (.bl b) := ⟨.bl b, rfl, fun _ => .bl⟩
def RpKs (K : PySem.W.Frag) (us : List Value) (ds : List D) : Prop := ∃ vs, Vals vs us ∧ ∀ H, Rps K H vs ds []
theorem kNil {K : PySem.W.Frag} : RpKs K [] [] := ⟨[], .nil, fun _ => .nil⟩
theorem kCons {K : PySem.W.Frag} {u : Value} {d : D} {us : List Value} {ds : List D} (p : RpK K u d) (q : RpKs K us ds) : RpKs K (u :: us) (d :: ds) := by
  obtain ⟨v, h1, h2⟩ := p
  obtain ⟨vs, h3, h4⟩ := q
  exact ⟨v :: vs, .cons h1 h3, fun H => .cons (h2 H) (h4 H)⟩
theorem kTup {K : PySem.W.Frag} {a : Addr} {us : List Value} {ds : List D} {od : Option Addr} {n : Nat} {sl : Array (Option Value)} (l : K.lookup a = some ⟨.type "tuple", od, .seq us.toArray n, sl⟩) (p : RpKs K us ds) (hl : us.length ≤ 1000 := by exact Nat.le_of_ble_eq_true rfl) : RpK K (.ref a) (.tup ds) := by
  obtain ⟨vs, h3, h4⟩ := p
  exact ⟨.ref a, rfl, fun H => .tup (.inr ⟨_, us.toArray, n, l, rfl, rfl, Nat.le_trans (by simpa using hl) (by decide), by simpa using h3⟩) (h4 H)⟩
theorem kLst {K : PySem.W.Frag} {a : Addr} {us : List Value} {ds : List D} {n : Nat} {sl : Array (Option Value)} (l : K.lookup a = some ⟨.type "list", none, .seq us.toArray n, sl⟩) (p : RpKs K us ds) (hl : us.length ≤ 1000 := by exact Nat.le_of_ble_eq_true rfl) : RpK K (.ref a) (.rol ds) := by
  obtain ⟨vs, h3, h4⟩ := p
  exact ⟨.ref a, rfl, fun H => .rol (.inr ⟨_, us.toArray, n, l, rfl, rfl, rfl, Nat.le_trans (by simpa using hl) (by decide), by simpa using h3⟩) (h4 H)⟩
theorem conOf {K : PySem.W.Frag} {mg : Str → Option Value} {h : Heap} {x : Str} {u : Value} {d : D} (X : K.In h) (G : h.Ns mainGlobals mg) (a : PySem.W.nsIn K mainGlobals x = some (some u)) (p : RpK K u d) : ConAt K mg x d := by
  obtain ⟨v, h1, h2⟩ := p
  exact ⟨v, u, PySem.W.mg_of X G a, h1, h2⟩
end Mir

namespace Mir
open PySem PySem.Spec L2

/-! ### what comes out of a mirror -/
inductive w0 {α : Type} : Option α → (α → Prop) → Prop
  | mk {a : α} {Q : α → Prop} : Q a → w0 (some a) Q
inductive w1 {α : Type} : Rs α → (α → Prop) → Prop
  | mk {a : α} {Q : α → Prop} : Q a → w1 (.ok a) Q
inductive w2 {α : Type} : Re α → (α → E → Prop) → Prop
  | mk {a : α} {e : E} {Q : α → E → Prop} : Q a e → w2 (.ok a e) Q
inductive wD : DR → (D → List D → Prop) → Prop
  | mk {d : D} {os : List D} {Q : D → List D → Prop} : Q d os → wD (.rt d os) Q
/-- N the rest, R return, B break, C continue -/
inductive wS : SR → (E → Prop) → (D → E → Prop) → (E → Prop) → (E → Prop) → Prop
  | nx {e : E} {N B C : E → Prop} {R : D → E → Prop} : N e → wS (.nx e) N R B C
  | rt {d : D} {e : E} {N B C : E → Prop} {R : D → E → Prop} : R d e → wS (.rt d e) N R B C
  | bk {e : E} {N B C : E → Prop} {R : D → E → Prop} : B e → wS (.bk e) N R B C
  | ct {e : E} {N B C : E → Prop} {R : D → E → Prop} : C e → wS (.ct e) N R B C
/-- a word that the steps leave alone -/
def Hold (p : Prop) : Prop := p
section
variable {α β : Type} {e e1 : E} {d : D}
theorem w0_of {o : Option α} {a : α} {Q : α → Prop} (h : o = some a) (q : Q a) : w0 o Q := by rw [h]; exact .mk q
theorem w0_mono {o : Option α} {P Q : α → Prop} (h : w0 o P) (q : ∀ a, P a → Q a) : w0 o Q := by cases h with | mk h => exact .mk (q _ h)
theorem w1_mono {r : Rs α} {P Q : α → Prop} (h : w1 r P) (q : ∀ a, P a → Q a) : w1 r Q := by cases h with | mk h => exact .mk (q _ h)
theorem w2_mono {r : Re α} {P Q : α → E → Prop} (h : w2 r P) (q : ∀ a e, P a e → Q a e) : w2 r Q := by cases h with | mk h => exact .mk (q _ _ h)
theorem wD_mono {r : DR} {P Q : D → List D → Prop} (h : wD r P) (q : ∀ a e, P a e → Q a e) : wD r Q := by cases h with | mk h => exact .mk (q _ _ h)
theorem wS_mono {s : SR} {N N' B B' C C' : E → Prop} {R R' : D → E → Prop} (h : wS s N R B C) (n : ∀ e, N e → N' e) (r : ∀ d e, R d e → R' d e) (b : ∀ e, B e → B' e) (c : ∀ e, C e → C' e) : wS s N' R' B' C' := by
  cases h with
  | nx h => exact .nx (n _ h)
  | rt h => exact .rt (r _ _ h)
  | bk h => exact .bk (b _ h)
  | ct h => exact .ct (c _ h)
theorem w1_ok {a : α} {Q : α → Prop} (q : Q a) : w1 (.ok a) Q := .mk q
theorem w1_eq {r : Rs α} {a : α} {Q : α → Prop} (h : r = .ok a) (q : Q a) : w1 r Q := by rw [h]; exact .mk q
theorem w1_is {r : Rs α} {a : α} (h : w1 r (· = a)) : r = .ok a := by
  cases h with
  | mk h => rw [h]
theorem w1_bind {r : Rs α} {f : α → Rs β} {Q : β → Prop} (h : w1 r fun a => w1 (f a) Q) : w1 (r.bind f) Q := by cases h with | mk h => exact h
theorem w1_of {o : Option α} {Q : α → Prop} (h : w0 o Q) : w1 (.of o) Q := by cases h with | mk h => exact .mk h
theorem w2_bind {r : Re α} {f : α → E → Re β} {Q : β → E → Prop} (h : w2 r fun a e => w2 (f a e) Q) : w2 (r.bind f) Q := by cases h with | mk h => exact h
theorem w2_at {r : Rs α} {Q : α → E → Prop} (h : w1 r fun a => Q a e) : w2 (r.at e) Q := by cases h with | mk h => exact .mk h
/-! reads -/
variable {Q : D → Prop} {Q2 : D → E → Prop} {ma mb mc : MB} {na n2 : ME} {f g : D → D → Option D}
theorem w1_var {i : Nat} (h : e[i]? = some (some d)) (q : Q d) : w1 (bVar i e) Q := by unfold bVar; rw [h]; exact .mk q
theorem w1_C (q : Q d) : w1 (bC d e) Q := .mk q
theorem w1_bin (h : w1 (ma e) fun a => w1 (mb e) fun b => w0 (f a b) Q) : w1 (bin f ma mb e) Q := w1_bind (w1_mono h fun _ h => w1_bind (w1_mono h fun _ h => w1_of h))
theorem w1_un {f : D → Option D} (h : w1 (ma e) fun a => w0 (f a) Q) : w1 (un f ma e) Q := w1_bind (w1_mono h fun _ h => w1_of h)
theorem w1_bl1 {k : Bool → Rs α} {Q : α → Prop} {b : Bool} (h : w1 (k b) Q) : w1 (bl1 (.bl b) k) Q := h
theorem w1_ch (h : w1 (ma e) fun a => w1 (mb e) fun b => w0 (f a b) fun z => ∃ k, z = .bl k ∧ (k = true → w1 (mc e) fun c => w0 (g b c) fun y => ∃ q, y = .bl q ∧ Q (.bl q)) ∧ (k = false → Q (.bl false))) : w1 (chB f g ma mb mc e) Q := by
  refine w1_bind (w1_mono h fun a h => w1_bind (w1_mono h fun b h => w1_bind (w1_of (w0_mono h fun z ⟨k, e1, h1, h2⟩ => ?_))))
  subst e1
  refine w1_bl1 ?_
  cases k with
  | true =>
    rw [if_pos rfl]
    refine w1_bind (w1_mono (h1 rfl) fun c h => w1_bind (w1_of (w0_mono h fun y ⟨q, e2, h⟩ => ?_)))
    subst e2
    exact .mk h
  | false => exact .mk (h2 rfl)
theorem w1_and (h : w1 (ma e) fun a => ∃ k, a = .bl k ∧ (k = true → w1 (mb e) fun b => ∃ c, b = .bl c ∧ Q (.bl c)) ∧ (k = false → Q (.bl false))) : w1 (andB ma mb e) Q := by
  refine w1_bind (w1_mono h fun a ⟨k, e1, h1, h2⟩ => ?_)
  subst e1
  refine w1_bl1 ?_
  cases k with
  | true =>
    rw [if_pos rfl]
    refine w1_bind (w1_mono (h1 rfl) fun b ⟨c, e2, h⟩ => ?_)
    subst e2
    exact .mk h
  | false => exact .mk (h2 rfl)
theorem w1_or (h : w1 (ma e) fun a => ∃ k, a = .bl k ∧ (k = true → Q (.bl true)) ∧ (k = false → w1 (mb e) fun b => ∃ c, b = .bl c ∧ Q (.bl c))) : w1 (orB ma mb e) Q := by
  refine w1_bind (w1_mono h fun a ⟨k, e1, h1, h2⟩ => ?_)
  subst e1
  refine w1_bl1 ?_
  cases k with
  | true => exact .mk (h1 rfl)
  | false =>
    rw [if_neg (by decide)]
    refine w1_bind (w1_mono (h2 rfl) fun b ⟨c, e2, h⟩ => ?_)
    subst e2
    exact .mk h
theorem w1_not (h : w1 (ma e) fun a => ∃ k, a = .bl k ∧ Q (.bl (!k))) : w1 (notB ma e) Q := by
  refine w1_bind (w1_mono h fun a ⟨k, e1, h1⟩ => ?_)
  subst e1
  exact .mk h1
theorem w1_nil {Q : List D → Prop} (q : Q []) : w1 (aNil e) Q := .mk q
theorem w1_cons {ms : MA} {Q : List D → Prop} (h : w1 (ma e) fun d => w1 (ms e) fun ds => Q (d :: ds)) : w1 (aCons ma ms e) Q := w1_bind (w1_mono h fun _ h => w1_bind (w1_mono h fun _ h => .mk h))
theorem w1_tup {ms : MA} (h : w1 (ms e) fun ds => imms ds = true ∧ fits ds.length = true ∧ Q (.tup ds)) : w1 (dTup ms e) Q := w1_bind (w1_mono h fun ds h => by rw [if_pos ⟨h.1, h.2.1⟩]; exact .mk h.2.2)
theorem w1_lst {ms : MA} (h : w1 (ms e) fun ds => imms ds = true ∧ fits ds.length = true ∧ Q (.lst ds)) : w1 (dLst ms e) Q := w1_bind (w1_mono h fun ds h => by rw [if_pos ⟨h.1, h.2.1⟩]; exact .mk h.2.2)
theorem w1_cal {f : List D → Option D} {ms : MA} (h : w1 (ms e) fun ds => w0 (f ds) Q) : w1 (cal f ms e) Q := w1_bind (w1_mono h fun _ h => w1_of h)
theorem w1_call {m : MD} {ms : MA} (h : w1 (ms e) fun ds => imms ds = true ∧ w1 (m ds) Q) : w1 (cN m ms e) Q := w1_bind (w1_mono h fun ds h => by rw [if_pos h.1]; exact h.2)
theorem w1_cp0 {Q : Option Int → Prop} (q : Q none) : w1 (cutP none e) Q := .mk q
theorem w1_cp {Q : Option Int → Prop} (h : w1 (ma e) fun d => ∃ i, d = .int i ∧ Q (some i)) : w1 (cutP (some ma) e) Q := w1_bind (w1_mono h fun d ⟨i, e1, q⟩ => by subst e1; exact .mk q)
theorem w1_cut {l u : Option MB} (h : w1 (ma e) fun d => w1 (cutP l e) fun a => w1 (cutP u e) fun b => w0 (fCut d a b) Q) : w1 (cut ma l u e) Q := w1_bind (w1_mono h fun _ h => w1_bind (w1_mono h fun _ h => w1_bind (w1_mono h fun _ h => w1_of h)))
/-! steps -/
theorem w2_ofN (h : w1 (ma e) fun d => Q2 d e) : w2 (ofN ma e) Q2 := w2_at h
theorem w2_own (h : w1 (ma e) fun d => imm d = true ∧ Q2 d e) : w2 (own ma e) Q2 := w2_at (w1_bind (w1_mono h fun d h => by rw [if_pos h.1]; exact .mk h.2))
theorem w2_mv {i : Nat} (h : e[i]? = some (some d)) (q : Q2 d (e.set i none)) : w2 (eMv i e) Q2 := by unfold eMv; rw [h]; exact .mk q
theorem w2_bin (h : w2 (na e) fun a e1 => w2 (n2 e1) fun b e2 => w0 (f a b) fun d => Q2 d e2) : w2 (binE f na n2 e) Q2 := w2_bind (w2_mono h fun _ _ h => w2_bind (w2_mono h fun _ _ h => w2_at (w1_of h)))
theorem w2_binV {i : Nat} {d0 : D} (h0 : e[i]? = some (some d0)) (h : w2 (n2 e) fun b e2 => ∃ a, e2[i]? = some (some a) ∧ w0 (f a b) fun d => Q2 d e2) : w2 (binV f i n2 e) Q2 := by
  unfold binV
  rw [h0]
  refine w2_bind (w2_mono h fun b e2 ⟨a, h1, h⟩ => ?_)
  rw [h1]
  exact w2_at (w1_of h)
theorem w2_un {f : D → Option D} (h : w2 (na e) fun a e1 => w0 (f a) fun d => Q2 d e1) : w2 (unE f na e) Q2 := w2_bind (w2_mono h fun _ _ h => w2_at (w1_of h))
theorem w2_nil {Q : List D → E → Prop} (q : Q [] e) : w2 (anil e) Q := .mk q
theorem w2_cons {ms : MAE} {Q : List D → E → Prop} (h : w2 (na e) fun d e1 => w2 (ms e1) fun ds e2 => Q (d :: ds) e2) : w2 (acons na ms e) Q := w2_bind (w2_mono h fun _ _ h => w2_bind (w2_mono h fun _ _ h => .mk h))
theorem w2_tup {ms : MAE} (h : w2 (ms e) fun ds e1 => fits ds.length = true ∧ Q2 (.tup ds) e1) : w2 (dTupE ms e) Q2 := w2_bind (w2_mono h fun ds e1 h => by rw [if_pos h.1]; exact .mk h.2)
theorem w2_lst {ms : MAE} (h : w2 (ms e) fun ds e1 => fits ds.length = true ∧ Q2 (.lst ds) e1) : w2 (dLstE ms e) Q2 := w2_bind (w2_mono h fun ds e1 h => by rw [if_pos h.1]; exact .mk h.2)
theorem w2_cal {f : List D → Option D} {ms : MAE} (h : w2 (ms e) fun ds e1 => w0 (f ds) fun d => Q2 d e1) : w2 (calE f ms e) Q2 := w2_bind (w2_mono h fun _ _ h => w2_at (w1_of h))
theorem w2_call {m : MD} {ms : MAE} (h : w2 (ms e) fun ds e1 => imms ds = true ∧ w1 (m ds) fun d => Q2 d e1) : w2 (cE m ms e) Q2 := w2_bind (w2_mono h fun ds e1 h => by rw [if_pos h.1]; exact w2_at h.2)
theorem w2_frz (h : w2 (na e) fun d e1 => ∃ ds, d = .lst ds ∧ imms ds = true ∧ Q2 (.rol ds) e1) : w2 (frz na e) Q2 := by
  unfold frz
  generalize na e = r at h ⊢
  cases h with
  | mk h =>
    obtain ⟨ds, h1, h2, h3⟩ := h
    subst h1
    show w2 (if imms ds = true then _ else _) Q2
    rw [if_pos h2]
    exact .mk h3
theorem w2_cut {l u : Option MB} (h : w2 (na e) fun d e1 => w1 (cutP l e1) fun a => w1 (cutP u e1) fun b => w0 (fCut d a b) fun d => Q2 d e1) : w2 (cutE na l u e) Q2 := w2_bind (w2_mono h fun _ _ h => w2_at (w1_bind (w1_mono h fun _ h => w1_bind (w1_mono h fun _ h => w1_of h))))
theorem w2_mut {i : Nat} {f : D → List D → Option (D × D)} {ms : MAE} {d0 : List D} (h0 : e[i]? = some (some (.lst d0))) (h : w2 (ms e) fun as e1 => ∃ d, e1[i]? = some (some d) ∧ w0 (f d as) fun p => Q2 p.1 (e1.set i (some p.2))) : w2 (eMut i f ms e) Q2 := by
  unfold eMut
  rw [h0]
  simp only [isLst, if_true]
  refine w2_bind (w2_mono h fun as e1 ⟨d, h1, h⟩ => ?_)
  rw [h1]
  simp only
  generalize f d as = r at h ⊢
  cases h with
  | mk h => exact .mk h
/-- a call that changes the thing in one slot -/
theorem w2_io {i : Nat} {m : MI} {ms : MAE} {d0 : D} (h0 : e[i]? = some (some d0)) (h : w2 (ms e) fun ds e1 => ∃ d1, e1[i]? = some (some d1) ∧ wD (m (d1 :: ds)) fun d os => ∃ o r, os = o :: r ∧ Q2 d ((e1.set i none).set i (some o))) : w2 (eIO [i] m ms e) Q2 := by
  unfold eIO
  have e0 : there [i] e = true := by simp only [there, h0]
  rw [if_pos e0]
  refine w2_bind (w2_mono h fun ds e1 ⟨d1, h1, h⟩ => ?_)
  simp only [takeS, h1, Option.map_some, List.cons_append, List.nil_append]
  generalize m (d1 :: ds) = r at h ⊢
  cases h with
  | mk h =>
    obtain ⟨o, r, rfl, h⟩ := h
    exact .mk h
/-! tests -/
variable {QT : Bool → E → Prop} {t u : MT}
theorem w2_tst (h : w2 (na e) fun d e1 => ∃ b, d = .bl b ∧ QT b e1) : w2 (tst na e) QT := w2_bind (w2_mono h fun d e1 ⟨b, e2, q⟩ => by subst e2; exact .mk q)
theorem w2_and (h : w2 (t e) fun c e1 => (c = true → w2 (u e1) QT) ∧ (c = false → QT false e1)) : w2 (andT t u e) QT := w2_bind (w2_mono h fun c e1 h => by cases c with | true => exact h.1 rfl | false => exact .mk (h.2 rfl))
theorem w2_or (h : w2 (t e) fun c e1 => (c = true → QT true e1) ∧ (c = false → w2 (u e1) QT)) : w2 (orT t u e) QT := w2_bind (w2_mono h fun c e1 h => by cases c with | true => exact .mk (h.1 rfl) | false => exact h.2 rfl)
theorem w2_not (h : w2 (t e) fun c e1 => QT (!c) e1) : w2 (notT t e) QT := w2_bind (w2_mono h fun c e1 h => .mk h)
theorem w2_tY (h : QT true e) : w2 (tY e) QT := .mk h
/-! statements -/
variable {N B C : E → Prop} {R : D → E → Prop} {a b : MS}
theorem wS_nil (h : N e) : wS (mNil e) N R B C := .nx h
theorem wS_seq (h : wS (a e) (fun e1 => wS (b e1) N R B C) R B C) : wS (mSeq a b e) N R B C := by
  unfold mSeq
  generalize a e = r at h ⊢
  cases h with
  | nx h => exact h
  | rt h => exact .rt h
  | bk h => exact .bk h
  | ct h => exact .ct h
theorem wS_set {i : Nat} (h : w2 (na e) fun d e1 => N (e1.set i (some d))) : wS (mSet i na e) N R B C := by
  unfold mSet
  generalize na e = r at h ⊢
  cases h with
  | mk h => exact .nx h
theorem wS_expr (h : w2 (na e) fun _ e1 => N e1) : wS (mExpr na e) N R B C := by
  unfold mExpr
  generalize na e = r at h ⊢
  cases h with
  | mk h => exact .nx h
theorem wS_if (h : w2 (t e) fun c e1 => (c = true → wS (a e1) N R B C) ∧ (c = false → wS (b e1) N R B C)) : wS (mIf t a b e) N R B C := by
  unfold mIf
  generalize t e = r at h ⊢
  cases h with
  | @mk c e1 _ h =>
    cases c with
    | true => exact h.1 rfl
    | false => exact h.2 rfl
theorem wS_ret (h : w2 (na e) fun d e1 => R d e1) : wS (mRet na e) N R B C := by
  unfold mRet
  generalize na e = r at h ⊢
  cases h with
  | mk h => exact .rt h
theorem wS_retN (h : R .non e) : wS (mRetN e) N R B C := .rt h
theorem wS_brk (h : B e) : wS (mBreak e) N R B C := .bk h
theorem wS_cnt (h : C e) : wS (mCont e) N R B C := .ct h
theorem wS_aug {i : Nat} {d0 : D} (h0 : e[i]? = some (some d0)) (hi : imm d0 = true) (h : w2 (na e) fun d e1 => w0 (f d0 d) fun d => N (e1.set i (some d))) : wS (mAug i f na e) N R B C := by
  unfold mAug
  rw [h0]
  simp only [hi, if_true]
  generalize na e = r at h ⊢
  cases h with
  | @mk d e1 _ h =>
    simp only
    generalize f d0 d = r at h ⊢
    cases h with
    | mk h => exact .nx h
theorem wS_asg {g : MG} (h : w2 (na e) fun d e1 => imm d = true ∧ w0 (g d e1) N) : wS (mAsg g na e) N R B C := by
  unfold mAsg
  generalize na e = r at h ⊢
  cases h with
  | @mk d e1 _ h =>
    obtain ⟨h1, h2⟩ := h
    simp only [h1, if_true]
    generalize g d e1 = r at h2 ⊢
    cases h2 with
    | mk h => exact .nx h
theorem wS_par {i j : Nat} {ns : MAE} (h : w2 (ns e) fun ds e1 => ∃ a b, ds = [a, b] ∧ (imm a = true ∧ imm b = true) ∧ N ((e1.set i (some a)).set j (some b))) : wS (mPar i j ns e) N R B C := by
  unfold mPar
  generalize ns e = r at h ⊢
  cases h with
  | mk h =>
    obtain ⟨a, b, rfl, h1, h2⟩ := h
    simp only [h1, and_self, if_true]
    exact .nx h2
theorem wS_setIx {i : Nat} (h : w2 (na e) fun y e1 => imm y = true ∧ ∃ ds, e1[i]? = some (some (.lst ds)) ∧ imms ds = true ∧ w1 (ma e1) fun k => ∃ z, k = .int z ∧ ∃ j, ixN ds.length z = some j ∧ N (e1.set i (some (.lst (ds.set j y))))) : wS (mSetIx i ma na e) N R B C := by
  unfold mSetIx
  generalize na e = r at h ⊢
  cases h with
  | @mk y e1 _ h =>
    obtain ⟨h1, ds, h2, h3, h4⟩ := h
    simp only [h1, if_true, h2, h3]
    generalize ma e1 = r at h4 ⊢
    cases h4 with
    | mk h4 =>
      obtain ⟨z, rfl, j, h5, h6⟩ := h4
      simp only [h5]
      exact .nx h6
/-! operations on ints -/
theorem w0_mulI {i j : Int} {Q : D → Prop} (h : big64 i = true ∨ big64 j = true) (q : Q (.int (i * j))) : w0 (fMul (.int i) (.int j)) Q := by
  show w0 (if (big64 i || big64 j) = true then some (D.int (i * j)) else none) Q
  rw [if_pos (by rcases h with h | h <;> simp [h])]
  exact .mk q
theorem fits_of {n : Nat} (h : n ≤ 16777216) : fits n = true := decide_eq_true h
theorem big64_of {i : Int} (h : -18446744073709551616 < i ∧ i < 18446744073709551616) : big64 i = true := decide_eq_true h
theorem w0_modI {i j : Int} {Q : D → Prop} (h : 0 < j) (q : Q (.int (i % j))) : w0 (fMod (.int i) (.int j)) Q := by
  show w0 (if 0 < j then some (D.int (i % j)) else none) Q
  rw [if_pos h]
  exact .mk q
theorem w0_divI {i j : Int} {Q : D → Prop} (h : 0 < j ∧ j < 1073741824) (q : Q (.int (i / j))) : w0 (fDiv (.int i) (.int j)) Q := by
  show w0 (if 0 < j ∧ j < 1073741824 then some (D.int (i / j)) else none) Q
  rw [if_pos h]
  exact .mk q
theorem w0_powI {i j : Int} {Q : D → Prop} (h : 0 ≤ j ∧ j ≤ 1000000 ∧ i.natAbs < 2 ^ 64) (q : Q (.int (i ^ j.toNat))) : w0 (fPow (.int i) (.int j)) Q := by
  show w0 (if 0 ≤ j ∧ j ≤ 1000000 ∧ i.natAbs < 2 ^ 64 then some (D.int (i ^ j.toNat)) else none) Q
  rw [if_pos h]
  exact .mk q
theorem atI_in {α : Type} {ds : List α} {i : Int} (h : 0 ≤ i) (h1 : i < ds.length) : ∃ d, atI ds i = some d ∧ ds[i.toNat]? = some d := by
  have e : i.toNat < ds.length := by omega
  refine ⟨ds[i.toNat], ?_, List.getElem?_eq_getElem e⟩
  unfold atI ixN
  rw [if_pos h, if_pos h1]
  exact List.getElem?_eq_getElem e
theorem w0_ixR {ds : List D} {i : Int} {Q : D → Prop} (h : 0 ≤ i) (h1 : i < ds.length) (q : ∀ d, ds[i.toNat]? = some d → Q d) : w0 (fIx (.rol ds) (.int i)) Q := by
  obtain ⟨d, e1, e2⟩ := atI_in h h1
  exact w0_of (show fIx (.rol ds) (.int i) = some d from e1) (q d e2)
theorem w0_ixL {ds : List D} {i : Int} {Q : D → Prop} (h : 0 ≤ i) (h1 : i < ds.length) (q : ∀ d, ds[i.toNat]? = some d → Q d) : w0 (fIx (.lst ds) (.int i)) Q := by
  obtain ⟨d, e1, e2⟩ := atI_in h h1
  exact w0_of (show fIx (.lst ds) (.int i) = some d from e1) (q d e2)
theorem w0_ixT {ds : List D} {i : Int} {Q : D → Prop} (h : 0 ≤ i) (h1 : i < ds.length) (q : ∀ d, ds[i.toNat]? = some d → Q d) : w0 (fIx (.tup ds) (.int i)) Q := by
  obtain ⟨d, e1, e2⟩ := atI_in h h1
  exact w0_of (show fIx (.tup ds) (.int i) = some d from e1) (q d e2)
theorem w0_ixS {s : List Nat} {i : Int} {Q : D → Prop} (hf : fits s.length = true) (h : 0 ≤ i) (h1 : i < s.length) (q : ∀ c, s[i.toNat]? = some c → Q (.str [c])) : w0 (fIx (.str s) (.int i)) Q := by
  obtain ⟨c, e1, e2⟩ := atI_in h h1
  refine w0_of (show (if fits s.length = true then (atI s i).map fun c => D.str [c] else none) = some (.str [c]) from ?_) (q c e2)
  rw [if_pos hf, e1]
  rfl
theorem w0_addS {s t : List Nat} {Q : D → Prop} (h : s.length + t.length ≤ 16777216) (q : Q (.str (s ++ t))) : w0 (fAdd (.str s) (.str t)) Q :=
  w0_of (show (if fits (s.length + t.length) = true then some (D.str (s ++ t)) else none) = _ by rw [if_pos (fits_of h)]) q
theorem w0_lenS {s : List Nat} {Q : D → Prop} (h : s.length ≤ 16777216) (q : Q (.int s.length)) : w0 (fLen [.str s]) Q :=
  w0_of (show ((if fits s.length = true then some s.length else none).map fun (n : Nat) => D.int (n : Int)) = _ by rw [if_pos (fits_of h)]; rfl) q
theorem w0_mulS {s : List Nat} {n : Int} {Q : D → Prop} (h : 0 ≤ n ∧ n ≤ 16777216) (h1 : s.length * n.toNat ≤ 16777216) (q : Q (.str (List.replicate n.toNat s).flatten)) : w0 (fMul (.str s) (.int n)) Q :=
  w0_of (show (if 0 ≤ n ∧ n ≤ 16777216 ∧ fits (s.length * n.toNat) = true then some (D.str (List.replicate n.toNat s).flatten) else none) = _ by rw [if_pos ⟨h.1, h.2, fits_of h1⟩]) q
theorem w0_cutS {s : List Nat} {lo hi : Option Int} {Q : D → Prop} (h : s.length ≤ 16777216) (q : Q (.str (cutL s lo hi))) : w0 (fCut (.str s) lo hi) Q :=
  w0_of (show (if fits s.length = true then some (D.str (cutL s lo hi)) else none) = _ by rw [if_pos (fits_of h)]) q
theorem w0_cutT {ds : List D} {lo hi : Option Int} {Q : D → Prop} (h : imms ds = true) (q : Q (.tup (cutL ds lo hi))) : w0 (fCut (.tup ds) lo hi) Q :=
  w0_of (show (if imms ds = true then some (D.tup (cutL ds lo hi)) else none) = _ by rw [if_pos h]) q
theorem cutL_to {α : Type} {s : List α} {k : Int} (h : 0 ≤ k) : cutL s none (some k) = s.take k.toNat := by
  obtain ⟨n, rfl⟩ := Int.eq_ofNat_of_zero_le h
  unfold cutL
  rw [HT.sIx_none, HT.sIx_nat, List.drop_zero, Nat.sub_zero, Int.toNat_natCast]
  rcases Nat.le_total n s.length with z | z
  · rw [Nat.min_eq_left z]
  · rw [Nat.min_eq_right z, List.take_of_length_le (Nat.le_refl _), List.take_of_length_le z]
theorem cutL_from {α : Type} {s : List α} {k : Int} (h : 0 ≤ k) : cutL s (some k) none = s.drop k.toNat := by
  obtain ⟨n, rfl⟩ := Int.eq_ofNat_of_zero_le h
  unfold cutL
  rw [HT.sIx_none, HT.sIx_nat, Int.toNat_natCast]
  rcases Nat.le_total n s.length with z | z
  · rw [Nat.min_eq_left z, List.take_of_length_le (by rw [List.length_drop]; exact Nat.le_refl _)]
  · rw [Nat.min_eq_right z, Nat.sub_self, List.take_zero, List.drop_of_length_le z]
/-- an element of a short list by a drawn number -/
theorem w0_imm {f : D → D → Option D} {a b : D} {Q : D → Prop} (h : w0 (f a b) fun d => imm d = true ∧ Q d) : w0 (immF f a b) Q := by
  unfold immF
  generalize f a b = r at h ⊢
  cases h with
  | mk h =>
    obtain ⟨h1, h2⟩ := h
    simp only [Option.bind_some, h1, if_true]
    exact .mk h2
theorem imms_ints {ns : List Int} : imms (ns.map D.int) = true := by
  rw [imms_all, List.all_map]
  exact List.all_eq_true.mpr fun _ _ => rfl
theorem mem_get {α : Type} {l : List α} {i : Nat} {a : α} (h : l[i]? = some a) : a ∈ l := List.mem_of_getElem? h
theorem get_ints {ns : List Int} {i : Nat} {d : D} (h : (ns.map D.int)[i]? = some d) : ∃ n ∈ ns, d = .int n := by
  rw [List.getElem?_map] at h
  obtain ⟨n, h1, h2⟩ := Option.map_eq_some_iff.mp h
  exact ⟨n, mem_get h1, h2.symm⟩
/-! loops -/
variable {gg : MG}
theorem wS_loop {b : MS} (I : Nat → E → Prop) : ∀ (ds : List D) (j : Nat) {e : E}, I j e → (∀ i d e, ds[i]? = some d → I (j + i) e → w0 (gg d e) fun e1 => wS (b e1) (I (j + i + 1)) R N (I (j + i + 1))) → (∀ e, I (j + ds.length) e → N e) → wS (mLoop gg b ds e) N R B C
  | [], j, e, h, _, hN => .nx (hN e h)
  | d :: ds, j, e, h, hs, hN => by
    have h1 := hs 0 d e rfl h
    unfold mLoop
    generalize gg d e = r at h1 ⊢
    cases h1 with
    | @mk e1 _ h1 =>
      simp only
      have rec_ : ∀ e2, I (j + 0 + 1) e2 → wS (mLoop gg b ds e2) N R B C := fun e2 h2 => wS_loop I ds (j + 1) h2 (fun i d e hd hI => by
        have := hs (i + 1) d e (by simpa using hd) (by rw [show j + (i + 1) = j + 1 + i by omega]; exact hI)
        rw [show j + (i + 1) = j + 1 + i by omega] at this
        exact this) fun e he => hN e (by rw [List.length_cons, show j + (ds.length + 1) = j + 1 + ds.length by omega]; exact he)
      generalize b e1 = r at h1 ⊢
      cases h1 with
      | nx h1 => exact rec_ _ h1
      | ct h1 => exact rec_ _ h1
      | bk h1 => exact .nx h1
      | rt h1 => exact .rt h1
theorem wS_loop0 {b : MS} (I : Nat → E → Prop) (ds : List D) {e : E} (h : I 0 e) (hs : ∀ i d e, ds[i]? = some d → I i e → w0 (gg d e) fun e1 => wS (b e1) (I (i + 1)) R N (I (i + 1))) (hN : ∀ e, I ds.length e → N e) : wS (mLoop gg b ds e) N R B C :=
  wS_loop I ds 0 h (fun i d e hd hI => by rw [Nat.zero_add] at hI ⊢; exact hs i d e hd hI) fun e hI => by rw [Nat.zero_add] at hI; exact hN e hI
/-- an invariant with no count -/
theorem wS_inv {b : MS} (I : E → Prop) (ds : List D) {e : E} (h : I e) (hs : ∀ d e, d ∈ ds → I e → w0 (gg d e) fun e1 => wS (b e1) I R N I) (hN : ∀ e, I e → N e) : wS (mLoop gg b ds e) N R B C :=
  wS_loop0 (fun _ => I) ds h (fun i d e hd hI => hs d e (mem_get hd) hI) hN
theorem wS_for {w : MW} {b : MS} (h : w2 (w e) fun ds e1 => wS (mLoop gg b ds e1) N R B C) : wS (mFor w gg b e) N R B C := by
  unfold mFor
  generalize w e = r at h ⊢
  cases h with
  | mk h => exact h
theorem wS_fill {s : SR} {i : Nat} {d : D} (h : wS s (fun e => N (e.set i (some d))) (fun x e => R x (e.set i (some d))) (fun e => B (e.set i (some d))) (fun e => C (e.set i (some d)))) : wS (s.fill i d) N R B C := by
  cases h with
  | nx h => exact .nx h
  | rt h => exact .rt h
  | bk h => exact .bk h
  | ct h => exact .ct h
theorem wS_forV {i : Nat} {b : MS} {ds : List D} (h0 : e[i]? = some (some d)) (hd : itemsOf d = some ds) (hi : imm d = true) (h : wS (mLoop gg b ds e) N R B C) : wS (mForV i gg b e) N R B C := by
  unfold mForV
  rw [h0]
  simp only [hd, hi, if_true]
  exact h
/-- over a list that stays as it is -/
theorem wS_forL {i : Nat} {b : MS} {ds : List D} (h0 : e[i]? = some (some (.lst ds))) (hi : imms ds = true) (h : wS (mLoop gg b ds (e.set i none)) (fun e => N (e.set i (some (.lst ds)))) (fun x e => R x (e.set i (some (.lst ds)))) (fun e => B (e.set i (some (.lst ds)))) (fun e => C (e.set i (some (.lst ds))))) : wS (mForV i gg b e) N R B C := by
  unfold mForV
  rw [h0]
  simp only [itemsOf, hi, if_true, imm, Bool.false_eq_true, if_false]
  exact wS_fill h
theorem wS_while {b : MS} (I : Nat → E → Prop) (hs : ∀ n e, I n e → w2 (t e) fun c e1 => (c = true → wS (b e1) (fun e2 => ∃ m, m < n ∧ I m e2) R N (fun e2 => ∃ m, m < n ∧ I m e2)) ∧ (c = false → N e1)) : ∀ (k n : Nat) (e : E), n < k → I n e → wS (mWhile t b k e) N R B C
  | 0, n, e, hk, _ => by omega
  | k + 1, n, e, hk, h => by
    have h1 := hs n e h
    unfold mWhile
    generalize t e = r at h1 ⊢
    cases h1 with
    | @mk c e1 _ h1 =>
      cases c with
      | false => exact .nx (h1.2 rfl)
      | true =>
        have h2 := h1.1 rfl
        simp only [if_true]
        generalize b e1 = r at h2 ⊢
        cases h2 with
        | nx h2 => obtain ⟨m, hm, hI⟩ := h2; exact wS_while I hs k m _ (by omega) hI
        | ct h2 => obtain ⟨m, hm, hI⟩ := h2; exact wS_while I hs k m _ (by omega) hI
        | bk h2 => exact .nx h2
        | rt h2 => exact .rt h2
theorem wS_wh {b : MS} (I : Nat → E → Prop) (n : Nat) (hn : n < fuel) (h0 : I n e) (hs : ∀ n e, I n e → w2 (t e) fun c e1 => (c = true → wS (b e1) (fun e2 => ∃ m, m < n ∧ I m e2) R N (fun e2 => ∃ m, m < n ∧ I m e2)) ∧ (c = false → N e1)) : wS (mWh t b e) N R B C := wS_while I hs fuel n e hn h0
theorem w2_wV {QL : List D → E → Prop} (h : w2 (na e) fun d e1 => ∃ ds, itemsOf d = some ds ∧ QL ds e1) : w2 (wV na e) QL := by
  unfold wV
  generalize na e = r at h ⊢
  cases h with
  | mk h => obtain ⟨ds, h1, h2⟩ := h; simp only [h1]; exact .mk h2
theorem w2_wR {ns : MAE} {QL : List D → E → Prop} (h : w2 (ns e) fun ds e1 => (∃ j, ds = [.int j] ∧ small62 j = true ∧ QL (rangeD 0 j.toNat) e1) ∨ ∃ i j, ds = [.int i, .int j] ∧ (small62 i = true ∧ small62 j = true) ∧ QL (rangeD i (j - i).toNat) e1) : w2 (wR ns e) QL := by
  unfold wR
  generalize ns e = r at h ⊢
  cases h with
  | mk h =>
    rcases h with ⟨j, rfl, h1, h2⟩ | ⟨i, j, rfl, h1, h2⟩
    · simp only [h1, if_true]; exact .mk h2
    · simp only [h1, and_self, if_true]; exact .mk h2
theorem small62_of {j : Int} (h : -4611686018427387904 ≤ j ∧ j < 4611686018427387904) : small62 j = true := decide_eq_true h
theorem w2_wR1 {QL : List D → E → Prop} (h : w2 (na e) fun d e1 => ∃ j, d = .int j ∧ small62 j = true ∧ QL (rangeD 0 j.toNat) e1) : w2 (wR (acons na anil) e) QL :=
  w2_wR (w2_cons (w2_mono h fun d e1 ⟨j, h1, h2⟩ => w2_nil (.inl ⟨j, by rw [h1], h2⟩)))
theorem w2_wR2 {QL : List D → E → Prop} (h : w2 (na e) fun d e1 => ∃ i, d = .int i ∧ small62 i = true ∧ w2 (n2 e1) fun d e1 => ∃ j, d = .int j ∧ small62 j = true ∧ QL (rangeD i (j - i).toNat) e1) : w2 (wR (acons na (acons n2 anil)) e) QL :=
  w2_wR (w2_cons (w2_mono h fun d e1 ⟨i, h1, h2, h3⟩ => w2_cons (w2_mono h3 fun d e1 ⟨j, h4, h5, h6⟩ => w2_nil (.inr ⟨i, j, by rw [h1, h4], ⟨h2, h5⟩, h6⟩))))
theorem range_at {lo : Int} {n i : Nat} {d : D} (h : (rangeD lo n)[i]? = some d) : i < n ∧ d = .int (lo + i) := by
  unfold rangeD at h
  rw [List.getElem?_map] at h
  obtain ⟨k, h1, h2⟩ := Option.map_eq_some_iff.mp h
  obtain ⟨h3, h4⟩ := List.getElem?_eq_some_iff.mp h1
  rw [List.getElem_range] at h4
  subst h4
  exact ⟨by simpa using h3, h2.symm⟩
theorem range_len {lo : Int} {n : Nat} : (rangeD lo n).length = n := by simp [rangeD]
/-! defs -/
theorem w1_def {k : Nat} {mb : MS} {ds : List D} {Q : D → Prop} (hi : imms ds = true) (h : wS (mb (ds.map some ++ List.replicate k none)) (fun _ => Q .non) (fun d _ => Q d) (fun _ => False) (fun _ => False)) : w1 (mDef0 k mb ds) Q := by
  unfold mDef0 mDef
  rw [if_pos hi]
  generalize mb (ds.map some ++ List.replicate k none) = r at h ⊢
  cases h with
  | nx h => exact .mk h
  | rt h => exact .mk h
  | bk h => exact h.elim
  | ct h => exact h.elim
theorem wD_def {k : Nat} {Z : Zs} {mb : MS} {ds : List D} {Q : D → List D → Prop} (h : wS (mb (ds.map some ++ List.replicate k none)) (fun e => w0 (outsOf Z 0 ds e) (Q .non)) (fun d e => w0 (outsOf Z 0 ds e) (Q d)) (fun _ => False) (fun _ => False)) : wD (mDefI0 k Z mb ds) Q := by
  unfold mDefI0 mDefI
  generalize mb (ds.map some ++ List.replicate k none) = r at h ⊢
  cases h with
  | @nx e _ _ _ _ h =>
    simp only [mResI]
    generalize outsOf Z 0 ds e = r at h ⊢
    cases h with
    | mk h => exact .mk h
  | @rt d e _ _ _ _ h =>
    simp only [mResI]
    generalize outsOf Z 0 ds e = r at h ⊢
    cases h with
    | mk h => exact .mk h
  | bk h => exact h.elim
  | ct h => exact h.elim
end
end Mir

namespace Mir
open PySem PySem.Spec L2

/-! ### == of data -/
theorem str_beq (s t : List Nat) : ((⟨s.toArray⟩ : Str) == ⟨t.toArray⟩) = decide (s = t) := by
  by_cases h : s = t
  · subst h; simp
  · rw [decide_eq_false h]
    refine beq_eq_false_iff_ne.mpr fun z => h ?_
    have := congrArg (fun x : Str => x.cps.toList) z
    simpa using this
@[simp] theorem eqv_str (s t : List Nat) : D.eqv (.str s) (.str t) = decide (s = t) := by
  simp only [D.eqv, D.py, PyData.eqv]; exact str_beq s t
@[simp] theorem eqv_int (i j : Int) : D.eqv (.int i) (.int j) = decide (i = j) := by simp only [D.eqv, D.py, PyData.eqv]; rfl
@[simp] theorem eqv_bl (a b : Bool) : D.eqv (.bl a) (.bl b) = (a == b) := by simp only [D.eqv, D.py, PyData.eqv]
@[simp] theorem eqv_non : D.eqv .non .non = true := by simp only [D.eqv, D.py, PyData.eqv]
@[simp] theorem eqv_intbl (i : Int) (b : Bool) : D.eqv (.int i) (.bl b) = (i == (if b then 1 else 0)) := by simp only [D.eqv, D.py, PyData.eqv]
@[simp] theorem eqv_blint (i : Int) (b : Bool) : D.eqv (.bl b) (.int i) = ((if b then 1 else 0) == i) := by simp only [D.eqv, D.py, PyData.eqv]
@[simp] theorem eqv_strint (s : List Nat) (i : Int) : D.eqv (.str s) (.int i) = false := by simp only [D.eqv, D.py, PyData.eqv]
@[simp] theorem eqv_intstr (s : List Nat) (i : Int) : D.eqv (.int i) (.str s) = false := by simp only [D.eqv, D.py, PyData.eqv]
@[simp] theorem eqv_strbl (s : List Nat) (i : Bool) : D.eqv (.str s) (.bl i) = false := by simp only [D.eqv, D.py, PyData.eqv]
@[simp] theorem eqv_blstr (s : List Nat) (i : Bool) : D.eqv (.bl i) (.str s) = false := by simp only [D.eqv, D.py, PyData.eqv]
@[simp] theorem eqv_nonint (i : Int) : D.eqv .non (.int i) = false := by simp only [D.eqv, D.py, PyData.eqv]
@[simp] theorem eqv_intnon (i : Int) : D.eqv (.int i) .non = false := by simp only [D.eqv, D.py, PyData.eqv]
@[simp] theorem eqv_nonstr (i : List Nat) : D.eqv .non (.str i) = false := by simp only [D.eqv, D.py, PyData.eqv]
@[simp] theorem eqv_strnon (i : List Nat) : D.eqv (.str i) .non = false := by simp only [D.eqv, D.py, PyData.eqv]
@[simp] theorem eqv_nonbl (i : Bool) : D.eqv .non (.bl i) = false := by simp only [D.eqv, D.py, PyData.eqv]
@[simp] theorem eqv_blnon (i : Bool) : D.eqv (.bl i) .non = false := by simp only [D.eqv, D.py, PyData.eqv]
@[simp] theorem eqv_tupstr (ds : List D) (s : List Nat) : D.eqv (.tup ds) (.str s) = false := by simp only [D.eqv, D.py, PyData.eqv]
@[simp] theorem eqv_strtup (ds : List D) (s : List Nat) : D.eqv (.str s) (.tup ds) = false := by simp only [D.eqv, D.py, PyData.eqv]
@[simp] theorem eqv_rolstr (ds : List D) (s : List Nat) : D.eqv (.rol ds) (.str s) = false := by simp only [D.eqv, D.py, PyData.eqv]
@[simp] theorem eqv_strrol (ds : List D) (s : List Nat) : D.eqv (.str s) (.rol ds) = false := by simp only [D.eqv, D.py, PyData.eqv]
@[simp] theorem eqv_rolint (ds : List D) (s : Int) : D.eqv (.rol ds) (.int s) = false := by simp only [D.eqv, D.py, PyData.eqv]
@[simp] theorem eqv_introl (ds : List D) (s : Int) : D.eqv (.int s) (.rol ds) = false := by simp only [D.eqv, D.py, PyData.eqv]
@[simp] theorem eqv_rolbl (ds : List D) (s : Bool) : D.eqv (.rol ds) (.bl s) = false := by simp only [D.eqv, D.py, PyData.eqv]
@[simp] theorem eqv_blrol (ds : List D) (s : Bool) : D.eqv (.bl s) (.rol ds) = false := by simp only [D.eqv, D.py, PyData.eqv]
@[simp] theorem eqv_rolnon (ds : List D) : D.eqv (.rol ds) .non = false := by simp only [D.eqv, D.py, PyData.eqv]
@[simp] theorem eqv_nonrol (ds : List D) : D.eqv .non (.rol ds) = false := by simp only [D.eqv, D.py, PyData.eqv]
@[simp] theorem eqv_tupint (ds : List D) (s : Int) : D.eqv (.tup ds) (.int s) = false := by simp only [D.eqv, D.py, PyData.eqv]
@[simp] theorem eqv_inttup (ds : List D) (s : Int) : D.eqv (.int s) (.tup ds) = false := by simp only [D.eqv, D.py, PyData.eqv]
@[simp] theorem eqv_tupbl (ds : List D) (s : Bool) : D.eqv (.tup ds) (.bl s) = false := by simp only [D.eqv, D.py, PyData.eqv]
@[simp] theorem eqv_bltup (ds : List D) (s : Bool) : D.eqv (.bl s) (.tup ds) = false := by simp only [D.eqv, D.py, PyData.eqv]
@[simp] theorem eqv_tupnon (ds : List D) : D.eqv (.tup ds) .non = false := by simp only [D.eqv, D.py, PyData.eqv]
@[simp] theorem eqv_nontup (ds : List D) : D.eqv .non (.tup ds) = false := by simp only [D.eqv, D.py, PyData.eqv]
@[simp] theorem eqv_tuprol (ds es : List D) : D.eqv (.tup ds) (.rol es) = false := by simp only [D.eqv, D.py, PyData.eqv]
@[simp] theorem eqv_roltup (ds es : List D) : D.eqv (.rol es) (.tup ds) = false := by simp only [D.eqv, D.py, PyData.eqv]
def eqvs (as bs : List D) : Bool := PyData.eqvAll (D.pys as) (D.pys bs)
@[simp] theorem eqvs_nil : eqvs [] [] = true := rfl
@[simp] theorem eqvs_cons (a b : D) (as bs : List D) : eqvs (a :: as) (b :: bs) = (D.eqv a b && eqvs as bs) := by simp only [eqvs, D.pys, PyData.eqvAll, D.eqv]
@[simp] theorem eqvs_nc (b : D) (bs : List D) : eqvs [] (b :: bs) = false := by simp only [eqvs, D.pys, PyData.eqvAll]
@[simp] theorem eqvs_cn (b : D) (bs : List D) : eqvs (b :: bs) [] = false := by simp only [eqvs, D.pys, PyData.eqvAll]
@[simp] theorem eqv_tup (as bs : List D) : D.eqv (.tup as) (.tup bs) = eqvs as bs := by simp only [eqvs, D.eqv, D.py, PyData.eqv]
@[simp] theorem eqv_rol (as bs : List D) : D.eqv (.rol as) (.rol bs) = eqvs as bs := by simp only [eqvs, D.eqv, D.py, PyData.eqv]
@[simp] theorem eqv_lst (as bs : List D) : D.eqv (.lst as) (.lst bs) = eqvs as bs := by simp only [eqvs, D.eqv, D.py, PyData.eqv]
/-- texts written out -/
theorem toNat_inj {a b : Char} (h : a.toNat = b.toNat) : a = b := by
  apply Char.ext
  exact UInt32.toNat_inj.mp h
@[simp] theorem lit_inj (s t : String) : (lit s = lit t) ↔ s = t := by
  constructor
  · intro h
    rw [lit_eq, lit_eq] at h
    have : s.toList = t.toList := by
      generalize s.toList = a at h ⊢
      generalize t.toList = b at h ⊢
      induction a generalizing b with
      | nil => cases b with
        | nil => rfl
        | cons y b => simp at h
      | cons x a ih => cases b with
        | nil => simp at h
        | cons y b =>
          simp only [List.map_cons, List.cons.injEq] at h
          rw [toNat_inj h.1, ih _ h.2]
    exact String.toList_inj.mp this
  · intro h; rw [h]
/-! ### isinstance -/
def isTup : D → Bool
  | .tup _ => true
  | _ => false
theorem w0_isTup {d : D} {Q : D → Prop} (h : (tyName d).isSome = true) (q : Q (.bl (isTup d))) : w0 (fIsi [d, .raw (.ty "tuple")]) Q := by
  refine w0_of ?_ q
  cases d <;> first | rfl | (exact nomatch h)
def isLstD : D → Bool
  | .lst _ => true
  | .rol _ => true
  | _ => false
theorem w0_isLstD {d : D} {Q : D → Prop} (h : (tyName d).isSome = true) (q : Q (.bl (isLstD d))) : w0 (fIsi [d, .raw (.ty "list")]) Q := by
  refine w0_of ?_ q
  cases d <;> first | rfl | (exact nomatch h)
def isBl : D → Bool
  | .bl _ => true
  | _ => false
theorem w0_isBl {d : D} {Q : D → Prop} (h : (tyName d).isSome = true) (q : Q (.bl (isBl d))) : w0 (fIsi [d, .raw (.ty "bool")]) Q := by
  refine w0_of ?_ q
  cases d <;> first | rfl | (exact nomatch h)
def isStr : D → Bool
  | .str _ => true
  | _ => false
theorem w0_isStr {d : D} {Q : D → Prop} (h : (tyName d).isSome = true) (q : Q (.bl (isStr d))) : w0 (fIsi [d, .raw (.ty "str")]) Q := by
  refine w0_of ?_ q
  cases d <;> first | rfl | (exact nomatch h)
def isInt : D → Bool
  | .int _ => true
  | .bl _ => true
  | _ => false
theorem w0_isInt {d : D} {Q : D → Prop} (h : (tyName d).isSome = true) (q : Q (.bl (isInt d))) : w0 (fIsi [d, .raw (.ty "int")]) Q := by
  refine w0_of ?_ q
  cases d <;> first | rfl | (exact nomatch h)
/-! ### plain trees: None, truth values, ints, texts, tuples of these -/
def pt : Nat → D → Bool
  | 0, d => match d with
    | .non => true
    | .bl _ => true
    | .int _ => true
    | .str _ => true
    | _ => false
  | n + 1, d => match d with
    | .non => true
    | .bl _ => true
    | .int _ => true
    | .str _ => true
    | .tup ds => decide (ds.length ≤ 1000) && ds.all (pt n)
    | _ => false
@[simp] theorem pt_non (n : Nat) : pt n .non = true := by cases n <;> rfl
@[simp] theorem pt_bl (n : Nat) (b : Bool) : pt n (.bl b) = true := by cases n <;> rfl
@[simp] theorem pt_int (n : Nat) (i : Int) : pt n (.int i) = true := by cases n <;> rfl
@[simp] theorem pt_str (n : Nat) (s : List Nat) : pt n (.str s) = true := by cases n <;> rfl
@[simp] theorem pt_tup (n : Nat) (ds : List D) : pt (n + 1) (.tup ds) = (decide (ds.length ≤ 1000) && ds.all (pt n)) := rfl
theorem pt_tup_iff {n : Nat} {ds : List D} : pt (n + 1) (.tup ds) = true ↔ ds.length ≤ 1000 ∧ ∀ x ∈ ds, pt n x = true := by
  rw [pt_tup, Bool.and_eq_true, decide_eq_true_iff, List.all_eq_true]
@[simp] theorem pt_tup0 (ds : List D) : pt 0 (.tup ds) = false := rfl
@[simp] theorem pt_lst (n : Nat) (ds : List D) : pt n (.lst ds) = false := by cases n <;> rfl
@[simp] theorem pt_rol (n : Nat) (ds : List D) : pt n (.rol ds) = false := by cases n <;> rfl
@[simp] theorem pt_dct (n : Nat) (ds : List (D × D)) : pt n (.dct ds) = false := by cases n <;> rfl
@[simp] theorem pt_rdc (n : Nat) (ds : List (D × D)) : pt n (.rdc ds) = false := by cases n <;> rfl
@[simp] theorem pt_ins (n : Nat) (c : Str) (ds : List (Str × D)) : pt n (.ins c ds) = false := by cases n <;> rfl
@[simp] theorem pt_raw (n : Nat) (v : V) : pt n (.raw v) = false := by cases n <;> rfl
theorem pt_up : ∀ {n m : Nat} {d : D}, pt n d = true → n ≤ m → pt m d = true
  | 0, m, d, h, _ => by cases d <;> simp_all
  | n + 1, 0, d, h, hl => by omega
  | n + 1, m + 1, d, h, hl => by
    cases d with
    | tup ds =>
      have h' := pt_tup_iff.mp h
      exact pt_tup_iff.mpr ⟨h'.1, fun x hx => pt_up (h'.2 x hx) (by omega)⟩
    | _ => simp_all
theorem pt_imm : ∀ {n : Nat} {d : D}, pt n d = true → imm d = true
  | 0, d, h => by cases d <;> simp_all [imm]
  | n + 1, d, h => by
    cases d with
    | tup ds =>
      simp only [imm, imms_all]
      exact List.all_eq_true.mpr fun x hx => pt_imm (n := n) ((pt_tup_iff.mp h).2 x hx)
    | _ => simp_all [imm]
theorem pt_sh : ∀ {n : Nat} {d : D}, pt n d = true → sh n d = true
  | 0, d, h => by cases d <;> simp_all
  | n + 1, d, h => by
    cases d with
    | tup ds => exact List.all_eq_true.mpr fun x hx => pt_sh (n := n) ((pt_tup_iff.mp h).2 x hx)
    | _ => simp_all
theorem sh_up : ∀ {n m : Nat} {d : D}, sh n d = true → n ≤ m → sh m d = true := fun {n m d} h hl => by
  obtain ⟨k, rfl⟩ := Nat.le.dest hl
  clear hl
  induction k with
  | zero => exact h
  | succ k ih => exact sh_mono ih
/-! ### digits -/
theorem lit_len (s : String) : (lit s).length = s.length := by rw [lit_eq, List.length_map, String.length_toList]
theorem lit_app (s t : String) : lit (s ++ t) = lit s ++ lit t := by rw [lit_eq, lit_eq, lit_eq, String.toList_append, List.map_append]
theorem toStr_nat (m : Nat) : toString (Int.ofNat m) = m.repr := rfl
theorem toStr_neg (m : Nat) : toString (Int.negSucc m) = "-" ++ (m + 1).repr := rfl
theorem toStr_len {n : Int} (h : n.natAbs < 10 ^ 20) : (lit (toString n)).length ≤ 21 := by
  rw [lit_len]
  cases n with
  | ofNat m =>
    rw [toStr_nat]
    have := (Nat.length_repr_le_iff (n := m) (k := 20) (by decide)).mpr h
    omega
  | negSucc m =>
    rw [toStr_neg, String.length_append]
    have := (Nat.length_repr_le_iff (n := m + 1) (k := 20) (by decide)).mpr h
    have : ("-" : String).length = 1 := rfl
    omega
theorem toStr_minus {n : Int} (h : n < 0) : lit "-" ++ lit (toString (-n)) = lit (toString n) := by
  cases n with
  | ofNat m => exact absurd h (by simp)
  | negSucc m => rw [toStr_neg, lit_app]; rfl
theorem w0_strI {n : Int} {Q : D → Prop} (h : -18446744073709551616 < n ∧ n < 18446744073709551616) (q : Q (.str (lit (toString n)))) : w0 (fStr [.int n]) Q :=
  w0_of (show (if big64 n = true then some (D.str (lit (toString n))) else none) = _ by rw [if_pos (big64_of h)]) q
theorem w0_eqD {a b : D} {Q : D → Prop} (h : sh 40 a = true) (h1 : sh 40 b = true) (q : Q (.bl (D.eqv a b))) : w0 (fEq a b) Q :=
  w0_of (show (if sh 40 a = true ∧ sh 40 b = true then some (D.bl (D.eqv a b)) else none) = _ by rw [if_pos ⟨h, h1⟩]) q
theorem w0_neD {a b : D} {Q : D → Prop} (h : sh 40 a = true) (h1 : sh 40 b = true) (q : Q (.bl (!D.eqv a b))) : w0 (fNe a b) Q :=
  w0_of (show (if sh 40 a = true ∧ sh 40 b = true then some (D.bl (!D.eqv a b)) else none) = _ by rw [if_pos ⟨h, h1⟩]) q
end Mir

namespace Mir
open PySem PySem.Spec L2
/-! ### the changed arguments -/
theorem w0_outs1 {d0 a : D} {e : E} {j : D} {Q : List D → Prop} (h : e[0]? = some (some j)) (hi : imm a = true) (q : Q [j, a]) : w0 (outsOf (fun i => i == 0) 0 [d0, a] e) Q := by
  refine w0_of ?_ q
  have h1 : ∀ e', outsOf (fun i => i == 0) 1 [a] e' = some [a] := fun e' => by
    show (if false = true then _ else if imm a = true then (outsOf (fun i => i == 0) 2 [] e').map (a :: ·) else none) = _
    rw [if_neg (by decide), if_pos hi]
    rfl
  show (if true = true then (match e[0]? with
    | some (some d') => (outsOf (fun i => i == 0) 1 [a] (e.set 0 none)).map (d' :: ·)
    | _ => none) else _) = _
  rw [if_pos rfl, h]
  simp only [h1, Option.map_some]
end Mir

namespace Mir
open PySem PySem.Spec L2

/-! ### errors of the program's own classes, without fields -/
abbrev veBase : List Value := [.type "ValueError", .type "Exception", .type "BaseException", .type "object"]
/-- what is known of such a class -/
structure ExcAt (K : PySem.W.Frag) (mg : Str → Option Value) (x : Str) : Prop where
  gm : mg x = some (.ref (He.ga K x))
  kp : PySem.W.keepIn K (.ref (He.ga K x)) = true
  ex : PySem.W.excIn K (He.ga K x) veBase "ValueError.__new__" = true
  sb : PySem.W.subIn K (.ref (He.ga K x)) (.type "BaseException") = some true
  ty : PySem.W.typeIn K (.ref (He.ga K x)) = some (.type "type")
  ec : ExcC K (He.ga K x)
/-- a class that is asked for -/
structure ClsAt (K : PySem.W.Frag) (mg : Str → Option Value) (t : Str) (c : Value) : Prop where
  at_ : (mg t = some c ∧ ∃ A, c = .ref A) ∨ (mg t = none ∧ ∃ n, c = .type n ∧ bootBuiltins t = some (.type n))
def mRaise (c : Str) : MS := fun e => .exc ⟨c, []⟩ e
section
variable {X : Cx} {W : WX} {Z : Zs}
theorem m_raise {x m : Str} {j : Nat} {p p2 p3 pos : Pos} (h : ExcAt X.K X.mg x) (hc : X.calm = true) (tk : Takes X W) (hg : Gl X x := by rfl) (hdb : (x == ("__debug__" : Str)) = false := by decide) :
    PS X (.Raise (some (.Call (.Name x p) [.Constant (.str m) j p2] [] p3)) none pos) (tM X.K W Z (mRaise x)) :=
  PS.mono (ps_raise hc tk (pmk_own PySem.F.excBase_ValueError h.ex h.gm h.kp (raises_own h.sb h.ty) hg hdb)) fun D σ H ⟨e, F, r, nd, q⟩ =>
    q _ none σ H F (Ev.refl r nd) (Fz.refl _ _) ⟨rfl, .inl ⟨rfl, rfl⟩⟩
end
/-! ### try .. except X as n -/
open Classical in
noncomputable def pick (f : Addr → SR) : SR := if h : ∃ r, ∀ a, f a = r then h.choose else .bad
theorem pick_eq {f : Addr → SR} {r : SR} (h : ∀ a, f a = r) : pick f = r := by
  unfold pick
  rw [dif_pos ⟨r, h⟩]
  exact ((Exists.choose_spec (p := fun r => ∀ a, f a = r) ⟨r, h⟩) 0).symm.trans (h 0)
def clr (i : Nat) : SR → SR
  | .nx e => .nx (e.set i none)
  | .rt d e => .rt d (e.set i none)
  | .bk e => .bk (e.set i none)
  | .ct e => .ct (e.set i none)
  | _ => .bad
noncomputable def mTryAs (cat : Str → Option Bool) (i : Nat) (b : MS) (s : Str → Addr → MS) : MS := fun e => match b e with
  | .exc x e1 => if x.fs = [] then (match cat x.cls with
      | some true => pick fun a => clr i (s x.cls a (e1.set i (some (.raw (.ref a)))))
      | some false => .exc x e1
      | none => .bad) else .bad
  | r => r
theorem RelS.setN {K : PySem.W.Frag} {H : Hp} {σ : L2.St} {e : E} {F : List Addr} (r : RelS K H σ e F) : ∀ (i : Nat) (y : Option V), e[i]? = some none ∨ e[i]? = none → RelS K H (σ.set i y) e F := by
  induction r with
  | nil => intro i y h; exact .nil
  | no r ih =>
    intro i y h
    cases i with
    | zero => exact .no r
    | succ i => exact .no (ih i y (by simpa using h))
  | so p r ih =>
    intro i y h
    cases i with
    | zero => simp at h
    | succ i => exact .so p (ih i y (by simpa using h))
theorem Ev.clear {K : PySem.W.Frag} {H H1 : Hp} {σ1 : L2.St} {e1 : E} {F F1 : List Addr} (x : Ev K F H σ1 H1 e1 F1) (i : Nat) : ∃ F2, Ev K F H (σ1.set i none) H1 (e1.set i none) F2 := by
  obtain ⟨F0, G, r0, pm⟩ := x.r.drop i
  have nd := pm.nodup_iff.mp x.nd
  have r1 := r0.setN i none (by
    by_cases z : i < e1.length
    · exact .inl (by simp [List.getElem?_set, z])
    · exact .inr (by simp; omega))
  exact ⟨F0, x.k, r1, (List.nodup_append.mp nd).2.1, fun a m => x.new a (pm.mem_iff.mpr (List.mem_append_right _ m))⟩
theorem Ev.clear1 {K : PySem.W.Frag} {H H1 : Hp} {σ1 : L2.St} {e1 : E} {v : V} {d : D} {F F1 : List Addr} (x : Ev K F H (some v :: σ1) H1 (some d :: e1) F1) (i : Nat) : ∃ F2, Ev K F H (some v :: σ1.set i none) H1 (some d :: e1.set i none) F2 := x.clear (i + 1)
section
variable {X : Cx} {W : WX} {Z : Zs}
theorem m_tryAs {x n : Str} {c : Value} {i : Nat} {body suite : List Stmt} {b₀ : Stmt} {np pos pos' : Pos} {cat : Str → Option Bool} {mb : MS} {ms : Str → Addr → MS}
    (hs : X.stack = X.env :: X.outer) (hf : X.env.frame = some X.env.locals) (hN : X.N.Nodup) (hc : Names X x c) (tk : Takes X W)
    (hcat : ∀ y b, cat y = some b → PySem.W.exmOne X.K (.ref (He.ga X.K y)) c = some b)
    (hb : ∀ (W : WX) (pn : List (Addr × Obj)) (xe : Value → Shared → Prop), Takes (X.tr pn xe) W → PassesOwn (model X.prog X.w) X.A X.env xe → PSs (X.tr pn xe) body (tM X.K W Z mb))
    (hsu : ∀ (a : Addr) (oe : Obj) (y : Str) (pn : List (Addr × Obj)), cat y = some true → Zc (.ref (He.ga X.K y)) none oe → (∃ vs, oe.data = .fields vs) → PSs (X.suite a ((a, oe) :: pn)) (b₀ :: suite) (tM X.K wF Z (ms y a)))
    (hz : Z i = false := by rfl) (hi : X.N[i]? = some n := by rfl) (hln : X.env.kindOf n = some .local := by rfl) :
    PS X (.Try body [.ExceptHandler (some (.Name x np)) (some n) (b₀ :: suite) pos'] [] [] pos) (tM X.K W Z (mTryAs cat i mb ms)) := by
  refine PS.mono (ps_try_as (i := i) (tb := fun W => tM X.K W Z mb) (ts := fun a cls d D σ H => ∃ y : Str, cat y = some true ∧ cls = .ref (He.ga X.K y) ∧ d = none ∧ tM X.K wF Z (ms y a) D σ H) hs hf hN hi hln hc tk hb (fun a oe cls d pn z1 z2 => ?_)) fun D σ H ⟨e, F, r, nd, h⟩ => ?_
  · refine ⟨fun pins s σ H D I ⟨y, e0, e1, e2, q⟩ => ?_⟩
    subst e1 e2
    exact (hsu a oe y pn e0 z1 z2).run pins s σ H D I q
  · refine ⟨e, F, r, nd, ?_⟩
    unfold mTryAs at h
    cases qb : mb e with
    | nx e1 => rw [qb] at h; exact h
    | rt d e1 => rw [qb] at h; exact h
    | bk e1 => rw [qb] at h; exact h
    | ct e1 => rw [qb] at h; exact h
    | bad => rw [qb] at h; exact h
    | exc y e1 =>
      rw [qb] at h
      simp only at h
      by_cases hy : y.fs = []
      · rw [if_pos hy] at h
        intro c' dx σ' H' F' ev fz rp
        have hd : dx = none := by
          rcases rp.fs with ⟨_, z⟩ | ⟨d, vs, z, _⟩
          · exact z
          · exact absurd hy z
        cases qc : cat y.cls with
        | none => rw [qc] at h; exact h.elim
        | some b =>
          rw [qc] at h
          refine ⟨b, by rw [rp.cls]; exact hcat _ _ qc, fun hb1 a ha => ⟨y.cls, by rw [qc, hb1], rp.cls, hd, ?_⟩, fun hb0 => ?_⟩
          · subst hb1
            simp only at h
            obtain ⟨F3, ev3⟩ := (ev.cons (v := .ref a) (d := .raw (.ref a)) (G := []) .raw (fun _ m => by cases m) .nil (fun _ m => by cases m)).put i
            have hl : σ'.length = σ.length := fz.1
            refine tM_next ev3 (fz.trans ⟨List.length_set, fun j m => List.getElem?_set_ne (fun z => by rw [z] at hz; rw [hz] at m; cases m)⟩) ?_
            by_cases hp : ∃ r, ∀ a, clr i (ms y.cls a (e1.set i (some (.raw (.ref a))))) = r
            · obtain ⟨r, hr⟩ := hp
              rw [pick_eq hr, ← hr a] at h
              have fzN : ∀ {σ' : L2.St}, Fz Z σ σ' → Fz Z σ (σ'.set i none) := fun z => z.trans ⟨List.length_set, fun j m => List.getElem?_set_ne (fun z => by rw [z] at hz; rw [hz] at m; cases m)⟩
              cases qs : ms y.cls a (e1.set i (some (.raw (.ref a)))) with
              | nx e2 => rw [qs] at h; exact fun σ2 H2 F2 x z => by obtain ⟨F4, x'⟩ := x.clear i; exact h _ _ _ x' (fzN z)
              | rt d e2 => rw [qs] at h; exact fun v σ2 H2 F2 x z => by obtain ⟨F4, x'⟩ := x.clear1 i; exact h _ _ _ _ x' (fzN z)
              | bk e2 => rw [qs] at h; exact fun σ2 H2 F2 x z => by obtain ⟨F4, x'⟩ := x.clear i; exact h _ _ _ x' (fzN z)
              | ct e2 => rw [qs] at h; exact fun σ2 H2 F2 x z => by obtain ⟨F4, x'⟩ := x.clear i; exact h _ _ _ x' (fzN z)
              | exc z e2 => rw [qs] at h; exact h.elim
              | bad => rw [qs] at h; exact h.elim
            · unfold pick at h
              rw [dif_neg hp] at h
              exact h.elim
          · subst hb0
            simp only at h
            exact h c' dx σ' H' F' ev fz rp
      · rw [if_neg hy] at h; exact h.elim
end
/-- isinstance(e, T), e the error that the suite holds -/
def isX (i : Nat) (a : Addr) (b : Option Bool) : MB := fun e => match e[i]?, b with
  | some (some (.raw (.ref a'))), some b => if a' = a then .ok (.bl b) else .bad
  | _, _ => .bad
theorem isX_B {K : PySem.W.Frag} {W : WX} {i : Nat} {a : Addr} {c : V} {cv : Value} {b : Option Bool} {D : Addr} (hcv : ∀ u, RelV c u → u = cv) (hk : ∀ k, b = some k → PySem.W.kitOne K (.ref D) cv = some k) {σ : L2.St} {H : Hp} {Q : VK}
    (h : tN K W (isX i a b) σ H Q) : tCB (rIsE K D a) (tCons (tVar i) (tCons (tC c) tNil)) σ H Q := by
  obtain ⟨e, F, r, h⟩ := h
  cases b with
  | none =>
    have q : isX i a none e = .bad := by unfold isX; split <;> first | rfl | (rename_i z; cases z)
    rw [q] at h; exact h.elim
  | some k =>
    by_cases he : e[i]? = some (some (.raw (.ref a)))
    · have q : isX i a (some k) e = .ok (.bl k) := by unfold isX; rw [he]; exact if_pos rfl
      rw [q] at h
      obtain ⟨v, G, h1, h2, _⟩ := r.get he
      cases h2
      exact ⟨_, h1, c, cv, k, rfl, hcv, hk k rfl, h _ _ [] (.refl _ _) .bl .nil (fun _ m => by cases m)⟩
    · have q : isX i a (some k) e = .bad := by
        unfold isX
        split
        · rename_i a' k' he' hb'
          rw [if_neg]
          intro z
          subst z
          exact he he'
        · rfl
      rw [q] at h; exact h.elim
section
variable {X : Cx} {W : WX} {a D : Addr} {oe : Obj} {pn : List (Addr × Obj)} {n t : Str} {p p1 p2 pos : Pos} {i : Nat} {b : Option Bool}
theorem x_isX {A : Addr} (C : ExcC X.K D) (hz : Zc (.ref D) none oe) (hf : ∃ vs, oe.data = .fields vs) (hmI : X.mg "isinstance" = none) (hm : X.mg t = some (.ref A)) (hk : ∀ k, b = some k → PySem.W.kitOne X.K (.ref D) (.ref A) = some k)
    (hgI : Gl (X.suite a ((a, oe) :: pn)) "isinstance" := by rfl) (hg : Gl (X.suite a ((a, oe) :: pn)) t := by rfl) (hN : (X.suite a ((a, oe) :: pn)).N[i]? = some n := by rfl) (hv : Vis (X.suite a ((a, oe) :: pn)).env.scope n := by first | exact Or.inl rfl | exact Or.inr (Or.inl rfl) | exact Or.inr (Or.inr rfl))
    (hd : (n == ("__debug__" : Str)) = false := by decide) (hdt : (t == ("__debug__" : Str)) = false := by decide) (hcd : (n == ("__classdict__" : Str)) = false := by decide) :
    PE (X.suite a ((a, oe) :: pn)) (.Call (.Name "isinstance" p) [.Name n p1, .Name t p2] [] pos) (tN X.K W (isX i a b)) :=
  PE.mono (pe_callB (call_isE C hz hf) hgI hmI bb_isinstance (pa_cons (pv i hN hv hd hcd) (pa_cons (pe_glob (v := .ref A) hg hm rfl hdt) pa_nil)) (by decide) (by decide) (by rfl) (by rfl)) fun _ _ _ => isX_B (c := .ref A) (cv := .ref A) (fun u r => r) hk
theorem x_isXb {m : String} (C : ExcC X.K D) (hz : Zc (.ref D) none oe) (hf : ∃ vs, oe.data = .fields vs) (hmI : X.mg "isinstance" = none) (hm : X.mg t = none) (hb : bootBuiltins t = some (.type m)) (hk : ∀ k, b = some k → PySem.W.kitOne X.K (.ref D) (.type m) = some k)
    (hgI : Gl (X.suite a ((a, oe) :: pn)) "isinstance" := by rfl) (hg : Gl (X.suite a ((a, oe) :: pn)) t := by rfl) (hN : (X.suite a ((a, oe) :: pn)).N[i]? = some n := by rfl) (hv : Vis (X.suite a ((a, oe) :: pn)).env.scope n := by first | exact Or.inl rfl | exact Or.inr (Or.inl rfl) | exact Or.inr (Or.inr rfl))
    (hd : (n == ("__debug__" : Str)) = false := by decide) (hdt : (t == ("__debug__" : Str)) = false := by decide) (hcd : (n == ("__classdict__" : Str)) = false := by decide) (hnn : t ≠ "__name__" := by decide) :
    PE (X.suite a ((a, oe) :: pn)) (.Call (.Name "isinstance" p) [.Name n p1, .Name t p2] [] pos) (tN X.K W (isX i a b)) :=
  PE.mono (pe_callB (call_isE C hz hf) hgI hmI bb_isinstance (pa_cons (pv i hN hv hd hcd) (pa_cons (pe_bltn (v := .ty m) hg hm hb rfl hnn hdt) pa_nil)) (by decide) (by decide) (by rfl) (by rfl)) fun _ _ _ => isX_B (c := .ty m) (cv := .type m) (fun u r => r) hk
end
end Mir

namespace Mir
open PySem PySem.Spec L2

/-! ### dicts whose keys are texts or numbers; their values can't change -/
def keyEq : D → D → Bool
  | .int i, .int j => decide (i = j)
  | .str s, .str t => decide (s = t)
  | _, _ => false
def isKey : D → Bool
  | .int _ => true
  | .str _ => true
  | _ => false
def dgetD (ds : List (D × D)) (k : D) : Option D := (ds.find? fun p => keyEq p.1 k).map (·.2)
theorem str_eq {x y : Str} (h : x.cps.toList = y.cps.toList) : x = y := by
  cases x; cases y
  simpa using h
theorem keyEq_kD (a b : Key) : keyEq (kD a) (kD b) = decide (a = b) := by
  cases a <;> cases b
  · simp [kD, keyEq]
  · simp [kD, keyEq]
  · simp [kD, keyEq]
  · rename_i x y
    simp only [kD, keyEq]
    by_cases z : x = y
    · subst z; simp
    · rw [decide_eq_false (fun w => z (str_eq w)), decide_eq_false (fun w => z (Sum.inr.inj w))]
theorem dget_ok {K : PySem.W.Frag} {H : Hp} (key : Key) : ∀ {kvs : List (Key × V)} {ds : List (D × D)}, kvs.map (fun p => kD p.1) = ds.map (·.1) → Rps K H (kvs.map (·.2)) (ds.map (·.2)) [] →
    (∃ v d, valV kvs key = some v ∧ dgetD ds (kD key) = some d ∧ Rp K H v d []) ∨ (valV kvs key = none ∧ dgetD ds (kD key) = none)
  | [], [], _, _ => .inr ⟨rfl, rfl⟩
  | [], _ :: _, h, _ => by simp at h
  | _ :: _, [], h, _ => by simp at h
  | kv :: kvs, d :: ds, h, r => by
    simp only [List.map_cons, List.cons.injEq] at h r
    generalize hF : ([] : List Addr) = F at r
    cases r with
    | cons p r =>
      obtain ⟨e1, e2⟩ := List.append_eq_nil_iff.mp hF.symm
      subst e1 e2
      by_cases z : kv.1 = key
      · refine .inl ⟨kv.2, d.2, valV_pos z, ?_, p⟩
        unfold dgetD
        rw [List.find?_cons, ← h.1, z, keyEq_kD, decide_eq_true rfl] <;> rfl
      · have e : dgetD (d :: ds) (kD key) = dgetD ds (kD key) := by
          unfold dgetD
          rw [List.find?_cons, ← h.1, keyEq_kD, decide_eq_false z]
        rw [valV_neg z, e]
        exact dget_ok key h.2 r
def fDIn : D → D → Option D
  | k, .dct ds => if isKey k = true then some (.bl (dgetD ds k).isSome) else none
  | k, .rdc ds => if isKey k = true then some (.bl (dgetD ds k).isSome) else none
  | _, _ => none
def fDNotIn : D → D → Option D
  | k, .dct ds => if isKey k = true then some (.bl (!(dgetD ds k).isSome)) else none
  | k, .rdc ds => if isKey k = true then some (.bl (!(dgetD ds k).isSome)) else none
  | _, _ => none
def fDGet : D → D → Option D
  | .dct ds, k => if isKey k = true then dgetD ds k else none
  | .rdc ds, k => if isKey k = true then dgetD ds k else none
  | _, _ => none
theorem key_of {K : PySem.W.Frag} {H : Hp} {v : V} {k : D} {G : List Addr} (p : Rp K H v k G) (h : isKey k = true) : ∃ key : Key, v = kV key ∧ k = kD key := by
  cases p with
  | int => exact ⟨.inl _, rfl, rfl⟩
  | str h => exact ⟨.inr _, rfl, rfl⟩
  | _ => simp [isKey] at h
theorem DGet.rk {H : Hp} {a : Addr} {kvs : List (Key × V)} {k : Key} (e : ∃ o, H a = some (.frz o (.dK kvs))) : DGet H a (kV k) (valV kvs k) := .inl ⟨kvs, k, .inr e, rfl, rfl⟩
abbrev rDIn : R2 := fun y x H Q => ∃ a o, x = .ref a ∧ DGet H a y o ∧ Q (.bl o.isSome) H
abbrev rDNotIn : R2 := fun y x H Q => ∃ a o, x = .ref a ∧ DGet H a y o ∧ Q (.bl (!o.isSome)) H
abbrev rDGet : R2 := fun x y H Q => ∃ a v, x = .ref a ∧ DGet H a y (some v) ∧ Q v H
theorem n_din {K : PySem.W.Frag} : OpN K rDIn fDIn := by
  intro H v1 v2 d1 d2 G1 G2 d Q p1 p2 e h
  unfold fDIn at e
  split at e
  · split at e
    · rename_i hk
      cases e
      cases p2 with
      | dct ha hc hr =>
        obtain ⟨key, ev, ek⟩ := key_of p1 hk
        subst ev ek
        refine ⟨_, _, rfl, DGet.k ha, ?_⟩
        rcases dget_ok key hc hr with ⟨v, d, e1, e2, p⟩ | ⟨e1, e2⟩
        · rw [e1]; rw [e2] at h; exact h _ _ [] (.refl _ _) .bl .nil fun _ m => by cases m
        · rw [e1]; rw [e2] at h; exact h _ _ [] (.refl _ _) .bl .nil fun _ m => by cases m
    · cases e
  · split at e
    · rename_i hk
      cases e
      cases p2 with
      | rdc ha hc hr =>
        obtain ⟨key, ev, ek⟩ := key_of p1 hk
        subst ev ek
        refine ⟨_, _, rfl, DGet.rk ha, ?_⟩
        rcases dget_ok key hc hr with ⟨v, d, e1, e2, p⟩ | ⟨e1, e2⟩
        · rw [e1]; rw [e2] at h; exact h _ _ [] (.refl _ _) .bl .nil fun _ m => by cases m
        · rw [e1]; rw [e2] at h; exact h _ _ [] (.refl _ _) .bl .nil fun _ m => by cases m
    · cases e
  · cases e
theorem n_dnotin {K : PySem.W.Frag} : OpN K rDNotIn fDNotIn := by
  intro H v1 v2 d1 d2 G1 G2 d Q p1 p2 e h
  unfold fDNotIn at e
  split at e
  · split at e
    · rename_i hk
      cases e
      cases p2 with
      | dct ha hc hr =>
        obtain ⟨key, ev, ek⟩ := key_of p1 hk
        subst ev ek
        refine ⟨_, _, rfl, DGet.k ha, ?_⟩
        rcases dget_ok key hc hr with ⟨v, d, e1, e2, p⟩ | ⟨e1, e2⟩
        · rw [e1]; rw [e2] at h; exact h _ _ [] (.refl _ _) .bl .nil fun _ m => by cases m
        · rw [e1]; rw [e2] at h; exact h _ _ [] (.refl _ _) .bl .nil fun _ m => by cases m
    · cases e
  · split at e
    · rename_i hk
      cases e
      cases p2 with
      | rdc ha hc hr =>
        obtain ⟨key, ev, ek⟩ := key_of p1 hk
        subst ev ek
        refine ⟨_, _, rfl, DGet.rk ha, ?_⟩
        rcases dget_ok key hc hr with ⟨v, d, e1, e2, p⟩ | ⟨e1, e2⟩
        · rw [e1]; rw [e2] at h; exact h _ _ [] (.refl _ _) .bl .nil fun _ m => by cases m
        · rw [e1]; rw [e2] at h; exact h _ _ [] (.refl _ _) .bl .nil fun _ m => by cases m
    · cases e
  · cases e
theorem n_dget {K : PySem.W.Frag} : OpN K rDGet fDGet := by
  intro H v1 v2 d1 d2 G1 G2 d Q p1 p2 e h
  unfold fDGet at e
  split at e
  · split at e
    · rename_i hk
      cases p1 with
      | dct ha hc hr =>
        obtain ⟨key, ev, ek⟩ := key_of p2 hk
        subst ev ek
        rcases dget_ok key hc hr with ⟨v, d', e1, e2, p⟩ | ⟨e1, e2⟩
        · rw [e2] at e; cases e
          exact ⟨_, v, rfl, by rw [← e1]; exact DGet.k ha, h _ _ [] (.refl _ _) p .nil fun _ m => by cases m⟩
        · rw [e2] at e; cases e
    · cases e
  · split at e
    · rename_i hk
      cases p1 with
      | rdc ha hc hr =>
        obtain ⟨key, ev, ek⟩ := key_of p2 hk
        subst ev ek
        rcases dget_ok key hc hr with ⟨v, d', e1, e2, p⟩ | ⟨e1, e2⟩
        · rw [e2] at e; cases e
          exact ⟨_, v, rfl, by rw [← e1]; exact DGet.rk ha, h _ _ [] (.refl _ _) p .nil fun _ m => by cases m⟩
        · rw [e2] at e; cases e
    · cases e
  · cases e
section
variable {X : Cx} {W : WX} {a b : Expr} {ma mb : MB} {pos : Pos}
theorem x_din (hu : X.A.units + 1 < cLine) (pa : PE X a (tB X.K W ma)) (pb : PE X b (tB X.K W mb)) (h1 : behindInMarks .In b = false := by rfl) :
    PE X (.Compare a [.In] [b] pos) (tN X.K W (bin fDIn ma mb)) := PE.mono (pe_cmp (pc_din hu pa pb) h1) fun _ _ _ h => op_bb n_din h
theorem x_dnotin (hu : X.A.units + 1 < cLine) (pa : PE X a (tB X.K W ma)) (pb : PE X b (tB X.K W mb)) (h1 : behindInMarks .NotIn b = false := by rfl) :
    PE X (.Compare a [.NotIn] [b] pos) (tN X.K W (bin fDNotIn ma mb)) := PE.mono (pe_cmp (pc_dnotin hu pa pb) h1) fun _ _ _ h => op_bb n_dnotin h
theorem t_din (hu : X.A.units + 1 < cLine) (pa : PE X a (tB X.K W ma)) (pb : PE X b (tB X.K W mb)) (h1 : behindInMarks .In b = false := by rfl) :
    PT X (.Compare a [.In] [b] pos) (tT X.K W (tst (ofN (bin fDIn ma mb)))) := PT.mono (pt_cmp (pc_din hu pa pb) h1) fun _ _ _ h => op_bb n_din (ofN_N (tst_of h))
theorem t_dnotin (hu : X.A.units + 1 < cLine) (pa : PE X a (tB X.K W ma)) (pb : PE X b (tB X.K W mb)) (h1 : behindInMarks .NotIn b = false := by rfl) :
    PT X (.Compare a [.NotIn] [b] pos) (tT X.K W (tst (ofN (bin fDNotIn ma mb)))) := PT.mono (pt_cmp (pc_dnotin hu pa pb) h1) fun _ _ _ h => op_bb n_dnotin (ofN_N (tst_of h))
theorem x_dget (hu : X.A.units + 1 < cLine) (pa : PE X a (tB X.K W ma)) (pb : PE X b (tB X.K W mb)) (hs : NoSl b := by exact fun _ _ => rfl) :
    PE X (.Subscript a b pos) (tN X.K W (bin fDGet ma mb)) := PE.mono (pe_dget hu pa pb hs) fun _ _ _ h => op_bb n_dget h
end
/-! a written dict -/
theorem merge_nd : ∀ (more kvs : List (Key × V)), ((kvs ++ more).map (·.1)).Nodup → mergeK kvs more = kvs ++ more
  | [], kvs, _ => by simp [mergeK]
  | p :: r, kvs, h => by
    have e : putK kvs p.1 p.2 = kvs ++ [p] := by
      unfold putK
      rw [if_neg]
      intro z
      obtain ⟨q, hq, e⟩ := List.any_eq_true.mp z
      have e := of_decide_eq_true e
      rw [List.map_append, List.map_cons] at h
      exact (List.nodup_append.mp h).2.2 q.1 (List.mem_map.mpr ⟨q, hq, rfl⟩) p.1 List.mem_cons_self e
    show mergeK (putK kvs p.1 p.2) r = _
    rw [e, merge_nd r (kvs ++ [p]) (by simpa using h), List.append_assoc] <;> rfl
def mDisp (ds : List (D × D)) : MB := fun _ => .ok (.dct ds)
theorem x_disp {X : Cx} {W : WX} {pos : Pos} {keys : List (Option Expr)} {values : List Expr} {trs : List (TE × TE)} {kvs : List (Key × V)} {ds : List (D × D)} (q : PE X (.Dict keys values pos) (tDisp trs))
    (ht : ∀ σ H Q, Q (kvs.map fun kv => (kV kv.1, kv.2)) H → tPairs trs σ H Q) (nd : (kvs.map (·.1)).Nodup) (hl : kvs.length ≤ 15) (hk : kvs.map (fun p => kD p.1) = ds.map (·.1)) (hv : ∀ H, Rps X.K H (kvs.map (·.2)) (ds.map (·.2)) []) :
    PE X (.Dict keys values pos) (tN X.K W (mDisp ds)) := PE.mono q fun σ H Q ⟨e, F, r, h⟩ => by
  intro p hp
  refine ht _ _ _ ⟨upd_same, kvs, rfl, hl, ?_⟩
  have e1 : mergeK [] kvs = kvs := merge_nd kvs [] (by simpa using nd)
  rw [e1]
  refine h _ _ [p] (fun a o ha _ => ?_) (.dct upd_same hk (hv _)) (by simp) (fun a m => by rw [List.mem_singleton.mp m]; exact hp)
  have : a ≠ p := fun z => by subst z; rw [hp] at ha; cases ha
  rw [upd_ne this, upd_ne this]; exact ha
/-! ### methods of a text with one text -/
def smB (f : D → D → Option D) (ma mb : MB) : MB := fun e => (ma e).bind fun a => match mb e with
  | .ok b => .of (f a b)
  | _ => .bad
theorem op_m1 {K : PySem.W.Frag} {W : WX} {r : V → List V → Hp → VK → Prop} {f : D → D → Option D} {ma mb : MB} {σ : L2.St} {H : Hp} {Q : VK} (o : OpN K (fun x y H Q => (∃ a, x = .str a) ∧ r x [y] H Q) f)
    (hs : ∀ a b d, f a b = some d → ∃ s, a = .str s) (h : tN K W (smB f ma mb) σ H Q) : tM1 r (tB K W ma) (tB K W mb) σ H Q := by
  obtain ⟨e, F, rl, h⟩ := h
  unfold smB at h
  refine ⟨e, F, rl, ?_⟩
  cases qa : ma e with
  | bad => rw [qa] at h; exact h
  | exc y => rw [qa] at h; exact h
  | ok a =>
    rw [qa] at h
    intro v1 H1 G1 k1 p1
    simp only [Rs.bind] at h
    cases qb : mb e with
    | bad => rw [qb] at h; exact h.elim
    | exc y => rw [qb] at h; exact h.elim
    | ok b =>
      rw [qb] at h
      simp only at h
      cases qf : f a b with
      | none => rw [qf] at h; exact h.elim
      | some d =>
        rw [qf] at h
        obtain ⟨s, rfl⟩ := hs _ _ _ qf
        cases p1 with
        | str hx =>
        refine ⟨⟨_, rfl⟩, e, F, rl.same k1, ?_⟩
        rw [qb]
        intro v2 H2 G2 k2 p2
        have k12 : Keeps [] H H2 := k1.trans k2 fun _ m => by cases m
        exact (o (.str hx) p2 qf fun v H' G k p n1 n2 => h v H' G (k12.trans k fun _ m => by cases m) p n1 fun z m => k12.none (n2 z m) fun m => by cases m).2
def sOf (s : List Nat) : Str := ⟨s.toArray⟩
theorem sOf_cps {x : Str} : sOf x.cps.toList = x := by cases x; simp [sOf]
def fStartswith : D → D → Option D
  | .str s, .str t => some (.bl (Txt.startswith (sOf s) (sOf t)))
  | _, _ => none
def fIndex : D → D → Option D
  | .str s, .str t => match Builtin.Str.occurrences (sOf s) (sOf t) 0 (sOf s).length 1 with
    | i :: _ => some (.int (i : Nat))
    | [] => none
  | _, _ => none
theorem n_startswith {K : PySem.W.Frag} : OpN K (fun x y H Q => (∃ a, x = .str a) ∧ (∃ a b, x = .str a ∧ [y] = [V.str b] ∧ Q (.bl (Txt.startswith a b)) H)) fStartswith := by
  intro H v1 v2 d1 d2 G1 G2 d Q p1 p2 e h
  unfold fStartswith at e
  split at e
  · cases e
    cases p1; cases p2
    rw [sOf_cps, sOf_cps] at h
    exact ⟨⟨_, rfl⟩, _, _, rfl, rfl, h _ _ [] (.refl _ _) .bl .nil fun _ m => by cases m⟩
  · cases e
theorem n_index {K : PySem.W.Frag} : OpN K (fun x y H Q => (∃ a, x = .str a) ∧ (∃ a b i rest, x = .str a ∧ [y] = [V.str b] ∧ Builtin.Str.occurrences a b 0 a.length 1 = i :: rest ∧ Q (.int (i : Nat)) H)) fIndex := by
  intro H v1 v2 d1 d2 G1 G2 d Q p1 p2 e h
  unfold fIndex at e
  split at e
  · cases p1; cases p2
    rw [sOf_cps, sOf_cps] at e
    split at e
    · rename_i i rest ho
      cases e
      exact ⟨⟨_, rfl⟩, _, _, i, rest, rfl, rfl, ho, h _ _ [] (.refl _ _) .int .nil fun _ m => by cases m⟩
    · cases e
  · cases e
section
variable {X : Cx} {W : WX} {a b : Expr} {ma mb : MB} {apos pos : Pos}
theorem xs_startswith (pa : PE X a (tB X.K W ma)) (pb : PE X b (tB X.K W mb)) (hs : starEach [b] X.env = [(false, eval b X.env)] := by rfl) (hbase : attributeBase a "startswith" X.env (eval a X.env) = eval a X.env := by rfl) (hline : (apos.endLine == pos.line) = true := by rfl) :
    PE X (.Call (.Attribute a "startswith" apos) [b] [] pos) (tN X.K W (smB fStartswith ma mb)) :=
  PE.mono (pe_m1 PySem.F.slot_str_startswith PySem.F.type_str_startswith mt_startswith pa pb hs hbase hline) fun _ _ _ h => op_m1 n_startswith (fun a b d e => by unfold fStartswith at e; split at e; exact ⟨_, rfl⟩; cases e) h
theorem xs_index (pa : PE X a (tB X.K W ma)) (pb : PE X b (tB X.K W mb)) (hs : starEach [b] X.env = [(false, eval b X.env)] := by rfl) (hbase : attributeBase a "index" X.env (eval a X.env) = eval a X.env := by rfl) (hline : (apos.endLine == pos.line) = true := by rfl) :
    PE X (.Call (.Attribute a "index" apos) [b] [] pos) (tN X.K W (smB fIndex ma mb)) :=
  PE.mono (pe_m1 PySem.F.slot_str_index PySem.F.type_str_index mt_sindex pa pb hs hbase hline) fun _ _ _ h => op_m1 n_index (fun a b d e => by unfold fIndex at e; split at e; exact ⟨_, rfl⟩; cases e) h
end
/-! ### what comes out of these -/
section
variable {e : E} {Q : D → Prop} {ma mb : MB} {f : D → D → Option D} {N B C : E → Prop} {R : D → E → Prop}
theorem w1_sm (h : w1 (ma e) fun a => w1 (mb e) fun b => w0 (f a b) Q) : w1 (smB f ma mb e) Q := by
  refine w1_bind (w1_mono h fun a h => ?_)
  generalize mb e = r at h ⊢
  cases h with
  | mk h => exact w1_of h
theorem w1_disp {ds : List (D × D)} (q : Q (.dct ds)) : w1 (mDisp ds e) Q := .mk q
theorem w1_defX {k : Nat} {mb : MS} {ds : List D} {Q : D → Prop} (hi : imms ds = true) (h : wS (mb (ds.map some ++ List.replicate k none)) (fun _ => Q .non) (fun d _ => Q d) (fun _ => False) (fun _ => False)) : w1 (mDef k mb ds) Q := by
  unfold mDef
  rw [if_pos hi]
  generalize mb (ds.map some ++ List.replicate k none) = r at h ⊢
  cases h with
  | nx h => exact .mk h
  | rt h => exact .mk h
  | bk h => exact h.elim
  | ct h => exact h.elim
end

theorem w1_isX {i : Nat} {a : Addr} {b : Option Bool} {k : Bool} {e : E} {Q : D → Prop} (h : e[i]? = some (some (.raw (.ref a)))) (hb : b = some k) (q : Q (.bl k)) : w1 (isX i a b e) Q := by
  subst hb
  have : isX i a (some k) e = .ok (.bl k) := by unfold isX; rw [h]; exact if_pos rfl
  rw [this]; exact .mk q
section
variable {e e1 : E} {N B C : E → Prop} {R : D → E → Prop} {cat : Str → Option Bool} {i : Nat} {b : MS} {s : Str → Addr → MS}
/-- nothing is raised -/
theorem wS_tryN (h : wS (b e) N R B C) : wS (mTryAs cat i b s e) N R B C := by
  unfold mTryAs
  generalize b e = r at h ⊢
  cases h with
  | nx h => exact .nx h
  | rt h => exact .rt h
  | bk h => exact .bk h
  | ct h => exact .ct h
/-- an error is caught -/
theorem wS_tryX {c : Str} {r : SR} (h : b e = .exc ⟨c, []⟩ e1) (hc : cat c = some true) (hr : ∀ a, clr i (s c a (e1.set i (some (.raw (.ref a))))) = r) (q : wS r N R B C) : wS (mTryAs cat i b s e) N R B C := by
  unfold mTryAs
  rw [h]
  simp only [if_true, hc]
  rw [pick_eq hr]
  exact q
end
/-! ### the facts of the classes -/
theorem takes_no {X : Cx} : Takes X wF := fun _ _ ⟨_, _, _, _, _, _, _, _, _, _, _, _, _, _, _, _, w⟩ => w.elim
theorem ga_of {K : PySem.W.Frag} {x : Str} {a : Addr} (h : PySem.W.nsIn K mainGlobals x = some (some (.ref a))) : He.ga K x = a := by
  unfold He.ga
  rw [h]
theorem bb_ValueError : bootBuiltins "ValueError" = some (.type "ValueError") := by decide +kernel
theorem kit_ref {K : PySem.W.Frag} {D A : Addr} {b : Bool} (hd : PySem.W.hasDictIn K A = true) (ht : PySem.W.typeIn K (.ref A) = some (.type "type")) (h : PySem.W.subIn K (.ref D) (.ref A) = some b) (hs : PySem.W.subIn K (.ref D) (.ref D) = some true) : PySem.W.kitOne K (.ref D) (.ref A) = some b := by
  obtain ⟨cd, hc, _⟩ := PySem.W.any_some hd
  unfold PySem.W.kitOne
  by_cases z : D = A
  · subst z
    rw [hs] at h; cases h
    rw [if_pos (by simp)]
  · rw [if_neg (by simpa using z)]
    show (if ((PySem.W.clsIn K A).isSome && PySem.W.typeIn K (.ref A) == some (.type "type")) = true then PySem.W.subIn K (.ref D) (.ref A) else none) = _
    rw [if_pos (by rw [hc, ht] <;> rfl)]
    exact h
theorem kit_val {K : PySem.W.Frag} {D : Addr} {b : Bool} (h : PySem.W.subIn K (.ref D) (.type "ValueError") = some b) : PySem.W.kitOne K (.ref D) (.type "ValueError") = some b := by
  unfold PySem.W.kitOne
  rw [if_neg (by simp)]
  show (if PySem.W.kitMeta "ValueError" = true then PySem.W.subIn K (.ref D) (.type "ValueError") else none) = _
  rw [if_pos (by decide +kernel)]
  exact h

section
open TL
theorem w0_augS {s t : List Nat} {Q : D → Prop} (h : s.length + t.length ≤ 16777216) (q : Q (.str (s ++ t))) : w0 (fAug (.str s) (.str t)) Q := w0_of (by
  show (if _ then _ else _) = _
  rw [if_pos (fits_of h)]) q
theorem tl_sOf (s : List Nat) : tl (sOf s) = s := by show (sOf s).cps.toList = s; simp [sOf]
theorem len_sOf (s : List Nat) : (sOf s).length = s.length := by rw [len_tl, tl_sOf]
theorem pre_eq (g s : List Nat) : pre g s = g.isPrefixOf s := by
  have : pre g s = (s.take g.length == g) := rfl
  rw [this]
  by_cases h : g.isPrefixOf s = true
  · rw [h]
    obtain ⟨r, rfl⟩ := List.isPrefixOf_iff_prefix.mp h
    simp
  · rw [Bool.eq_false_iff.mpr h]
    refine beq_eq_false_iff_ne.mpr fun z => h ?_
    rw [List.isPrefixOf_iff_prefix]
    have e := List.take_append_drop g.length s
    rw [z] at e
    exact ⟨_, e⟩
theorem starts_eq {s g : List Nat} (hg : g ≠ []) : Txt.startswith (sOf s) (sOf g) = g.isPrefixOf s := by
  have h := at_iff (x := sOf s) (y := sOf g) (by rw [tl_sOf]; exact hg) 0
  rw [tl_sOf, tl_sOf, List.drop_zero, pre_eq] at h
  unfold Txt.startswith
  cases q : g.isPrefixOf s with
  | true =>
    rw [q] at h
    have := h.mpr rfl
    rw [Bool.and_eq_true, decide_eq_true_iff]
    exact ⟨this.1, this.2⟩
  | false =>
    rw [q] at h
    refine Bool.eq_false_iff.mpr fun z => ?_
    rw [Bool.and_eq_true, decide_eq_true_iff] at z
    exact absurd (h.mp ⟨z.1, z.2⟩) (by decide)
theorem w0_starts {s g : List Nat} {Q : D → Prop} (hg : g ≠ []) (q : Q (.bl (g.isPrefixOf s))) : w0 (fStartswith (.str s) (.str g)) Q := w0_of (by
  show some (D.bl (Txt.startswith (sOf s) (sOf g))) = _
  rw [starts_eq hg]) q
end
end Mir

namespace Mir
open PySem PySem.Spec L2
/-! ### int of a text of digits -/
def alldg (s : List Nat) : Bool := s.all fun c => decide (48 ≤ c ∧ c ≤ 57)
def iOf (s : List Nat) : Int := (PySem.NumText.digitsVal s : Nat)
theorem int_digits {s : List Nat} (h : alldg s = true) (h1 : s ≠ []) (h2 : s.length ≤ 640) : PySem.intText? (sOf s) = some (iOf s) := by
  have := PySem.intText_digits (x := sOf s) (by
    show PySem.NumText.AllDigits (sOf s).cps.toList
    rw [show (sOf s).cps.toList = s by simp [sOf]]
    intro c hc
    exact of_decide_eq_true (List.all_eq_true.mp h c hc)) (by rw [show (sOf s).cps.toList = s by simp [sOf]]; exact h1) (by rw [len_sOf]; omega)
  rw [this, show (sOf s).cps.toList = s by simp [sOf]]
  rfl
theorem w0_intS {s : List Nat} {Q : D → Prop} (h : alldg s = true) (h1 : s ≠ []) (h2 : s.length ≤ 640) (q : Q (.int (iOf s))) : w0 (fInt [.str s]) Q := by
  refine w0_of ?_ q
  show (if s.length ≤ 640 then (PySem.intText? (sOf s)).map D.int else none) = _
  rw [if_pos h2, int_digits h h1 h2]
  rfl
theorem iOf_str {n : Nat} (h : n < 10 ^ 10) (hd : alldg (lit (toString (n : Int))) = true) (hn : lit (toString (n : Int)) ≠ []) (hl : (lit (toString (n : Int))).length ≤ 640) : iOf (lit (toString (n : Int))) = n := by
  have h1 := int_digits hd hn hl
  have h2 := PySem.W.KIN.num_reads (n := (n : Int)) (by omega) (by exact_mod_cast h)
  have e : sOf (lit (toString (n : Int))) = PySem.Str.ofString (toString (n : Int)) := sOf_cps
  rw [e, h2] at h1
  exact (Option.some.inj h1).symm
end Mir

namespace Mir
open PySem PySem.Spec L2
/-! ### split, rstrip -/
def fSplit : D → D → Option D
  | .str s, .str t => if t ≠ [] ∧ t.all (· < 256) = true ∧ s.length ≤ 1000000 then some (.lst ((TL.spl t 0 [] s).map .str)) else none
  | _, _ => none
def fRstrip : D → D → Option D
  | .str s, .str t => if s.length ≤ 1000000 then some (.str (Txt.rstripChars (sOf s) (sOf t)).cps.toList) else none
  | _, _ => none
theorem okL_of {l : List Nat} (h : ∀ c ∈ l, c < 0x110000) : (sOf l).cps.all (· < 0x110000) = true := by
  rw [← Array.all_toList]
  exact List.all_eq_true.mpr fun c hc => decide_eq_true (h c (by simpa [sOf] using hc))
theorem okL_mem {x : Str} (h : x.cps.all (· < 0x110000) = true) : ∀ c ∈ x.cps.toList, c < 0x110000 := by
  rw [← Array.all_toList] at h
  exact fun c hc => of_decide_eq_true (List.all_eq_true.mp h c hc)
theorem spl_sub (S : List Nat) : ∀ (l : List Nat) (k : Nat) (acc : List Nat), ∀ w ∈ TL.spl S k acc l, ∀ c ∈ w, c ∈ acc ∨ c ∈ l
  | [], k, acc, w, hw, c, hc => by
    rw [TL.spl_nil, List.mem_singleton] at hw
    subst hw; exact .inl hc
  | a :: l, 0, acc, w, hw, c, hc => by
    rw [TL.spl] at hw
    split at hw
    · rcases List.mem_cons.mp hw with rfl | hw
      · exact .inl hc
      · rcases spl_sub S l _ [] w hw c hc with z | z
        · cases z
        · exact .inr (List.mem_cons_of_mem _ z)
    · rcases spl_sub S l 0 (acc ++ [a]) w hw c hc with z | z
      · rcases List.mem_append.mp z with z | z
        · exact .inl z
        · exact .inr (by rw [List.mem_singleton.mp z]; exact List.mem_cons_self)
      · exact .inr (List.mem_cons_of_mem _ z)
  | a :: l, k + 1, acc, w, hw, c, hc => by
    rw [TL.spl] at hw
    rcases spl_sub S l k acc w hw c hc with z | z
    · exact .inl z
    · exact .inr (List.mem_cons_of_mem _ z)
theorem spl_len (S : List Nat) : ∀ (l : List Nat) (k : Nat) (acc : List Nat), (TL.spl S k acc l).length ≤ l.length + 1 ∧ ∀ w ∈ TL.spl S k acc l, w.length ≤ acc.length + l.length
  | [], k, acc => by
    rw [TL.spl_nil]
    exact ⟨by simp, fun w hw => by rw [List.mem_singleton.mp hw]; simp⟩
  | a :: l, 0, acc => by
    rw [TL.spl]
    split
    · have := spl_len S l (S.length - 1) []
      refine ⟨by simp; omega, fun w hw => ?_⟩
      rcases List.mem_cons.mp hw with rfl | hw
      · simp
      · have := this.2 w hw; simp at this ⊢; omega
    · have := spl_len S l 0 (acc ++ [a])
      refine ⟨by simp; omega, fun w hw => ?_⟩
      have := this.2 w hw; simp at this ⊢; omega
  | a :: l, k + 1, acc => by
    rw [TL.spl]
    have := spl_len S l k acc
    exact ⟨by simp; omega, fun w hw => by have := this.2 w hw; simp; omega⟩
theorem rps_strs {K : PySem.W.Frag} {H : Hp} : ∀ {ls : List (List Nat)}, (∀ w ∈ ls, ∀ c ∈ w, c < 0x110000) → Rps K H (ls.map fun l => V.str (sOf l)) (ls.map D.str) []
  | [], _ => .nil
  | l :: ls, h => by
    have e : (sOf l).cps.toList = l := by simp [sOf]
    have p : Rp K H (.str (sOf l)) (.str l) [] := by
      have := Rp.str (K := K) (H := H) (okL_of (h l List.mem_cons_self))
      rwa [e] at this
    exact .cons p (rps_strs fun w hw => h w (List.mem_cons_of_mem _ hw))
theorem n_split {K : PySem.W.Frag} : OpN K (fun x y H Q => (∃ a, x = .str a) ∧ (∃ a b, x = .str a ∧ [y] = [V.str b] ∧ (b.length == 0) = false ∧ a.length + 2 ≤ sizeLine ∧ rNewStrs (Txt.split a b) H Q)) fSplit := by
  intro H v1 v2 d1 d2 G1 G2 d Q p1 p2 e h
  unfold fSplit at e
  split at e
  · split at e
    · rename_i hc
      cases e
      cases p1 with
      | str hx =>
      cases p2 with
      | str hy =>
      rename_i x y
      refine ⟨⟨_, rfl⟩, x, y, rfl, rfl, ?_, ?_, fun p hp => ?_⟩
      · refine beq_eq_false_iff_ne.mpr fun z => hc.1 ?_
        rw [TL.len_tl] at z
        exact List.length_eq_zero_iff.mp z
      · have : sizeLine = 16777216 := rfl
        rw [TL.len_tl]
        have : (TL.tl x).length ≤ 1000000 := hc.2.2
        omega
      · have e1 : Txt.split x y = (TL.spl y.cps.toList 0 [] x.cps.toList).map sOf := by
          have := SX.split_S (a := x.cps.toList) (b := y.cps.toList) hc.1 hc.2.1
          have ex : (⟨x.cps.toList.toArray⟩ : Str) = x := by cases x; simp
          have ey : (⟨y.cps.toList.toArray⟩ : Str) = y := by cases y; simp
          have h1 : SX.S x.cps.toList = x := ex
          have h2 : SX.S y.cps.toList = y := ey
          rw [h1, h2] at this
          exact this
        rw [e1]
        refine h _ _ [p] (.new hp _) ?_ (by simp) (fun a m => by rw [List.mem_singleton.mp m]; exact hp)
        refine .lst upd_same ?_
        rw [List.map_map]
        exact rps_strs fun w hw c hcw => by
          rcases spl_sub _ _ _ _ w hw c hcw with z | z
          · cases z
          · exact okL_mem hx c z
    · cases e
  · cases e
theorem n_rstrip {K : PySem.W.Frag} : OpN K (fun x y H Q => (∃ a, x = .str a) ∧ (∃ a b, x = .str a ∧ [y] = [V.str b] ∧ a.length ≤ sizeLine ∧ Q (.str (Txt.rstripChars a b)) H)) fRstrip := by
  intro H v1 v2 d1 d2 G1 G2 d Q p1 p2 e h
  unfold fRstrip at e
  split at e
  · split at e
    · rename_i hc
      cases e
      cases p1 with
      | str hx =>
      cases p2 with
      | str hy =>
      rename_i x y
      rw [sOf_cps, sOf_cps] at h
      refine ⟨⟨_, rfl⟩, x, y, rfl, rfl, ?_, h _ _ [] (.refl _ _) (.str ?_) .nil fun _ m => by cases m⟩
      · have : sizeLine = 16777216 := rfl
        rw [TL.len_tl]
        have : (TL.tl x).length ≤ 1000000 := hc
        omega
      · obtain ⟨j, _, e1⟩ := PyProof.Rows.stripBy_right y.cps.contains x
        rw [← Array.all_toList]
        refine List.all_eq_true.mpr fun c m => decide_eq_true (okL_mem hx c ?_)
        have e3 : (Txt.rstripChars x y).cps.toList = (x.cps.toList.drop 0).take (j - 0) := by
          have e2 := congrArg (fun z : Str => z.cps.toList) e1
          exact e2.trans (TL.tl_strSub x 0 j)
        rw [e3] at m
        exact List.mem_of_mem_take m
    · cases e
  · cases e
section
variable {X : Cx} {W : WX} {a b : Expr} {ma mb : MB} {apos pos : Pos}
theorem xs_split (pa : PE X a (tB X.K W ma)) (pb : PE X b (tB X.K W mb)) (hs : starEach [b] X.env = [(false, eval b X.env)] := by rfl) (hbase : attributeBase a "split" X.env (eval a X.env) = eval a X.env := by rfl) (hline : (apos.endLine == pos.line) = true := by rfl) :
    PE X (.Call (.Attribute a "split" apos) [b] [] pos) (tN X.K W (smB fSplit ma mb)) :=
  PE.mono (pe_m1 PySem.F.slot_str_split PySem.F.type_str_split mt_split pa pb hs hbase hline) fun _ _ _ h => op_m1 n_split (fun a b d e => by unfold fSplit at e; split at e; exact ⟨_, rfl⟩; cases e) h
theorem xs_rstrip (pa : PE X a (tB X.K W ma)) (pb : PE X b (tB X.K W mb)) (hs : starEach [b] X.env = [(false, eval b X.env)] := by rfl) (hbase : attributeBase a "rstrip" X.env (eval a X.env) = eval a X.env := by rfl) (hline : (apos.endLine == pos.line) = true := by rfl) :
    PE X (.Call (.Attribute a "rstrip" apos) [b] [] pos) (tN X.K W (smB fRstrip ma mb)) :=
  PE.mono (pe_m1 PySem.F.slot_str_rstrip PySem.F.type_str_rstrip mt_rstripChars pa pb hs hbase hline) fun _ _ _ h => op_m1 n_rstrip (fun a b d e => by unfold fRstrip at e; split at e; exact ⟨_, rfl⟩; cases e) h
end
theorem w0_split {s t : List Nat} {Q : D → Prop} (h : t ≠ []) (h1 : t.all (· < 256) = true) (h2 : s.length ≤ 1000000) (q : Q (.lst ((TL.spl t 0 [] s).map .str))) : w0 (fSplit (.str s) (.str t)) Q :=
  w0_of (show (if _ then _ else _) = _ by rw [if_pos ⟨h, h1, h2⟩]) q
theorem w0_rstrip {s t : List Nat} {Q : D → Prop} (h : s.length ≤ 1000000) (q : ∀ u : List Nat, u.length ≤ s.length → Q (.str u)) : w0 (fRstrip (.str s) (.str t)) Q := by
  refine w0_of (show (if s.length ≤ 1000000 then some (D.str (Txt.rstripChars (sOf s) (sOf t)).cps.toList) else none) = _ by rw [if_pos h]) (q _ ?_)
  have := PyProof.Rows.len_rstripChars (sOf s) (sOf t)
  rw [TL.len_tl, TL.len_tl] at this
  simpa [sOf] using this
end Mir

namespace Mir
open PySem PySem.Spec L2
/-! ### partition -/
def parD (s t : List Nat) : D := match TL.par t [] s with
  | some (p, q) => .tup [.str p, .str t, .str q]
  | none => .tup [.str s, .str [], .str []]
def fPartition : D → D → Option D
  | .str s, .str t => if t ≠ [] ∧ s.length ≤ 1000000 then some (parD s t) else none
  | _, _ => none
theorem par_sub (S : List Nat) : ∀ (l acc p q : List Nat), TL.par S acc l = some (p, q) → (∀ c ∈ p, c ∈ acc ∨ c ∈ l) ∧ ∀ c ∈ q, c ∈ l
  | [], acc, p, q, h => by unfold TL.par at h; cases h
  | a :: l, acc, p, q, h => by
    unfold TL.par at h
    split at h
    · cases h
      exact ⟨fun c hc => .inl hc, fun c hc => List.mem_of_mem_drop hc⟩
    · have := par_sub S l (acc ++ [a]) p q h
      refine ⟨fun c hc => ?_, fun c hc => List.mem_cons_of_mem _ (this.2 c hc)⟩
      rcases this.1 c hc with z | z
      · rcases List.mem_append.mp z with z | z
        · exact .inl z
        · exact .inr (by rw [List.mem_singleton.mp z]; exact List.mem_cons_self)
      · exact .inr (List.mem_cons_of_mem _ z)
theorem n_partition {K : PySem.W.Frag} : OpN K (fun x y H Q => (∃ a, x = .str a) ∧ (∃ a b, x = .str a ∧ [y] = [V.str b] ∧ (b.length == 0) = false ∧ a.length ≤ sizeLine ∧
    ∀ p, H p = none → Q (.ref p) (upd H p (.tup [.str (Txt.partition a b).1, .str (Txt.partition a b).2.1, .str (Txt.partition a b).2.2])))) fPartition := by
  intro H v1 v2 d1 d2 G1 G2 d Q p1 p2 e h
  unfold fPartition at e
  split at e
  · split at e
    · rename_i hc
      cases e
      cases p1 with
      | str hx =>
      cases p2 with
      | str hy =>
      rename_i x y
      refine ⟨⟨_, rfl⟩, x, y, rfl, rfl, ?_, ?_, fun p hp => ?_⟩
      · refine beq_eq_false_iff_ne.mpr fun z => hc.1 ?_
        rw [TL.len_tl] at z
        exact List.length_eq_zero_iff.mp z
      · have : sizeLine = 16777216 := rfl
        rw [TL.len_tl]
        have : (TL.tl x).length ≤ 1000000 := hc.2
        omega
      · have ex : SX.S x.cps.toList = x := SX.S_tl x
        have ey : SX.S y.cps.toList = y := SX.S_tl y
        have key : ∃ ls : List (List Nat), ([.str (Txt.partition x y).1, .str (Txt.partition x y).2.1, .str (Txt.partition x y).2.2] : List V) = ls.map (fun l => V.str (sOf l)) ∧ parD x.cps.toList y.cps.toList = .tup (ls.map D.str) ∧ ∀ w ∈ ls, ∀ c ∈ w, c < 0x110000 := by
          cases q : TL.par y.cps.toList [] x.cps.toList with
          | none =>
            have e1 := SX.partition_none hc.1 q
            rw [ex, ey] at e1
            rw [e1]
            refine ⟨[x.cps.toList, [], []], by rw [show x = sOf x.cps.toList from sOf_cps.symm]; rfl, by simp only [parD, q]; rfl, ?_⟩
            intro w hw
            simp only [List.mem_cons, List.not_mem_nil, or_false] at hw
            rcases hw with rfl | rfl | rfl
            · exact okL_mem hx
            · intro c hc; cases hc
            · intro c hc; cases hc
          | some pq =>
            obtain ⟨a, b⟩ := pq
            have e1 := SX.partition_some hc.1 q
            rw [ex, ey] at e1
            rw [e1]
            have := par_sub _ _ _ _ _ q
            refine ⟨[a, y.cps.toList, b], by rw [show y = sOf y.cps.toList from sOf_cps.symm]; rfl, by simp only [parD, q]; rfl, ?_⟩
            intro w hw
            simp only [List.mem_cons, List.not_mem_nil, or_false] at hw
            rcases hw with rfl | rfl | rfl
            · intro c hc
              rcases this.1 c hc with z | z
              · cases z
              · exact okL_mem hx c z
            · exact okL_mem hy
            · exact fun c hc => okL_mem hx c (this.2 c hc)
        obtain ⟨ls, k1, k2, k3⟩ := key
        rw [k1]
        rw [k2] at h
        exact h _ _ [] (.new hp _) (.tup (.of upd_same) (rps_strs k3)) .nil fun _ m => by cases m
    · cases e
  · cases e
section
variable {X : Cx} {W : WX} {a b : Expr} {ma mb : MB} {apos pos : Pos}
theorem xs_partition (pa : PE X a (tB X.K W ma)) (pb : PE X b (tB X.K W mb)) (hs : starEach [b] X.env = [(false, eval b X.env)] := by rfl) (hbase : attributeBase a "partition" X.env (eval a X.env) = eval a X.env := by rfl) (hline : (apos.endLine == pos.line) = true := by rfl) :
    PE X (.Call (.Attribute a "partition" apos) [b] [] pos) (tN X.K W (smB fPartition ma mb)) :=
  PE.mono (pe_m1 PySem.F.slot_str_partition PySem.F.type_str_partition mt_partition pa pb hs hbase hline) fun _ _ _ h => op_m1 n_partition (fun a b d e => by unfold fPartition at e; split at e; exact ⟨_, rfl⟩; cases e) h
end
theorem w0_partition {s t : List Nat} {Q : D → Prop} (h : t ≠ []) (h2 : s.length ≤ 1000000) (q : Q (parD s t)) : w0 (fPartition (.str s) (.str t)) Q :=
  w0_of (show (if _ then _ else _) = _ by rw [if_pos ⟨h, h2⟩]) q
end Mir

namespace Mir
open PySem PySem.Spec L2

/-! ### dicts that change: keys texts or numbers, values that can't change -/
def dputD (ds : List (D × D)) (k y : D) : List (D × D) :=
  if (ds.any fun p => keyEq p.1 k) = true then ds.map (fun p => if keyEq p.1 k = true then (p.1, y) else p) else ds ++ [(k, y)]
section
variable {K : PySem.W.Frag} {H : Hp}
theorem dany_ok (key : Key) : ∀ {kvs : List (Key × V)} {ds : List (D × D)}, kvs.map (fun p => kD p.1) = ds.map (·.1) → (kvs.any fun kv => decide (kv.1 = key)) = ds.any fun p => keyEq p.1 (kD key)
  | [], [], _ => rfl
  | [], _ :: _, h => by simp at h
  | _ :: _, [], h => by simp at h
  | kv :: kvs, d :: ds, h => by
    simp only [List.map_cons, List.cons.injEq] at h
    rw [List.any_cons, List.any_cons, ← h.1, keyEq_kD, dany_ok key h.2]
theorem dmap_ok (key : Key) {v : V} {y : D} (p : Rp K H v y []) : ∀ {kvs : List (Key × V)} {ds : List (D × D)}, kvs.map (fun p => kD p.1) = ds.map (·.1) → Rps K H (kvs.map (·.2)) (ds.map (·.2)) [] →
    (kvs.map fun kv => if kv.1 = key then (kv.1, v) else kv).map (fun p => kD p.1) = (ds.map fun p => if keyEq p.1 (kD key) = true then (p.1, y) else p).map (·.1) ∧
    Rps K H ((kvs.map fun kv => if kv.1 = key then (kv.1, v) else kv).map (·.2)) ((ds.map fun p => if keyEq p.1 (kD key) = true then (p.1, y) else p).map (·.2)) []
  | [], [], _, r => ⟨rfl, .nil⟩
  | [], _ :: _, h, _ => by simp at h
  | _ :: _, [], h, _ => by simp at h
  | kv :: kvs, d :: ds, h, r => by
    simp only [List.map_cons, List.cons.injEq] at h
    simp only [List.map_cons] at r
    generalize hF : ([] : List Addr) = F at r
    cases r with | cons q r => ?_
    obtain ⟨e1, e2⟩ := List.append_eq_nil_iff.mp hF.symm
    subst e1 e2
    obtain ⟨i1, i2⟩ := dmap_ok key p h.2 r
    simp only [List.map_cons]
    have e : keyEq d.1 (kD key) = decide (kv.1 = key) := by rw [← h.1, keyEq_kD]
    rw [e]
    by_cases z : kv.1 = key
    · rw [if_pos z, if_pos (decide_eq_true z)]
      exact ⟨by rw [i1]; simp [h.1], .cons (F := []) (G := []) p i2⟩
    · rw [if_neg z, if_neg (by simpa using z)]
      exact ⟨by rw [i1]; simp [h.1], .cons (F := []) (G := []) q i2⟩
theorem dput_ok (key : Key) {v : V} {y : D} (p : Rp K H v y []) {kvs : List (Key × V)} {ds : List (D × D)} (h : kvs.map (fun p => kD p.1) = ds.map (·.1)) (r : Rps K H (kvs.map (·.2)) (ds.map (·.2)) []) :
    (putK kvs key v).map (fun p => kD p.1) = (dputD ds (kD key) y).map (·.1) ∧ Rps K H ((putK kvs key v).map (·.2)) ((dputD ds (kD key) y).map (·.2)) [] := by
  unfold putK dputD
  rw [dany_ok key h]
  split
  · exact dmap_ok key p h r
  · refine ⟨by simp [h], ?_⟩
    rw [List.map_append, List.map_append]
    exact r.append (.cons (F := []) (G := []) p .nil)
theorem dlen_ok {kvs : List (Key × V)} {ds : List (D × D)} (h : kvs.map (fun p => kD p.1) = ds.map (·.1)) : kvs.length = ds.length := by
  have := congrArg List.length h
  simpa using this
end
/-- {} -/
def mNewD : MB := fun _ => .ok (.dct [])
theorem x_newD {X : Cx} {W : WX} {pos : Pos} : PE X (.Dict [] [] pos) (tN X.K W mNewD) := PE.mono pe_dnewK fun σ H Q ⟨e, F, r, h⟩ p hp =>
  h (.ref p) _ [p] (.new hp []) (.dct upd_same rfl .nil) (by simp) fun a m => by rw [List.mem_singleton.mp m]; exact hp
/-- {k: v, ..} -/
def pairsB : List (MB × MB) → E → Rs (List (D × D))
  | [], _ => .ok []
  | (mk, mv) :: r, e => (mk e).bind fun k => (mv e).bind fun v => (pairsB r e).bind fun ds => .ok ((k, v) :: ds)
def dmerge (ds : List (D × D)) : List (D × D) := ds.foldl (fun acc kv => dputD acc kv.1 kv.2) []
def mDispB (ps : List (MB × MB)) : MB := fun e => match pairsB ps e with
  | .ok ds => if ds.length ≤ 15 ∧ (ds.all fun p => isKey p.1 && imm p.2) = true then .ok (.dct (dmerge ds)) else .bad
  | _ => .bad
section
variable {K : PySem.W.Frag} {W : WX}
theorem merge_ok {H : Hp} : ∀ (more : List (Key × V)) (ds2 : List (D × D)) {kvs : List (Key × V)} {ds : List (D × D)}, more.map (fun p => kD p.1) = ds2.map (·.1) → Rps K H (more.map (·.2)) (ds2.map (·.2)) [] →
    kvs.map (fun p => kD p.1) = ds.map (·.1) → Rps K H (kvs.map (·.2)) (ds.map (·.2)) [] →
    (mergeK kvs more).map (fun p => kD p.1) = (ds2.foldl (fun acc kv => dputD acc kv.1 kv.2) ds).map (·.1) ∧ Rps K H ((mergeK kvs more).map (·.2)) ((ds2.foldl (fun acc kv => dputD acc kv.1 kv.2) ds).map (·.2)) []
  | [], [], _, _, _, _, h, r => ⟨h, r⟩
  | [], _ :: _, _, _, h, _, _, _ => by simp at h
  | _ :: _, [], _, _, h, _, _, _ => by simp at h
  | kv :: more, d :: ds2, kvs, ds, h1, r1, h, r => by
    simp only [List.map_cons, List.cons.injEq] at h1
    simp only [List.map_cons] at r1
    generalize hF : ([] : List Addr) = F at r1
    cases r1 with | cons q r1 => ?_
    obtain ⟨e1, e2⟩ := List.append_eq_nil_iff.mp hF.symm
    subst e1 e2
    obtain ⟨i1, i2⟩ := dput_ok kv.1 q h r
    rw [h1.1] at i1 i2
    exact merge_ok more ds2 h1.2 r1 i1 i2
theorem pairs_ok {σ : L2.St} : ∀ (ps : List (MB × MB)) {H0 H : Hp} {e : E} {F : List Addr} {ds : List (D × D)} {Q : List (V × V) → Hp → Prop}, RelS K H σ e F → Keeps [] H0 H → pairsB ps e = .ok ds → (ds.all fun p => isKey p.1 && imm p.2) = true →
    (∀ (kvs : List (Key × V)) H', Keeps [] H0 H' → kvs.map (fun (p : Key × V) => kD p.1) = ds.map (·.1) → Rps K H' (kvs.map (·.2)) (ds.map (·.2)) [] → Q (kvs.map fun kv => (kV kv.1, kv.2)) H') → tPairs (ps.map fun p => (tB K W p.1, tB K W p.2)) σ H Q
  | [], H0, H, e, F, ds, Q, r, k0, h, _, q => by
    cases h
    exact q [] H k0 rfl .nil
  | (mk, mv) :: ps, H0, H, e, F, ds, Q, r, k0, h, ha, q => by
    unfold pairsB at h
    cases qk : mk e with
    | bad => simp only [qk, Rs.bind] at h; cases h
    | exc y => simp only [qk, Rs.bind] at h; cases h
    | ok k =>
      simp only [qk, Rs.bind] at h
      refine ⟨e, F, r, ?_⟩
      simp only [qk]
      intro vk H1 Gk k1 pk
      cases qv : mv e with
      | bad => simp only [qv] at h; cases h
      | exc y => simp only [qv] at h; cases h
      | ok y =>
        simp only [qv] at h
        have r1 := r.same k1
        refine ⟨e, F, r1, ?_⟩
        simp only [qv]
        intro vv H2 Gv k2 pv
        cases qp : pairsB ps e with
        | bad => rw [qp] at h; cases h
        | exc y => rw [qp] at h; cases h
        | ok ds2 =>
          rw [qp] at h
          cases h
          obtain ⟨a1, a2⟩ := Bool.and_eq_true_iff.mp (show ((isKey k && imm y) && ds2.all fun p => isKey p.1 && imm p.2) = true from ha)
          obtain ⟨a3, a4⟩ := Bool.and_eq_true_iff.mp a1
          obtain ⟨key, ev, ek⟩ := key_of pk a3
          subst ev ek
          have e0 := pv.fpImm a4
          subst e0
          have k01 : Keeps [] H0 H1 := k0.trans k1 fun _ m => by cases m
          have k02 : Keeps [] H0 H2 := k01.trans k2 fun _ m => by cases m
          refine pairs_ok ps (H0 := H2) (r1.same k2) (.refl _ _) qp a2 fun kvs H' k' hk hr => ?_
          exact q ((key, vv) :: kvs) H' (k02.trans k' fun _ m => by cases m) (by simp [hk]) (.cons (F := []) (G := []) (pv.same k') hr)
end
theorem x_dispB {X : Cx} {W : WX} {pos : Pos} {keys : List (Option Expr)} {values : List Expr} {ps : List (MB × MB)} (q : PE X (.Dict keys values pos) (tDisp (ps.map fun p => (tB X.K W p.1, tB X.K W p.2)))) :
    PE X (.Dict keys values pos) (tN X.K W (mDispB ps)) := PE.mono q fun σ H Q ⟨e, F, r, h⟩ => by
  intro p hp
  unfold mDispB at h
  cases qp : pairsB ps e with
  | bad => rw [qp] at h; exact h.elim
  | exc y => rw [qp] at h; exact h.elim
  | ok ds =>
    rw [qp] at h
    simp only at h
    by_cases hc : ds.length ≤ 15 ∧ (ds.all fun p => isKey p.1 && imm p.2) = true
    · rw [if_pos hc] at h
      have kN : Keeps [] H (upd H p (.dK [])) := .new hp []
      refine pairs_ok ps (H0 := upd H p (.dK [])) (r.same kN) (.refl _ _) qp hc.2 fun kvs H' k' hk hr => ?_
      have hb : H' p = some (.dK []) := k' _ _ upd_same (.inr fun m => by cases m)
      refine ⟨hb, kvs, rfl, by rw [dlen_ok hk]; exact hc.1, ?_⟩
      have kU : Keeps [p] H' (upd H' p (.dK (mergeK [] kvs))) := .upd hb rfl List.mem_cons_self
      obtain ⟨m1, m2⟩ := merge_ok kvs ds (kvs := []) (ds := []) hk hr rfl .nil
      refine h (.ref p) _ [p] (fun a o ha z => ?_) (.dct upd_same m1 (m2.keep kU fun _ m => by cases m)) (by simp) fun a m => by rw [List.mem_singleton.mp m]; exact hp
      have : a ≠ p := fun z => by subst z; rw [hp] at ha; cases ha
      rw [upd_ne this]
      exact k' _ _ (by rw [upd_ne this]; exact ha) (.inr fun m => by cases m)
    · rw [if_neg hc] at h; exact h.elim
/-! d.get(k, x) -/
def fDGetOr : D → D → D → Option D
  | .dct ds, k, z => if isKey k = true then some ((dgetD ds k).getD z) else none
  | .rdc ds, k, z => if isKey k = true then some ((dgetD ds k).getD z) else none
  | _, _, _ => none
def getB (ma mk mz : MB) : MB := fun e => (ma e).bind fun a => if isDct a = true then (mk e).bind fun k => (mz e).bind fun z => .of (fDGetOr a k z) else .bad
where isDct : D → Bool
  | .dct _ => true
  | .rdc _ => true
  | _ => false
section
variable {X : Cx} {W : WX}
theorem x_get2 {o e f : Expr} {apos cpos : Pos} {ma mk mz : MB} (hu : X.A.units + 1 < cLine) (ho : PE X o (tB X.K W ma)) (he : PE X e (tB X.K W mk)) (hf : PE X f (tB X.K W mz)) (m : M2 X o "get" apos e f cpos) :
    PE X (.Call (.Attribute o "get" apos) [e, f] [] cpos) (tB X.K W (getB ma mk mz)) := PE.mono (pe_dget2 hu ho he hf m) fun σ H Q ⟨e, F, r, h⟩ => by
  refine ⟨e, F, r, ?_⟩
  unfold getB at h
  cases qa : ma e with
  | bad => simp only [qa, Rs.bind] at h
  | exc y => simp only [qa, Rs.bind] at h; exact h
  | ok a =>
    simp only [qa, Rs.bind] at h
    intro va H1 G1 k1 p1
    by_cases hd : getB.isDct a = true
    · rw [if_pos hd] at h
      have isd : ∃ b, va = .ref b ∧ ∀ H2, Keeps [] H1 H2 → IsD H2 b := by
        cases p1 with
        | dct ha _ _ => exact ⟨_, rfl, fun H2 k => .inl ⟨_, .inl (k _ _ ha (.inr fun m => by cases m))⟩⟩
        | rdc ha _ _ => obtain ⟨o, ha⟩ := ha; exact ⟨_, rfl, fun H2 k => .inl ⟨_, .inr ⟨o, k _ _ ha (.inr fun m => by cases m)⟩⟩⟩
        | _ => cases hd
      obtain ⟨b, eb, isd⟩ := isd
      subst eb
      refine ⟨b, rfl, isd H1 (.refl _ _), e, F, r.same k1, ?_⟩
      cases qk : mk e with
      | bad => simp only [qk] at h
      | exc y => simp only [qk] at h; exact fun c dx H' k p => h c dx H' (k1.trans k fun _ m => by cases m) p
      | ok kk =>
        simp only [qk] at h
        intro vk H2 G2 k2 p2
        have k12 : Keeps [] H H2 := k1.trans k2 fun _ m => by cases m
        refine ⟨e, F, (r.same k1).same k2, ?_⟩
        cases qz : mz e with
        | bad => simp only [qz] at h
        | exc y => simp only [qz] at h; exact fun c dx H' k p => h c dx H' (k12.trans k fun _ m => by cases m) p
        | ok zz =>
          simp only [qz] at h
          intro vz H3 G3 k3 p3
          have k13 : Keeps [] H H3 := k12.trans k3 fun _ m => by cases m
          have pa := (p1.same k2).same k3
          have pk := p2.same k3
          cases qf : fDGetOr a kk zz with
          | none => rw [qf] at h; exact h.elim
          | some dr =>
            rw [qf] at h
            simp only [Rs.of] at h
            unfold fDGetOr at qf
            split at qf
            · split at qf
              · rename_i hk
                cases qf
                obtain ⟨key, ev, ek⟩ := key_of pk hk
                subst ev ek
                cases pa with | dct ha hc hr => ?_
                refine ⟨_, DGet.k ha, ?_⟩
                rcases dget_ok key hc hr with ⟨v, d', e1, e2, p⟩ | ⟨e1, e2⟩
                · rw [e1]; rw [e2] at h; exact h _ _ _ k13 p
                · rw [e1]; rw [e2] at h; exact h _ _ _ k13 p3
              · cases qf
            · split at qf
              · rename_i hk
                cases qf
                obtain ⟨key, ev, ek⟩ := key_of pk hk
                subst ev ek
                cases pa with | rdc ha hc hr => ?_
                refine ⟨_, DGet.rk ha, ?_⟩
                rcases dget_ok key hc hr with ⟨v, d', e1, e2, p⟩ | ⟨e1, e2⟩
                · rw [e1]; rw [e2] at h; exact h _ _ _ k13 p
                · rw [e1]; rw [e2] at h; exact h _ _ _ k13 p3
              · cases qf
            · cases qf
    · rw [if_neg hd] at h; exact h.elim
end
/-! d[k] = e, d the dict in the slot i -/
def mDSet (i : Nat) (mk : MB) (n : ME) : MS := fun e => match n e with
  | .ok y e1 => if imm y = true then (match e1[i]? with
    | some (some (.dct ds)) => (match mk e1 with
      | .ok k => if isKey k = true ∧ ds.length < sizeLine then .nx (e1.set i (some (.dct (dputD ds k y)))) else .bad
      | .exc x => .exc x e1
      | .bad => .bad)
    | _ => .bad) else .bad
  | .exc x e1 => .exc x e1
  | .bad => .bad
theorem m_dset {X : Cx} {W : WX} {Z : Zs} {i : Nat} {x : Str} {px pos tpos : Pos} {k e : Expr} {mk : MB} {n : ME} (hu : X.A.units + 1 < cLine) (he : PE X e (tE X.K W n)) (hk : PE X k (tB X.K W mk)) (hN : X.N[i]? = some x := by rfl) (hv : Vis X.env.scope x := by first | exact Or.inl rfl | exact Or.inr (Or.inl rfl) | exact Or.inr (Or.inr rfl)) (hd : (x == ("__debug__" : Str)) = false := by decide)
    (hcd : (x == ("__classdict__" : Str)) = false := by decide) (hs : swapsWith e (some (.Subscript (.Name x px) k tpos)) pos.line X.env = pure false := by rfl) :
    PS X (.Assign [.Subscript (.Name x px) k tpos] e pos) (tM X.K W Z (mDSet i mk n)) := PS.mono (ps_dput hu (pe_var hN hv hd hcd) hk he hs) fun D σ H ⟨e, F, r, nd, h⟩ => by
  refine ⟨e, F, r, nd, ?_⟩
  unfold mDSet at h
  cases q : n e with
  | bad => rw [q] at h; exact h
  | exc y e1 => rw [q] at h; exact fun c dx H' F' x p => h c dx σ H' F' x (.refl _ _) p
  | ok y e1 =>
    rw [q] at h
    simp only at h
    by_cases hi : imm y = true
    · rw [if_pos hi] at h
      intro v H1 F1 x0
      obtain ⟨G, F0, eF, p, x', hdj, n1, nw⟩ := x0.head
      have e0 := p.fpImm hi
      subst e0
      cases q1 : e1[i]? with
      | none => rw [q1] at h; exact h.elim
      | some oo =>
        rw [q1] at h
        cases oo with
        | none => exact h.elim
        | some d =>
          cases d with
          | dct ds =>
            simp only at h
            obtain ⟨w, G2, k1, k2, k3, k4, k5⟩ := x'.update q1
            cases k2 with | dct ha2 hc2 ra => ?_
            rename_i a kvs
            refine ⟨.ref a, k1, e1, F0, x'.r, ?_⟩
            cases qk : mk e1 with
            | bad => rw [qk] at h; exact h.elim
            | exc z => rw [qk] at h; exact fun c dx H' k px => h c dx σ H' F0 (x'.grow k) (.refl _ _) px
            | ok dk =>
              rw [qk] at h
              simp only at h
              intro vk H2 Gk kk pk
              by_cases hc : isKey dk = true ∧ ds.length < sizeLine
              · rw [if_pos hc] at h
                obtain ⟨key, ev, ek⟩ := key_of pk hc.1
                subst ev ek
                have hb : H2 a = some (.dK kvs) := kk _ _ ha2 (.inr fun m => by cases m)
                refine ⟨a, _, rfl, DPut.k hb (by rw [dlen_ok hc2]; exact hc.2), ?_⟩
                have kU : Keeps [a] H2 (upd H2 a (.dK (putK kvs key v))) := .upd hb rfl List.mem_cons_self
                have kA : Keeps [a] H1 (upd H2 a (.dK (putK kvs key v))) := (kk.mono (fun _ m => by cases m)).trans kU fun b m => .inl m
                obtain ⟨m1, m2⟩ := dput_ok key (p.same kk) hc2 (ra.same kk)
                obtain ⟨F9, w9⟩ := k5 _ (.dct (dputD ds (kD key) y)) [a] kA (.dct upd_same m1 (m2.keep kU fun _ m => by cases m)) (by simp) fun b m => .inl m
                exact h σ _ F9 w9 (.refl _ _)
              · rw [if_neg hc] at h; exact h.elim
          | _ => exact h.elim
    · rw [if_neg hi] at h; exact h.elim
/-! a dict that is never changed again -/
def frzD (n : ME) : ME := fun e => match n e with
  | .ok (.dct ds) e1 => .ok (.rdc ds) e1
  | .ok _ _ => .bad
  | .exc x e1 => .exc x e1
  | .bad => .bad
theorem e_frzD {X : Cx} {W : WX} {x : Expr} {n : ME} (p : PE X x (tE X.K W n)) : PE X x (tE X.K W (frzD n)) := by
  refine ⟨fun pins s σ H Q I ⟨e, F, r, nd, h⟩ => ?_⟩
  unfold frzD at h
  cases q : n e with
  | bad => rw [q] at h; exact h.elim
  | exc y e1 =>
    rw [q] at h
    exact p.run pins s σ H Q I ⟨e, F, r, nd, by rw [q]; exact h⟩
  | ok d e1 =>
    rw [q] at h
    cases d with
    | dct ds =>
      simp only at h
      refine thn (p.run pins s σ H (fun v H' => ∃ F', Ev X.K F H (some v :: σ) H' (some (.dct ds) :: e1) F') I ⟨e, F, r, nd, by rw [q]; exact fun v H' F' x => ⟨F', x⟩⟩) fun u s1 hq => ?_
      obtain ⟨v, H1, I1, rv, F', x⟩ := hq
      obtain ⟨G, F0, eF, pv, x', hd, n1, nw⟩ := x.head
      cases pv with | dct ha hc ra => ?_
      rename_i a kvs
      obtain ⟨od, I2⟩ := I1.lock ha trivial
      refine ⟨.ref a, _, I2, rv, ?_⟩
      have na : a ∉ F0 := hd a List.mem_cons_self
      have k : Keeps [a] H1 (upd H1 a (.frz od (.dK kvs))) := .upd ha rfl List.mem_cons_self
      have kF : Keeps F H (upd H1 a (.frz od (.dK kvs))) := fun b o hb z => by
        by_cases y : b = a
        · subst y
          rcases nw b List.mem_cons_self with n | n
          · rcases z with z | z
            · have := x'.k b o hb (.inl z)
              rw [ha] at this; cases this; cases z
            · exact absurd n z
          · rw [n] at hb; cases hb
        · rw [upd_ne y]; exact x'.k b o hb z
      have w : Ev X.K F H σ (upd H1 a (.frz od (.dK kvs))) e1 F0 := ⟨kF, x'.r.keep k fun b m z => na (by rw [← List.mem_singleton.mp z]; exact m), x'.nd, x'.new⟩
      exact h (.ref a) _ F0 (w.consImm (.rdc ⟨_, upd_same⟩ hc (ra.keep k fun _ m => by cases m)) rfl)
    | _ => exact h.elim
/-! ### {k: v for g in w if tt} -/
def mDComp (g : MG) (tt : MT) (mk mv : MB) (vs : List Nat) : List D → E → List (D × D) → Re (List (D × D))
  | [], e, acc => .ok acc e
  | d :: ds, e, acc => match g d e with
    | some e1 => (match tt e1 with
      | .ok b e2 => if b = true then (match mk e2 with
          | .ok k => (match mv e2 with
            | .ok y => if isKey k = true ∧ imm y = true then mDComp g tt mk mv vs ds (wipeE e2 vs) (dputD acc k y) else .bad
            | _ => .bad)
          | _ => .bad) else mDComp g tt mk mv vs ds (wipeE e2 vs) acc
      | _ => .bad)
    | none => .bad
def eDComp (w : MW) (g : MG) (tt : MT) (mk mv : MB) (vs : List Nat) : ME := fun e => match w e with
  | .ok items e1 => if fits items.length = true then (match mDComp g tt mk mv vs items (wipeE e1 vs) [] with
    | .ok acc e2 => .ok (.dct acc) e2
    | _ => .bad) else .bad
  | .exc x e1 => .exc x e1
  | .bad => .bad
theorem dput_len (ds : List (D × D)) (k y : D) : (dputD ds k y).length ≤ ds.length + 1 := by
  unfold dputD
  split
  · simp
  · simp
structure AccD (K : PySem.W.Frag) (F : List Addr) (H H' : Hp) (L : Addr) (acc : List (D × D)) (F' : List Addr) : Prop where
  ex : ∃ kvs : List (Key × V), H' L = some (.dK kvs) ∧ kvs.map (fun (p : Key × V) => kD p.1) = acc.map (·.1) ∧ Rps K H' (kvs.map (·.2)) (acc.map (·.2)) []
  nin : L ∉ F'
  new : L ∈ F ∨ H L = none
section
variable {K : PySem.W.Frag}
theorem AccD.keep {F F' F2 : List Addr} {H H' H2 : Hp} {L : Addr} {acc : List (D × D)} {σ2 : L2.St} {e2 : E} (a : AccD K F H H' L acc F') (y : Ev K F' H' σ2 H2 e2 F2) : AccD K F H H2 L acc F2 := by
  obtain ⟨⟨kvs, h1, h2, h3⟩, n1, n2⟩ := a
  refine ⟨⟨kvs, y.k _ _ h1 (.inr n1), h2, h3.keep y.k fun _ m => by cases m⟩, fun m => ?_, n2⟩
  exact (y.new L m).elim n1 (by rw [h1]; exact fun z => by cases z)
theorem AccD.grow {F F' : List Addr} {H H' H2 : Hp} {L : Addr} {acc : List (D × D)} (a : AccD K F H H' L acc F') (k : Keeps [] H' H2) : AccD K F H H2 L acc F' := by
  obtain ⟨⟨kvs, h1, h2, h3⟩, n1, n2⟩ := a
  exact ⟨⟨kvs, k _ _ h1 (.inr fun m => by cases m), h2, h3.keep k fun _ m => by cases m⟩, n1, n2⟩
theorem AccD.less {F F' F2 : List Addr} {H H' : Hp} {L : Addr} {acc : List (D × D)} (a : AccD K F H H' L acc F') (h : ∀ b ∈ F2, b ∈ F') : AccD K F H H' L acc F2 :=
  ⟨a.ex, fun m => a.nin (h L m), a.new⟩
end
theorem dcomp_ok {K : PySem.W.Frag} {J : It} {items : List D} {P : Hp → Prop} {A : List Addr} (src : Src K J items P A) {g : MG} {tt : MT} {mk mv : MB} {vs : List Nat} {σ : L2.St} {H0 H1 : Hp} {F0 F1 : List Addr} {e1 : E} {Q : VK}
    (x0 : Ev K F0 H0 σ H1 e1 F1) (hA : ∀ a ∈ A, a ∉ F1 ∧ H1 a ≠ none) (hp : P H1) (hfit : fits items.length = true) (hw0 : ∀ i d, e1[i]? = some (some d) → i ∉ vs)
    (h : match mDComp g tt mk mv vs items e1 [] with
      | .ok acc e2 => ∀ v H' F', Ev K F0 H0 (some v :: σ) H' (some (.dct acc) :: e2) F' → Q v H'
      | _ => False) (L : Addr) (hL : H1 L = none) :
    ∃ V : Nat → Nat → Hp → Prop, (∃ m, V 0 m (upd H1 L (.dK []))) ∧ ∀ i m H, V i m H → (J.stop i H ∧ Q (.ref L) H) ∨ (J.go i H ∧ ∃ Nx : Hp → Prop, (∀ H', Nx H' → ∃ m', m' < m ∧ V (i + 1) m' H') ∧ ∀ x H', J.yld i H x H' →
      tG K (zw vs) g x (L2.wipe σ vs) H' fun σ2 H2 => L2.wipe σ2 vs = L2.wipe σ vs ∧ tT K wF tt σ2 H2 fun b H3 =>
        if b = true then tB K wF mk σ2 H3 fun y H4 => tB K wF mv σ2 H4 fun z H5 => ∃ kvs k, y = kV k ∧ H5 L = some (.dK kvs) ∧ kvs.length < sizeLine ∧ Nx (upd H5 L (.dK (putK kvs k z))) else Nx H3) := by
  have k0 : Keeps [] H1 (upd H1 L (.dK [])) := .new hL []
  have x1 : Ev K F0 H0 σ (upd H1 L (.dK [])) e1 F1 := x0.grow k0
  have LA : L ∉ A := fun m => (hA L m).2 hL
  have newL : L ∈ F0 ∨ H0 L = none := by
    by_cases z : L ∈ F0
    · exact .inl z
    · exact .inr (x0.k.none hL z)
  have a0 : AccD K F0 H0 (upd H1 L (.dK [])) L [] F1 := ⟨⟨[], upd_same, rfl, .nil⟩, fun m => x0.r.there m hL, newL⟩
  have hA1 : ∀ a ∈ A, a ∉ F1 ∧ (upd H1 L (.dK [])) a ≠ none := fun a m => ⟨(hA a m).1, by rw [upd_ne (fun z => LA (by rw [← z]; exact m))]; exact (hA a m).2⟩
  refine ⟨fun i m H' => i + m = items.length ∧ P H' ∧ ∃ e' F' acc, Ev K F0 H0 σ H' e' F' ∧ AccD K F0 H0 H' L acc F' ∧ (∀ a ∈ A, a ∉ F' ∧ H' a ≠ none) ∧ (∀ j d, e'[j]? = some (some d) → j ∉ vs) ∧ acc.length ≤ i ∧ mDComp g tt mk mv vs (items.drop i) e' acc = mDComp g tt mk mv vs items e1 [],
    ⟨items.length, by omega, src.st [] _ _ (fun _ _ m => by cases m) k0 hp, e1, F1, [], x1, a0, hA1, hw0, Nat.le_refl _, by rw [List.drop_zero]⟩, fun i m H' hV => ?_⟩
  obtain ⟨him, hp', e', F', acc, ev, ac, hA', hw, hlen, hl⟩ := hV
  by_cases hi : i < items.length
  · refine .inr ⟨src.go i H' hp' hi, fun H2 => P H2 ∧ ∃ e2 F2 acc, Ev K F0 H0 σ H2 e2 F2 ∧ AccD K F0 H0 H2 L acc F2 ∧ (∀ a ∈ A, a ∉ F2 ∧ H2 a ≠ none) ∧ (∀ j d, e2[j]? = some (some d) → j ∉ vs) ∧ acc.length ≤ i + 1 ∧ mDComp g tt mk mv vs (items.drop (i + 1)) e2 acc = mDComp g tt mk mv vs items e1 [],
      fun H2 hN => ?_, fun y H2 hy => ?_⟩
    · obtain ⟨q1, e2, F2, acc2, q2, q3, q4, q5, q6, q7⟩ := hN
      exact ⟨m - 1, by omega, by omega, q1, e2, F2, acc2, q2, q3, q4, q5, q6, q7⟩
    · obtain ⟨ky, py⟩ := src.yld i H' y H2 hp' hi hy
      rw [List.drop_eq_getElem_cons hi, mDComp] at hl
      cases qg : g items[i] e' with
      | none => rw [qg] at hl; rw [← hl] at h; exact h.elim
      | some e2 =>
        rw [qg] at hl
        simp only at hl
        have evy : Ev K F0 H0 σ H2 e' F' := ev.grow ky
        have acy : AccD K F0 H0 H2 L acc F' := ac.keep ⟨ky.mono (fun _ m => by cases m), ev.r.same ky, ev.nd, fun a m => .inl m⟩
        have py' : P H2 := src.st [] _ _ (fun _ _ m => by cases m) ky hp'
        have there : ∀ {S : List Addr} {Ha Hb : Hp}, (∀ a ∈ A, a ∉ S) → Keeps S Ha Hb → (∀ a ∈ A, Ha a ≠ none) → ∀ a ∈ A, Hb a ≠ none := fun {S Ha Hb} hs k ht a m z => by
          cases q : Ha a with
          | none => exact ht a m q
          | some o => rw [k a o q (.inr (hs a m))] at z; cases z
        refine ⟨items[i], e', F', e2, py, wipe_agree evy.r hw, evy.nd, qg, fun σ2 H3 F3 ev3 fz3 => ⟨?_, ?_⟩⟩
        · have w1 : L2.wipe (L2.wipe σ vs) vs = L2.wipe σ vs := wipe_same (L2.wipe_length _ _) fun i m => wipe_out m
          rw [wipe_same fz3.1 fun i m => fz3.2 i (by simp [zw, m]), w1]
        · have P3 : P H3 := src.st F' H2 H3 (fun a m => (hA' a m).1) ev3.k py'
          have ac3 := acy.keep ev3
          have at2 : ∀ a ∈ A, H2 a ≠ none := there (S := []) (fun _ _ m => by cases m) ky fun a m => (hA' a m).2
          have at3 : ∀ a ∈ A, a ∉ F3 ∧ H3 a ≠ none := fun a m => ⟨fun z => (ev3.new a z).elim (hA' a m).1 (at2 a m), there (fun a m => (hA' a m).1) ev3.k at2 a m⟩
          -- the outer slots again
          have outer : ∀ {σ4 : L2.St} {H4 : Hp} {e4 : E} {F4 : List Addr}, Ev K F' H2 σ4 H4 e4 F4 → Fz (zw vs) (L2.wipe σ vs) σ4 → ∃ F5, Ev K F0 H0 σ H4 (wipeE e4 vs) F5 ∧ ∀ a ∈ F5, a ∈ F4 := by
            intro σ4 H4 e4 F4 ev4 fz4
            obtain ⟨F5, r5, n5, s5⟩ := ev4.r.wipe ev4.nd vs
            refine ⟨F5, ⟨evy.k.trans ev4.k evy.new, r5.agree (by rw [fz4.1, L2.wipe_length]) fun j d q => ?_, n5, fun a m => ?_⟩, s5⟩
            · obtain ⟨m1, _⟩ := wipeE_in q
              rw [fz4.2 j (by simp [zw, m1]), wipe_out m1]
            · rcases ev4.new a (s5 a m) with z | z
              · exact evy.new a z
              · by_cases zz : a ∈ F0
                · exact .inl zz
                · exact .inr (evy.k.none z zz)
          refine ⟨e2, F3, ev3.r, ev3.nd, ?_⟩
          cases qt : tt e2 with
          | bad => rw [qt] at hl; rw [← hl] at h; exact h.elim
          | exc z e3 => rw [qt] at hl; rw [← hl] at h; exact h.elim
          | ok b e3 =>
            rw [qt] at hl
            simp only at hl
            intro H4 F4 ev4
            have evB := ev3.trans ev4
            have ac4 := ac3.keep ev4
            have P4 : P H4 := src.st F3 H3 H4 (fun a m => (at3 a m).1) ev4.k P3
            have at4 : ∀ a ∈ A, a ∉ F4 ∧ H4 a ≠ none := fun a m => ⟨fun z => (ev4.new a z).elim (at3 a m).1 (at3 a m).2, there (fun a m => (at3 a m).1) ev4.k (fun a m => (at3 a m).2) a m⟩
            cases b with
            | false =>
              simp only [Bool.false_eq_true, if_false] at hl ⊢
              obtain ⟨F5, ev5, s5⟩ := outer evB fz3
              exact ⟨P4, _, F5, acc, ev5, ac4.less s5, fun a m => ⟨fun z => (at4 a m).1 (s5 a z), (at4 a m).2⟩, fun j d q => (wipeE_in q).1, by omega, hl⟩
            | true =>
              simp only [if_true] at hl ⊢
              refine ⟨e3, F4, ev4.r, ?_⟩
              cases qk : mk e3 with
              | bad => rw [qk] at hl; rw [← hl] at h; exact h.elim
              | exc z => rw [qk] at hl; rw [← hl] at h; exact h.elim
              | ok dk =>
                rw [qk] at hl
                simp only at hl
                intro vk H5 G5 k5 p5
                refine ⟨e3, F4, ev4.r.same k5, ?_⟩
                cases qv : mv e3 with
                | bad => rw [qv] at hl; rw [← hl] at h; exact h.elim
                | exc z => rw [qv] at hl; rw [← hl] at h; exact h.elim
                | ok dy =>
                  rw [qv] at hl
                  simp only at hl
                  intro vy H6 G6 k6 p6
                  by_cases hc : isKey dk = true ∧ imm dy = true
                  · rw [if_pos hc] at hl
                    obtain ⟨key, ek, ed⟩ := key_of p5 hc.1
                    subst ek ed
                    have e0 := p6.fpImm hc.2
                    subst e0
                    have k46 : Keeps [] H4 H6 := k5.trans k6 fun _ m => by cases m
                    have evC : Ev K F' H2 σ2 H6 e3 F4 := evB.grow k46
                    obtain ⟨⟨kvs, g1, g2, g3⟩, n4, nL2⟩ := ac4.grow k46
                    refine ⟨kvs, key, rfl, g1, by rw [dlen_ok g2]; have := fits_le hfit; omega, ?_⟩
                    have kL : Keeps [L] H6 (upd H6 L (.dK (putK kvs key vy))) := .upd g1 rfl List.mem_cons_self
                    obtain ⟨F7, ev7, s7⟩ := outer evC fz3
                    have L7 : L ∉ F7 := fun m => n4 (s7 L m)
                    have P6 : P H6 := src.st [] H4 H6 (fun _ _ m => by cases m) k46 P4
                    have at6 : ∀ a ∈ A, a ∉ F4 ∧ H6 a ≠ none := fun a m => ⟨(at4 a m).1, there (S := []) (fun _ _ m => by cases m) k46 (fun a m => (at4 a m).2) a m⟩
                    have kF : Keeps F0 H0 (upd H6 L (.dK (putK kvs key vy))) := fun a o q z => by
                      by_cases y : a = L
                      · subst y
                        rcases nL2 with n | n
                        · rcases z with z | z
                          · have := ev7.k a o q (.inl z)
                            rw [g1] at this; cases this; cases z
                          · exact absurd n z
                        · rw [n] at q; cases q
                      · rw [upd_ne y]; exact ev7.k a o q z
                    have ev8 : Ev K F0 H0 σ (upd H6 L (.dK (putK kvs key vy))) (wipeE e3 vs) F7 := ⟨kF, ev7.r.keep kL fun a m z => L7 (by rw [← List.mem_singleton.mp z]; exact m), ev7.nd, ev7.new⟩
                    obtain ⟨m1, m2⟩ := dput_ok key p6 g2 g3
                    exact ⟨src.st [L] _ _ (fun a m z => LA (by rw [← List.mem_singleton.mp z]; exact m)) kL P6, _, F7, _, ev8, ⟨⟨_, upd_same, m1, m2.keep kL fun _ m => by cases m⟩, L7, nL2⟩,
                      fun a m => ⟨fun z => (at6 a m).1 (s7 a z), by rw [upd_ne (fun z => LA (by rw [← z]; exact m))]; exact (at6 a m).2⟩, fun j d q => (wipeE_in q).1, by have := dput_len acc (kD key) dy; omega, hl⟩
                  · rw [if_neg hc] at hl; rw [← hl] at h; exact h.elim
  · have ei : i = items.length := by omega
    subst ei
    rw [List.drop_length, mDComp] at hl
    rw [← hl] at h
    obtain ⟨⟨kvs, h1, h2, h3⟩, nL, nL2⟩ := ac
    refine .inl ⟨src.stop H' hp', h (.ref L) H' _ (ev.cons (.dct h1 h2 h3) (fun a m => ?_) (by simp) fun a m => ?_)⟩
    · rw [List.mem_singleton.mp m]; exact nL
    · rw [List.mem_singleton.mp m]; exact nL2
section
variable {K : PySem.W.Frag} {W : WX} {σ : L2.St} {H : Hp} {Q : VK} {w : MW} {g : MG} {tt : MT} {mk mv : MB} {vs : List Nat}
theorem dc_of (h : tE K W (eDComp w g tt mk mv vs) σ H Q) : tDc (tW K W w) (tG K (zw vs) g) (tT K wF tt) (tB K wF mk) (tB K wF mv) vs σ H Q := by
  obtain ⟨e, F, r, nd, h⟩ := h
  refine ⟨e, F, r, nd, ?_⟩
  unfold eDComp at h
  cases q : w e with
  | bad => rw [q] at h; exact h
  | exc y e1 => rw [q] at h; exact h
  | ok items e1 =>
    rw [q] at h
    simp only at h
    by_cases hf : fits items.length = true
    · rw [if_pos hf] at h
      intro J H1 F1 A P src hp x hA L hL
      obtain ⟨F2, r2, n2, s2⟩ := x.r.wipe x.nd vs
      have x2 : Ev K F H σ H1 (wipeE e1 vs) F2 := ⟨x.k, r2, n2, fun a m => x.new a (s2 a m)⟩
      refine dcomp_ok src x2 (fun a m => ⟨fun z => (hA a m).1 (s2 a z), (hA a m).2⟩) hp hf (fun i d q => (wipeE_in q).1) ?_ L hL
      cases qc : mDComp g tt mk mv vs items (wipeE e1 vs) [] with
      | ok acc e2 => rw [qc] at h; exact h
      | exc y e2 => rw [qc] at h; exact h
      | bad => rw [qc] at h; exact h
    · rw [if_neg hf] at h; exact h.elim
end
section
variable {X : Cx} {W : WX} {w : MW} {g : MG} {tt : MT} {mk mv : MB}
theorem e_dcomp {kx vx tg iter : Expr} {ifs : List Expr} {scope : Scope} {own : List (Str × Nat)} {pos : Pos} (hi : PI X tg iter (tW X.K W w)) (hc : X.calm = true) (hN : X.N.Nodup) (ok : BlkOk X.N X.env.scope scope own)
    (hg : ∀ (s : Shared) (H : Hp) (C : Addr) (cl : List (Str × Addr)) (fp : List Addr), PG (X.blk s H scope (compEnvC scope cl C X.env) fp) tg (tG X.K (zw (own.map (·.2))) g)) (ht : ∀ (s : Shared) (H : Hp) (C : Addr) (cl : List (Str × Addr)) (fp : List Addr), PTs (X.blk s H scope (compEnvC scope cl C X.env) fp) ifs (tT X.K wF tt))
    (hk : ∀ (s : Shared) (H : Hp) (C : Addr) (cl : List (Str × Addr)) (fp : List Addr), PE (X.blk s H scope (compEnvC scope cl C X.env) fp) kx (tB X.K wF mk))
    (he : ∀ (s : Shared) (H : Hp) (C : Addr) (cl : List (Str × Addr)) (fp : List Addr), PE (X.blk s H scope (compEnvC scope cl C X.env) fp) vx (tB X.K wF mv)) (hs : ∀ x, foldedSetIterable iter X.env x = pure x := by intro _; rfl) :
    PE X (.DictComp kx vx [⟨tg, iter, ifs, 0⟩] scope pos) (tE X.K W (eDComp w g tt mk mv (own.map (·.2)))) := PE.mono (pe_dc hc hN hi ok hg ht hk he hs) fun _ _ _ h => dc_of h
theorem ps_setDc {i : Nat} {y : Str} {py : Pos} {kx vx tg iter : Expr} {ifs : List Expr} {scope : Scope} {own : List (Str × Nat)} {pos spos : Pos} {wi : TI} {g : TG} {tt : TT} {tk tv : TE} (hc : X.calm = true) (hN : X.N.Nodup) (hy : X.N[i]? = some y) (hyl : X.env.scope.names.lookup y = some .local)
    (hsw : swapsWith (.DictComp kx vx [⟨tg, iter, ifs, 0⟩] scope pos) (some (.Name y py)) spos.line X.env = pure true) (hi : PI X tg iter wi) (ok : BlkOk X.N X.env.scope scope own)
    (hg : ∀ (s : Shared) (H : Hp) (C : Addr) (cl : List (Str × Addr)) (fp : List Addr), PG (X.blk s H scope (compEnvC scope cl C X.env) fp) tg g) (ht : ∀ (s : Shared) (H : Hp) (C : Addr) (cl : List (Str × Addr)) (fp : List Addr), PTs (X.blk s H scope (compEnvC scope cl C X.env) fp) ifs tt)
    (hk : ∀ (s : Shared) (H : Hp) (C : Addr) (cl : List (Str × Addr)) (fp : List Addr), PE (X.blk s H scope (compEnvC scope cl C X.env) fp) kx tk)
    (he : ∀ (s : Shared) (H : Hp) (C : Addr) (cl : List (Str × Addr)) (fp : List Addr), PE (X.blk s H scope (compEnvC scope cl C X.env) fp) vx tv) (hs : ∀ x, foldedSetIterable iter X.env x = pure x := by intro _; rfl) :
    PS X (.Assign [.Name y py] (.DictComp kx vx [⟨tg, iter, ifs, 0⟩] scope pos) spos) (tAsg (tDc wi g tt tk tv (own.map (·.2))) (gName i)) := by
  refine ⟨fun pins s σ H D I h => ?_⟩
  rw [exec_Assign_Name_used _ _ _ _ hsw]
  refine wpAny_bind (wpAny_standAt (wpAny_bind ?_))
  show wpAny _ X.A (do let _ ← comprehension (.DictComp kx vx [⟨tg, iter, ifs, 0⟩] scope pos) scope X.env (firstIterPos [⟨tg, iter, ifs, 0⟩] pos) newDict false (eval iter X.env) (some (assign (.Name y py) X.env))) _ _ s
  have h : tDc wi g tt tk tv (own.map (·.2)) σ H (fun x H1 => gName i x σ H1 D.nx) := h
  refine wpAny_bind (thn (dc_core (Qf := fun _ s' => SP X pins D .next s') hc hN I hi ok hg ht hk he hs h fun L C s' m H' I' q hn f => ?_) fun _ s' hq => wpAny_pure (wpAny_pure hq))
  show wpAny _ _ (assign (.Name y py) X.env (.ref L)) _ _ _
  refine wpAny_assign_Name (store_ok2 (v := V.ref L) I' hN hy (.inl hyl) rfl (fun s2 I2 ⟨a, sb, ha⟩ => ?_) (.inr hyl))
  obtain ⟨f0, f1, f2, f3, f4, f5⟩ := f
  have haC : C ≠ a := by
    rcases ha with z | z
    · rw [z]; exact f1
    · exact fun e => f4 y a z e.symm
  refine ⟨m, hn.sameBut sb haC, fun h3 sb3 => ?_⟩
  exact ⟨_, H', I2.turned (t' := s2.toks) (fun b o hb e => (sb3.2 b hb).trans e) f0 f1 f3 f4 f5, q⟩
theorem sw_trueD {kx vx : Expr} {gs : List Comprehension} {scope : Scope} {pos py : Pos} {y : Str} {l : Nat} {env : Env} (hk : env.scope.kind = .function) (hy : env.scope.names.lookup y = some .local) (hl : (py.line == pos.line) = true)
    (ha : (scope.names.any fun (n, k) => n == y && (k == .local || k == .cell)) = false) : swapsWith (.DictComp kx vx gs scope pos) (some (.Name y py)) l env = pure true := by
  have ky : env.kindOf y = some .local := hy
  have hb : env.blockKind = .function := by unfold Env.blockKind; rw [hk]; rfl
  unfold swapsWith
  simp only [hb, ky, ha, Expr.pos, hl]
  rfl
theorem m_setDc {Z : Zs} {i : Nat} {y : Str} {py : Pos} {kx vx tg iter : Expr} {ifs : List Expr} {scope : Scope} {own : List (Str × Nat)} {pos spos : Pos} (hi : PI X tg iter (tW X.K W w)) (hc : X.calm = true) (hN : X.N.Nodup)
    (hsw : swapsWith (.DictComp kx vx [⟨tg, iter, ifs, 0⟩] scope pos) (some (.Name y py)) spos.line X.env = pure true) (ok : BlkOk X.N X.env.scope scope own)
    (hg : ∀ (s : Shared) (H : Hp) (C : Addr) (cl : List (Str × Addr)) (fp : List Addr), PG (X.blk s H scope (compEnvC scope cl C X.env) fp) tg (tG X.K (zw (own.map (·.2))) g)) (ht : ∀ (s : Shared) (H : Hp) (C : Addr) (cl : List (Str × Addr)) (fp : List Addr), PTs (X.blk s H scope (compEnvC scope cl C X.env) fp) ifs (tT X.K wF tt))
    (hk : ∀ (s : Shared) (H : Hp) (C : Addr) (cl : List (Str × Addr)) (fp : List Addr), PE (X.blk s H scope (compEnvC scope cl C X.env) fp) kx (tB X.K wF mk))
    (he : ∀ (s : Shared) (H : Hp) (C : Addr) (cl : List (Str × Addr)) (fp : List Addr), PE (X.blk s H scope (compEnvC scope cl C X.env) fp) vx (tB X.K wF mv)) (hz : Z i = false := by rfl) (hy : X.N[i]? = some y := by rfl) (hyl : X.env.scope.names.lookup y = some .local := by rfl) (hs : ∀ x, foldedSetIterable iter X.env x = pure x := by intro _; rfl) :
    PS X (.Assign [.Name y py] (.DictComp kx vx [⟨tg, iter, ifs, 0⟩] scope pos) spos) (tM X.K W Z (mSet i (eDComp w g tt mk mv (own.map (·.2))))) := PS.mono (ps_setDc hc hN hy hyl hsw hi ok hg ht hk he hs) fun D σ H h => by
  obtain ⟨e, F, r, nd, h⟩ := h
  refine dc_of (Q := fun x H1 => gName i x σ H1 D.nx) (W := W) ⟨e, F, r, nd, ?_⟩
  unfold mSet at h
  cases q : eDComp w g tt mk mv (own.map (·.2)) e with
  | bad => rw [q] at h; exact h
  | exc y e1 => rw [q] at h; exact fun c dx H' F' x p => h c dx σ H' F' x (.refl _ _) p
  | ok d e1 =>
    rw [q] at h
    intro v H' F' x
    obtain ⟨F3, y⟩ := x.put i
    exact h _ H' F3 y (.set hz)
end
end Mir

namespace Mir
open PySem PySem.Spec L2

/-! ### comprehensions, targets -/
theorem mComp_map {g : MG} {tt : MT} {te : ME} {vs : List Nat} {E0 : E} {f : D → D} : ∀ (ds : List D) (acc : List D), (∀ d ∈ ds, w0 (g d E0) fun e2 => w2 (tt e2) fun b e3 => b = true ∧ w2 (te e3) fun y e4 => y = f d ∧ wipeE e4 vs = E0) → mComp g tt te vs ds E0 acc = .ok (acc ++ ds.map f) E0
  | [], acc, _ => by rw [mComp]; simp
  | d :: ds, acc, h => by
    have h1 := h d List.mem_cons_self
    rw [mComp]
    generalize g d E0 = r at h1 ⊢
    cases h1 with
    | @mk e2 _ h1 =>
      simp only
      generalize tt e2 = r at h1 ⊢
      cases h1 with
      | @mk b e3 _ h1 =>
        obtain ⟨rfl, h1⟩ := h1
        simp only [if_true]
        generalize te e3 = r at h1 ⊢
        cases h1 with
        | @mk y e4 _ h1 =>
          obtain ⟨rfl, h1⟩ := h1
          simp only
          rw [h1, mComp_map ds _ fun d hd => h d (List.mem_cons_of_mem _ hd)]
          simp
theorem w2_comp {w : MW} {g : MG} {tt : MT} {te : ME} {vs : List Nat} {e : E} {Q2 : D → E → Prop} (f : D → D) (h : w2 (w e) fun items e1 => fits items.length = true ∧ (∀ d ∈ items, w0 (g d (wipeE e1 vs)) fun e2 => w2 (tt e2) fun b e3 => b = true ∧ w2 (te e3) fun y e4 => y = f d ∧ wipeE e4 vs = wipeE e1 vs) ∧ Q2 (.lst (items.map f)) (wipeE e1 vs)) : w2 (eComp w g tt te vs e) Q2 := by
  unfold eComp
  generalize w e = r at h ⊢
  cases h with
  | @mk items e1 _ h =>
    obtain ⟨h1, h2, h3⟩ := h
    simp only [h1, if_true]
    rw [mComp_map items [] h2]
    simp only [List.nil_append]
    exact .mk h3
theorem w0_gT2 {i j : Nat} {a b : D} {e : E} {Q : E → Prop} (h : imms [a, b] = true) (q : Q ((e.set i (some a)).set j (some b))) : w0 (gT [i, j] (.tup [a, b]) e) Q :=
  w0_of (show (if imms [a, b] = true then gNs [i, j] [a, b] e else none) = _ by rw [if_pos h]; rfl) q
theorem w0_gT3 {i j k : Nat} {a b c : D} {e : E} {Q : E → Prop} (h : imms [a, b, c] = true) (q : Q (((e.set i (some a)).set j (some b)).set k (some c))) : w0 (gT [i, j, k] (.tup [a, b, c]) e) Q :=
  w0_of (show (if imms [a, b, c] = true then gNs [i, j, k] [a, b, c] e else none) = _ by rw [if_pos h]; rfl) q
theorem w0_gT4 {i j k l : Nat} {a b c d : D} {e : E} {Q : E → Prop} (h : imms [a, b, c, d] = true) (q : Q ((((e.set i (some a)).set j (some b)).set k (some c)).set l (some d))) : w0 (gT [i, j, k, l] (.tup [a, b, c, d]) e) Q :=
  w0_of (show (if imms [a, b, c, d] = true then gNs [i, j, k, l] [a, b, c, d] e else none) = _ by rw [if_pos h]; rfl) q
theorem w0_gT5 {i j k l m : Nat} {a b c d f : D} {e : E} {Q : E → Prop} (h : imms [a, b, c, d, f] = true) (q : Q (((((e.set i (some a)).set j (some b)).set k (some c)).set l (some d)).set m (some f))) : w0 (gT [i, j, k, l, m] (.tup [a, b, c, d, f]) e) Q :=
  w0_of (show (if imms [a, b, c, d, f] = true then gNs [i, j, k, l, m] [a, b, c, d, f] e else none) = _ by rw [if_pos h]; rfl) q
/-! ### dicts -/
section
variable {e : E} {Q : D → Prop} {Q2 : D → E → Prop} {na : ME} {ma mk mv mz : MB}
theorem w2_frzD (h : w2 (na e) fun d e1 => ∃ ds, d = .dct ds ∧ Q2 (.rdc ds) e1) : w2 (frzD na e) Q2 := by
  unfold frzD
  generalize na e = r at h ⊢
  cases h with
  | mk h => obtain ⟨ds, rfl, h⟩ := h; exact .mk h
theorem w1_newD (q : Q (.dct [])) : w1 (mNewD e) Q := .mk q
theorem w1_disp1 (h : w1 (mk e) fun k => w1 (mv e) fun v => isKey k = true ∧ imm v = true ∧ Q (.dct [(k, v)])) : w1 (mDispB [(mk, mv)] e) Q := by
  unfold mDispB pairsB
  generalize mk e = r at h ⊢
  cases h with
  | mk h =>
    simp only [Rs.bind]
    generalize mv e = r at h ⊢
    cases h with
    | mk h =>
      obtain ⟨h1, h2, h3⟩ := h
      simp only [Rs.bind, pairsB]
      rw [if_pos ⟨by simp, by simp [h1, h2]⟩]
      exact .mk h3
theorem w1_getB (h : w1 (ma e) fun a => getB.isDct a = true ∧ w1 (mk e) fun k => w1 (mz e) fun z => w0 (fDGetOr a k z) Q) : w1 (getB ma mk mz e) Q := by
  unfold getB
  refine w1_bind (w1_mono h fun a h => ?_)
  rw [if_pos h.1]
  exact w1_bind (w1_mono h.2 fun k h => w1_bind (w1_mono h fun z h => w1_of h))
theorem wS_dset {i : Nat} {N B C : E → Prop} {R : D → E → Prop} (h : w2 (na e) fun y e1 => imm y = true ∧ ∃ ds, e1[i]? = some (some (.dct ds)) ∧ w1 (mk e1) fun k => isKey k = true ∧ ds.length < sizeLine ∧ N (e1.set i (some (.dct (dputD ds k y))))) : wS (mDSet i mk na e) N R B C := by
  unfold mDSet
  generalize na e = r at h ⊢
  cases h with
  | @mk y e1 _ h =>
    obtain ⟨h1, ds, h2, h3⟩ := h
    simp only [h1, if_true, h2]
    generalize mk e1 = r at h3 ⊢
    cases h3 with
    | mk h3 =>
      obtain ⟨h4, h5, h6⟩ := h3
      simp only
      rw [if_pos ⟨h4, h5⟩]
      exact .nx h6
theorem mDComp_fold {g : MG} {tt : MT} {vs : List Nat} {E0 : E} {fk fv : D → D} : ∀ (ds : List D) (acc : List (D × D)), (∀ d ∈ ds, w0 (g d E0) fun e2 => w2 (tt e2) fun b e3 => b = true ∧ wipeE e3 vs = E0 ∧ w1 (mk e3) fun k => k = fk d ∧ isKey k = true ∧ w1 (mv e3) fun v => v = fv d ∧ imm v = true) →
    mDComp g tt mk mv vs ds E0 acc = .ok (ds.foldl (fun acc d => dputD acc (fk d) (fv d)) acc) E0
  | [], acc, _ => rfl
  | d :: ds, acc, h => by
    have h1 := h d List.mem_cons_self
    rw [mDComp]
    generalize g d E0 = r at h1 ⊢
    cases h1 with
    | @mk e2 _ h1 =>
      simp only
      generalize tt e2 = r at h1 ⊢
      cases h1 with
      | @mk b e3 _ h1 =>
        obtain ⟨rfl, h0, h1⟩ := h1
        simp only [if_true]
        generalize mk e3 = r at h1 ⊢
        cases h1 with
        | mk h1 =>
          obtain ⟨rfl, hk, h1⟩ := h1
          simp only
          generalize mv e3 = r at h1 ⊢
          cases h1 with
          | mk h1 =>
            obtain ⟨rfl, hv⟩ := h1
            simp only
            rw [if_pos ⟨hk, hv⟩, h0, mDComp_fold ds _ fun d hd => h d (List.mem_cons_of_mem _ hd)]
            rfl
theorem w2_dcomp {w : MW} {g : MG} {tt : MT} {vs : List Nat} (fk fv : D → D) (h : w2 (w e) fun items e1 => fits items.length = true ∧ (∀ d ∈ items, w0 (g d (wipeE e1 vs)) fun e2 => w2 (tt e2) fun b e3 => b = true ∧ wipeE e3 vs = wipeE e1 vs ∧ w1 (mk e3) fun k => k = fk d ∧ isKey k = true ∧ w1 (mv e3) fun v => v = fv d ∧ imm v = true) ∧
    Q2 (.dct (items.foldl (fun acc d => dputD acc (fk d) (fv d)) [])) (wipeE e1 vs)) : w2 (eDComp w g tt mk mv vs e) Q2 := by
  unfold eDComp
  generalize w e = r at h ⊢
  cases h with
  | @mk items e1 _ h =>
    obtain ⟨h1, h2, h3⟩ := h
    simp only [h1, if_true]
    rw [mDComp_fold items [] h2]
    exact .mk h3
end
/-! dicts whose keys are texts -/
abbrev SL := List (List Nat × D)
def strD (S : SL) : List (D × D) := S.map fun p => (.str p.1, p.2)
def lk (S : SL) (u : List Nat) : Option D := (S.find? fun p => decide (p.1 = u)).map (·.2)
def putL (S : SL) (u : List Nat) (y : D) : SL := if (S.any fun p => decide (p.1 = u)) = true then S.map (fun p => if p.1 = u then (p.1, y) else p) else S ++ [(u, y)]
theorem dget_str (S : SL) (u : List Nat) : dgetD (strD S) (.str u) = lk S u := by
  unfold dgetD strD lk
  induction S with
  | nil => rfl
  | cons p S ih =>
    rw [List.map_cons, List.find?_cons, List.find?_cons]
    have : keyEq (.str p.1) (.str u) = decide (p.1 = u) := rfl
    rw [this]
    cases decide (p.1 = u) with
    | true => rfl
    | false => exact ih
theorem dput_str (S : SL) (u : List Nat) (y : D) : dputD (strD S) (.str u) y = strD (putL S u y) := by
  unfold dputD putL
  have e1 : ((strD S).any fun p => keyEq p.1 (.str u)) = S.any fun p => decide (p.1 = u) := by
    unfold strD; rw [List.any_map]; rfl
  rw [e1]
  split
  · unfold strD
    rw [List.map_map, List.map_map]
    refine List.map_congr_left fun p _ => ?_
    show (if keyEq (.str p.1) (.str u) = true then (D.str p.1, y) else (.str p.1, p.2)) = (fun (p : List Nat × D) => (D.str p.1, p.2)) (if p.1 = u then (p.1, y) else p)
    have : keyEq (.str p.1) (.str u) = decide (p.1 = u) := rfl
    rw [this]
    by_cases h : p.1 = u
    · rw [if_pos (decide_eq_true h), if_pos h]
    · rw [if_neg (by simpa using h), if_neg h]
  · unfold strD; simp
theorem strD_len (S : SL) : (strD S).length = S.length := List.length_map _
theorem w0_dIn {S : SL} {u : List Nat} {Q : D → Prop} (q : Q (.bl (lk S u).isSome)) : w0 (fDIn (.str u) (.dct (strD S))) Q := w0_of (show some (D.bl (dgetD (strD S) (.str u)).isSome) = _ by rw [dget_str]) q
theorem w0_rIn {S : SL} {u : List Nat} {Q : D → Prop} (q : Q (.bl (lk S u).isSome)) : w0 (fDIn (.str u) (.rdc (strD S))) Q := w0_of (show some (D.bl (dgetD (strD S) (.str u)).isSome) = _ by rw [dget_str]) q
theorem w0_dNotIn {S : SL} {u : List Nat} {Q : D → Prop} (q : Q (.bl (!(lk S u).isSome))) : w0 (fDNotIn (.str u) (.dct (strD S))) Q := w0_of (show some (D.bl (!(dgetD (strD S) (.str u)).isSome)) = _ by rw [dget_str]) q
theorem w0_rNotIn {S : SL} {u : List Nat} {Q : D → Prop} (q : Q (.bl (!(lk S u).isSome))) : w0 (fDNotIn (.str u) (.rdc (strD S))) Q := w0_of (show some (D.bl (!(dgetD (strD S) (.str u)).isSome)) = _ by rw [dget_str]) q
theorem w0_dGet {S : SL} {u : List Nat} {d : D} {Q : D → Prop} (h : lk S u = some d) (q : Q d) : w0 (fDGet (.dct (strD S)) (.str u)) Q := w0_of (show dgetD (strD S) (.str u) = _ by rw [dget_str, h]) q
theorem w0_rGet {S : SL} {u : List Nat} {d : D} {Q : D → Prop} (h : lk S u = some d) (q : Q d) : w0 (fDGet (.rdc (strD S)) (.str u)) Q := w0_of (show dgetD (strD S) (.str u) = _ by rw [dget_str, h]) q
theorem w0_dGetOr {S : SL} {u : List Nat} {z : D} {Q : D → Prop} (q : Q ((lk S u).getD z)) : w0 (fDGetOr (.dct (strD S)) (.str u) z) Q := w0_of (show some ((dgetD (strD S) (.str u)).getD z) = _ by rw [dget_str]) q
theorem w0_rGetOr {S : SL} {u : List Nat} {z : D} {Q : D → Prop} (q : Q ((lk S u).getD z)) : w0 (fDGetOr (.rdc (strD S)) (.str u) z) Q := w0_of (show some ((dgetD (strD S) (.str u)).getD z) = _ by rw [dget_str]) q
/-! by a function over the keys -/
def fnS (names : List (List Nat)) (f : List Nat → D) : SL := names.map fun n => (n, f n)
theorem lk_fn {names : List (List Nat)} {f : List Nat → D} {u : List Nat} (h : u ∈ names) : lk (fnS names f) u = some (f u) := by
  unfold lk fnS
  induction names with
  | nil => cases h
  | cons n names ih =>
    rw [List.map_cons, List.find?_cons]
    by_cases e : n = u
    · subst e; simp
    · have : u ∈ names := (List.mem_cons.mp h).resolve_left fun z => e z.symm
      simp only [decide_eq_false e]
      exact ih this
theorem fn_any {names : List (List Nat)} {f : List Nat → D} {u : List Nat} : ((fnS names f).any fun p => decide (p.1 = u)) = decide (u ∈ names) := by
  unfold fnS
  rw [List.any_map, Bool.eq_iff_iff, List.any_eq_true, decide_eq_true_iff]
  constructor
  · rintro ⟨x, hx, h⟩
    have h := of_decide_eq_true h
    simp only at h
    rw [← h]; exact hx
  · intro h; exact ⟨u, h, decide_eq_true rfl⟩
theorem put_fn {names : List (List Nat)} {f : List Nat → D} {u : List Nat} {y : D} (h : u ∈ names) : putL (fnS names f) u y = fnS names fun v => if v = u then y else f v := by
  unfold putL
  rw [fn_any, if_pos (decide_eq_true h)]
  unfold fnS
  rw [List.map_map]
  refine List.map_congr_left fun n _ => ?_
  show (if n = u then (n, y) else (n, f n)) = (n, if n = u then y else f n)
  split <;> rfl
theorem put_new {names : List (List Nat)} {f : List Nat → D} {u : List Nat} {y : D} (h : u ∉ names) (hf : f u = y) : putL (fnS names f) u y = fnS (names ++ [u]) f := by
  unfold putL
  rw [fn_any, if_neg (by simpa using h)]
  unfold fnS
  simp [hf]
theorem fnS_len (names : List (List Nat)) (f : List Nat → D) : (fnS names f).length = names.length := List.length_map _
theorem wS_dsetS {e : E} {na : ME} {mk : MB} {i : Nat} {N B C : E → Prop} {R : D → E → Prop} (h : w2 (na e) fun y e1 => imm y = true ∧ ∃ S, e1[i]? = some (some (.dct (strD S))) ∧ S.length ≤ 1000000 ∧ w1 (mk e1) fun k => ∃ u, k = .str u ∧ N (e1.set i (some (.dct (strD (putL S u y)))))) : wS (mDSet i mk na e) N R B C :=
  wS_dset (w2_mono h fun y e1 ⟨h1, S, h2, h3, h4⟩ => ⟨h1, strD S, h2, w1_mono h4 fun k ⟨u, h5, h6⟩ => by
    subst h5
    refine ⟨rfl, by rw [strD_len]; have : sizeLine = 16777216 := rfl; omega, ?_⟩
    rw [dput_str]; exact h6⟩)
end Mir

namespace LK43
open PySem PySem.Spec L2 Mir
def topS (i : Nat) : Stmt := PySem.Challenge.pw_lectern_k43_layers_exactly.main.body.getD i (.Pass ⟨0, 0, 0, 0⟩)
abbrev s_is_kept : Stmt := topS 2
abbrev N_is_kept : List PySem.Str := ["layers", "edge", "upper", "lower", "absent"]
theorem sc_is_kept : FnScope N_is_kept ["layers", "edge"] (defScope s_is_kept) := ⟨rfl, rfl, rfl, by decide +kernel, rfl, by decide +kernel, by decide +kernel⟩
abbrev s_steps_to : Stmt := topS 3
abbrev N_steps_to : List PySem.Str := ["edges", "goal", "steps", "nearest", "count", "further", "upper", "lower", "_"]
theorem sc_steps_to : FnScope N_steps_to ["edges", "goal"] (defScope s_steps_to) := ⟨rfl, rfl, rfl, by decide +kernel, rfl, by decide +kernel, by decide +kernel⟩
abbrev s_way_along : Stmt := topS 4
abbrev N_way_along : List PySem.Str := ["edges", "start", "steps", "way", "at", "found", "edge"]
theorem sc_way_along : FnScope N_way_along ["edges", "start", "steps"] (defScope s_way_along) := ⟨rfl, rfl, rfl, by decide +kernel, rfl, by decide +kernel, by decide +kernel⟩
abbrev s_first_circle : Stmt := topS 5
abbrev N_first_circle : List PySem.Str := ["edges", "edge", "steps"]
theorem sc_first_circle : FnScope N_first_circle ["edges"] (defScope s_first_circle) := ⟨rfl, rfl, rfl, by decide +kernel, rfl, by decide +kernel, by decide +kernel⟩
abbrev s_least_layers : Stmt := topS 6
abbrev N_least_layers : List PySem.Str := ["names", "edges", "layers", "changed", "upper", "lower", "absent", "least", "name"]
theorem sc_least_layers : FnScope N_least_layers ["names", "edges"] (defScope s_least_layers) := ⟨rfl, rfl, rfl, by decide +kernel, rfl, by decide +kernel, by decide +kernel⟩
abbrev s_layers_of : Stmt := topS 7
abbrev N_layers_of : List PySem.Str := ["names", "edges", "circle", "layers", "name"]
theorem sc_layers_of : FnScope N_layers_of ["names", "edges"] (defScope s_layers_of) := ⟨rfl, rfl, rfl, by decide +kernel, rfl, by decide +kernel, by decide +kernel⟩
abbrev s_is_layer_pair : Stmt := topS 8
abbrev N_is_layer_pair : List PySem.Str := ["value", "name"]
theorem sc_is_layer_pair : FnScope N_is_layer_pair ["value", "name"] (defScope s_is_layer_pair) := ⟨rfl, rfl, rfl, by decide +kernel, rfl, by decide +kernel, by decide +kernel⟩
abbrev s_is_layers : Stmt := topS 9
abbrev N_is_layers : List PySem.Str := ["names", "edges", "layers", "at", "known", "edge", "name", "layer"]
theorem sc_is_layers : FnScope N_is_layers ["names", "edges", "layers"] (defScope s_is_layers) := ⟨rfl, rfl, rfl, by decide +kernel, rfl, by decide +kernel, by decide +kernel⟩
abbrev s_is_one_of : Stmt := topS 10
abbrev N_is_one_of : List PySem.Str := ["edges", "value"]
theorem sc_is_one_of : FnScope N_is_one_of ["edges", "value"] (defScope s_is_one_of) := ⟨rfl, rfl, rfl, by decide +kernel, rfl, by decide +kernel, by decide +kernel⟩
abbrev s_is_circle : Stmt := topS 11
abbrev N_is_circle : List PySem.Str := ["edges", "circle", "edge", "at"]
theorem sc_is_circle : FnScope N_is_circle ["edges", "circle"] (defScope s_is_circle) := ⟨rfl, rfl, rfl, by decide +kernel, rfl, by decide +kernel, by decide +kernel⟩
abbrev s__law_jar : Stmt := topS 13
abbrev N__law_jar : List PySem.Str := ["script", "rows", "k", "cell", "step", "mixed"]
theorem sc__law_jar : FnScope N__law_jar ["script"] (defScope s__law_jar) := ⟨rfl, rfl, rfl, by decide +kernel, rfl, by decide +kernel, by decide +kernel⟩
abbrev s__law_take : Stmt := topS 14
abbrev N__law_take : List PySem.Str := ["jar", "many", "at", "rows", "mixed"]
theorem sc__law_take : FnScope N__law_take ["jar", "many"] (defScope s__law_take) := ⟨rfl, rfl, rfl, by decide +kernel, rfl, by decide +kernel, by decide +kernel⟩
abbrev s__law_name : Stmt := topS 15
abbrev N__law_name : List PySem.Str := ["jar", "taken", "letters", "signs", "text", "k"]
theorem sc__law_name : FnScope N__law_name ["jar", "taken"] (defScope s__law_name) := ⟨rfl, rfl, rfl, by decide +kernel, rfl, by decide +kernel, by decide +kernel⟩
abbrev s__law_same : Stmt := topS 16
abbrev N__law_same : List PySem.Str := ["one", "two", "k"]
theorem sc__law_same : FnScope N__law_same ["one", "two"] (defScope s__law_same) := ⟨rfl, rfl, rfl, by decide +kernel, rfl, by decide +kernel, by decide +kernel⟩
abbrev s__law_steps : Stmt := topS 17
abbrev N__law_steps : List PySem.Str := ["edges", "goal", "steps", "turn", "added", "upper", "lower", "absent"]
theorem sc__law_steps : FnScope N__law_steps ["edges", "goal"] (defScope s__law_steps) := ⟨rfl, rfl, rfl, by decide +kernel, rfl, by decide +kernel, by decide +kernel⟩
abbrev s__law_circle : Stmt := topS 18
abbrev N__law_circle : List PySem.Str := ["edges", "edge", "steps", "circle", "at", "turn", "following", "other"]
theorem sc__law_circle : FnScope N__law_circle ["edges"] (defScope s__law_circle) := ⟨rfl, rfl, rfl, by decide +kernel, rfl, by decide +kernel, by decide +kernel⟩
abbrev s__law_layers : Stmt := topS 19
abbrev N__law_layers : List PySem.Str := ["names", "edges", "layers", "name", "turn", "upper", "lower", "absent", "least"]
theorem sc__law_layers : FnScope N__law_layers ["names", "edges"] (defScope s__law_layers) := ⟨rfl, rfl, rfl, by decide +kernel, rfl, by decide +kernel, by decide +kernel⟩
abbrev s__law_keeps : Stmt := topS 20
abbrev N__law_keeps : List PySem.Str := ["layers", "edges", "known", "name", "layer", "upper", "lower", "absent"]
theorem sc__law_keeps : FnScope N__law_keeps ["layers", "edges"] (defScope s__law_keeps) := ⟨rfl, rfl, rfl, by decide +kernel, rfl, by decide +kernel, by decide +kernel⟩
abbrev s__law_edges : Stmt := topS 21
abbrev N__law_edges : List PySem.Str := ["jar", "names", "many", "edges", "size", "length", "absent", "start", "k", "upper", "lower", "edge", "at"]
theorem sc__law_edges : FnScope N__law_edges ["jar", "names", "many"] (defScope s__law_edges) := ⟨rfl, rfl, rfl, by decide +kernel, rfl, by decide +kernel, by decide +kernel⟩
abbrev s__law_judges_layers : Stmt := topS 22
abbrev N__law_judges_layers : List PySem.Str := ["jar", "names", "edges", "layers", "at", "moved", "near", "due", "wrong", "others", "turned", "lifted", "name", "layer"]
theorem sc__law_judges_layers : FnScope N__law_judges_layers ["jar", "names", "edges", "layers"] (defScope s__law_judges_layers) := ⟨rfl, rfl, rfl, by decide +kernel, rfl, by decide +kernel, by decide +kernel⟩
abbrev s__law_is_circle : Stmt := topS 23
abbrev N__law_is_circle : List PySem.Str := ["edges", "circle", "k"]
theorem sc__law_is_circle : FnScope N__law_is_circle ["edges", "circle"] (defScope s__law_is_circle) := ⟨rfl, rfl, rfl, by decide +kernel, rfl, by decide +kernel, by decide +kernel⟩
abbrev s__law_judges_circle : Stmt := topS 24
abbrev N__law_judges_circle : List PySem.Str := ["jar", "names", "edges", "circle", "at", "upper", "lower", "absent", "changed", "near", "turned", "cut", "wrong", "others"]
theorem sc__law_judges_circle : FnScope N__law_judges_circle ["jar", "names", "edges", "circle"] (defScope s__law_judges_circle) := ⟨rfl, rfl, rfl, by decide +kernel, rfl, by decide +kernel, by decide +kernel⟩
abbrev s_law : Stmt := topS 25
abbrev N_law : List PySem.Str := ["script", "jar", "large", "size", "many", "taken", "names", "k", "edges", "told", "circle", "zeros", "layers", "edge", "name"]
theorem sc_law : FnScope N_law ["script"] (defScope s_law) := ⟨rfl, rfl, rfl, by decide +kernel, rfl, by decide +kernel, by decide +kernel⟩
def c_EDGE_SIZE : Mir.D := (.int 3)
/-! ### the mirrors -/
def b_is_kept : MS :=
  (mSeq (mAsg (gT [2, 3, 4]) (own (bVar 1)))
  (mSeq (mIf (tst (own (bVar 4)))
  (mRet (ofN (bin fGt (bin fDGet (bVar 0) (bVar 2)) (bin fDGet (bVar 0) (bVar 3)))))
  mNil)
  (mRet (ofN (bin fGe (bin fDGet (bVar 0) (bVar 2)) (bin fDGet (bVar 0) (bVar 3)))))))
def m_is_kept : MI := mDefI0 3 (fun i => i == 0) b_is_kept
theorem nx_is_kept : ∀ ds y os, m_is_kept ds ≠ .exc y os := fun _ _ _ => noI_ne
def b_steps_to : MS :=
  (mSeq (mSet 2 (ofN (mDispB [((bVar 1), (bC (.int 0)))])))
  (mSeq (mSet 3 (ofN (dLst (aCons (bVar 1) aNil))))
  (mSeq (mSet 4 (ofN (bC (.int 0))))
  (mSeq (mWh (tst (ofN (bin fGt (cal fLen (aCons (bVar 3) aNil)) (bC (.int 0)))))
  (mSeq (mAug 4 fAug (ofN (bC (.int 1))))
  (mSeq (mSet 5 (ofN (dLst aNil)))
  (mSeq (mForV 0 (gT [6, 7, 8])
  (mIf (andT (tst (ofN (bin fIn (bVar 7) (bVar 3)))) (tst (ofN (bin fDNotIn (bVar 6) (bVar 2)))))
  (mSeq (mDSet 2 (bVar 6) (own (bVar 4)))
  (mExpr (eMut 5 fAppend (acons (own (bVar 6)) anil))))
  mNil))
  (mSet 3 (eMv 5))))))
  (mRet (frzD (eMv 2)))))))
def m_steps_to : MD := mDef0 7 b_steps_to
theorem nx_steps_to : ∀ ds y, m_steps_to ds ≠ .exc y := fun _ _ => noX_ne
def b_way_along : MS :=
  (mSeq (mSet 3 (ofN (dLst aNil)))
  (mSeq (mSet 4 (own (bVar 1)))
  (mSeq (mWh (tst (ofN (bin fGt (bin fDGet (bVar 2) (bVar 4)) (bC (.int 0)))))
  (mSeq (mSet 5 (ofN (bC .non)))
  (mSeq (mForV 0 (gN 6)
  (mIf (andT (tst (ofN (bin fIs (bVar 5) (bC .non)))) (andT (tst (ofN (bin fEq (bin fIx (bVar 6) (bC (.int 0))) (bVar 4)))) (tst (ofN (bin fEq (getB (bVar 2) (bin fIx (bVar 6) (bC (.int 1))) (bin fDGet (bVar 2) (bVar 4))) (bin fSub (bin fDGet (bVar 2) (bVar 4)) (bC (.int 1))))))))
  (mSet 5 (own (bVar 6)))
  mNil))
  (mSeq (mExpr (eMut 3 fAppend (acons (own (bVar 5)) anil)))
  (mSet 4 (own (bin fIx (bVar 5) (bC (.int 1)))))))))
  (mRet (eMv 3)))))
def m_way_along : MD := mDef0 4 b_way_along
theorem nx_way_along : ∀ ds y, m_way_along ds ≠ .exc y := fun _ _ => noX_ne
def b_first_circle : MS :=
  (mSeq (mForV 0 (gN 1)
  (mIf (tst (own (bin fIx (bVar 1) (bC (.int 2)))))
  (mSeq (mSet 2 (ofN (cN m_steps_to (aCons (bVar 0) (aCons (bin fIx (bVar 1) (bC (.int 0))) aNil)))))
  (mIf (tst (ofN (bin fDIn (bin fIx (bVar 1) (bC (.int 1))) (bVar 2))))
  (mRet (ofN (bin fAdd (dTup (aCons (bVar 1) aNil)) (cal fTuple (aCons (cN m_way_along (aCons (bVar 0) (aCons (bin fIx (bVar 1) (bC (.int 1))) (aCons (bVar 2) aNil)))) aNil)))))
  mNil))
  mNil))
  (mRet (ofN (dTup aNil))))
def m_first_circle : MD := mDef0 2 b_first_circle
theorem nx_first_circle : ∀ ds y, m_first_circle ds ≠ .exc y := fun _ _ => noX_ne
def b_least_layers : MS :=
  (mSeq (mSet 2 (eDComp (wV (own (bVar 0))) (gN 8) tY (bVar 8) (bC (.int 0)) (([("name", 8)] : List (PySem.Str × Nat)).map (·.2))))
  (mSeq (mSet 3 (ofN (bC (.bl true))))
  (mSeq (mWh (tst (own (bVar 3)))
  (mSeq (mSet 3 (ofN (bC (.bl false))))
  (mForV 1 (gT [4, 5, 6])
  (mSeq (mSet 7 (ofN (bin fDGet (bVar 2) (bVar 5))))
  (mSeq (mIf (tst (own (bVar 6)))
  (mAug 7 fAug (ofN (bC (.int 1))))
  mNil)
  (mIf (tst (ofN (bin fLt (bin fDGet (bVar 2) (bVar 4)) (bVar 7))))
  (mSeq (mDSet 2 (bVar 4) (own (bVar 7)))
  (mSet 3 (ofN (bC (.bl true)))))
  mNil))))))
  (mRet (frzD (eMv 2))))))
def m_least_layers : MD := mDef0 7 b_least_layers
theorem nx_least_layers : ∀ ds y, m_least_layers ds ≠ .exc y := fun _ _ => noX_ne
def b_layers_of : MS :=
  (mSeq (mSet 2 (ofN (cN m_first_circle (aCons (bVar 1) aNil))))
  (mSeq (mIf (tst (ofN (bin fGt (cal fLen (aCons (bVar 2) aNil)) (bC (.int 0)))))
  (mRet (ofN (dTup (aCons (bC (.str (lit "circle"))) (aCons (bVar 2) aNil)))))
  mNil)
  (mSeq (mSet 3 (ofN (cN m_least_layers (aCons (bVar 0) (aCons (bVar 1) aNil)))))
  (mRet (dTupE (acons (ofN (bC (.str (lit "layers")))) (acons (calE fTuple (acons (eComp (wV (own (bVar 0))) (gN 4) tY (ofN (dTup (aCons (bVar 4) (aCons (bin fDGet (bVar 3) (bVar 4)) aNil)))) (([("name", 4)] : List (PySem.Str × Nat)).map (·.2))) anil)) anil)))))))
def m_layers_of : MD := mDef0 3 b_layers_of
theorem nx_layers_of : ∀ ds y, m_layers_of ds ≠ .exc y := fun _ _ => noX_ne
def b_is_layer_pair : MS :=
  (mSeq (mIf (orT (notT (tst (ofN (cal fIsi (aCons (bVar 0) (aCons (bC (.raw (.ty "tuple"))) aNil)))))) (orT (tst (ofN (bin fNe (cal fLen (aCons (bVar 0) aNil)) (bC (.int 2))))) (tst (ofN (bin fNe (bin fIx (bVar 0) (bC (.int 0))) (bVar 1))))))
  (mRet (ofN (bC (.bl false))))
  mNil)
  (mRet (ofN (andB (cal fIsi (aCons (bin fIx (bVar 0) (bC (.int 1))) (aCons (bC (.raw (.ty "int"))) aNil))) (andB (notB (cal fIsi (aCons (bin fIx (bVar 0) (bC (.int 1))) (aCons (bC (.raw (.ty "bool"))) aNil)))) (bin fGe (bin fIx (bVar 0) (bC (.int 1))) (bC (.int 0))))))))
def m_is_layer_pair : MD := mDef0 0 b_is_layer_pair
theorem nx_is_layer_pair : ∀ ds y, m_is_layer_pair ds ≠ .exc y := fun _ _ => noX_ne
def b_is_layers : MS :=
  (mSeq (mIf (orT (notT (tst (ofN (cal fIsi (aCons (bVar 2) (aCons (bC (.raw (.ty "tuple"))) aNil)))))) (tst (ofN (bin fNe (cal fLen (aCons (bVar 2) aNil)) (cal fLen (aCons (bVar 0) aNil))))))
  (mRet (ofN (bC (.bl false))))
  mNil)
  (mSeq (mFor (wR (acons (ofN (cal fLen (aCons (bVar 0) aNil))) anil)) (gN 3)
  (mIf (notT (tst (ofN (cN m_is_layer_pair (aCons (bin fIx (bVar 2) (bVar 3)) (aCons (bin fIx (bVar 0) (bVar 3)) aNil))))))
  (mRet (ofN (bC (.bl false))))
  mNil))
  (mSeq (mSet 4 (eDComp (wV (own (bVar 2))) (gT [6, 7]) tY (bVar 6) (bVar 7) (([("name", 6), ("layer", 7)] : List (PySem.Str × Nat)).map (·.2))))
  (mSeq (mForV 1 (gN 5)
  (mIf (notT (tst (eIO [4] m_is_kept (acons (own (bVar 5)) anil))))
  (mRet (ofN (bC (.bl false))))
  mNil))
  (mRet (ofN (bC (.bl true))))))))
def m_is_layers : MD := mDef0 5 b_is_layers
theorem nx_is_layers : ∀ ds y, m_is_layers ds ≠ .exc y := fun _ _ => noX_ne
def b_is_one_of : MS :=
  (mSeq (mIf (orT (notT (tst (ofN (cal fIsi (aCons (bVar 1) (aCons (bC (.raw (.ty "tuple"))) aNil)))))) (orT (tst (ofN (bin fNe (cal fLen (aCons (bVar 1) aNil)) (bC c_EDGE_SIZE)))) (notT (tst (ofN (cal fIsi (aCons (bin fIx (bVar 1) (bC (.int 2))) (aCons (bC (.raw (.ty "bool"))) aNil))))))))
  (mRet (ofN (bC (.bl false))))
  mNil)
  (mRet (ofN (bin fIn (bVar 1) (bVar 0)))))
def m_is_one_of : MD := mDef0 0 b_is_one_of
theorem nx_is_one_of : ∀ ds y, m_is_one_of ds ≠ .exc y := fun _ _ => noX_ne
def b_is_circle : MS :=
  (mSeq (mIf (orT (notT (tst (ofN (cal fIsi (aCons (bVar 1) (aCons (bC (.raw (.ty "tuple"))) aNil)))))) (tst (ofN (bin fEq (cal fLen (aCons (bVar 1) aNil)) (bC (.int 0))))))
  (mRet (ofN (bC (.bl false))))
  mNil)
  (mSeq (mForV 1 (gN 2)
  (mIf (notT (tst (ofN (cN m_is_one_of (aCons (bVar 0) (aCons (bVar 2) aNil))))))
  (mRet (ofN (bC (.bl false))))
  mNil))
  (mSeq (mFor (wR (acons (ofN (cal fLen (aCons (bVar 1) aNil))) anil)) (gN 3)
  (mIf (tst (ofN (bin fNe (bin fIx (bin fIx (bVar 1) (bin fSub (bVar 3) (bC (.int 1)))) (bC (.int 1))) (bin fIx (bin fIx (bVar 1) (bVar 3)) (bC (.int 0))))))
  (mRet (ofN (bC (.bl false))))
  mNil))
  (mRet (own (bin fIx (bin fIx (bVar 1) (bC (.int 0))) (bC (.int 2))))))))
def m_is_circle : MD := mDef0 2 b_is_circle
theorem nx_is_circle : ∀ ds y, m_is_circle ds ≠ .exc y := fun _ _ => noX_ne
def b__law_jar : MS :=
  (mSeq (mSet 1 (ofN (dLst aNil)))
  (mSeq (mFor (wR (acons (ofN (cal fMin (aCons (cal fLen (aCons (bVar 0) aNil)) (aCons (bC (.int 63)) aNil)))) anil)) (gN 2)
  (mSeq (mSet 3 (ofN (cal fInt (aCons (bin fIx (bVar 0) (bVar 2)) aNil))))
  (mSeq (mIf (tst (ofN (bin fLt (bVar 3) (bC (.int 0)))))
  (mSet 3 (ofN (un fNeg (bVar 3))))
  mNil)
  (mIf (tst (ofN (bin fGe (bVar 3) (bin fPow (bC (.int 10)) (bC (.int 18))))))
  (mFor (wR (acons (ofN (bC (.int 40))) anil)) (gN 4)
  (mIf (tst (ofN (bin fGt (bVar 3) (bC (.int 0)))))
  (mSeq (mExpr (eMut 1 fAppend (acons (ofN (bin fMod (cal fInt (aCons (bVar 3) aNil)) (bC (.int 1009)))) anil)))
  (mSet 3 (ofN (bin fDiv (bVar 3) (bC (.int 1009))))))
  mNil))
  (mSeq (mSet 5 (ofN (bin fMod (cal fInt (aCons (bin fAdd (bin fAdd (bin fMul (bVar 3) (bC (.int 48271))) (bin fMul (bVar 2) (bC (.int 69621)))) (bC (.int 11))) aNil)) (bC (.int 999983)))))
  (mSeq (mExpr (eMut 1 fAppend (acons (own (bVar 5)) anil)))
  (mExpr (eMut 1 fAppend (acons (ofN (bin fMod (cal fInt (aCons (bin fAdd (bin fAdd (bin fMul (bVar 5) (bC (.int 1103))) (bin fMul (bVar 2) (bC (.int 7919)))) (bC (.int 5))) aNil)) (bC (.int 99991)))) anil)))))))))
  (mRet (dLstE (acons (frz (eMv 1)) (acons (ofN (bC (.int 0))) anil))))))
def m__law_jar : MD := mDef0 5 b__law_jar
theorem nx__law_jar : ∀ ds y, m__law_jar ds ≠ .exc y := fun _ _ => noX_ne
def b__law_take : MS :=
  (mSeq (mSet 2 (own (bin fIx (bVar 0) (bC (.int 1)))))
  (mSeq (mSetIx 0 (bC (.int 1)) (ofN (bin fAdd (bVar 2) (bC (.int 1)))))
  (mSeq (mSet 3 (own (bin fIx (bVar 0) (bC (.int 0)))))
  (mSeq (mIf (tst (ofN (bin fLt (bVar 2) (cal fLen (aCons (bVar 3) aNil)))))
  (mRet (ofN (bin fMod (cal fInt (aCons (bin fIx (bVar 3) (bVar 2)) aNil)) (bVar 1))))
  mNil)
  (mSeq (mSet 4 (ofN (bin fMod (cal fInt (aCons (bin fAdd (bin fAdd (bin fMul (bVar 2) (bC (.int 7919))) (bin fMul (cal fLen (aCons (bVar 3) aNil)) (bC (.int 104729)))) (bC (.int 17))) aNil)) (bC (.int 999983)))))
  (mSeq (mIf (tst (ofN (bin fGt (cal fLen (aCons (bVar 3) aNil)) (bC (.int 0)))))
  (mSet 4 (ofN (bin fMod (cal fInt (aCons (bin fAdd (bVar 4) (bin fMul (bin fIx (bVar 3) (bin fSub (bVar 2) (bin fMul (bin fDiv (bVar 2) (cal fLen (aCons (bVar 3) aNil))) (cal fLen (aCons (bVar 3) aNil))))) (bin fAdd (bin fDiv (bVar 2) (cal fLen (aCons (bVar 3) aNil))) (bC (.int 3))))) aNil)) (bC (.int 999983)))))
  mNil)
  (mRet (ofN (bin fMod (cal fInt (aCons (bin fDiv (bin fMod (cal fInt (aCons (bin fMul (bVar 4) (bC (.int 48271))) aNil)) (bC (.int 999983))) (bC (.int 7))) aNil)) (bVar 1))))))))))
def m__law_take : MI := mDefI0 3 (fun i => i == 0) b__law_take
theorem nx__law_take : ∀ ds y os, m__law_take ds ≠ .exc y os := fun _ _ _ => noI_ne
def b__law_name : MS :=
  (mSeq (mSet 2 (ofN (bC (.str (lit "abcdefghijklmnopqrstuvwxyz")))))
  (mSeq (mSet 3 (ofN (bin fAdd (bVar 2) (bC (.str (lit "0123456789"))))))
  (mSeq (mSet 4 (binV (immF fIx) 2 (eIO [0] m__law_take (acons (ofN (bC (.int 26))) anil))))
  (mSeq (mFor (wR (acons (binE fMul (eIO [0] m__law_take (acons (ofN (bC (.int 4))) anil)) (binE fAdd (ofN (bC (.int 1))) (eIO [0] m__law_take (acons (ofN (bC (.int 3))) anil)))) anil)) (gN 5)
  (mSet 4 (binV fAdd 4 (binV (immF fIx) 3 (eIO [0] m__law_take (acons (ofN (bC (.int 36))) anil))))))
  (mSeq (mSet 4 (ofN (cut (bVar 4) none (some (bC (.int 8))))))
  (mSeq (mFor (wR (acons (ofN (bC (.int 60))) anil)) (gN 5)
  (mIf (tst (ofN (bin fIn (bVar 4) (bVar 1))))
  (mSet 4 (ofN (bin fAdd (bin fAdd (cut (bVar 4) none (some (bC (.int 6)))) (bC (.str (lit "x")))) (cal fStr (aCons (bVar 5) aNil)))))
  mNil))
  (mSeq (mExpr (eMut 1 fAppend (acons (own (bVar 4)) anil)))
  (mRet (own (bVar 4))))))))))
def m__law_name : MI := mDefI0 4 (fun i => i == 0 || i == 1) b__law_name
theorem nx__law_name : ∀ ds y os, m__law_name ds ≠ .exc y os := fun _ _ _ => noI_ne
def b__law_same (rec_ : MD) : MS :=
  (mSeq (mIf (tst (ofN (cal fIsi (aCons (bVar 1) (aCons (bC (.raw (.ty "tuple"))) aNil)))))
  (mSeq (mIf (orT (notT (tst (ofN (cal fIsi (aCons (bVar 0) (aCons (bC (.raw (.ty "tuple"))) aNil)))))) (tst (ofN (bin fNe (cal fLen (aCons (bVar 0) aNil)) (cal fLen (aCons (bVar 1) aNil))))))
  (mRet (ofN (bC (.bl false))))
  mNil)
  (mSeq (mFor (wR (acons (ofN (cal fLen (aCons (bVar 1) aNil))) anil)) (gN 2)
  (mIf (notT (tst (ofN (cN (rec_) (aCons (bin fIx (bVar 0) (bVar 2)) (aCons (bin fIx (bVar 1) (bVar 2)) aNil))))))
  (mRet (ofN (bC (.bl false))))
  mNil))
  (mRet (ofN (bC (.bl true))))))
  mNil)
  (mSeq (mIf (tst (ofN (cal fIsi (aCons (bVar 1) (aCons (bC (.raw (.ty "bool"))) aNil)))))
  (mRet (ofN (andB (cal fIsi (aCons (bVar 0) (aCons (bC (.raw (.ty "bool"))) aNil))) (bin fEq (bVar 0) (bVar 1)))))
  mNil)
  (mSeq (mIf (tst (ofN (cal fIsi (aCons (bVar 1) (aCons (bC (.raw (.ty "int"))) aNil)))))
  (mRet (ofN (andB (cal fIsi (aCons (bVar 0) (aCons (bC (.raw (.ty "int"))) aNil))) (andB (notB (cal fIsi (aCons (bVar 0) (aCons (bC (.raw (.ty "bool"))) aNil)))) (bin fEq (bVar 0) (bVar 1))))))
  mNil)
  (mSeq (mIf (tst (ofN (cal fIsi (aCons (bVar 1) (aCons (bC (.raw (.ty "str"))) aNil)))))
  (mRet (ofN (andB (cal fIsi (aCons (bVar 0) (aCons (bC (.raw (.ty "str"))) aNil))) (bin fEq (bVar 0) (bVar 1)))))
  mNil)
  (mRet (ofN (andB (bin fIs (bVar 0) (bC .non)) (bin fIs (bVar 1) (bC .non)))))))))
def m__law_same : Nat → MD
  | 0 => fun _ => .bad
  | n + 1 => mDef0 1 (b__law_same (m__law_same n))
theorem nx__law_same : ∀ n ds y, m__law_same n ds ≠ .exc y
  | 0, _, _ => fun h => nomatch h
  | n + 1, _, _ => noX_ne
def b__law_steps : MS :=
  (mSeq (mSet 2 (ofN (mDispB [((bVar 1), (bC (.int 0)))])))
  (mSeq (mFor (wR (acons (ofN (bC (.int 61))) anil)) (gN 3)
  (mSeq (mSet 4 (ofN (dLst aNil)))
  (mSeq (mForV 0 (gT [5, 6, 7])
  (mIf (andT (tst (ofN (bin fDNotIn (bVar 5) (bVar 2)))) (andT (tst (ofN (bin fDIn (bVar 6) (bVar 2)))) (tst (ofN (bin fNotIn (bVar 5) (bVar 4))))))
  (mExpr (eMut 4 fAppend (acons (own (bVar 5)) anil)))
  mNil))
  (mSeq (mIf (tst (ofN (bin fEq (cal fLen (aCons (bVar 4) aNil)) (bC (.int 0)))))
  (mRet (frzD (eMv 2)))
  mNil)
  (mForV 4 (gN 5)
  (mDSet 2 (bVar 5) (ofN (bin fAdd (bVar 3) (bC (.int 1))))))))))
  (mRet (frzD (eMv 2)))))
def m__law_steps : MD := mDef0 6 b__law_steps
theorem nx__law_steps : ∀ ds y, m__law_steps ds ≠ .exc y := fun _ _ => noX_ne
def b__law_circle : MS :=
  (mSeq (mForV 0 (gN 1)
  (mIf (tst (own (bin fIx (bVar 1) (bC (.int 2)))))
  (mSeq (mSet 2 (ofN (cN m__law_steps (aCons (bVar 0) (aCons (bin fIx (bVar 1) (bC (.int 0))) aNil)))))
  (mIf (tst (ofN (bin fDIn (bin fIx (bVar 1) (bC (.int 1))) (bVar 2))))
  (mSeq (mSet 3 (ofN (dLst (aCons (bVar 1) aNil))))
  (mSeq (mSet 4 (own (bin fIx (bVar 1) (bC (.int 1)))))
  (mSeq (mFor (wR (acons (ofN (bin fDGet (bVar 2) (bVar 4))) anil)) (gN 5)
  (mSeq (mSet 6 (ofN (dLst aNil)))
  (mSeq (mForV 0 (gN 7)
  (mIf (andT (tst (ofN (bin fEq (bin fIx (bVar 7) (bC (.int 0))) (bVar 4)))) (andT (tst (ofN (bin fDIn (bin fIx (bVar 7) (bC (.int 1))) (bVar 2)))) (tst (ofN (bin fEq (bin fAdd (bin fDGet (bVar 2) (bin fIx (bVar 7) (bC (.int 1)))) (bC (.int 1))) (bin fDGet (bVar 2) (bVar 4)))))))
  (mExpr (eMut 6 fAppend (acons (own (bVar 7)) anil)))
  mNil))
  (mSeq (mExpr (eMut 3 fAppend (acons (own (bin fIx (bVar 6) (bC (.int 0)))) anil)))
  (mSet 4 (own (bin fIx (bin fIx (bVar 6) (bC (.int 0))) (bC (.int 1)))))))))
  (mRet (ofN (cal fTuple (aCons (bVar 3) aNil)))))))
  mNil))
  mNil))
  (mRet (ofN (dTup aNil))))
def m__law_circle : MD := mDef0 7 b__law_circle
theorem nx__law_circle : ∀ ds y, m__law_circle ds ≠ .exc y := fun _ _ => noX_ne
def b__law_layers : MS :=
  (mSeq (mSet 2 (ofN mNewD))
  (mSeq (mForV 0 (gN 3)
  (mDSet 2 (bVar 3) (ofN (bC (.int 0)))))
  (mSeq (mFor (wR (acons (ofN (bin fAdd (cal fLen (aCons (bVar 0) aNil)) (bC (.int 1)))) anil)) (gN 4)
  (mForV 1 (gT [5, 6, 7])
  (mSeq (mSet 8 (ofN (bin fAdd (bin fDGet (bVar 2) (bVar 6)) (cal fInt (aCons (bVar 7) aNil)))))
  (mIf (tst (ofN (bin fLt (bin fDGet (bVar 2) (bVar 5)) (bVar 8))))
  (mDSet 2 (bVar 5) (own (bVar 8)))
  mNil))))
  (mRet (calE fTuple (acons (eComp (wV (own (bVar 0))) (gN 3) tY (ofN (dTup (aCons (bVar 3) (aCons (bin fDGet (bVar 2) (bVar 3)) aNil)))) (([("name", 3)] : List (PySem.Str × Nat)).map (·.2))) anil))))))
def m__law_layers : MD := mDef0 7 b__law_layers
theorem nx__law_layers : ∀ ds y, m__law_layers ds ≠ .exc y := fun _ _ => noX_ne
def b__law_keeps : MS :=
  (mSeq (mSet 2 (ofN mNewD))
  (mSeq (mForV 0 (gT [3, 4])
  (mDSet 2 (bVar 3) (own (bVar 4))))
  (mSeq (mForV 1 (gT [5, 6, 7])
  (mIf (tst (ofN (bin fLt (bin fDGet (bVar 2) (bVar 5)) (bin fAdd (bin fDGet (bVar 2) (bVar 6)) (cal fInt (aCons (bVar 7) aNil))))))
  (mRet (ofN (bC (.bl false))))
  mNil))
  (mRet (ofN (bC (.bl true)))))))
def m__law_keeps : MD := mDef0 6 b__law_keeps
theorem nx__law_keeps : ∀ ds y, m__law_keeps ds ≠ .exc y := fun _ _ => noX_ne
def b__law_edges : MS :=
  (mSeq (mSet 3 (ofN (dLst aNil)))
  (mSeq (mSet 4 (ofN (cal fLen (aCons (bVar 1) aNil))))
  (mSeq (mIf (tst (binE fEq (eIO [0] m__law_take (acons (ofN (bC (.int 3))) anil)) (ofN (bC (.int 0)))))
  (mSeq (mSet 5 (binE fAdd (ofN (bC (.int 1))) (eIO [0] m__law_take (acons (ofN (cal fMin (aCons (bVar 4) (aCons (bC (.int 5)) aNil)))) anil))))
  (mSeq (mSet 6 (eIO [0] m__law_take (acons (ofN (bin fAdd (bVar 5) (bC (.int 1)))) anil)))
  (mSeq (mSet 7 (eIO [0] m__law_take (acons (own (bVar 4)) anil)))
  (mFor (wR (acons (own (bVar 5)) anil)) (gN 8)
  (mSeq (mSet 9 (own (bin fIx (bVar 1) (bin fMod (cal fInt (aCons (bin fAdd (bVar 7) (bVar 8)) aNil)) (bVar 4)))))
  (mSeq (mSet 10 (own (bin fIx (bVar 1) (bin fMod (cal fInt (aCons (bin fAdd (bVar 7) (bin fMod (cal fInt (aCons (bin fAdd (bVar 8) (bC (.int 1))) aNil)) (bVar 5))) aNil)) (bVar 4)))))
  (mExpr (eMut 3 fAppend (acons (ofN (dTup (aCons (bVar 9) (aCons (bVar 10) (aCons (bin fEq (bVar 8) (bVar 6)) aNil))))) anil)))))))))
  mNil)
  (mSeq (mFor (wR (acons (own (bVar 2)) anil)) (gN 8)
  (mSeq (mSet 9 (eIO [0] m__law_take (acons (own (bVar 4)) anil)))
  (mSeq (mSet 10 (eIO [0] m__law_take (acons (own (bVar 4)) anil)))
  (mSeq (mIf (andT (tst (binE fGt (eIO [0] m__law_take (acons (ofN (bC (.int 3))) anil)) (ofN (bC (.int 0))))) (tst (ofN (bin fLt (bVar 9) (bVar 10)))))
  (mPar 9 10 (acons (own (bVar 10)) (acons (own (bVar 9)) anil)))
  mNil)
  (mSeq (mSet 11 (dTupE (acons (own (bin fIx (bVar 1) (bVar 9))) (acons (own (bin fIx (bVar 1) (bVar 10))) (acons (andE (binE fEq (eIO [0] m__law_take (acons (ofN (bC (.int 3))) anil)) (ofN (bC (.int 0)))) (orE (ofN (bin fNe (bVar 9) (bVar 10))) (binE fEq (eIO [0] m__law_take (acons (ofN (bC (.int 9))) anil)) (ofN (bC (.int 0)))))) anil)))))
  (mSeq (mIf (andT (tst (ofN (bin fGt (cal fLen (aCons (bVar 3) aNil)) (bC (.int 0))))) (tst (binE fEq (eIO [0] m__law_take (acons (ofN (bC (.int 8))) anil)) (ofN (bC (.int 0))))))
  (mSet 11 (binV (immF fIx) 3 (eIO [0] m__law_take (acons (ofN (cal fLen (aCons (bVar 3) aNil))) anil))))
  mNil)
  (mExpr (eMut 3 fAppend (acons (own (bVar 11)) anil)))))))))
  (mSeq (mIf (tst (ofN (bin fGt (cal fLen (aCons (bVar 3) aNil)) (bC (.int 0)))))
  (mSeq (mSet 12 (eIO [0] m__law_take (acons (ofN (cal fLen (aCons (bVar 3) aNil))) anil)))
  (mSet 3 (ofN (bin fAdd (cut (bVar 3) (some (bVar 12)) none) (cut (bVar 3) none (some (bVar 12)))))))
  mNil)
  (mRet (ofN (cal fTuple (aCons (bVar 3) aNil)))))))))
def m__law_edges : MI := mDefI0 10 (fun i => i == 0) b__law_edges
theorem nx__law_edges : ∀ ds y os, m__law_edges ds ≠ .exc y os := fun _ _ _ => noI_ne
def b__law_judges_layers : MS :=
  (mSeq (mIf (tst (ofN (bin fGt (cal fLen (aCons (bVar 1) aNil)) (bC (.int 0)))))
  (mSeq (mSet 4 (eIO [0] m__law_take (acons (ofN (cal fLen (aCons (bVar 1) aNil))) anil)))
  (mSeq (mSet 5 (binE fAdd (own (bin fIx (bin fIx (bVar 3) (bVar 4)) (bC (.int 1)))) (binE (immF fIx) (ofN (dLst (aCons (bC (.int 1)) (aCons (un fNeg (bC (.int 1))) (aCons (bC (.int 5)) aNil))))) (eIO [0] m__law_take (acons (ofN (bC (.int 3))) anil)))))
  (mSeq (mSet 6 (ofN (bin fAdd (bin fAdd (cut (bVar 3) none (some (bVar 4))) (dTup (aCons (dTup (aCons (bin fIx (bin fIx (bVar 3) (bVar 4)) (bC (.int 0))) (aCons (bVar 5) aNil))) aNil))) (cut (bVar 3) (some (bin fAdd (bVar 4) (bC (.int 1)))) none))))
  (mSeq (mSet 7 (ofN (andB (bin fGe (bVar 5) (bC (.int 0))) (cN m__law_keeps (aCons (bVar 6) (aCons (bVar 2) aNil))))))
  (mSeq (mIf (notT (tst (ofN (cN (m__law_same 10) (aCons (cN m_is_layers (aCons (bVar 1) (aCons (bVar 2) (aCons (bVar 6) aNil)))) (aCons (bVar 7) aNil))))))
  (mRet (ofN (bC (.bl false))))
  mNil)
  (mSeq (mSet 8 (ofN (bin fAdd (bin fAdd (cut (bVar 3) none (some (bVar 4))) (dTup (aCons (dTup (aCons (bin fIx (bin fIx (bVar 3) (bVar 4)) (bC (.int 0))) (aCons (bin fEq (bin fIx (bin fIx (bVar 3) (bVar 4)) (bC (.int 1))) (bC (.int 1))) aNil))) aNil))) (cut (bVar 3) (some (bin fAdd (bVar 4) (bC (.int 1)))) none))))
  (mSeq (mSet 9 (dLstE (acons (own (bVar 8)) (acons (ofN (cut (bVar 3) none (some (un fNeg (bC (.int 1)))))) (acons (ofN (bin fAdd (bVar 3) (dTup (aCons (bin fIx (bVar 3) (bC (.int 0))) aNil)))) (acons (frz (ofN (cal fList (aCons (bVar 3) aNil)))) (acons (ofN (bC .non)) (acons (ofN (bC (.int 7))) anil))))))))
  (mSeq (mIf (tst (binE fIsnt (cE m_is_layers (acons (own (bVar 1)) (acons (own (bVar 2)) (acons (binV (immF fIx) 9 (eIO [0] m__law_take (acons (ofN (bC (.int 6))) anil))) anil)))) (ofN (bC (.bl false)))))
  (mRet (ofN (bC (.bl false))))
  mNil)
  (mIf (tst (ofN (bin fGt (cal fLen (aCons (bVar 1) aNil)) (bC (.int 1)))))
  (mSeq (mSet 10 (ofN (bin fAdd (cut (bVar 3) (some (bC (.int 1))) none) (cut (bVar 3) none (some (bC (.int 1)))))))
  (mIf (tst (ofN (bin fIsnt (cN m_is_layers (aCons (bVar 1) (aCons (bVar 2) (aCons (bVar 10) aNil)))) (bC (.bl false)))))
  (mRet (ofN (bC (.bl false))))
  mNil))
  mNil)))))))))
  mNil)
  (mSeq (mSet 11 (calE fTuple (acons (eComp (wV (own (bVar 3))) (gT [12, 13]) tY (ofN (dTup (aCons (bVar 12) (aCons (bin fAdd (bVar 13) (bC (.int 3))) aNil)))) (([("name", 12), ("layer", 13)] : List (PySem.Str × Nat)).map (·.2))) anil)))
  (mRet (ofN (andB (bin fIs (cN m_is_layers (aCons (bVar 1) (aCons (bVar 2) (aCons (bVar 3) aNil)))) (bC (.bl true))) (bin fIs (cN m_is_layers (aCons (bVar 1) (aCons (bVar 2) (aCons (bVar 11) aNil)))) (bC (.bl true))))))))
def m__law_judges_layers : MI := mDefI0 10 (fun i => i == 0) b__law_judges_layers
theorem nx__law_judges_layers : ∀ ds y os, m__law_judges_layers ds ≠ .exc y os := fun _ _ _ => noI_ne
def b__law_is_circle : MS :=
  (mSeq (mIf (orT (tst (ofN (bin fEq (cal fLen (aCons (bVar 1) aNil)) (bC (.int 0))))) (notT (tst (own (bin fIx (bin fIx (bVar 1) (bC (.int 0))) (bC (.int 2)))))))
  (mRet (ofN (bC (.bl false))))
  mNil)
  (mSeq (mFor (wR (acons (ofN (cal fLen (aCons (bVar 1) aNil))) anil)) (gN 2)
  (mIf (orT (tst (ofN (bin fNotIn (bin fIx (bVar 1) (bVar 2)) (bVar 0)))) (tst (ofN (bin fNe (bin fIx (bin fIx (bVar 1) (bin fSub (bVar 2) (bC (.int 1)))) (bC (.int 1))) (bin fIx (bin fIx (bVar 1) (bVar 2)) (bC (.int 0)))))))
  (mRet (ofN (bC (.bl false))))
  mNil))
  (mRet (ofN (bC (.bl true))))))
def m__law_is_circle : MD := mDef0 1 b__law_is_circle
theorem nx__law_is_circle : ∀ ds y, m__law_is_circle ds ≠ .exc y := fun _ _ => noX_ne
def b__law_judges_circle : MS :=
  (mSeq (mSet 4 (eIO [0] m__law_take (acons (ofN (cal fLen (aCons (bVar 3) aNil))) anil)))
  (mSeq (mAsg (gT [5, 6, 7]) (own (bin fIx (bVar 3) (bVar 4))))
  (mSeq (mSet 8 (dLstE (acons (dTupE (acons (own (bVar 5)) (acons (binV (immF fIx) 1 (eIO [0] m__law_take (acons (ofN (cal fLen (aCons (bVar 1) aNil))) anil))) (acons (own (bVar 7)) anil)))) (acons (ofN (dTup (aCons (bVar 5) (aCons (bVar 6) (aCons (notB (bVar 7)) aNil))))) (acons (ofN (dTup (aCons (bVar 6) (aCons (bVar 5) (aCons (bVar 7) aNil))))) anil)))))
  (mSeq (mSet 9 (binE fAdd (binE fAdd (ofN (cut (bVar 3) none (some (bVar 4)))) (dTupE (acons (binV (immF fIx) 8 (eIO [0] m__law_take (acons (ofN (bC (.int 3))) anil))) anil))) (ofN (cut (bVar 3) (some (bin fAdd (bVar 4) (bC (.int 1)))) none))))
  (mSeq (mIf (notT (tst (ofN (cN (m__law_same 10) (aCons (cN m_is_circle (aCons (bVar 2) (aCons (bVar 9) aNil))) (aCons (cN m__law_is_circle (aCons (bVar 2) (aCons (bVar 9) aNil))) aNil))))))
  (mRet (ofN (bC (.bl false))))
  mNil)
  (mSeq (mSet 10 (ofN (bin fAdd (cut (bVar 3) (some (bVar 4)) none) (cut (bVar 3) none (some (bVar 4))))))
  (mSeq (mIf (notT (tst (ofN (cN (m__law_same 10) (aCons (cN m_is_circle (aCons (bVar 2) (aCons (bVar 10) aNil))) (aCons (cN m__law_is_circle (aCons (bVar 2) (aCons (bVar 10) aNil))) aNil))))))
  (mRet (ofN (bC (.bl false))))
  mNil)
  (mSeq (mSet 11 (ofN (bin fAdd (cut (bVar 3) none (some (bVar 4))) (cut (bVar 3) (some (bin fAdd (bVar 4) (bC (.int 1)))) none))))
  (mSeq (mIf (notT (tst (ofN (cN (m__law_same 10) (aCons (cN m_is_circle (aCons (bVar 2) (aCons (bVar 11) aNil))) (aCons (cN m__law_is_circle (aCons (bVar 2) (aCons (bVar 11) aNil))) aNil))))))
  (mRet (ofN (bC (.bl false))))
  mNil)
  (mSeq (mSet 12 (ofN (bin fAdd (bin fAdd (cut (bVar 3) none (some (bVar 4))) (dTup (aCons (dTup (aCons (bVar 5) (aCons (bVar 6) (aCons (cal fInt (aCons (bVar 7) aNil)) aNil)))) aNil))) (cut (bVar 3) (some (bin fAdd (bVar 4) (bC (.int 1)))) none))))
  (mSeq (mSet 13 (dLstE (acons (ofN (dTup aNil)) (acons (frz (ofN (cal fList (aCons (bVar 3) aNil)))) (acons (ofN (bC .non)) (acons (own (bVar 12)) (acons (ofN (dTup (aCons (bVar 3) aNil))) (acons (ofN (bC (.str (lit "")))) (acons (ofN (bin fAdd (bin fAdd (cut (bVar 3) none (some (bVar 4))) (dTup (aCons (bC .non) aNil))) (cut (bVar 3) (some (bin fAdd (bVar 4) (bC (.int 1)))) none))) anil)))))))))
  (mSeq (mIf (tst (binE fIsnt (cE m_is_circle (acons (own (bVar 2)) (acons (binV (immF fIx) 13 (eIO [0] m__law_take (acons (ofN (bC (.int 7))) anil))) anil))) (ofN (bC (.bl false)))))
  (mRet (ofN (bC (.bl false))))
  mNil)
  (mRet (ofN (andB (bin fIs (cN m_is_circle (aCons (bVar 2) (aCons (bVar 3) aNil))) (bC (.bl true))) (bin fIs (cN m_is_circle (aCons (bVar 2) (aCons (bin fAdd (bVar 3) (bVar 3)) aNil))) (bC (.bl true))))))))))))))))))
def m__law_judges_circle : MI := mDefI0 10 (fun i => i == 0) b__law_judges_circle
theorem nx__law_judges_circle : ∀ ds y os, m__law_judges_circle ds ≠ .exc y os := fun _ _ _ => noI_ne
def b_law : MS :=
  (mSeq (mSet 1 (ofN (cN m__law_jar (aCons (bVar 0) aNil))))
  (mSeq (mSet 2 (binE fEq (eIO [1] m__law_take (acons (ofN (bC (.int 8))) anil)) (ofN (bC (.int 0)))))
  (mSeq (mSet 3 (binE fAdd (ofN (bC (.int 1))) (eIO [1] m__law_take (acons (ofN (bC (.int 9))) anil))))
  (mSeq (mSet 4 (eIO [1] m__law_take (acons (ofN (bC (.int 15))) anil)))
  (mSeq (mIf (tst (own (bVar 2)))
  (mSeq (mSet 3 (ofN (bC (.int 60))))
  (mSet 4 (binE fAdd (ofN (bC (.int 20))) (eIO [1] m__law_take (acons (ofN (bC (.int 71))) anil)))))
  mNil)
  (mSeq (mSet 5 (ofN (dLst aNil)))
  (mSeq (mSet 6 (ofN (dLst aNil)))
  (mSeq (mFor (wR (acons (own (bVar 3)) anil)) (gN 7)
  (mExpr (eMut 6 fAppend (acons (eIO [1, 5] m__law_name anil) anil))))
  (mSeq (mSet 6 (ofN (cal fTuple (aCons (bVar 6) aNil))))
  (mSeq (mSet 8 (eIO [1] m__law_edges (acons (own (bVar 6)) (acons (own (bVar 4)) anil))))
  (mSeq (mSet 9 (ofN (cN m_layers_of (aCons (bVar 6) (aCons (bVar 8) aNil)))))
  (mSeq (mSet 10 (ofN (cN m__law_circle (aCons (bVar 8) aNil))))
  (mSeq (mIf (tst (ofN (bin fGt (cal fLen (aCons (bVar 10) aNil)) (bC (.int 0)))))
  (mSeq (mIf (notT (tst (ofN (cN (m__law_same 10) (aCons (bVar 9) (aCons (dTup (aCons (bC (.str (lit "circle"))) (aCons (bVar 10) aNil))) aNil))))))
  (mRet (ofN (bC (.bl false))))
  mNil)
  (mSeq (mSet 11 (calE fTuple (acons (eComp (wV (own (bVar 6))) (gN 14) tY (ofN (dTup (aCons (bVar 14) (aCons (bC (.int 0)) aNil)))) (([("name", 14)] : List (PySem.Str × Nat)).map (·.2))) anil)))
  (mSeq (mIf (tst (ofN (bin fIsnt (cN m_is_layers (aCons (bVar 6) (aCons (bVar 8) (aCons (bVar 11) aNil)))) (bC (.bl false)))))
  (mRet (ofN (bC (.bl false))))
  mNil)
  (mRet (eIO [1] m__law_judges_circle (acons (own (bVar 6)) (acons (own (bVar 8)) (acons (own (bVar 10)) anil))))))))
  mNil)
  (mSeq (mSet 12 (ofN (cN m__law_layers (aCons (bVar 6) (aCons (bVar 8) aNil)))))
  (mSeq (mIf (notT (tst (ofN (cN (m__law_same 10) (aCons (bVar 9) (aCons (dTup (aCons (bC (.str (lit "layers"))) (aCons (bVar 12) aNil))) aNil))))))
  (mRet (ofN (bC (.bl false))))
  mNil)
  (mSeq (mForV 8 (gN 13)
  (mIf (andT (tst (own (bin fIx (bVar 13) (bC (.int 2))))) (tst (ofN (bin fIsnt (cN m_is_circle (aCons (bVar 8) (aCons (dTup (aCons (bVar 13) aNil)) aNil))) (bC (.bl false))))))
  (mRet (ofN (bC (.bl false))))
  mNil))
  (mRet (eIO [1] m__law_judges_layers (acons (own (bVar 6)) (acons (own (bVar 8)) (acons (own (bVar 12)) anil)))))))))))))))))))))
def m_law : MD := mDef0 14 b_law
theorem nx_law : ∀ ds y, m_law ds ≠ .exc y := fun _ _ => noX_ne
@[simp] theorem ll0 : (lit "").length = 0 := by rw [lit_eq, List.length_map]; rfl
@[simp] theorem ll1 : (lit "0123456789").length = 10 := by rw [lit_eq, List.length_map]; rfl
@[simp] theorem ll2 : (lit "abcdefghijklmnopqrstuvwxyz").length = 26 := by rw [lit_eq, List.length_map]; rfl
@[simp] theorem ll3 : (lit "circle").length = 6 := by rw [lit_eq, List.length_map]; rfl
@[simp] theorem ll4 : (lit "layers").length = 6 := by rw [lit_eq, List.length_map]; rfl
@[simp] theorem ll5 : (lit "x").length = 1 := by rw [lit_eq, List.length_map]; rfl
/-! ### what the top has written -/
structure Tops (K : PySem.W.Frag) (mg : PySem.Str → Option Value) : Prop where
  d_is_kept : ∃ f fd, DefAt K mg "is_kept" "is_kept" s_is_kept ["layers", "edge"] f fd
  d_steps_to : ∃ f fd, DefAt K mg "steps_to" "steps_to" s_steps_to ["edges", "goal"] f fd
  d_way_along : ∃ f fd, DefAt K mg "way_along" "way_along" s_way_along ["edges", "start", "steps"] f fd
  d_first_circle : ∃ f fd, DefAt K mg "first_circle" "first_circle" s_first_circle ["edges"] f fd
  d_least_layers : ∃ f fd, DefAt K mg "least_layers" "least_layers" s_least_layers ["names", "edges"] f fd
  d_layers_of : ∃ f fd, DefAt K mg "layers_of" "layers_of" s_layers_of ["names", "edges"] f fd
  d_is_layer_pair : ∃ f fd, DefAt K mg "is_layer_pair" "is_layer_pair" s_is_layer_pair ["value", "name"] f fd
  d_is_layers : ∃ f fd, DefAt K mg "is_layers" "is_layers" s_is_layers ["names", "edges", "layers"] f fd
  d_is_one_of : ∃ f fd, DefAt K mg "is_one_of" "is_one_of" s_is_one_of ["edges", "value"] f fd
  d_is_circle : ∃ f fd, DefAt K mg "is_circle" "is_circle" s_is_circle ["edges", "circle"] f fd
  d__law_jar : ∃ f fd, DefAt K mg "_law_jar" "_law_jar" s__law_jar ["script"] f fd
  d__law_take : ∃ f fd, DefAt K mg "_law_take" "_law_take" s__law_take ["jar", "many"] f fd
  d__law_name : ∃ f fd, DefAt K mg "_law_name" "_law_name" s__law_name ["jar", "taken"] f fd
  d__law_same : ∃ f fd, DefAt K mg "_law_same" "_law_same" s__law_same ["one", "two"] f fd
  d__law_steps : ∃ f fd, DefAt K mg "_law_steps" "_law_steps" s__law_steps ["edges", "goal"] f fd
  d__law_circle : ∃ f fd, DefAt K mg "_law_circle" "_law_circle" s__law_circle ["edges"] f fd
  d__law_layers : ∃ f fd, DefAt K mg "_law_layers" "_law_layers" s__law_layers ["names", "edges"] f fd
  d__law_keeps : ∃ f fd, DefAt K mg "_law_keeps" "_law_keeps" s__law_keeps ["layers", "edges"] f fd
  d__law_edges : ∃ f fd, DefAt K mg "_law_edges" "_law_edges" s__law_edges ["jar", "names", "many"] f fd
  d__law_judges_layers : ∃ f fd, DefAt K mg "_law_judges_layers" "_law_judges_layers" s__law_judges_layers ["jar", "names", "edges", "layers"] f fd
  d__law_is_circle : ∃ f fd, DefAt K mg "_law_is_circle" "_law_is_circle" s__law_is_circle ["edges", "circle"] f fd
  d__law_judges_circle : ∃ f fd, DefAt K mg "_law_judges_circle" "_law_judges_circle" s__law_judges_circle ["jar", "names", "edges", "circle"] f fd
  d_law : ∃ f fd, DefAt K mg "law" "law" s_law ["script"] f fd
  c_EDGE_SIZE : ConAt K mg "EDGE_SIZE" c_EDGE_SIZE
  n_bool : mg "bool" = none
  n_int : mg "int" = none
  n_isinstance : mg "isinstance" = none
  n_len : mg "len" = none
  n_list : mg "list" = none
  n_min : mg "min" = none
  n_range : mg "range" = none
  n_str : mg "str" = none
  n_tuple : mg "tuple" = none
section
variable {P : Program} {w : World} {K : PySem.W.Frag} {mg : PySem.Str → Option Value} {base : Heap} (T : Tops K mg)
include T
theorem ok_is_kept : Okd P w K mg base CX0 1 "is_kept" (spI K 2 m_is_kept) := by
  have sc := sc_is_kept
  exact okdI (Z := (fun i => i == 0)) T.d_is_kept sc rfl rfl (fun f cdv A outer s H E hr => by
    have hu5 : (A.deeper (PyProof.Rows.envOfC "is_kept" (defScope s_is_kept) s.heap.objs.size f cdv)).units + 65 < cLine := by
      have h := hr.units
      have h2 := hr.un
      omega
    have hu := hr.units
    have hu1 : (A.deeper (PyProof.Rows.envOfC "is_kept" (defScope s_is_kept) s.heap.objs.size f cdv)).units + 1 < cLine := Nat.lt_of_le_of_lt (Nat.add_le_add_left (by decide) _) hu
    exact (m_cons (m_asg (be (x_var (i := 1))) (g_tup rfl (gs_cons (i := 2) sc.nd (gs_cons (i := 3) sc.nd (gs_cons (i := 4) sc.nd gs_nil)))))
    (m_cons (m_if (t_val (be (x_var (i := 4))))
    (m_one (m_ret (ne (x_cmp o_gt n_gt (nb (x_dget hu1 (x_var (i := 0)) (x_var (i := 2)))) (nb (x_dget hu1 (x_var (i := 0)) (x_var (i := 3)))) (nomark _)))))
    m_nil)
    (m_one (m_ret (ne (x_cmp o_ge n_ge (nb (x_dget hu1 (x_var (i := 0)) (x_var (i := 2)))) (nb (x_dget hu1 (x_var (i := 0)) (x_var (i := 3)))) (nomark _))))))))
theorem ok_steps_to : Okd P w K mg base CX0 1 "steps_to" (spN K 2 m_steps_to) := by
  have sc := sc_steps_to
  exact okd T.d_steps_to sc rfl rfl (fun f cdv A outer s H E hr => by
    have hu5 : (A.deeper (PyProof.Rows.envOfC "steps_to" (defScope s_steps_to) s.heap.objs.size f cdv)).units + 65 < cLine := by
      have h := hr.units
      have h2 := hr.un
      omega
    have hu := hr.units
    have hu1 : (A.deeper (PyProof.Rows.envOfC "steps_to" (defScope s_steps_to) s.heap.objs.size f cdv)).units + 1 < cLine := Nat.lt_of_le_of_lt (Nat.add_le_add_left (by decide) _) hu
    exact (m_cons (m_set (i := 2) (ne (x_dispB (ps := [((bVar 1), (bC (.int 0)))]) (pe_disp (pps_cons (x_var (i := 1)) (nb x_int) pps_nil) (by rfl) (by rfl) (fun z => by cases z) (by decide)))) sc.nd)
    (m_cons (m_set (i := 3) (ne (x_lst (a_cons (x_var (i := 1)) a_nil))) sc.nd)
    (m_cons (m_set (i := 4) (ne x_int) sc.nd)
    (m_cons (m_while (t_cmp o_gt n_gt (nb (x_call n_len (pe_callB call_len (by rfl) T.n_len bb_len (a_cons (x_var (i := 3)) a_nil)))) (nb x_int) (nomark _))
    (m_cons (m_aug (i := 4) i_add n_aug (ne x_int) sc.nd)
    (m_cons (m_set (i := 5) (ne (x_lst a_nil)) sc.nd)
    (m_cons (m_forV (i := 0) (g_tup rfl (gs_cons (i := 6) sc.nd (gs_cons (i := 7) sc.nd (gs_cons (i := 8) sc.nd gs_nil))))
    (m_one (m_if (PW.pt (t_and (t_cmp (o_in hu5) n_in (x_var (i := 7)) (x_var (i := 3)) (by rfl)) (t_and1 (t_dnotin hu1 (x_var (i := 6)) (x_var (i := 2))))))
    (m_cons (m_dset (i := 2) hu1 (be (x_var (i := 4))) (x_var (i := 6)))
    (m_one (m_expr (e_append (i := 5) (pe_bm PySem.F.plainAttrs_list PySem.F.slot_list_append PySem.F.type_list_append mt_append (pv 5) (ae_cons (be (x_var (i := 6))) ae_nil))))))
    m_nil)) PassesOwn.never rfl)
    (m_one (m_set (i := 3) (x_mv (i := 5)) sc.nd))))) PassesOwn.never)
    (m_one (m_ret (e_frzD (x_mv (i := 2))))))))))
theorem ok_way_along : Okd P w K mg base CX0 1 "way_along" (spN K 3 m_way_along) := by
  have sc := sc_way_along
  exact okd T.d_way_along sc rfl rfl (fun f cdv A outer s H E hr => by
    have hu5 : (A.deeper (PyProof.Rows.envOfC "way_along" (defScope s_way_along) s.heap.objs.size f cdv)).units + 65 < cLine := by
      have h := hr.units
      have h2 := hr.un
      omega
    have hu := hr.units
    have hu1 : (A.deeper (PyProof.Rows.envOfC "way_along" (defScope s_way_along) s.heap.objs.size f cdv)).units + 1 < cLine := Nat.lt_of_le_of_lt (Nat.add_le_add_left (by decide) _) hu
    exact (m_cons (m_set (i := 3) (ne (x_lst a_nil)) sc.nd)
    (m_cons (m_set (i := 4) (be (x_var (i := 1))) sc.nd)
    (m_cons (m_while (t_cmp o_gt n_gt (nb (x_dget hu1 (x_var (i := 2)) (x_var (i := 4)))) (nb x_int) (nomark _))
    (m_cons (m_set (i := 5) (ne x_non) sc.nd)
    (m_cons (m_forV (i := 0) (g_name (i := 6) sc.nd)
    (m_one (m_if (PW.pt (t_and (t_cmp o_is n_is (x_var (i := 5)) (nb x_non) (nomark _)) (t_and (t_cmp (op_eqD hu) n_eq (x_ix (x_var (i := 6)) (nb x_int)) (x_var (i := 4)) (nomark _)) (t_and1 (t_cmp (op_eqD hu) n_eq (x_get2 hu1 (x_var (i := 2)) (x_ix (x_var (i := 6)) (nb x_int)) (nb (x_dget hu1 (x_var (i := 2)) (x_var (i := 4)))) ⟨by rfl, by rfl, by rfl, by rfl⟩) (nb (x_op op_sub n_sub (nb (x_dget hu1 (x_var (i := 2)) (x_var (i := 4)))) (nb x_int))) (nomark _))))))
    (m_one (m_set (i := 5) (be (x_var (i := 6))) sc.nd))
    m_nil)) PassesOwn.never rfl)
    (m_cons (m_expr (e_append (i := 3) (pe_bm PySem.F.plainAttrs_list PySem.F.slot_list_append PySem.F.type_list_append mt_append (pv 3) (ae_cons (be (x_var (i := 5))) ae_nil))))
    (m_one (m_set (i := 4) (be (x_ix (x_var (i := 5)) (nb x_int))) sc.nd))))) PassesOwn.never)
    (m_one (m_ret (x_mv (i := 3))))))))
theorem ok_first_circle (o_steps_to : Okd P w K mg base CX0 1 "steps_to" (spN K 2 m_steps_to)) (o_way_along : Okd P w K mg base CX0 1 "way_along" (spN K 3 m_way_along)) : Okd P w K mg base CX0 2 "first_circle" (spN K 1 m_first_circle) := by
  have sc := sc_first_circle
  exact okd T.d_first_circle sc rfl rfl (fun f cdv A outer s H E hr => by
    have hu5 : (A.deeper (PyProof.Rows.envOfC "first_circle" (defScope s_first_circle) s.heap.objs.size f cdv)).units + 65 < cLine := by
      have h := hr.units
      have h2 := hr.un
      omega
    have hu := hr.units
    have hu1 : (A.deeper (PyProof.Rows.envOfC "first_circle" (defScope s_first_circle) s.heap.objs.size f cdv)).units + 1 < cLine := Nat.lt_of_le_of_lt (Nat.add_le_add_left (by decide) _) hu
    exact (m_cons (m_forV (i := 0) (g_name (i := 1) sc.nd)
    (m_one (m_if (t_val (be (x_ix (x_var (i := 1)) (nb x_int))))
    (m_cons (m_set (i := 2) (ne (xd o_steps_to hr (lc (lc (fun _ _ => ln))) (nx_steps_to) (a_cons (x_var (i := 0)) (a_cons (x_ix (x_var (i := 1)) (nb x_int)) a_nil)))) sc.nd)
    (m_one (m_if (t_din hu1 (x_ix (x_var (i := 1)) (nb x_int)) (x_var (i := 2)))
    (m_one (m_ret (ne (x_op o_add n_add (nb (x_tup (a_cons (x_var (i := 1)) a_nil))) (nb (x_call n_tuple (pe_callTy call_tuple_of (by rfl) T.n_tuple bb_tuple (a_cons (nb (xd o_way_along hr (lc (lc (lc (fun _ _ => ln)))) (nx_way_along) (a_cons (x_var (i := 0)) (a_cons (x_ix (x_var (i := 1)) (nb x_int)) (a_cons (x_var (i := 2)) a_nil))))) a_nil))))))))
    m_nil)))
    m_nil)) PassesOwn.never rfl)
    (m_one (m_ret (ne (x_tup a_nil))))))
theorem ok_least_layers : Okd P w K mg base CX0 1 "least_layers" (spN K 2 m_least_layers) := by
  have sc := sc_least_layers
  exact okd T.d_least_layers sc rfl rfl (fun f cdv A outer s H E hr => by
    have hu5 : (A.deeper (PyProof.Rows.envOfC "least_layers" (defScope s_least_layers) s.heap.objs.size f cdv)).units + 65 < cLine := by
      have h := hr.units
      have h2 := hr.un
      omega
    have hu := hr.units
    have hu1 : (A.deeper (PyProof.Rows.envOfC "least_layers" (defScope s_least_layers) s.heap.objs.size f cdv)).units + 1 < cLine := Nat.lt_of_le_of_lt (Nat.add_le_add_left (by decide) _) hu
    exact (m_cons (m_setDc (i := 2) (own := [("name", 8)]) (w_val (be (x_var (i := 0)))) rfl sc.nd (sw_trueD rfl rfl rfl (by decide +kernel)) (blkOk_by (N := N_least_layers) (sc := defScope s_least_layers) (by decide +kernel)) (fun _ _ _ _ _ => (g_name (i := 8) sc.nd)) (fun _ _ _ _ _ => ts_nil) (fun _ _ _ _ _ => (x_var (i := 8))) (fun _ _ _ _ _ => (nb x_int)))
    (m_cons (m_set (i := 3) (ne x_bl) sc.nd)
    (m_cons (m_while (t_val (be (x_var (i := 3))))
    (m_cons (m_set (i := 3) (ne x_bl) sc.nd)
    (m_one (m_forV (i := 1) (g_tup rfl (gs_cons (i := 4) sc.nd (gs_cons (i := 5) sc.nd (gs_cons (i := 6) sc.nd gs_nil))))
    (m_cons (m_set (i := 7) (ne (x_dget hu1 (x_var (i := 2)) (x_var (i := 5)))) sc.nd)
    (m_cons (m_if (t_val (be (x_var (i := 6))))
    (m_one (m_aug (i := 7) i_add n_aug (ne x_int) sc.nd))
    m_nil)
    (m_one (m_if (t_cmp o_lt n_lt (nb (x_dget hu1 (x_var (i := 2)) (x_var (i := 4)))) (x_var (i := 7)) (nomark _))
    (m_cons (m_dset (i := 2) hu1 (be (x_var (i := 7))) (x_var (i := 4)))
    (m_one (m_set (i := 3) (ne x_bl) sc.nd)))
    m_nil)))) PassesOwn.never rfl))) PassesOwn.never)
    (m_one (m_ret (e_frzD (x_mv (i := 2)))))))))
theorem ok_layers_of (o_first_circle : Okd P w K mg base CX0 2 "first_circle" (spN K 1 m_first_circle)) (o_least_layers : Okd P w K mg base CX0 1 "least_layers" (spN K 2 m_least_layers)) : Okd P w K mg base CX0 3 "layers_of" (spN K 2 m_layers_of) := by
  have sc := sc_layers_of
  exact okd T.d_layers_of sc rfl rfl (fun f cdv A outer s H E hr => by
    have hu5 : (A.deeper (PyProof.Rows.envOfC "layers_of" (defScope s_layers_of) s.heap.objs.size f cdv)).units + 65 < cLine := by
      have h := hr.units
      have h2 := hr.un
      omega
    have hu := hr.units
    have hu1 : (A.deeper (PyProof.Rows.envOfC "layers_of" (defScope s_layers_of) s.heap.objs.size f cdv)).units + 1 < cLine := Nat.lt_of_le_of_lt (Nat.add_le_add_left (by decide) _) hu
    exact (m_cons (m_set (i := 2) (ne (xd o_first_circle hr (lc (fun _ _ => ln)) (nx_first_circle) (a_cons (x_var (i := 1)) a_nil))) sc.nd)
    (m_cons (m_if (t_cmp o_gt n_gt (nb (x_call n_len (pe_callB call_len (by rfl) T.n_len bb_len (a_cons (x_var (i := 2)) a_nil)))) (nb x_int) (nomark _))
    (m_one (m_ret (ne (x_tup (a_cons (nb x_str) (a_cons (x_var (i := 2)) a_nil))))))
    m_nil)
    (m_cons (m_set (i := 3) (ne (xd o_least_layers hr (lc (lc (fun _ _ => ln))) (nx_least_layers) (a_cons (x_var (i := 0)) (a_cons (x_var (i := 1)) a_nil)))) sc.nd)
    (m_one (m_ret (e_tup (ae_cons (ne x_str) (ae_cons (e_call n_tuple (pe_callTy call_tuple_of (by rfl) T.n_tuple bb_tuple (ae_cons (e_comp (own := [("name", 4)]) (w_val (be (x_var (i := 0)))) rfl sc.nd (blkOk_by (N := N_layers_of) (sc := defScope s_layers_of) (by decide +kernel)) (fun _ _ _ _ _ => (g_name (i := 4) sc.nd)) (fun _ _ _ _ _ => ts_nil) (fun _ _ _ _ _ => (ne (x_tup (a_cons (x_var (i := 4)) (a_cons (nb (x_dget hu1 (x_var (i := 3)) (x_var (i := 4)))) a_nil)))))) ae_nil))) ae_nil)))))))))
theorem ok_is_layer_pair : Okd P w K mg base CX0 1 "is_layer_pair" (spN K 2 m_is_layer_pair) := by
  have sc := sc_is_layer_pair
  exact okd T.d_is_layer_pair sc rfl rfl (fun f cdv A outer s H E hr => by
    have hu5 : (A.deeper (PyProof.Rows.envOfC "is_layer_pair" (defScope s_is_layer_pair) s.heap.objs.size f cdv)).units + 65 < cLine := by
      have h := hr.units
      have h2 := hr.un
      omega
    have hu := hr.units
    have hu1 : (A.deeper (PyProof.Rows.envOfC "is_layer_pair" (defScope s_is_layer_pair) s.heap.objs.size f cdv)).units + 1 < cLine := Nat.lt_of_le_of_lt (Nat.add_le_add_left (by decide) _) hu
    exact (m_cons (m_if (PW.pt (t_or (t_not (t_val (ne (x_call n_isi (pe_callB call_isi (by rfl) T.n_isinstance bb_isinstance (a_cons (x_var (i := 0)) (a_cons (nb (x_bltn (v := .ty "tuple") (by rfl) T.n_tuple bb_tuple rfl)) a_nil))))))) (t_or (t_cmp (op_neD hu) n_ne (nb (x_call n_len (pe_callB call_len (by rfl) T.n_len bb_len (a_cons (x_var (i := 0)) a_nil)))) (nb x_int) (nomark _)) (t_or1 (t_cmp (op_neD hu) n_ne (x_ix (x_var (i := 0)) (nb x_int)) (x_var (i := 1)) (nomark _))))))
    (m_one (m_ret (ne x_bl)))
    m_nil)
    (m_one (m_ret (ne (x_and (nb (x_call n_isi (pe_callB call_isi (by rfl) T.n_isinstance bb_isinstance (a_cons (x_ix (x_var (i := 0)) (nb x_int)) (a_cons (nb (x_bltn (v := .ty "int") (by rfl) T.n_int bb_int rfl)) a_nil))))) (nb (x_and (nb (x_not (nb (x_call n_isi (pe_callB call_isi (by rfl) T.n_isinstance bb_isinstance (a_cons (x_ix (x_var (i := 0)) (nb x_int)) (a_cons (nb (x_bltn (v := .ty "bool") (by rfl) T.n_bool bb_bool rfl)) a_nil))))))) (x_one (nb (x_cmp o_ge n_ge (x_ix (x_var (i := 0)) (nb x_int)) (nb x_int) (nomark _))))))))))))
theorem ok_is_layers (o_is_kept : Okd P w K mg base CX0 1 "is_kept" (spI K 2 m_is_kept)) (o_is_layer_pair : Okd P w K mg base CX0 1 "is_layer_pair" (spN K 2 m_is_layer_pair)) : Okd P w K mg base CX0 2 "is_layers" (spN K 3 m_is_layers) := by
  have sc := sc_is_layers
  exact okd T.d_is_layers sc rfl rfl (fun f cdv A outer s H E hr => by
    have hu5 : (A.deeper (PyProof.Rows.envOfC "is_layers" (defScope s_is_layers) s.heap.objs.size f cdv)).units + 65 < cLine := by
      have h := hr.units
      have h2 := hr.un
      omega
    have hu := hr.units
    have hu1 : (A.deeper (PyProof.Rows.envOfC "is_layers" (defScope s_is_layers) s.heap.objs.size f cdv)).units + 1 < cLine := Nat.lt_of_le_of_lt (Nat.add_le_add_left (by decide) _) hu
    exact (m_cons (m_if (PW.pt (t_or (t_not (t_val (ne (x_call n_isi (pe_callB call_isi (by rfl) T.n_isinstance bb_isinstance (a_cons (x_var (i := 2)) (a_cons (nb (x_bltn (v := .ty "tuple") (by rfl) T.n_tuple bb_tuple rfl)) a_nil))))))) (t_or1 (t_cmp (op_neD hu) n_ne (nb (x_call n_len (pe_callB call_len (by rfl) T.n_len bb_len (a_cons (x_var (i := 2)) a_nil)))) (nb (x_call n_len (pe_callB call_len (by rfl) T.n_len bb_len (a_cons (x_var (i := 0)) a_nil)))) (nomark _)))))
    (m_one (m_ret (ne x_bl)))
    m_nil)
    (m_cons (m_for (w_rng1 (by rfl) T.n_range (ae_cons (ne (x_call n_len (pe_callB call_len (by rfl) T.n_len bb_len (a_cons (x_var (i := 0)) a_nil)))) ae_nil) (lec len0)) (g_name (i := 3) sc.nd)
    (m_one (m_if (t_not (t_val (ne (xd o_is_layer_pair hr (lc (lc (fun _ _ => ln))) (nx_is_layer_pair) (a_cons (x_ix (x_var (i := 2)) (x_var (i := 3))) (a_cons (x_ix (x_var (i := 0)) (x_var (i := 3))) a_nil))))))
    (m_one (m_ret (ne x_bl)))
    m_nil)) PassesOwn.never rfl)
    (m_cons (m_setDc (i := 4) (own := [("name", 6), ("layer", 7)]) (w_val (be (x_var (i := 2)))) rfl sc.nd (sw_trueD rfl rfl rfl (by decide +kernel)) (blkOk_by (N := N_is_layers) (sc := defScope s_is_layers) (by decide +kernel)) (fun _ _ _ _ _ => (g_tup rfl (gs_cons (i := 6) sc.nd (gs_cons (i := 7) sc.nd gs_nil)))) (fun _ _ _ _ _ => ts_nil) (fun _ _ _ _ _ => (x_var (i := 6))) (fun _ _ _ _ _ => (x_var (i := 7))))
    (m_cons (m_forV (i := 1) (g_name (i := 5) sc.nd)
    (m_one (m_if (t_not (t_val (ei (ks := [4]) (n := 2) o_is_kept hr (by decide) (fun e ds e1 h => by have := (lec len0) e ds e1 h; simp [this]) (nx_is_kept) (av_cons (i := 4) (ae_cons (be (x_var (i := 5))) ae_nil)))))
    (m_one (m_ret (ne x_bl)))
    m_nil)) PassesOwn.never rfl)
    (m_one (m_ret (ne x_bl))))))))
theorem ok_is_one_of : Okd P w K mg base CX0 1 "is_one_of" (spN K 2 m_is_one_of) := by
  have sc := sc_is_one_of
  exact okd T.d_is_one_of sc rfl rfl (fun f cdv A outer s H E hr => by
    have hu5 : (A.deeper (PyProof.Rows.envOfC "is_one_of" (defScope s_is_one_of) s.heap.objs.size f cdv)).units + 65 < cLine := by
      have h := hr.units
      have h2 := hr.un
      omega
    have hu := hr.units
    have hu1 : (A.deeper (PyProof.Rows.envOfC "is_one_of" (defScope s_is_one_of) s.heap.objs.size f cdv)).units + 1 < cLine := Nat.lt_of_le_of_lt (Nat.add_le_add_left (by decide) _) hu
    exact (m_cons (m_if (PW.pt (t_or (t_not (t_val (ne (x_call n_isi (pe_callB call_isi (by rfl) T.n_isinstance bb_isinstance (a_cons (x_var (i := 1)) (a_cons (nb (x_bltn (v := .ty "tuple") (by rfl) T.n_tuple bb_tuple rfl)) a_nil))))))) (t_or (t_cmp (op_neD hu) n_ne (nb (x_call n_len (pe_callB call_len (by rfl) T.n_len bb_len (a_cons (x_var (i := 1)) a_nil)))) (nb (xc T.c_EDGE_SIZE)) (nomark _)) (t_or1 (t_not (t_val (ne (x_call n_isi (pe_callB call_isi (by rfl) T.n_isinstance bb_isinstance (a_cons (x_ix (x_var (i := 1)) (nb x_int)) (a_cons (nb (x_bltn (v := .ty "bool") (by rfl) T.n_bool bb_bool rfl)) a_nil)))))))))))
    (m_one (m_ret (ne x_bl)))
    m_nil)
    (m_one (m_ret (ne (x_cmp (o_in hu5) n_in (x_var (i := 1)) (x_var (i := 0)) (by rfl)))))))
theorem ok_is_circle (o_is_one_of : Okd P w K mg base CX0 1 "is_one_of" (spN K 2 m_is_one_of)) : Okd P w K mg base CX0 2 "is_circle" (spN K 2 m_is_circle) := by
  have sc := sc_is_circle
  exact okd T.d_is_circle sc rfl rfl (fun f cdv A outer s H E hr => by
    have hu5 : (A.deeper (PyProof.Rows.envOfC "is_circle" (defScope s_is_circle) s.heap.objs.size f cdv)).units + 65 < cLine := by
      have h := hr.units
      have h2 := hr.un
      omega
    have hu := hr.units
    have hu1 : (A.deeper (PyProof.Rows.envOfC "is_circle" (defScope s_is_circle) s.heap.objs.size f cdv)).units + 1 < cLine := Nat.lt_of_le_of_lt (Nat.add_le_add_left (by decide) _) hu
    exact (m_cons (m_if (PW.pt (t_or (t_not (t_val (ne (x_call n_isi (pe_callB call_isi (by rfl) T.n_isinstance bb_isinstance (a_cons (x_var (i := 1)) (a_cons (nb (x_bltn (v := .ty "tuple") (by rfl) T.n_tuple bb_tuple rfl)) a_nil))))))) (t_or1 (t_cmp (op_eqD hu) n_eq (nb (x_call n_len (pe_callB call_len (by rfl) T.n_len bb_len (a_cons (x_var (i := 1)) a_nil)))) (nb x_int) (nomark _)))))
    (m_one (m_ret (ne x_bl)))
    m_nil)
    (m_cons (m_forV (i := 1) (g_name (i := 2) sc.nd)
    (m_one (m_if (t_not (t_val (ne (xd o_is_one_of hr (lc (lc (fun _ _ => ln))) (nx_is_one_of) (a_cons (x_var (i := 0)) (a_cons (x_var (i := 2)) a_nil))))))
    (m_one (m_ret (ne x_bl)))
    m_nil)) PassesOwn.never rfl)
    (m_cons (m_for (w_rng1 (by rfl) T.n_range (ae_cons (ne (x_call n_len (pe_callB call_len (by rfl) T.n_len bb_len (a_cons (x_var (i := 1)) a_nil)))) ae_nil) (lec len0)) (g_name (i := 3) sc.nd)
    (m_one (m_if (t_cmp (op_neD hu) n_ne (x_ix (x_ix (x_var (i := 1)) (nb (x_op op_sub n_sub (x_var (i := 3)) (nb x_int)))) (nb x_int)) (x_ix (x_ix (x_var (i := 1)) (x_var (i := 3))) (nb x_int)) (nomark _))
    (m_one (m_ret (ne x_bl)))
    m_nil)) PassesOwn.never rfl)
    (m_one (m_ret (be (x_ix (x_ix (x_var (i := 1)) (nb x_int)) (nb x_int)))))))))
theorem ok__law_jar : Okd P w K mg base CX0 1 "_law_jar" (spN K 1 m__law_jar) := by
  have sc := sc__law_jar
  exact okd T.d__law_jar sc rfl rfl (fun f cdv A outer s H E hr => by
    have hu5 : (A.deeper (PyProof.Rows.envOfC "_law_jar" (defScope s__law_jar) s.heap.objs.size f cdv)).units + 65 < cLine := by
      have h := hr.units
      have h2 := hr.un
      omega
    have hu := hr.units
    have hu1 : (A.deeper (PyProof.Rows.envOfC "_law_jar" (defScope s__law_jar) s.heap.objs.size f cdv)).units + 1 < cLine := Nat.lt_of_le_of_lt (Nat.add_le_add_left (by decide) _) hu
    exact (m_cons (m_set (i := 1) (ne (x_lst a_nil)) sc.nd)
    (m_cons (m_for (w_rng1 (by rfl) T.n_range (ae_cons (ne (x_call n_min (pe_callB (call_min2 rfl) (by rfl) T.n_min bb_min (a_cons (nb (x_call n_len (pe_callB call_len (by rfl) T.n_len bb_len (a_cons (x_var (i := 0)) a_nil)))) (a_cons (nb x_int) a_nil))))) ae_nil) (lec len0)) (g_name (i := 2) sc.nd)
    (m_cons (m_set (i := 3) (ne (x_call n_int (pe_callTy c_int (by rfl) T.n_int bb_int (a_cons (x_ix (x_var (i := 0)) (x_var (i := 2))) a_nil)))) sc.nd)
    (m_cons (m_if (t_cmp o_lt n_lt (x_var (i := 3)) (nb x_int) (nomark _))
    (m_one (m_set (i := 3) (ne (x_neg (x_var (i := 3)))) sc.nd))
    m_nil)
    (m_one (m_if (t_cmp o_ge n_ge (x_var (i := 3)) (nb (x_op op_pow n_pow (nb x_int) (nb x_int))) (nomark _))
    (m_one (m_for (w_rng1 (by rfl) T.n_range (ae_cons (ne x_int) ae_nil) (lec len0)) (g_name (i := 4) sc.nd)
    (m_one (m_if (t_cmp o_gt n_gt (x_var (i := 3)) (nb x_int) (nomark _))
    (m_cons (m_expr (e_append (i := 1) (pe_bm PySem.F.plainAttrs_list PySem.F.slot_list_append PySem.F.type_list_append mt_append (pv 1) (ae_cons (ne (x_op op_mod n_mod (nb (x_call n_int (pe_callTy c_int (by rfl) T.n_int bb_int (a_cons (x_var (i := 3)) a_nil)))) (nb x_int))) ae_nil))))
    (m_one (m_set (i := 3) (ne (x_op op_fdiv n_div (x_var (i := 3)) (nb x_int))) sc.nd)))
    m_nil)) PassesOwn.never rfl))
    (m_cons (m_set (i := 5) (ne (x_op op_mod n_mod (nb (x_call n_int (pe_callTy c_int (by rfl) T.n_int bb_int (a_cons (nb (x_op o_add n_add (nb (x_op o_add n_add (nb (x_op o_mul n_mul (x_var (i := 3)) (nb x_int))) (nb (x_op o_mul n_mul (x_var (i := 2)) (nb x_int))))) (nb x_int))) a_nil)))) (nb x_int))) sc.nd)
    (m_cons (m_expr (e_append (i := 1) (pe_bm PySem.F.plainAttrs_list PySem.F.slot_list_append PySem.F.type_list_append mt_append (pv 1) (ae_cons (be (x_var (i := 5))) ae_nil))))
    (m_one (m_expr (e_append (i := 1) (pe_bm PySem.F.plainAttrs_list PySem.F.slot_list_append PySem.F.type_list_append mt_append (pv 1) (ae_cons (ne (x_op op_mod n_mod (nb (x_call n_int (pe_callTy c_int (by rfl) T.n_int bb_int (a_cons (nb (x_op o_add n_add (nb (x_op o_add n_add (nb (x_op o_mul n_mul (x_var (i := 5)) (nb x_int))) (nb (x_op o_mul n_mul (x_var (i := 2)) (nb x_int))))) (nb x_int))) a_nil)))) (nb x_int))) ae_nil))))))))))) PassesOwn.never rfl)
    (m_one (m_ret (e_lst (ae_cons (e_frz (x_mv (i := 1))) (ae_cons (ne x_int) ae_nil))))))))
theorem ok__law_take : Okd P w K mg base CX0 1 "_law_take" (spI K 2 m__law_take) := by
  have sc := sc__law_take
  exact okdI (Z := (fun i => i == 0)) T.d__law_take sc rfl rfl (fun f cdv A outer s H E hr => by
    have hu5 : (A.deeper (PyProof.Rows.envOfC "_law_take" (defScope s__law_take) s.heap.objs.size f cdv)).units + 65 < cLine := by
      have h := hr.units
      have h2 := hr.un
      omega
    have hu := hr.units
    have hu1 : (A.deeper (PyProof.Rows.envOfC "_law_take" (defScope s__law_take) s.heap.objs.size f cdv)).units + 1 < cLine := Nat.lt_of_le_of_lt (Nat.add_le_add_left (by decide) _) hu
    exact (m_cons (m_set (i := 2) (be (x_ix (x_var (i := 0)) (nb x_int))) sc.nd)
    (m_cons (m_setIx (i := 0) (ne (x_op o_add n_add (x_var (i := 2)) (nb x_int))) (nb x_int))
    (m_cons (m_set (i := 3) (be (x_ix (x_var (i := 0)) (nb x_int))) sc.nd)
    (m_cons (m_if (t_cmp o_lt n_lt (x_var (i := 2)) (nb (x_call n_len (pe_callB call_len (by rfl) T.n_len bb_len (a_cons (x_var (i := 3)) a_nil)))) (nomark _))
    (m_one (m_ret (ne (x_op op_mod n_mod (nb (x_call n_int (pe_callTy c_int (by rfl) T.n_int bb_int (a_cons (x_ix (x_var (i := 3)) (x_var (i := 2))) a_nil)))) (x_var (i := 1))))))
    m_nil)
    (m_cons (m_set (i := 4) (ne (x_op op_mod n_mod (nb (x_call n_int (pe_callTy c_int (by rfl) T.n_int bb_int (a_cons (nb (x_op o_add n_add (nb (x_op o_add n_add (nb (x_op o_mul n_mul (x_var (i := 2)) (nb x_int))) (nb (x_op o_mul n_mul (nb (x_call n_len (pe_callB call_len (by rfl) T.n_len bb_len (a_cons (x_var (i := 3)) a_nil)))) (nb x_int))))) (nb x_int))) a_nil)))) (nb x_int))) sc.nd)
    (m_cons (m_if (t_cmp o_gt n_gt (nb (x_call n_len (pe_callB call_len (by rfl) T.n_len bb_len (a_cons (x_var (i := 3)) a_nil)))) (nb x_int) (nomark _))
    (m_one (m_set (i := 4) (ne (x_op op_mod n_mod (nb (x_call n_int (pe_callTy c_int (by rfl) T.n_int bb_int (a_cons (nb (x_op o_add n_add (x_var (i := 4)) (nb (x_op o_mul n_mul (x_ix (x_var (i := 3)) (nb (x_op op_sub n_sub (x_var (i := 2)) (nb (x_op o_mul n_mul (nb (x_op op_fdiv n_div (x_var (i := 2)) (nb (x_call n_len (pe_callB call_len (by rfl) T.n_len bb_len (a_cons (x_var (i := 3)) a_nil)))))) (nb (x_call n_len (pe_callB call_len (by rfl) T.n_len bb_len (a_cons (x_var (i := 3)) a_nil))))))))) (nb (x_op o_add n_add (nb (x_op op_fdiv n_div (x_var (i := 2)) (nb (x_call n_len (pe_callB call_len (by rfl) T.n_len bb_len (a_cons (x_var (i := 3)) a_nil)))))) (nb x_int))))))) a_nil)))) (nb x_int))) sc.nd))
    m_nil)
    (m_one (m_ret (ne (x_op op_mod n_mod (nb (x_call n_int (pe_callTy c_int (by rfl) T.n_int bb_int (a_cons (nb (x_op op_fdiv n_div (nb (x_op op_mod n_mod (nb (x_call n_int (pe_callTy c_int (by rfl) T.n_int bb_int (a_cons (nb (x_op o_mul n_mul (x_var (i := 4)) (nb x_int))) a_nil)))) (nb x_int))) (nb x_int))) a_nil)))) (x_var (i := 1)))))))))))))
theorem ok__law_name (o__law_take : Okd P w K mg base CX0 1 "_law_take" (spI K 2 m__law_take)) : Okd P w K mg base CX0 2 "_law_name" (spI K 2 m__law_name) := by
  have sc := sc__law_name
  exact okdI (Z := (fun i => i == 0 || i == 1)) T.d__law_name sc rfl rfl (fun f cdv A outer s H E hr => by
    have hu5 : (A.deeper (PyProof.Rows.envOfC "_law_name" (defScope s__law_name) s.heap.objs.size f cdv)).units + 65 < cLine := by
      have h := hr.units
      have h2 := hr.un
      omega
    have hu := hr.units
    have hu1 : (A.deeper (PyProof.Rows.envOfC "_law_name" (defScope s__law_name) s.heap.objs.size f cdv)).units + 1 < cLine := Nat.lt_of_le_of_lt (Nat.add_le_add_left (by decide) _) hu
    exact (m_cons (m_set (i := 2) (ne x_str) sc.nd)
    (m_cons (m_set (i := 3) (ne (x_op o_add n_add (x_var (i := 2)) (nb x_str))) sc.nd)
    (m_cons (m_set (i := 4) (v_ix (i := 2) (ei (ks := [0]) (n := 2) o__law_take hr (by decide) (fun e ds e1 h => by have := (lec len0) e ds e1 h; simp [this]) (nx__law_take) (av_cons (i := 0) (ae_cons (ne x_int) ae_nil)))) sc.nd)
    (m_cons (m_for (w_rng1 (by rfl) T.n_range (ae_cons (e_op o_mul n_mul (ei (ks := [0]) (n := 2) o__law_take hr (by decide) (fun e ds e1 h => by have := (lec len0) e ds e1 h; simp [this]) (nx__law_take) (av_cons (i := 0) (ae_cons (ne x_int) ae_nil))) (e_op o_add n_add (ne x_int) (ei (ks := [0]) (n := 2) o__law_take hr (by decide) (fun e ds e1 h => by have := (lec len0) e ds e1 h; simp [this]) (nx__law_take) (av_cons (i := 0) (ae_cons (ne x_int) ae_nil))))) ae_nil) (lec len0)) (g_name (i := 5) sc.nd)
    (m_one (m_set (i := 4) (v_op (i := 4) o_add n_add (v_ix (i := 3) (ei (ks := [0]) (n := 2) o__law_take hr (by decide) (fun e ds e1 h => by have := (lec len0) e ds e1 h; simp [this]) (nx__law_take) (av_cons (i := 0) (ae_cons (ne x_int) ae_nil))))) sc.nd)) PassesOwn.never rfl)
    (m_cons (m_set (i := 4) (ne (x_cut (x_var (i := 4)) o_none (o_some (nb x_int)))) sc.nd)
    (m_cons (m_for (w_rng1 (by rfl) T.n_range (ae_cons (ne x_int) ae_nil) (lec len0)) (g_name (i := 5) sc.nd)
    (m_one (m_if (t_cmp (o_in hu5) n_in (x_var (i := 4)) (x_var (i := 1)) (by rfl))
    (m_one (m_set (i := 4) (ne (x_op o_add n_add (nb (x_op o_add n_add (nb (x_cut (x_var (i := 4)) o_none (o_some (nb x_int)))) (nb x_str))) (nb (x_call n_str (pe_callTy c_str (by rfl) T.n_str bb_str (a_cons (x_var (i := 5)) a_nil)))))) sc.nd))
    m_nil)) PassesOwn.never rfl)
    (m_cons (m_expr (e_append (i := 1) (pe_bm PySem.F.plainAttrs_list PySem.F.slot_list_append PySem.F.type_list_append mt_append (pv 1) (ae_cons (be (x_var (i := 4))) ae_nil))))
    (m_one (m_ret (be (x_var (i := 4)))))))))))))
theorem ok__law_same : ∀ n : Nat, Okd P w K mg base CX0 (1 + n) "_law_same" (spN K 2 (m__law_same n))
  | 0 => okd0 T.d__law_same rfl
  | n + 1 => by
    have o_ := ok__law_same n
    have sc := sc__law_same
    exact okd T.d__law_same sc rfl rfl (fun f cdv A outer s H E hr => by
    have hu5 : (A.deeper (PyProof.Rows.envOfC "_law_same" (defScope s__law_same) s.heap.objs.size f cdv)).units + 65 < cLine := by
      have h := hr.units
      have h2 := hr.un
      omega
    have hu := hr.units
    have hu1 : (A.deeper (PyProof.Rows.envOfC "_law_same" (defScope s__law_same) s.heap.objs.size f cdv)).units + 1 < cLine := Nat.lt_of_le_of_lt (Nat.add_le_add_left (by decide) _) hu
    exact (m_cons (m_if (t_val (ne (x_call n_isi (pe_callB call_isi (by rfl) T.n_isinstance bb_isinstance (a_cons (x_var (i := 1)) (a_cons (nb (x_bltn (v := .ty "tuple") (by rfl) T.n_tuple bb_tuple rfl)) a_nil))))))
    (m_cons (m_if (PW.pt (t_or (t_not (t_val (ne (x_call n_isi (pe_callB call_isi (by rfl) T.n_isinstance bb_isinstance (a_cons (x_var (i := 0)) (a_cons (nb (x_bltn (v := .ty "tuple") (by rfl) T.n_tuple bb_tuple rfl)) a_nil))))))) (t_or1 (t_cmp (op_neD hu) n_ne (nb (x_call n_len (pe_callB call_len (by rfl) T.n_len bb_len (a_cons (x_var (i := 0)) a_nil)))) (nb (x_call n_len (pe_callB call_len (by rfl) T.n_len bb_len (a_cons (x_var (i := 1)) a_nil)))) (nomark _)))))
    (m_one (m_ret (ne x_bl)))
    m_nil)
    (m_cons (m_for (w_rng1 (by rfl) T.n_range (ae_cons (ne (x_call n_len (pe_callB call_len (by rfl) T.n_len bb_len (a_cons (x_var (i := 1)) a_nil)))) ae_nil) (lec len0)) (g_name (i := 2) sc.nd)
    (m_one (m_if (t_not (t_val (ne (xd o_ hr (lc (lc (fun _ _ => ln))) (nx__law_same _) (a_cons (x_ix (x_var (i := 0)) (x_var (i := 2))) (a_cons (x_ix (x_var (i := 1)) (x_var (i := 2))) a_nil))))))
    (m_one (m_ret (ne x_bl)))
    m_nil)) PassesOwn.never rfl)
    (m_one (m_ret (ne x_bl)))))
    m_nil)
    (m_cons (m_if (t_val (ne (x_call n_isi (pe_callB call_isi (by rfl) T.n_isinstance bb_isinstance (a_cons (x_var (i := 1)) (a_cons (nb (x_bltn (v := .ty "bool") (by rfl) T.n_bool bb_bool rfl)) a_nil))))))
    (m_one (m_ret (ne (x_and (nb (x_call n_isi (pe_callB call_isi (by rfl) T.n_isinstance bb_isinstance (a_cons (x_var (i := 0)) (a_cons (nb (x_bltn (v := .ty "bool") (by rfl) T.n_bool bb_bool rfl)) a_nil))))) (x_one (nb (x_cmp (op_eqD hu) n_eq (x_var (i := 0)) (x_var (i := 1)) (nomark _))))))))
    m_nil)
    (m_cons (m_if (t_val (ne (x_call n_isi (pe_callB call_isi (by rfl) T.n_isinstance bb_isinstance (a_cons (x_var (i := 1)) (a_cons (nb (x_bltn (v := .ty "int") (by rfl) T.n_int bb_int rfl)) a_nil))))))
    (m_one (m_ret (ne (x_and (nb (x_call n_isi (pe_callB call_isi (by rfl) T.n_isinstance bb_isinstance (a_cons (x_var (i := 0)) (a_cons (nb (x_bltn (v := .ty "int") (by rfl) T.n_int bb_int rfl)) a_nil))))) (nb (x_and (nb (x_not (nb (x_call n_isi (pe_callB call_isi (by rfl) T.n_isinstance bb_isinstance (a_cons (x_var (i := 0)) (a_cons (nb (x_bltn (v := .ty "bool") (by rfl) T.n_bool bb_bool rfl)) a_nil))))))) (x_one (nb (x_cmp (op_eqD hu) n_eq (x_var (i := 0)) (x_var (i := 1)) (nomark _))))))))))
    m_nil)
    (m_cons (m_if (t_val (ne (x_call n_isi (pe_callB call_isi (by rfl) T.n_isinstance bb_isinstance (a_cons (x_var (i := 1)) (a_cons (nb (x_bltn (v := .ty "str") (by rfl) T.n_str bb_str rfl)) a_nil))))))
    (m_one (m_ret (ne (x_and (nb (x_call n_isi (pe_callB call_isi (by rfl) T.n_isinstance bb_isinstance (a_cons (x_var (i := 0)) (a_cons (nb (x_bltn (v := .ty "str") (by rfl) T.n_str bb_str rfl)) a_nil))))) (x_one (nb (x_cmp (op_eqD hu) n_eq (x_var (i := 0)) (x_var (i := 1)) (nomark _))))))))
    m_nil)
    (m_one (m_ret (ne (x_and (nb (x_cmp o_is n_is (x_var (i := 0)) (nb x_non) (nomark _))) (x_one (nb (x_cmp o_is n_is (x_var (i := 1)) (nb x_non) (nomark _)))))))))))))
theorem ok__law_steps : Okd P w K mg base CX0 1 "_law_steps" (spN K 2 m__law_steps) := by
  have sc := sc__law_steps
  exact okd T.d__law_steps sc rfl rfl (fun f cdv A outer s H E hr => by
    have hu5 : (A.deeper (PyProof.Rows.envOfC "_law_steps" (defScope s__law_steps) s.heap.objs.size f cdv)).units + 65 < cLine := by
      have h := hr.units
      have h2 := hr.un
      omega
    have hu := hr.units
    have hu1 : (A.deeper (PyProof.Rows.envOfC "_law_steps" (defScope s__law_steps) s.heap.objs.size f cdv)).units + 1 < cLine := Nat.lt_of_le_of_lt (Nat.add_le_add_left (by decide) _) hu
    exact (m_cons (m_set (i := 2) (ne (x_dispB (ps := [((bVar 1), (bC (.int 0)))]) (pe_disp (pps_cons (x_var (i := 1)) (nb x_int) pps_nil) (by rfl) (by rfl) (fun z => by cases z) (by decide)))) sc.nd)
    (m_cons (m_for (w_rng1 (by rfl) T.n_range (ae_cons (ne x_int) ae_nil) (lec len0)) (g_name (i := 3) sc.nd)
    (m_cons (m_set (i := 4) (ne (x_lst a_nil)) sc.nd)
    (m_cons (m_forV (i := 0) (g_tup rfl (gs_cons (i := 5) sc.nd (gs_cons (i := 6) sc.nd (gs_cons (i := 7) sc.nd gs_nil))))
    (m_one (m_if (PW.pt (t_and (t_dnotin hu1 (x_var (i := 5)) (x_var (i := 2))) (t_and (t_din hu1 (x_var (i := 6)) (x_var (i := 2))) (t_and1 (t_cmp (o_notIn hu5) n_notIn (x_var (i := 5)) (x_var (i := 4)) (by rfl))))))
    (m_one (m_expr (e_append (i := 4) (pe_bm PySem.F.plainAttrs_list PySem.F.slot_list_append PySem.F.type_list_append mt_append (pv 4) (ae_cons (be (x_var (i := 5))) ae_nil)))))
    m_nil)) PassesOwn.never rfl)
    (m_cons (m_if (t_cmp (op_eqD hu) n_eq (nb (x_call n_len (pe_callB call_len (by rfl) T.n_len bb_len (a_cons (x_var (i := 4)) a_nil)))) (nb x_int) (nomark _))
    (m_one (m_ret (e_frzD (x_mv (i := 2)))))
    m_nil)
    (m_one (m_forV (i := 4) (g_name (i := 5) sc.nd)
    (m_one (m_dset (i := 2) hu1 (ne (x_op o_add n_add (x_var (i := 3)) (nb x_int))) (x_var (i := 5)))) PassesOwn.never rfl))))) PassesOwn.never rfl)
    (m_one (m_ret (e_frzD (x_mv (i := 2))))))))
theorem ok__law_circle (o__law_steps : Okd P w K mg base CX0 1 "_law_steps" (spN K 2 m__law_steps)) : Okd P w K mg base CX0 2 "_law_circle" (spN K 1 m__law_circle) := by
  have sc := sc__law_circle
  exact okd T.d__law_circle sc rfl rfl (fun f cdv A outer s H E hr => by
    have hu5 : (A.deeper (PyProof.Rows.envOfC "_law_circle" (defScope s__law_circle) s.heap.objs.size f cdv)).units + 65 < cLine := by
      have h := hr.units
      have h2 := hr.un
      omega
    have hu := hr.units
    have hu1 : (A.deeper (PyProof.Rows.envOfC "_law_circle" (defScope s__law_circle) s.heap.objs.size f cdv)).units + 1 < cLine := Nat.lt_of_le_of_lt (Nat.add_le_add_left (by decide) _) hu
    exact (m_cons (m_forV (i := 0) (g_name (i := 1) sc.nd)
    (m_one (m_if (t_val (be (x_ix (x_var (i := 1)) (nb x_int))))
    (m_cons (m_set (i := 2) (ne (xd o__law_steps hr (lc (lc (fun _ _ => ln))) (nx__law_steps) (a_cons (x_var (i := 0)) (a_cons (x_ix (x_var (i := 1)) (nb x_int)) a_nil)))) sc.nd)
    (m_one (m_if (t_din hu1 (x_ix (x_var (i := 1)) (nb x_int)) (x_var (i := 2)))
    (m_cons (m_set (i := 3) (ne (x_lst (a_cons (x_var (i := 1)) a_nil))) sc.nd)
    (m_cons (m_set (i := 4) (be (x_ix (x_var (i := 1)) (nb x_int))) sc.nd)
    (m_cons (m_for (w_rng1 (by rfl) T.n_range (ae_cons (ne (x_dget hu1 (x_var (i := 2)) (x_var (i := 4)))) ae_nil) (lec len0)) (g_name (i := 5) sc.nd)
    (m_cons (m_set (i := 6) (ne (x_lst a_nil)) sc.nd)
    (m_cons (m_forV (i := 0) (g_name (i := 7) sc.nd)
    (m_one (m_if (PW.pt (t_and (t_cmp (op_eqD hu) n_eq (x_ix (x_var (i := 7)) (nb x_int)) (x_var (i := 4)) (nomark _)) (t_and (t_din hu1 (x_ix (x_var (i := 7)) (nb x_int)) (x_var (i := 2))) (t_and1 (t_cmp (op_eqD hu) n_eq (nb (x_op o_add n_add (nb (x_dget hu1 (x_var (i := 2)) (x_ix (x_var (i := 7)) (nb x_int)))) (nb x_int))) (nb (x_dget hu1 (x_var (i := 2)) (x_var (i := 4)))) (nomark _))))))
    (m_one (m_expr (e_append (i := 6) (pe_bm PySem.F.plainAttrs_list PySem.F.slot_list_append PySem.F.type_list_append mt_append (pv 6) (ae_cons (be (x_var (i := 7))) ae_nil)))))
    m_nil)) PassesOwn.never rfl)
    (m_cons (m_expr (e_append (i := 3) (pe_bm PySem.F.plainAttrs_list PySem.F.slot_list_append PySem.F.type_list_append mt_append (pv 3) (ae_cons (be (x_ix (x_var (i := 6)) (nb x_int))) ae_nil))))
    (m_one (m_set (i := 4) (be (x_ix (x_ix (x_var (i := 6)) (nb x_int)) (nb x_int))) sc.nd))))) PassesOwn.never rfl)
    (m_one (m_ret (ne (x_call n_tuple (pe_callTy call_tuple_of (by rfl) T.n_tuple bb_tuple (a_cons (x_var (i := 3)) a_nil)))))))))
    m_nil)))
    m_nil)) PassesOwn.never rfl)
    (m_one (m_ret (ne (x_tup a_nil))))))
theorem ok__law_layers : Okd P w K mg base CX0 1 "_law_layers" (spN K 2 m__law_layers) := by
  have sc := sc__law_layers
  exact okd T.d__law_layers sc rfl rfl (fun f cdv A outer s H E hr => by
    have hu5 : (A.deeper (PyProof.Rows.envOfC "_law_layers" (defScope s__law_layers) s.heap.objs.size f cdv)).units + 65 < cLine := by
      have h := hr.units
      have h2 := hr.un
      omega
    have hu := hr.units
    have hu1 : (A.deeper (PyProof.Rows.envOfC "_law_layers" (defScope s__law_layers) s.heap.objs.size f cdv)).units + 1 < cLine := Nat.lt_of_le_of_lt (Nat.add_le_add_left (by decide) _) hu
    exact (m_cons (m_set (i := 2) (ne x_newD) sc.nd)
    (m_cons (m_forV (i := 0) (g_name (i := 3) sc.nd)
    (m_one (m_dset (i := 2) hu1 (ne x_int) (x_var (i := 3)))) PassesOwn.never rfl)
    (m_cons (m_for (w_rng1 (by rfl) T.n_range (ae_cons (ne (x_op o_add n_add (nb (x_call n_len (pe_callB call_len (by rfl) T.n_len bb_len (a_cons (x_var (i := 0)) a_nil)))) (nb x_int))) ae_nil) (lec len0)) (g_name (i := 4) sc.nd)
    (m_one (m_forV (i := 1) (g_tup rfl (gs_cons (i := 5) sc.nd (gs_cons (i := 6) sc.nd (gs_cons (i := 7) sc.nd gs_nil))))
    (m_cons (m_set (i := 8) (ne (x_op o_add n_add (nb (x_dget hu1 (x_var (i := 2)) (x_var (i := 6)))) (nb (x_call n_int (pe_callTy c_int (by rfl) T.n_int bb_int (a_cons (x_var (i := 7)) a_nil)))))) sc.nd)
    (m_one (m_if (t_cmp o_lt n_lt (nb (x_dget hu1 (x_var (i := 2)) (x_var (i := 5)))) (x_var (i := 8)) (nomark _))
    (m_one (m_dset (i := 2) hu1 (be (x_var (i := 8))) (x_var (i := 5))))
    m_nil))) PassesOwn.never rfl)) PassesOwn.never rfl)
    (m_one (m_ret (e_call n_tuple (pe_callTy call_tuple_of (by rfl) T.n_tuple bb_tuple (ae_cons (e_comp (own := [("name", 3)]) (w_val (be (x_var (i := 0)))) rfl sc.nd (blkOk_by (N := N__law_layers) (sc := defScope s__law_layers) (by decide +kernel)) (fun _ _ _ _ _ => (g_name (i := 3) sc.nd)) (fun _ _ _ _ _ => ts_nil) (fun _ _ _ _ _ => (ne (x_tup (a_cons (x_var (i := 3)) (a_cons (nb (x_dget hu1 (x_var (i := 2)) (x_var (i := 3)))) a_nil)))))) ae_nil)))))))))
theorem ok__law_keeps : Okd P w K mg base CX0 1 "_law_keeps" (spN K 2 m__law_keeps) := by
  have sc := sc__law_keeps
  exact okd T.d__law_keeps sc rfl rfl (fun f cdv A outer s H E hr => by
    have hu5 : (A.deeper (PyProof.Rows.envOfC "_law_keeps" (defScope s__law_keeps) s.heap.objs.size f cdv)).units + 65 < cLine := by
      have h := hr.units
      have h2 := hr.un
      omega
    have hu := hr.units
    have hu1 : (A.deeper (PyProof.Rows.envOfC "_law_keeps" (defScope s__law_keeps) s.heap.objs.size f cdv)).units + 1 < cLine := Nat.lt_of_le_of_lt (Nat.add_le_add_left (by decide) _) hu
    exact (m_cons (m_set (i := 2) (ne x_newD) sc.nd)
    (m_cons (m_forV (i := 0) (g_tup rfl (gs_cons (i := 3) sc.nd (gs_cons (i := 4) sc.nd gs_nil)))
    (m_one (m_dset (i := 2) hu1 (be (x_var (i := 4))) (x_var (i := 3)))) PassesOwn.never rfl)
    (m_cons (m_forV (i := 1) (g_tup rfl (gs_cons (i := 5) sc.nd (gs_cons (i := 6) sc.nd (gs_cons (i := 7) sc.nd gs_nil))))
    (m_one (m_if (t_cmp o_lt n_lt (nb (x_dget hu1 (x_var (i := 2)) (x_var (i := 5)))) (nb (x_op o_add n_add (nb (x_dget hu1 (x_var (i := 2)) (x_var (i := 6)))) (nb (x_call n_int (pe_callTy c_int (by rfl) T.n_int bb_int (a_cons (x_var (i := 7)) a_nil)))))) (nomark _))
    (m_one (m_ret (ne x_bl)))
    m_nil)) PassesOwn.never rfl)
    (m_one (m_ret (ne x_bl)))))))
theorem ok__law_edges (o__law_take : Okd P w K mg base CX0 1 "_law_take" (spI K 2 m__law_take)) : Okd P w K mg base CX0 2 "_law_edges" (spI K 3 m__law_edges) := by
  have sc := sc__law_edges
  exact okdI (Z := (fun i => i == 0)) T.d__law_edges sc rfl rfl (fun f cdv A outer s H E hr => by
    have hu5 : (A.deeper (PyProof.Rows.envOfC "_law_edges" (defScope s__law_edges) s.heap.objs.size f cdv)).units + 65 < cLine := by
      have h := hr.units
      have h2 := hr.un
      omega
    have hu := hr.units
    have hu1 : (A.deeper (PyProof.Rows.envOfC "_law_edges" (defScope s__law_edges) s.heap.objs.size f cdv)).units + 1 < cLine := Nat.lt_of_le_of_lt (Nat.add_le_add_left (by decide) _) hu
    exact (m_cons (m_set (i := 3) (ne (x_lst a_nil)) sc.nd)
    (m_cons (m_set (i := 4) (ne (x_call n_len (pe_callB call_len (by rfl) T.n_len bb_len (a_cons (x_var (i := 1)) a_nil)))) sc.nd)
    (m_cons (m_if (te_cmp (op_eqD hu) n_eq (ei (ks := [0]) (n := 2) o__law_take hr (by decide) (fun e ds e1 h => by have := (lec len0) e ds e1 h; simp [this]) (nx__law_take) (av_cons (i := 0) (ae_cons (ne x_int) ae_nil))) (ne x_int) (nomark _))
    (m_cons (m_set (i := 5) (e_op o_add n_add (ne x_int) (ei (ks := [0]) (n := 2) o__law_take hr (by decide) (fun e ds e1 h => by have := (lec len0) e ds e1 h; simp [this]) (nx__law_take) (av_cons (i := 0) (ae_cons (ne (x_call n_min (pe_callB (call_min2 rfl) (by rfl) T.n_min bb_min (a_cons (x_var (i := 4)) (a_cons (nb x_int) a_nil))))) ae_nil)))) sc.nd)
    (m_cons (m_set (i := 6) (ei (ks := [0]) (n := 2) o__law_take hr (by decide) (fun e ds e1 h => by have := (lec len0) e ds e1 h; simp [this]) (nx__law_take) (av_cons (i := 0) (ae_cons (ne (x_op o_add n_add (x_var (i := 5)) (nb x_int))) ae_nil))) sc.nd)
    (m_cons (m_set (i := 7) (ei (ks := [0]) (n := 2) o__law_take hr (by decide) (fun e ds e1 h => by have := (lec len0) e ds e1 h; simp [this]) (nx__law_take) (av_cons (i := 0) (ae_cons (be (x_var (i := 4))) ae_nil))) sc.nd)
    (m_one (m_for (w_rng1 (by rfl) T.n_range (ae_cons (be (x_var (i := 5))) ae_nil) (lec len0)) (g_name (i := 8) sc.nd)
    (m_cons (m_set (i := 9) (be (x_ix (x_var (i := 1)) (nb (x_op op_mod n_mod (nb (x_call n_int (pe_callTy c_int (by rfl) T.n_int bb_int (a_cons (nb (x_op o_add n_add (x_var (i := 7)) (x_var (i := 8)))) a_nil)))) (x_var (i := 4)))))) sc.nd)
    (m_cons (m_set (i := 10) (be (x_ix (x_var (i := 1)) (nb (x_op op_mod n_mod (nb (x_call n_int (pe_callTy c_int (by rfl) T.n_int bb_int (a_cons (nb (x_op o_add n_add (x_var (i := 7)) (nb (x_op op_mod n_mod (nb (x_call n_int (pe_callTy c_int (by rfl) T.n_int bb_int (a_cons (nb (x_op o_add n_add (x_var (i := 8)) (nb x_int))) a_nil)))) (x_var (i := 5)))))) a_nil)))) (x_var (i := 4)))))) sc.nd)
    (m_one (m_expr (e_append (i := 3) (pe_bm PySem.F.plainAttrs_list PySem.F.slot_list_append PySem.F.type_list_append mt_append (pv 3) (ae_cons (ne (x_tup (a_cons (x_var (i := 9)) (a_cons (x_var (i := 10)) (a_cons (nb (x_cmp (op_eqD hu) n_eq (x_var (i := 8)) (x_var (i := 6)) (nomark _))) a_nil))))) ae_nil))))))) PassesOwn.never rfl)))))
    m_nil)
    (m_cons (m_for (w_rng1 (by rfl) T.n_range (ae_cons (be (x_var (i := 2))) ae_nil) (lec len0)) (g_name (i := 8) sc.nd)
    (m_cons (m_set (i := 9) (ei (ks := [0]) (n := 2) o__law_take hr (by decide) (fun e ds e1 h => by have := (lec len0) e ds e1 h; simp [this]) (nx__law_take) (av_cons (i := 0) (ae_cons (be (x_var (i := 4))) ae_nil))) sc.nd)
    (m_cons (m_set (i := 10) (ei (ks := [0]) (n := 2) o__law_take hr (by decide) (fun e ds e1 h => by have := (lec len0) e ds e1 h; simp [this]) (nx__law_take) (av_cons (i := 0) (ae_cons (be (x_var (i := 4))) ae_nil))) sc.nd)
    (m_cons (m_if (PW.pt (t_and (te_cmp o_gt n_gt (ei (ks := [0]) (n := 2) o__law_take hr (by decide) (fun e ds e1 h => by have := (lec len0) e ds e1 h; simp [this]) (nx__law_take) (av_cons (i := 0) (ae_cons (ne x_int) ae_nil))) (ne x_int) (nomark _)) (t_and1 (t_cmp o_lt n_lt (x_var (i := 9)) (x_var (i := 10)) (nomark _)))))
    (m_one (m_par (i := 9) (j := 10) (ae_cons (be (x_var (i := 10))) (ae_cons (be (x_var (i := 9))) ae_nil)) rfl sc.nd))
    m_nil)
    (m_cons (m_set (i := 11) (e_tup (ae_cons (be (x_ix (x_var (i := 1)) (x_var (i := 9)))) (ae_cons (be (x_ix (x_var (i := 1)) (x_var (i := 10)))) (ae_cons (e_and (e_cmp (op_eqD hu) n_eq (ei (ks := [0]) (n := 2) o__law_take hr (by decide) (fun e ds e1 h => by have := (lec len0) e ds e1 h; simp [this]) (nx__law_take) (av_cons (i := 0) (ae_cons (ne x_int) ae_nil))) (ne x_int) (nomark _)) (x_one (e_or (ne (x_cmp (op_neD hu) n_ne (x_var (i := 9)) (x_var (i := 10)) (nomark _))) (x_one (e_cmp (op_eqD hu) n_eq (ei (ks := [0]) (n := 2) o__law_take hr (by decide) (fun e ds e1 h => by have := (lec len0) e ds e1 h; simp [this]) (nx__law_take) (av_cons (i := 0) (ae_cons (ne x_int) ae_nil))) (ne x_int) (nomark _)))))) ae_nil)))) sc.nd)
    (m_cons (m_if (PW.pt (t_and (t_cmp o_gt n_gt (nb (x_call n_len (pe_callB call_len (by rfl) T.n_len bb_len (a_cons (x_var (i := 3)) a_nil)))) (nb x_int) (nomark _)) (t_and1 (te_cmp (op_eqD hu) n_eq (ei (ks := [0]) (n := 2) o__law_take hr (by decide) (fun e ds e1 h => by have := (lec len0) e ds e1 h; simp [this]) (nx__law_take) (av_cons (i := 0) (ae_cons (ne x_int) ae_nil))) (ne x_int) (nomark _)))))
    (m_one (m_set (i := 11) (v_ix (i := 3) (ei (ks := [0]) (n := 2) o__law_take hr (by decide) (fun e ds e1 h => by have := (lec len0) e ds e1 h; simp [this]) (nx__law_take) (av_cons (i := 0) (ae_cons (ne (x_call n_len (pe_callB call_len (by rfl) T.n_len bb_len (a_cons (x_var (i := 3)) a_nil)))) ae_nil)))) sc.nd))
    m_nil)
    (m_one (m_expr (e_append (i := 3) (pe_bm PySem.F.plainAttrs_list PySem.F.slot_list_append PySem.F.type_list_append mt_append (pv 3) (ae_cons (be (x_var (i := 11))) ae_nil)))))))))) PassesOwn.never rfl)
    (m_cons (m_if (t_cmp o_gt n_gt (nb (x_call n_len (pe_callB call_len (by rfl) T.n_len bb_len (a_cons (x_var (i := 3)) a_nil)))) (nb x_int) (nomark _))
    (m_cons (m_set (i := 12) (ei (ks := [0]) (n := 2) o__law_take hr (by decide) (fun e ds e1 h => by have := (lec len0) e ds e1 h; simp [this]) (nx__law_take) (av_cons (i := 0) (ae_cons (ne (x_call n_len (pe_callB call_len (by rfl) T.n_len bb_len (a_cons (x_var (i := 3)) a_nil)))) ae_nil))) sc.nd)
    (m_one (m_set (i := 3) (ne (x_op o_add n_add (nb (x_cut (x_var (i := 3)) (o_some (x_var (i := 12))) o_none)) (nb (x_cut (x_var (i := 3)) o_none (o_some (x_var (i := 12))))))) sc.nd)))
    m_nil)
    (m_one (m_ret (ne (x_call n_tuple (pe_callTy call_tuple_of (by rfl) T.n_tuple bb_tuple (a_cons (x_var (i := 3)) a_nil))))))))))))
theorem ok__law_judges_layers (o__law_keeps : Okd P w K mg base CX0 1 "_law_keeps" (spN K 2 m__law_keeps)) (o__law_same : Okd P w K mg base CX0 11 "_law_same" (spN K 2 (m__law_same 10))) (o__law_take : Okd P w K mg base CX0 1 "_law_take" (spI K 2 m__law_take)) (o_is_layers : Okd P w K mg base CX0 2 "is_layers" (spN K 3 m_is_layers)) : Okd P w K mg base CX0 12 "_law_judges_layers" (spI K 4 m__law_judges_layers) := by
  have sc := sc__law_judges_layers
  exact okdI (Z := (fun i => i == 0)) T.d__law_judges_layers sc rfl rfl (fun f cdv A outer s H E hr => by
    have hu5 : (A.deeper (PyProof.Rows.envOfC "_law_judges_layers" (defScope s__law_judges_layers) s.heap.objs.size f cdv)).units + 65 < cLine := by
      have h := hr.units
      have h2 := hr.un
      omega
    have hu := hr.units
    have hu1 : (A.deeper (PyProof.Rows.envOfC "_law_judges_layers" (defScope s__law_judges_layers) s.heap.objs.size f cdv)).units + 1 < cLine := Nat.lt_of_le_of_lt (Nat.add_le_add_left (by decide) _) hu
    exact (m_cons (m_if (t_cmp o_gt n_gt (nb (x_call n_len (pe_callB call_len (by rfl) T.n_len bb_len (a_cons (x_var (i := 1)) a_nil)))) (nb x_int) (nomark _))
    (m_cons (m_set (i := 4) (ei (ks := [0]) (n := 2) o__law_take hr (by decide) (fun e ds e1 h => by have := (lec len0) e ds e1 h; simp [this]) (nx__law_take) (av_cons (i := 0) (ae_cons (ne (x_call n_len (pe_callB call_len (by rfl) T.n_len bb_len (a_cons (x_var (i := 1)) a_nil)))) ae_nil))) sc.nd)
    (m_cons (m_set (i := 5) (e_op o_add n_add (be (x_ix (x_ix (x_var (i := 3)) (x_var (i := 4))) (nb x_int))) (e_ix (ne (x_lst (a_cons (nb x_int) (a_cons (nb (x_neg (nb x_int))) (a_cons (nb x_int) a_nil))))) (ei (ks := [0]) (n := 2) o__law_take hr (by decide) (fun e ds e1 h => by have := (lec len0) e ds e1 h; simp [this]) (nx__law_take) (av_cons (i := 0) (ae_cons (ne x_int) ae_nil))))) sc.nd)
    (m_cons (m_set (i := 6) (ne (x_op o_add n_add (nb (x_op o_add n_add (nb (x_cut (x_var (i := 3)) o_none (o_some (x_var (i := 4))))) (nb (x_tup (a_cons (nb (x_tup (a_cons (x_ix (x_ix (x_var (i := 3)) (x_var (i := 4))) (nb x_int)) (a_cons (x_var (i := 5)) a_nil)))) a_nil))))) (nb (x_cut (x_var (i := 3)) (o_some (nb (x_op o_add n_add (x_var (i := 4)) (nb x_int)))) o_none)))) sc.nd)
    (m_cons (m_set (i := 7) (ne (x_and (nb (x_cmp o_ge n_ge (x_var (i := 5)) (nb x_int) (nomark _))) (x_one (nb (xd o__law_keeps hr (lc (lc (fun _ _ => ln))) (nx__law_keeps) (a_cons (x_var (i := 6)) (a_cons (x_var (i := 2)) a_nil))))))) sc.nd)
    (m_cons (m_if (t_not (t_val (ne (xd o__law_same hr (lc (lc (fun _ _ => ln))) (nx__law_same _) (a_cons (nb (xd o_is_layers hr (lc (lc (lc (fun _ _ => ln)))) (nx_is_layers) (a_cons (x_var (i := 1)) (a_cons (x_var (i := 2)) (a_cons (x_var (i := 6)) a_nil))))) (a_cons (x_var (i := 7)) a_nil))))))
    (m_one (m_ret (ne x_bl)))
    m_nil)
    (m_cons (m_set (i := 8) (ne (x_op o_add n_add (nb (x_op o_add n_add (nb (x_cut (x_var (i := 3)) o_none (o_some (x_var (i := 4))))) (nb (x_tup (a_cons (nb (x_tup (a_cons (x_ix (x_ix (x_var (i := 3)) (x_var (i := 4))) (nb x_int)) (a_cons (nb (x_cmp (op_eqD hu) n_eq (x_ix (x_ix (x_var (i := 3)) (x_var (i := 4))) (nb x_int)) (nb x_int) (nomark _))) a_nil)))) a_nil))))) (nb (x_cut (x_var (i := 3)) (o_some (nb (x_op o_add n_add (x_var (i := 4)) (nb x_int)))) o_none)))) sc.nd)
    (m_cons (m_set (i := 9) (e_lst (ae_cons (be (x_var (i := 8))) (ae_cons (ne (x_cut (x_var (i := 3)) o_none (o_some (nb (x_neg (nb x_int)))))) (ae_cons (ne (x_op o_add n_add (x_var (i := 3)) (nb (x_tup (a_cons (x_ix (x_var (i := 3)) (nb x_int)) a_nil))))) (ae_cons (e_frz (ne (x_call n_list (pe_callTy call_list_of (by rfl) T.n_list bb_list (a_cons (x_var (i := 3)) a_nil))))) (ae_cons (ne x_non) (ae_cons (ne x_int) ae_nil))))))) sc.nd)
    (m_cons (m_if (te_cmp o_isnt n_isnt (ed o_is_layers hr (lec (lec (lec len0))) (nx_is_layers) (ae_cons (be (x_var (i := 1))) (ae_cons (be (x_var (i := 2))) (ae_cons (v_ix (i := 9) (ei (ks := [0]) (n := 2) o__law_take hr (by decide) (fun e ds e1 h => by have := (lec len0) e ds e1 h; simp [this]) (nx__law_take) (av_cons (i := 0) (ae_cons (ne x_int) ae_nil)))) ae_nil)))) (ne x_bl) (nomark _))
    (m_one (m_ret (ne x_bl)))
    m_nil)
    (m_one (m_if (t_cmp o_gt n_gt (nb (x_call n_len (pe_callB call_len (by rfl) T.n_len bb_len (a_cons (x_var (i := 1)) a_nil)))) (nb x_int) (nomark _))
    (m_cons (m_set (i := 10) (ne (x_op o_add n_add (nb (x_cut (x_var (i := 3)) (o_some (nb x_int)) o_none)) (nb (x_cut (x_var (i := 3)) o_none (o_some (nb x_int)))))) sc.nd)
    (m_one (m_if (t_cmp o_isnt n_isnt (nb (xd o_is_layers hr (lc (lc (lc (fun _ _ => ln)))) (nx_is_layers) (a_cons (x_var (i := 1)) (a_cons (x_var (i := 2)) (a_cons (x_var (i := 10)) a_nil))))) (nb x_bl) (nomark _))
    (m_one (m_ret (ne x_bl)))
    m_nil)))
    m_nil))))))))))
    m_nil)
    (m_cons (m_set (i := 11) (e_call n_tuple (pe_callTy call_tuple_of (by rfl) T.n_tuple bb_tuple (ae_cons (e_comp (own := [("name", 12), ("layer", 13)]) (w_val (be (x_var (i := 3)))) rfl sc.nd (blkOk_by (N := N__law_judges_layers) (sc := defScope s__law_judges_layers) (by decide +kernel)) (fun _ _ _ _ _ => (g_tup rfl (gs_cons (i := 12) sc.nd (gs_cons (i := 13) sc.nd gs_nil)))) (fun _ _ _ _ _ => ts_nil) (fun _ _ _ _ _ => (ne (x_tup (a_cons (x_var (i := 12)) (a_cons (nb (x_op o_add n_add (x_var (i := 13)) (nb x_int))) a_nil)))))) ae_nil))) sc.nd)
    (m_one (m_ret (ne (x_and (nb (x_cmp o_is n_is (nb (xd o_is_layers hr (lc (lc (lc (fun _ _ => ln)))) (nx_is_layers) (a_cons (x_var (i := 1)) (a_cons (x_var (i := 2)) (a_cons (x_var (i := 3)) a_nil))))) (nb x_bl) (nomark _))) (x_one (nb (x_cmp o_is n_is (nb (xd o_is_layers hr (lc (lc (lc (fun _ _ => ln)))) (nx_is_layers) (a_cons (x_var (i := 1)) (a_cons (x_var (i := 2)) (a_cons (x_var (i := 11)) a_nil))))) (nb x_bl) (nomark _)))))))))))
theorem ok__law_is_circle : Okd P w K mg base CX0 1 "_law_is_circle" (spN K 2 m__law_is_circle) := by
  have sc := sc__law_is_circle
  exact okd T.d__law_is_circle sc rfl rfl (fun f cdv A outer s H E hr => by
    have hu5 : (A.deeper (PyProof.Rows.envOfC "_law_is_circle" (defScope s__law_is_circle) s.heap.objs.size f cdv)).units + 65 < cLine := by
      have h := hr.units
      have h2 := hr.un
      omega
    have hu := hr.units
    have hu1 : (A.deeper (PyProof.Rows.envOfC "_law_is_circle" (defScope s__law_is_circle) s.heap.objs.size f cdv)).units + 1 < cLine := Nat.lt_of_le_of_lt (Nat.add_le_add_left (by decide) _) hu
    exact (m_cons (m_if (PW.pt (t_or (t_cmp (op_eqD hu) n_eq (nb (x_call n_len (pe_callB call_len (by rfl) T.n_len bb_len (a_cons (x_var (i := 1)) a_nil)))) (nb x_int) (nomark _)) (t_or1 (t_not (t_val (be (x_ix (x_ix (x_var (i := 1)) (nb x_int)) (nb x_int))))))))
    (m_one (m_ret (ne x_bl)))
    m_nil)
    (m_cons (m_for (w_rng1 (by rfl) T.n_range (ae_cons (ne (x_call n_len (pe_callB call_len (by rfl) T.n_len bb_len (a_cons (x_var (i := 1)) a_nil)))) ae_nil) (lec len0)) (g_name (i := 2) sc.nd)
    (m_one (m_if (PW.pt (t_or (t_cmp (o_notIn hu5) n_notIn (x_ix (x_var (i := 1)) (x_var (i := 2))) (x_var (i := 0)) (by rfl)) (t_or1 (t_cmp (op_neD hu) n_ne (x_ix (x_ix (x_var (i := 1)) (nb (x_op op_sub n_sub (x_var (i := 2)) (nb x_int)))) (nb x_int)) (x_ix (x_ix (x_var (i := 1)) (x_var (i := 2))) (nb x_int)) (nomark _)))))
    (m_one (m_ret (ne x_bl)))
    m_nil)) PassesOwn.never rfl)
    (m_one (m_ret (ne x_bl))))))
theorem ok__law_judges_circle (o__law_is_circle : Okd P w K mg base CX0 1 "_law_is_circle" (spN K 2 m__law_is_circle)) (o__law_same : Okd P w K mg base CX0 11 "_law_same" (spN K 2 (m__law_same 10))) (o__law_take : Okd P w K mg base CX0 1 "_law_take" (spI K 2 m__law_take)) (o_is_circle : Okd P w K mg base CX0 2 "is_circle" (spN K 2 m_is_circle)) : Okd P w K mg base CX0 12 "_law_judges_circle" (spI K 4 m__law_judges_circle) := by
  have sc := sc__law_judges_circle
  exact okdI (Z := (fun i => i == 0)) T.d__law_judges_circle sc rfl rfl (fun f cdv A outer s H E hr => by
    have hu5 : (A.deeper (PyProof.Rows.envOfC "_law_judges_circle" (defScope s__law_judges_circle) s.heap.objs.size f cdv)).units + 65 < cLine := by
      have h := hr.units
      have h2 := hr.un
      omega
    have hu := hr.units
    have hu1 : (A.deeper (PyProof.Rows.envOfC "_law_judges_circle" (defScope s__law_judges_circle) s.heap.objs.size f cdv)).units + 1 < cLine := Nat.lt_of_le_of_lt (Nat.add_le_add_left (by decide) _) hu
    exact (m_cons (m_set (i := 4) (ei (ks := [0]) (n := 2) o__law_take hr (by decide) (fun e ds e1 h => by have := (lec len0) e ds e1 h; simp [this]) (nx__law_take) (av_cons (i := 0) (ae_cons (ne (x_call n_len (pe_callB call_len (by rfl) T.n_len bb_len (a_cons (x_var (i := 3)) a_nil)))) ae_nil))) sc.nd)
    (m_cons (m_asg (be (x_ix (x_var (i := 3)) (x_var (i := 4)))) (g_tup rfl (gs_cons (i := 5) sc.nd (gs_cons (i := 6) sc.nd (gs_cons (i := 7) sc.nd gs_nil)))))
    (m_cons (m_set (i := 8) (e_lst (ae_cons (e_tup (ae_cons (be (x_var (i := 5))) (ae_cons (v_ix (i := 1) (ei (ks := [0]) (n := 2) o__law_take hr (by decide) (fun e ds e1 h => by have := (lec len0) e ds e1 h; simp [this]) (nx__law_take) (av_cons (i := 0) (ae_cons (ne (x_call n_len (pe_callB call_len (by rfl) T.n_len bb_len (a_cons (x_var (i := 1)) a_nil)))) ae_nil)))) (ae_cons (be (x_var (i := 7))) ae_nil)))) (ae_cons (ne (x_tup (a_cons (x_var (i := 5)) (a_cons (x_var (i := 6)) (a_cons (nb (x_not (x_var (i := 7)))) a_nil))))) (ae_cons (ne (x_tup (a_cons (x_var (i := 6)) (a_cons (x_var (i := 5)) (a_cons (x_var (i := 7)) a_nil))))) ae_nil)))) sc.nd)
    (m_cons (m_set (i := 9) (e_op o_add n_add (e_op o_add n_add (ne (x_cut (x_var (i := 3)) o_none (o_some (x_var (i := 4))))) (e_tup (ae_cons (v_ix (i := 8) (ei (ks := [0]) (n := 2) o__law_take hr (by decide) (fun e ds e1 h => by have := (lec len0) e ds e1 h; simp [this]) (nx__law_take) (av_cons (i := 0) (ae_cons (ne x_int) ae_nil)))) ae_nil))) (ne (x_cut (x_var (i := 3)) (o_some (nb (x_op o_add n_add (x_var (i := 4)) (nb x_int)))) o_none))) sc.nd)
    (m_cons (m_if (t_not (t_val (ne (xd o__law_same hr (lc (lc (fun _ _ => ln))) (nx__law_same _) (a_cons (nb (xd o_is_circle hr (lc (lc (fun _ _ => ln))) (nx_is_circle) (a_cons (x_var (i := 2)) (a_cons (x_var (i := 9)) a_nil)))) (a_cons (nb (xd o__law_is_circle hr (lc (lc (fun _ _ => ln))) (nx__law_is_circle) (a_cons (x_var (i := 2)) (a_cons (x_var (i := 9)) a_nil)))) a_nil))))))
    (m_one (m_ret (ne x_bl)))
    m_nil)
    (m_cons (m_set (i := 10) (ne (x_op o_add n_add (nb (x_cut (x_var (i := 3)) (o_some (x_var (i := 4))) o_none)) (nb (x_cut (x_var (i := 3)) o_none (o_some (x_var (i := 4))))))) sc.nd)
    (m_cons (m_if (t_not (t_val (ne (xd o__law_same hr (lc (lc (fun _ _ => ln))) (nx__law_same _) (a_cons (nb (xd o_is_circle hr (lc (lc (fun _ _ => ln))) (nx_is_circle) (a_cons (x_var (i := 2)) (a_cons (x_var (i := 10)) a_nil)))) (a_cons (nb (xd o__law_is_circle hr (lc (lc (fun _ _ => ln))) (nx__law_is_circle) (a_cons (x_var (i := 2)) (a_cons (x_var (i := 10)) a_nil)))) a_nil))))))
    (m_one (m_ret (ne x_bl)))
    m_nil)
    (m_cons (m_set (i := 11) (ne (x_op o_add n_add (nb (x_cut (x_var (i := 3)) o_none (o_some (x_var (i := 4))))) (nb (x_cut (x_var (i := 3)) (o_some (nb (x_op o_add n_add (x_var (i := 4)) (nb x_int)))) o_none)))) sc.nd)
    (m_cons (m_if (t_not (t_val (ne (xd o__law_same hr (lc (lc (fun _ _ => ln))) (nx__law_same _) (a_cons (nb (xd o_is_circle hr (lc (lc (fun _ _ => ln))) (nx_is_circle) (a_cons (x_var (i := 2)) (a_cons (x_var (i := 11)) a_nil)))) (a_cons (nb (xd o__law_is_circle hr (lc (lc (fun _ _ => ln))) (nx__law_is_circle) (a_cons (x_var (i := 2)) (a_cons (x_var (i := 11)) a_nil)))) a_nil))))))
    (m_one (m_ret (ne x_bl)))
    m_nil)
    (m_cons (m_set (i := 12) (ne (x_op o_add n_add (nb (x_op o_add n_add (nb (x_cut (x_var (i := 3)) o_none (o_some (x_var (i := 4))))) (nb (x_tup (a_cons (nb (x_tup (a_cons (x_var (i := 5)) (a_cons (x_var (i := 6)) (a_cons (nb (x_call n_int (pe_callTy c_int (by rfl) T.n_int bb_int (a_cons (x_var (i := 7)) a_nil)))) a_nil))))) a_nil))))) (nb (x_cut (x_var (i := 3)) (o_some (nb (x_op o_add n_add (x_var (i := 4)) (nb x_int)))) o_none)))) sc.nd)
    (m_cons (m_set (i := 13) (e_lst (ae_cons (ne (x_tup a_nil)) (ae_cons (e_frz (ne (x_call n_list (pe_callTy call_list_of (by rfl) T.n_list bb_list (a_cons (x_var (i := 3)) a_nil))))) (ae_cons (ne x_non) (ae_cons (be (x_var (i := 12))) (ae_cons (ne (x_tup (a_cons (x_var (i := 3)) a_nil))) (ae_cons (ne x_str) (ae_cons (ne (x_op o_add n_add (nb (x_op o_add n_add (nb (x_cut (x_var (i := 3)) o_none (o_some (x_var (i := 4))))) (nb (x_tup (a_cons (nb x_non) a_nil))))) (nb (x_cut (x_var (i := 3)) (o_some (nb (x_op o_add n_add (x_var (i := 4)) (nb x_int)))) o_none)))) ae_nil)))))))) sc.nd)
    (m_cons (m_if (te_cmp o_isnt n_isnt (ed o_is_circle hr (lec (lec len0)) (nx_is_circle) (ae_cons (be (x_var (i := 2))) (ae_cons (v_ix (i := 13) (ei (ks := [0]) (n := 2) o__law_take hr (by decide) (fun e ds e1 h => by have := (lec len0) e ds e1 h; simp [this]) (nx__law_take) (av_cons (i := 0) (ae_cons (ne x_int) ae_nil)))) ae_nil))) (ne x_bl) (nomark _))
    (m_one (m_ret (ne x_bl)))
    m_nil)
    (m_one (m_ret (ne (x_and (nb (x_cmp o_is n_is (nb (xd o_is_circle hr (lc (lc (fun _ _ => ln))) (nx_is_circle) (a_cons (x_var (i := 2)) (a_cons (x_var (i := 3)) a_nil)))) (nb x_bl) (nomark _))) (x_one (nb (x_cmp o_is n_is (nb (xd o_is_circle hr (lc (lc (fun _ _ => ln))) (nx_is_circle) (a_cons (x_var (i := 2)) (a_cons (nb (x_op o_add n_add (x_var (i := 3)) (x_var (i := 3)))) a_nil)))) (nb x_bl) (nomark _)))))))))))))))))))))
theorem ok_law {f : Addr} {fd : FuncData} (D : DefAt K mg "law" "law" s_law ["script"] f fd) (o__law_circle : Okd P w K mg base CX0 2 "_law_circle" (spN K 1 m__law_circle)) (o__law_edges : Okd P w K mg base CX0 2 "_law_edges" (spI K 3 m__law_edges)) (o__law_jar : Okd P w K mg base CX0 1 "_law_jar" (spN K 1 m__law_jar)) (o__law_judges_circle : Okd P w K mg base CX0 12 "_law_judges_circle" (spI K 4 m__law_judges_circle)) (o__law_judges_layers : Okd P w K mg base CX0 12 "_law_judges_layers" (spI K 4 m__law_judges_layers)) (o__law_layers : Okd P w K mg base CX0 1 "_law_layers" (spN K 2 m__law_layers)) (o__law_name : Okd P w K mg base CX0 2 "_law_name" (spI K 2 m__law_name)) (o__law_same : Okd P w K mg base CX0 11 "_law_same" (spN K 2 (m__law_same 10))) (o__law_take : Okd P w K mg base CX0 1 "_law_take" (spI K 2 m__law_take)) (o_is_circle : Okd P w K mg base CX0 2 "is_circle" (spN K 2 m_is_circle)) (o_is_layers : Okd P w K mg base CX0 2 "is_layers" (spN K 3 m_is_layers)) (o_layers_of : Okd P w K mg base CX0 3 "layers_of" (spN K 2 m_layers_of)) : FnOk P w K mg base CX0 13 f fd ["script"] (spN K 1 m_law) := by
  have sc := sc_law
  exact okdF D sc rfl rfl (fun f cdv A outer s H E hr => by
    have hu5 : (A.deeper (PyProof.Rows.envOfC "law" (defScope s_law) s.heap.objs.size f cdv)).units + 65 < cLine := by
      have h := hr.units
      have h2 := hr.un
      omega
    have hu := hr.units
    have hu1 : (A.deeper (PyProof.Rows.envOfC "law" (defScope s_law) s.heap.objs.size f cdv)).units + 1 < cLine := Nat.lt_of_le_of_lt (Nat.add_le_add_left (by decide) _) hu
    exact (m_cons (m_set (i := 1) (ne (xd o__law_jar hr (lc (fun _ _ => ln)) (nx__law_jar) (a_cons (x_var (i := 0)) a_nil))) sc.nd)
    (m_cons (m_set (i := 2) (e_cmp (op_eqD hu) n_eq (ei (ks := [1]) (n := 2) o__law_take hr (by decide) (fun e ds e1 h => by have := (lec len0) e ds e1 h; simp [this]) (nx__law_take) (av_cons (i := 1) (ae_cons (ne x_int) ae_nil))) (ne x_int) (nomark _)) sc.nd)
    (m_cons (m_set (i := 3) (e_op o_add n_add (ne x_int) (ei (ks := [1]) (n := 2) o__law_take hr (by decide) (fun e ds e1 h => by have := (lec len0) e ds e1 h; simp [this]) (nx__law_take) (av_cons (i := 1) (ae_cons (ne x_int) ae_nil)))) sc.nd)
    (m_cons (m_set (i := 4) (ei (ks := [1]) (n := 2) o__law_take hr (by decide) (fun e ds e1 h => by have := (lec len0) e ds e1 h; simp [this]) (nx__law_take) (av_cons (i := 1) (ae_cons (ne x_int) ae_nil))) sc.nd)
    (m_cons (m_if (t_val (be (x_var (i := 2))))
    (m_cons (m_set (i := 3) (ne x_int) sc.nd)
    (m_one (m_set (i := 4) (e_op o_add n_add (ne x_int) (ei (ks := [1]) (n := 2) o__law_take hr (by decide) (fun e ds e1 h => by have := (lec len0) e ds e1 h; simp [this]) (nx__law_take) (av_cons (i := 1) (ae_cons (ne x_int) ae_nil)))) sc.nd)))
    m_nil)
    (m_cons (m_set (i := 5) (ne (x_lst a_nil)) sc.nd)
    (m_cons (m_set (i := 6) (ne (x_lst a_nil)) sc.nd)
    (m_cons (m_for (w_rng1 (by rfl) T.n_range (ae_cons (be (x_var (i := 3))) ae_nil) (lec len0)) (g_name (i := 7) sc.nd)
    (m_one (m_expr (e_append (i := 6) (pe_bm PySem.F.plainAttrs_list PySem.F.slot_list_append PySem.F.type_list_append mt_append (pv 6) (ae_cons (ei (ks := [1, 5]) (n := 2) o__law_name hr (by decide) (fun e ds e1 h => by have := len0 e ds e1 h; simp [this]) (nx__law_name) (av_cons (i := 1) (av_cons (i := 5) ae_nil))) ae_nil))))) PassesOwn.never rfl)
    (m_cons (m_set (i := 6) (ne (x_call n_tuple (pe_callTy call_tuple_of (by rfl) T.n_tuple bb_tuple (a_cons (x_var (i := 6)) a_nil)))) sc.nd)
    (m_cons (m_set (i := 8) (ei (ks := [1]) (n := 3) o__law_edges hr (by decide) (fun e ds e1 h => by have := (lec (lec len0)) e ds e1 h; simp [this]) (nx__law_edges) (av_cons (i := 1) (ae_cons (be (x_var (i := 6))) (ae_cons (be (x_var (i := 4))) ae_nil)))) sc.nd)
    (m_cons (m_set (i := 9) (ne (xd o_layers_of hr (lc (lc (fun _ _ => ln))) (nx_layers_of) (a_cons (x_var (i := 6)) (a_cons (x_var (i := 8)) a_nil)))) sc.nd)
    (m_cons (m_set (i := 10) (ne (xd o__law_circle hr (lc (fun _ _ => ln)) (nx__law_circle) (a_cons (x_var (i := 8)) a_nil))) sc.nd)
    (m_cons (m_if (t_cmp o_gt n_gt (nb (x_call n_len (pe_callB call_len (by rfl) T.n_len bb_len (a_cons (x_var (i := 10)) a_nil)))) (nb x_int) (nomark _))
    (m_cons (m_if (t_not (t_val (ne (xd o__law_same hr (lc (lc (fun _ _ => ln))) (nx__law_same _) (a_cons (x_var (i := 9)) (a_cons (nb (x_tup (a_cons (nb x_str) (a_cons (x_var (i := 10)) a_nil)))) a_nil))))))
    (m_one (m_ret (ne x_bl)))
    m_nil)
    (m_cons (m_set (i := 11) (e_call n_tuple (pe_callTy call_tuple_of (by rfl) T.n_tuple bb_tuple (ae_cons (e_comp (own := [("name", 14)]) (w_val (be (x_var (i := 6)))) rfl sc.nd (blkOk_by (N := N_law) (sc := defScope s_law) (by decide +kernel)) (fun _ _ _ _ _ => (g_name (i := 14) sc.nd)) (fun _ _ _ _ _ => ts_nil) (fun _ _ _ _ _ => (ne (x_tup (a_cons (x_var (i := 14)) (a_cons (nb x_int) a_nil)))))) ae_nil))) sc.nd)
    (m_cons (m_if (t_cmp o_isnt n_isnt (nb (xd o_is_layers hr (lc (lc (lc (fun _ _ => ln)))) (nx_is_layers) (a_cons (x_var (i := 6)) (a_cons (x_var (i := 8)) (a_cons (x_var (i := 11)) a_nil))))) (nb x_bl) (nomark _))
    (m_one (m_ret (ne x_bl)))
    m_nil)
    (m_one (m_ret (ei (ks := [1]) (n := 4) o__law_judges_circle hr (by decide) (fun e ds e1 h => by have := (lec (lec (lec len0))) e ds e1 h; simp [this]) (nx__law_judges_circle) (av_cons (i := 1) (ae_cons (be (x_var (i := 6))) (ae_cons (be (x_var (i := 8))) (ae_cons (be (x_var (i := 10))) ae_nil))))))))))
    m_nil)
    (m_cons (m_set (i := 12) (ne (xd o__law_layers hr (lc (lc (fun _ _ => ln))) (nx__law_layers) (a_cons (x_var (i := 6)) (a_cons (x_var (i := 8)) a_nil)))) sc.nd)
    (m_cons (m_if (t_not (t_val (ne (xd o__law_same hr (lc (lc (fun _ _ => ln))) (nx__law_same _) (a_cons (x_var (i := 9)) (a_cons (nb (x_tup (a_cons (nb x_str) (a_cons (x_var (i := 12)) a_nil)))) a_nil))))))
    (m_one (m_ret (ne x_bl)))
    m_nil)
    (m_cons (m_forV (i := 8) (g_name (i := 13) sc.nd)
    (m_one (m_if (PW.pt (t_and (t_val (be (x_ix (x_var (i := 13)) (nb x_int)))) (t_and1 (t_cmp o_isnt n_isnt (nb (xd o_is_circle hr (lc (lc (fun _ _ => ln))) (nx_is_circle) (a_cons (x_var (i := 8)) (a_cons (nb (x_tup (a_cons (x_var (i := 13)) a_nil))) a_nil)))) (nb x_bl) (nomark _)))))
    (m_one (m_ret (ne x_bl)))
    m_nil)) PassesOwn.never rfl)
    (m_one (m_ret (ei (ks := [1]) (n := 4) o__law_judges_layers hr (by decide) (fun e ds e1 h => by have := (lec (lec (lec len0))) e ds e1 h; simp [this]) (nx__law_judges_layers) (av_cons (i := 1) (ae_cons (be (x_var (i := 6))) (ae_cons (be (x_var (i := 8))) (ae_cons (be (x_var (i := 12))) ae_nil))))))))))))))))))))))))
end
theorem all_mk {l : PySem.W.OpenLaw} {w : World} {K : PySem.W.Frag} {h : Heap} {mg : Str → Option Value} {fa : Addr} (X : K.In h) (G : h.Ns mainGlobals mg) (hfa : mg "law" = some (.ref fa))
    {f0 : Addr} {od0 an0 : Option Addr} {sl0 : Array (Option Value)} {oc0 kV0 dc0 pm0 cd0 ct0 : Value}
    {f1 : Addr} {od1 an1 : Option Addr} {sl1 : Array (Option Value)} {oc1 kV1 dc1 pm1 cd1 ct1 : Value}
    {f2 : Addr} {od2 an2 : Option Addr} {sl2 : Array (Option Value)} {oc2 kV2 dc2 pm2 cd2 ct2 : Value}
    {f3 : Addr} {od3 an3 : Option Addr} {sl3 : Array (Option Value)} {oc3 kV3 dc3 pm3 cd3 ct3 : Value}
    {f4 : Addr} {od4 an4 : Option Addr} {sl4 : Array (Option Value)} {oc4 kV4 dc4 pm4 cd4 ct4 : Value}
    {f5 : Addr} {od5 an5 : Option Addr} {sl5 : Array (Option Value)} {oc5 kV5 dc5 pm5 cd5 ct5 : Value}
    {f6 : Addr} {od6 an6 : Option Addr} {sl6 : Array (Option Value)} {oc6 kV6 dc6 pm6 cd6 ct6 : Value}
    {f7 : Addr} {od7 an7 : Option Addr} {sl7 : Array (Option Value)} {oc7 kV7 dc7 pm7 cd7 ct7 : Value}
    {f8 : Addr} {od8 an8 : Option Addr} {sl8 : Array (Option Value)} {oc8 kV8 dc8 pm8 cd8 ct8 : Value}
    {f9 : Addr} {od9 an9 : Option Addr} {sl9 : Array (Option Value)} {oc9 kV9 dc9 pm9 cd9 ct9 : Value}
    {f10 : Addr} {od10 an10 : Option Addr} {sl10 : Array (Option Value)} {oc10 kV10 dc10 pm10 cd10 ct10 : Value}
    {f11 : Addr} {od11 an11 : Option Addr} {sl11 : Array (Option Value)} {oc11 kV11 dc11 pm11 cd11 ct11 : Value}
    {f12 : Addr} {od12 an12 : Option Addr} {sl12 : Array (Option Value)} {oc12 kV12 dc12 pm12 cd12 ct12 : Value}
    {f13 : Addr} {od13 an13 : Option Addr} {sl13 : Array (Option Value)} {oc13 kV13 dc13 pm13 cd13 ct13 : Value}
    {f14 : Addr} {od14 an14 : Option Addr} {sl14 : Array (Option Value)} {oc14 kV14 dc14 pm14 cd14 ct14 : Value}
    {f15 : Addr} {od15 an15 : Option Addr} {sl15 : Array (Option Value)} {oc15 kV15 dc15 pm15 cd15 ct15 : Value}
    {f16 : Addr} {od16 an16 : Option Addr} {sl16 : Array (Option Value)} {oc16 kV16 dc16 pm16 cd16 ct16 : Value}
    {f17 : Addr} {od17 an17 : Option Addr} {sl17 : Array (Option Value)} {oc17 kV17 dc17 pm17 cd17 ct17 : Value}
    {f18 : Addr} {od18 an18 : Option Addr} {sl18 : Array (Option Value)} {oc18 kV18 dc18 pm18 cd18 ct18 : Value}
    {f19 : Addr} {od19 an19 : Option Addr} {sl19 : Array (Option Value)} {oc19 kV19 dc19 pm19 cd19 ct19 : Value}
    {f20 : Addr} {od20 an20 : Option Addr} {sl20 : Array (Option Value)} {oc20 kV20 dc20 pm20 cd20 ct20 : Value}
    {f21 : Addr} {od21 an21 : Option Addr} {sl21 : Array (Option Value)} {oc21 kV21 dc21 pm21 cd21 ct21 : Value}
    {f22 : Addr} {od22 an22 : Option Addr} {sl22 : Array (Option Value)} {oc22 kV22 dc22 pm22 cd22 ct22 : Value}
    {t0 : Tok}
    (a0 : PySem.W.nsIn K mainGlobals "is_kept" = some (some (.ref f0)))
    (l0 : K.lookup f0 = some ⟨oc0, od0, .func (PySem.W.fnOf "is_kept" "is_kept" (defArgs s_is_kept) (defBody s_is_kept) (defScope s_is_kept) .none kV0 dc0 pm0 an0 cd0 ct0), sl0⟩)
    (c0 : PySem.W.codeIn K cd0 "is_kept" = true)
    (k0 : PySem.W.keepIn K (.ref f0) = true)
    (a1 : PySem.W.nsIn K mainGlobals "steps_to" = some (some (.ref f1)))
    (l1 : K.lookup f1 = some ⟨oc1, od1, .func (PySem.W.fnOf "steps_to" "steps_to" (defArgs s_steps_to) (defBody s_steps_to) (defScope s_steps_to) .none kV1 dc1 pm1 an1 cd1 ct1), sl1⟩)
    (c1 : PySem.W.codeIn K cd1 "steps_to" = true)
    (k1 : PySem.W.keepIn K (.ref f1) = true)
    (a2 : PySem.W.nsIn K mainGlobals "way_along" = some (some (.ref f2)))
    (l2 : K.lookup f2 = some ⟨oc2, od2, .func (PySem.W.fnOf "way_along" "way_along" (defArgs s_way_along) (defBody s_way_along) (defScope s_way_along) .none kV2 dc2 pm2 an2 cd2 ct2), sl2⟩)
    (c2 : PySem.W.codeIn K cd2 "way_along" = true)
    (k2 : PySem.W.keepIn K (.ref f2) = true)
    (a3 : PySem.W.nsIn K mainGlobals "first_circle" = some (some (.ref f3)))
    (l3 : K.lookup f3 = some ⟨oc3, od3, .func (PySem.W.fnOf "first_circle" "first_circle" (defArgs s_first_circle) (defBody s_first_circle) (defScope s_first_circle) .none kV3 dc3 pm3 an3 cd3 ct3), sl3⟩)
    (c3 : PySem.W.codeIn K cd3 "first_circle" = true)
    (k3 : PySem.W.keepIn K (.ref f3) = true)
    (a4 : PySem.W.nsIn K mainGlobals "least_layers" = some (some (.ref f4)))
    (l4 : K.lookup f4 = some ⟨oc4, od4, .func (PySem.W.fnOf "least_layers" "least_layers" (defArgs s_least_layers) (defBody s_least_layers) (defScope s_least_layers) .none kV4 dc4 pm4 an4 cd4 ct4), sl4⟩)
    (c4 : PySem.W.codeIn K cd4 "least_layers" = true)
    (k4 : PySem.W.keepIn K (.ref f4) = true)
    (a5 : PySem.W.nsIn K mainGlobals "layers_of" = some (some (.ref f5)))
    (l5 : K.lookup f5 = some ⟨oc5, od5, .func (PySem.W.fnOf "layers_of" "layers_of" (defArgs s_layers_of) (defBody s_layers_of) (defScope s_layers_of) .none kV5 dc5 pm5 an5 cd5 ct5), sl5⟩)
    (c5 : PySem.W.codeIn K cd5 "layers_of" = true)
    (k5 : PySem.W.keepIn K (.ref f5) = true)
    (a6 : PySem.W.nsIn K mainGlobals "is_layer_pair" = some (some (.ref f6)))
    (l6 : K.lookup f6 = some ⟨oc6, od6, .func (PySem.W.fnOf "is_layer_pair" "is_layer_pair" (defArgs s_is_layer_pair) (defBody s_is_layer_pair) (defScope s_is_layer_pair) .none kV6 dc6 pm6 an6 cd6 ct6), sl6⟩)
    (c6 : PySem.W.codeIn K cd6 "is_layer_pair" = true)
    (k6 : PySem.W.keepIn K (.ref f6) = true)
    (a7 : PySem.W.nsIn K mainGlobals "is_layers" = some (some (.ref f7)))
    (l7 : K.lookup f7 = some ⟨oc7, od7, .func (PySem.W.fnOf "is_layers" "is_layers" (defArgs s_is_layers) (defBody s_is_layers) (defScope s_is_layers) .none kV7 dc7 pm7 an7 cd7 ct7), sl7⟩)
    (c7 : PySem.W.codeIn K cd7 "is_layers" = true)
    (k7 : PySem.W.keepIn K (.ref f7) = true)
    (a8 : PySem.W.nsIn K mainGlobals "is_one_of" = some (some (.ref f8)))
    (l8 : K.lookup f8 = some ⟨oc8, od8, .func (PySem.W.fnOf "is_one_of" "is_one_of" (defArgs s_is_one_of) (defBody s_is_one_of) (defScope s_is_one_of) .none kV8 dc8 pm8 an8 cd8 ct8), sl8⟩)
    (c8 : PySem.W.codeIn K cd8 "is_one_of" = true)
    (k8 : PySem.W.keepIn K (.ref f8) = true)
    (a9 : PySem.W.nsIn K mainGlobals "is_circle" = some (some (.ref f9)))
    (l9 : K.lookup f9 = some ⟨oc9, od9, .func (PySem.W.fnOf "is_circle" "is_circle" (defArgs s_is_circle) (defBody s_is_circle) (defScope s_is_circle) .none kV9 dc9 pm9 an9 cd9 ct9), sl9⟩)
    (c9 : PySem.W.codeIn K cd9 "is_circle" = true)
    (k9 : PySem.W.keepIn K (.ref f9) = true)
    (a10 : PySem.W.nsIn K mainGlobals "_law_jar" = some (some (.ref f10)))
    (l10 : K.lookup f10 = some ⟨oc10, od10, .func (PySem.W.fnOf "_law_jar" "_law_jar" (defArgs s__law_jar) (defBody s__law_jar) (defScope s__law_jar) .none kV10 dc10 pm10 an10 cd10 ct10), sl10⟩)
    (c10 : PySem.W.codeIn K cd10 "_law_jar" = true)
    (k10 : PySem.W.keepIn K (.ref f10) = true)
    (a11 : PySem.W.nsIn K mainGlobals "_law_take" = some (some (.ref f11)))
    (l11 : K.lookup f11 = some ⟨oc11, od11, .func (PySem.W.fnOf "_law_take" "_law_take" (defArgs s__law_take) (defBody s__law_take) (defScope s__law_take) .none kV11 dc11 pm11 an11 cd11 ct11), sl11⟩)
    (c11 : PySem.W.codeIn K cd11 "_law_take" = true)
    (k11 : PySem.W.keepIn K (.ref f11) = true)
    (a12 : PySem.W.nsIn K mainGlobals "_law_name" = some (some (.ref f12)))
    (l12 : K.lookup f12 = some ⟨oc12, od12, .func (PySem.W.fnOf "_law_name" "_law_name" (defArgs s__law_name) (defBody s__law_name) (defScope s__law_name) .none kV12 dc12 pm12 an12 cd12 ct12), sl12⟩)
    (c12 : PySem.W.codeIn K cd12 "_law_name" = true)
    (k12 : PySem.W.keepIn K (.ref f12) = true)
    (a13 : PySem.W.nsIn K mainGlobals "_law_same" = some (some (.ref f13)))
    (l13 : K.lookup f13 = some ⟨oc13, od13, .func (PySem.W.fnOf "_law_same" "_law_same" (defArgs s__law_same) (defBody s__law_same) (defScope s__law_same) .none kV13 dc13 pm13 an13 cd13 ct13), sl13⟩)
    (c13 : PySem.W.codeIn K cd13 "_law_same" = true)
    (k13 : PySem.W.keepIn K (.ref f13) = true)
    (a14 : PySem.W.nsIn K mainGlobals "_law_steps" = some (some (.ref f14)))
    (l14 : K.lookup f14 = some ⟨oc14, od14, .func (PySem.W.fnOf "_law_steps" "_law_steps" (defArgs s__law_steps) (defBody s__law_steps) (defScope s__law_steps) .none kV14 dc14 pm14 an14 cd14 ct14), sl14⟩)
    (c14 : PySem.W.codeIn K cd14 "_law_steps" = true)
    (k14 : PySem.W.keepIn K (.ref f14) = true)
    (a15 : PySem.W.nsIn K mainGlobals "_law_circle" = some (some (.ref f15)))
    (l15 : K.lookup f15 = some ⟨oc15, od15, .func (PySem.W.fnOf "_law_circle" "_law_circle" (defArgs s__law_circle) (defBody s__law_circle) (defScope s__law_circle) .none kV15 dc15 pm15 an15 cd15 ct15), sl15⟩)
    (c15 : PySem.W.codeIn K cd15 "_law_circle" = true)
    (k15 : PySem.W.keepIn K (.ref f15) = true)
    (a16 : PySem.W.nsIn K mainGlobals "_law_layers" = some (some (.ref f16)))
    (l16 : K.lookup f16 = some ⟨oc16, od16, .func (PySem.W.fnOf "_law_layers" "_law_layers" (defArgs s__law_layers) (defBody s__law_layers) (defScope s__law_layers) .none kV16 dc16 pm16 an16 cd16 ct16), sl16⟩)
    (c16 : PySem.W.codeIn K cd16 "_law_layers" = true)
    (k16 : PySem.W.keepIn K (.ref f16) = true)
    (a17 : PySem.W.nsIn K mainGlobals "_law_keeps" = some (some (.ref f17)))
    (l17 : K.lookup f17 = some ⟨oc17, od17, .func (PySem.W.fnOf "_law_keeps" "_law_keeps" (defArgs s__law_keeps) (defBody s__law_keeps) (defScope s__law_keeps) .none kV17 dc17 pm17 an17 cd17 ct17), sl17⟩)
    (c17 : PySem.W.codeIn K cd17 "_law_keeps" = true)
    (k17 : PySem.W.keepIn K (.ref f17) = true)
    (a18 : PySem.W.nsIn K mainGlobals "_law_edges" = some (some (.ref f18)))
    (l18 : K.lookup f18 = some ⟨oc18, od18, .func (PySem.W.fnOf "_law_edges" "_law_edges" (defArgs s__law_edges) (defBody s__law_edges) (defScope s__law_edges) .none kV18 dc18 pm18 an18 cd18 ct18), sl18⟩)
    (c18 : PySem.W.codeIn K cd18 "_law_edges" = true)
    (k18 : PySem.W.keepIn K (.ref f18) = true)
    (a19 : PySem.W.nsIn K mainGlobals "_law_judges_layers" = some (some (.ref f19)))
    (l19 : K.lookup f19 = some ⟨oc19, od19, .func (PySem.W.fnOf "_law_judges_layers" "_law_judges_layers" (defArgs s__law_judges_layers) (defBody s__law_judges_layers) (defScope s__law_judges_layers) .none kV19 dc19 pm19 an19 cd19 ct19), sl19⟩)
    (c19 : PySem.W.codeIn K cd19 "_law_judges_layers" = true)
    (k19 : PySem.W.keepIn K (.ref f19) = true)
    (a20 : PySem.W.nsIn K mainGlobals "_law_is_circle" = some (some (.ref f20)))
    (l20 : K.lookup f20 = some ⟨oc20, od20, .func (PySem.W.fnOf "_law_is_circle" "_law_is_circle" (defArgs s__law_is_circle) (defBody s__law_is_circle) (defScope s__law_is_circle) .none kV20 dc20 pm20 an20 cd20 ct20), sl20⟩)
    (c20 : PySem.W.codeIn K cd20 "_law_is_circle" = true)
    (k20 : PySem.W.keepIn K (.ref f20) = true)
    (a21 : PySem.W.nsIn K mainGlobals "_law_judges_circle" = some (some (.ref f21)))
    (l21 : K.lookup f21 = some ⟨oc21, od21, .func (PySem.W.fnOf "_law_judges_circle" "_law_judges_circle" (defArgs s__law_judges_circle) (defBody s__law_judges_circle) (defScope s__law_judges_circle) .none kV21 dc21 pm21 an21 cd21 ct21), sl21⟩)
    (c21 : PySem.W.codeIn K cd21 "_law_judges_circle" = true)
    (k21 : PySem.W.keepIn K (.ref f21) = true)
    (a22 : PySem.W.nsIn K mainGlobals "law" = some (some (.ref f22)))
    (l22 : K.lookup f22 = some ⟨oc22, od22, .func (PySem.W.fnOf "law" "law" (defArgs s_law) (defBody s_law) (defScope s_law) .none kV22 dc22 pm22 an22 cd22 ct22), sl22⟩)
    (c22 : PySem.W.codeIn K cd22 "law" = true)
    (k22 : PySem.W.keepIn K (.ref f22) = true)
    (e0 : PySem.W.nsIn K mainGlobals "EDGE_SIZE" = some (some (Value.int 3 t0)))
    (z0 : PySem.W.nsIn K mainGlobals "bool" = some none)
    (z1 : PySem.W.nsIn K mainGlobals "int" = some none)
    (z2 : PySem.W.nsIn K mainGlobals "isinstance" = some none)
    (z3 : PySem.W.nsIn K mainGlobals "len" = some none)
    (z4 : PySem.W.nsIn K mainGlobals "list" = some none)
    (z5 : PySem.W.nsIn K mainGlobals "min" = some none)
    (z6 : PySem.W.nsIn K mainGlobals "range" = some none)
    (z7 : PySem.W.nsIn K mainGlobals "str" = some none)
    (z8 : PySem.W.nsIn K mainGlobals "tuple" = some none)
    : ∃ fd : FuncData, (∀ (s : Shared) (v : Value), BindsTo s fd ⟨[v], []⟩ [("script", v)]) ∧ ∀ base : Heap, K.In base → base.Ns mainGlobals mg → FnOk l.prog w K mg base CX0 13 fa fd ["script"] (spN K 1 m_law) := by
  have e := hfa.symm.trans (PySem.W.mg_of X G a22)
  cases e
  have F0 := fun_mk (st := s_is_kept) l0 c0 k0
  have D0 := defAt X G F0 (F0.binds (ps := ["layers", "edge"]) fun _ _ _ _ _ _ us hl => match us, hl with | [_, _], _ => rfl) a0
  have F1 := fun_mk (st := s_steps_to) l1 c1 k1
  have D1 := defAt X G F1 (F1.binds (ps := ["edges", "goal"]) fun _ _ _ _ _ _ us hl => match us, hl with | [_, _], _ => rfl) a1
  have F2 := fun_mk (st := s_way_along) l2 c2 k2
  have D2 := defAt X G F2 (F2.binds (ps := ["edges", "start", "steps"]) fun _ _ _ _ _ _ us hl => match us, hl with | [_, _, _], _ => rfl) a2
  have F3 := fun_mk (st := s_first_circle) l3 c3 k3
  have D3 := defAt X G F3 (F3.binds (ps := ["edges"]) fun _ _ _ _ _ _ us hl => match us, hl with | [_], _ => rfl) a3
  have F4 := fun_mk (st := s_least_layers) l4 c4 k4
  have D4 := defAt X G F4 (F4.binds (ps := ["names", "edges"]) fun _ _ _ _ _ _ us hl => match us, hl with | [_, _], _ => rfl) a4
  have F5 := fun_mk (st := s_layers_of) l5 c5 k5
  have D5 := defAt X G F5 (F5.binds (ps := ["names", "edges"]) fun _ _ _ _ _ _ us hl => match us, hl with | [_, _], _ => rfl) a5
  have F6 := fun_mk (st := s_is_layer_pair) l6 c6 k6
  have D6 := defAt X G F6 (F6.binds (ps := ["value", "name"]) fun _ _ _ _ _ _ us hl => match us, hl with | [_, _], _ => rfl) a6
  have F7 := fun_mk (st := s_is_layers) l7 c7 k7
  have D7 := defAt X G F7 (F7.binds (ps := ["names", "edges", "layers"]) fun _ _ _ _ _ _ us hl => match us, hl with | [_, _, _], _ => rfl) a7
  have F8 := fun_mk (st := s_is_one_of) l8 c8 k8
  have D8 := defAt X G F8 (F8.binds (ps := ["edges", "value"]) fun _ _ _ _ _ _ us hl => match us, hl with | [_, _], _ => rfl) a8
  have F9 := fun_mk (st := s_is_circle) l9 c9 k9
  have D9 := defAt X G F9 (F9.binds (ps := ["edges", "circle"]) fun _ _ _ _ _ _ us hl => match us, hl with | [_, _], _ => rfl) a9
  have F10 := fun_mk (st := s__law_jar) l10 c10 k10
  have D10 := defAt X G F10 (F10.binds (ps := ["script"]) fun _ _ _ _ _ _ us hl => match us, hl with | [_], _ => rfl) a10
  have F11 := fun_mk (st := s__law_take) l11 c11 k11
  have D11 := defAt X G F11 (F11.binds (ps := ["jar", "many"]) fun _ _ _ _ _ _ us hl => match us, hl with | [_, _], _ => rfl) a11
  have F12 := fun_mk (st := s__law_name) l12 c12 k12
  have D12 := defAt X G F12 (F12.binds (ps := ["jar", "taken"]) fun _ _ _ _ _ _ us hl => match us, hl with | [_, _], _ => rfl) a12
  have F13 := fun_mk (st := s__law_same) l13 c13 k13
  have D13 := defAt X G F13 (F13.binds (ps := ["one", "two"]) fun _ _ _ _ _ _ us hl => match us, hl with | [_, _], _ => rfl) a13
  have F14 := fun_mk (st := s__law_steps) l14 c14 k14
  have D14 := defAt X G F14 (F14.binds (ps := ["edges", "goal"]) fun _ _ _ _ _ _ us hl => match us, hl with | [_, _], _ => rfl) a14
  have F15 := fun_mk (st := s__law_circle) l15 c15 k15
  have D15 := defAt X G F15 (F15.binds (ps := ["edges"]) fun _ _ _ _ _ _ us hl => match us, hl with | [_], _ => rfl) a15
  have F16 := fun_mk (st := s__law_layers) l16 c16 k16
  have D16 := defAt X G F16 (F16.binds (ps := ["names", "edges"]) fun _ _ _ _ _ _ us hl => match us, hl with | [_, _], _ => rfl) a16
  have F17 := fun_mk (st := s__law_keeps) l17 c17 k17
  have D17 := defAt X G F17 (F17.binds (ps := ["layers", "edges"]) fun _ _ _ _ _ _ us hl => match us, hl with | [_, _], _ => rfl) a17
  have F18 := fun_mk (st := s__law_edges) l18 c18 k18
  have D18 := defAt X G F18 (F18.binds (ps := ["jar", "names", "many"]) fun _ _ _ _ _ _ us hl => match us, hl with | [_, _, _], _ => rfl) a18
  have F19 := fun_mk (st := s__law_judges_layers) l19 c19 k19
  have D19 := defAt X G F19 (F19.binds (ps := ["jar", "names", "edges", "layers"]) fun _ _ _ _ _ _ us hl => match us, hl with | [_, _, _, _], _ => rfl) a19
  have F20 := fun_mk (st := s__law_is_circle) l20 c20 k20
  have D20 := defAt X G F20 (F20.binds (ps := ["edges", "circle"]) fun _ _ _ _ _ _ us hl => match us, hl with | [_, _], _ => rfl) a20
  have F21 := fun_mk (st := s__law_judges_circle) l21 c21 k21
  have D21 := defAt X G F21 (F21.binds (ps := ["jar", "names", "edges", "circle"]) fun _ _ _ _ _ _ us hl => match us, hl with | [_, _, _, _], _ => rfl) a21
  have F22 := fun_mk (st := s_law) l22 c22 k22
  have D22 := defAt X G F22 (F22.binds (ps := ["script"]) fun _ _ _ _ _ _ us hl => match us, hl with | [_], _ => rfl) a22
  have T : Tops K mg := ⟨⟨_, _, D0⟩, ⟨_, _, D1⟩, ⟨_, _, D2⟩, ⟨_, _, D3⟩, ⟨_, _, D4⟩, ⟨_, _, D5⟩, ⟨_, _, D6⟩, ⟨_, _, D7⟩, ⟨_, _, D8⟩, ⟨_, _, D9⟩, ⟨_, _, D10⟩, ⟨_, _, D11⟩, ⟨_, _, D12⟩, ⟨_, _, D13⟩, ⟨_, _, D14⟩, ⟨_, _, D15⟩, ⟨_, _, D16⟩, ⟨_, _, D17⟩, ⟨_, _, D18⟩, ⟨_, _, D19⟩, ⟨_, _, D20⟩, ⟨_, _, D21⟩, ⟨_, _, D22⟩, conOf X G e0 kInt, PySem.W.mg_none_of X G z0, PySem.W.mg_none_of X G z1, PySem.W.mg_none_of X G z2, PySem.W.mg_none_of X G z3, PySem.W.mg_none_of X G z4, PySem.W.mg_none_of X G z5, PySem.W.mg_none_of X G z6, PySem.W.mg_none_of X G z7, PySem.W.mg_none_of X G z8⟩
  refine ⟨PySem.W.fnOf "law" "law" (defArgs s_law) (defBody s_law) (defScope s_law) .none kV22 dc22 pm22 an22 cd22 ct22, fun s v => .of_eq rfl, fun base _ _ => ?_⟩
  have o_is_kept : Okd l.prog w K mg base CX0 1 "is_kept" (spI K 2 m_is_kept) := ok_is_kept T
  have o_steps_to : Okd l.prog w K mg base CX0 1 "steps_to" (spN K 2 m_steps_to) := ok_steps_to T
  have o_way_along : Okd l.prog w K mg base CX0 1 "way_along" (spN K 3 m_way_along) := ok_way_along T
  have o_first_circle : Okd l.prog w K mg base CX0 2 "first_circle" (spN K 1 m_first_circle) := ok_first_circle T o_steps_to o_way_along
  have o_least_layers : Okd l.prog w K mg base CX0 1 "least_layers" (spN K 2 m_least_layers) := ok_least_layers T
  have o_layers_of : Okd l.prog w K mg base CX0 3 "layers_of" (spN K 2 m_layers_of) := ok_layers_of T o_first_circle o_least_layers
  have o_is_layer_pair : Okd l.prog w K mg base CX0 1 "is_layer_pair" (spN K 2 m_is_layer_pair) := ok_is_layer_pair T
  have o_is_layers : Okd l.prog w K mg base CX0 2 "is_layers" (spN K 3 m_is_layers) := ok_is_layers T o_is_kept o_is_layer_pair
  have o_is_one_of : Okd l.prog w K mg base CX0 1 "is_one_of" (spN K 2 m_is_one_of) := ok_is_one_of T
  have o_is_circle : Okd l.prog w K mg base CX0 2 "is_circle" (spN K 2 m_is_circle) := ok_is_circle T o_is_one_of
  have o__law_jar : Okd l.prog w K mg base CX0 1 "_law_jar" (spN K 1 m__law_jar) := ok__law_jar T
  have o__law_take : Okd l.prog w K mg base CX0 1 "_law_take" (spI K 2 m__law_take) := ok__law_take T
  have o__law_name : Okd l.prog w K mg base CX0 2 "_law_name" (spI K 2 m__law_name) := ok__law_name T o__law_take
  have o__law_same : Okd l.prog w K mg base CX0 11 "_law_same" (spN K 2 (m__law_same 10)) := ok__law_same T 10
  have o__law_steps : Okd l.prog w K mg base CX0 1 "_law_steps" (spN K 2 m__law_steps) := ok__law_steps T
  have o__law_circle : Okd l.prog w K mg base CX0 2 "_law_circle" (spN K 1 m__law_circle) := ok__law_circle T o__law_steps
  have o__law_layers : Okd l.prog w K mg base CX0 1 "_law_layers" (spN K 2 m__law_layers) := ok__law_layers T
  have o__law_keeps : Okd l.prog w K mg base CX0 1 "_law_keeps" (spN K 2 m__law_keeps) := ok__law_keeps T
  have o__law_edges : Okd l.prog w K mg base CX0 2 "_law_edges" (spI K 3 m__law_edges) := ok__law_edges T o__law_take
  have o__law_judges_layers : Okd l.prog w K mg base CX0 12 "_law_judges_layers" (spI K 4 m__law_judges_layers) := ok__law_judges_layers T o__law_keeps o__law_same o__law_take o_is_layers
  have o__law_is_circle : Okd l.prog w K mg base CX0 1 "_law_is_circle" (spN K 2 m__law_is_circle) := ok__law_is_circle T
  have o__law_judges_circle : Okd l.prog w K mg base CX0 12 "_law_judges_circle" (spI K 4 m__law_judges_circle) := ok__law_judges_circle T o__law_is_circle o__law_same o__law_take o_is_circle
  exact ok_law T D22 o__law_circle o__law_edges o__law_jar o__law_judges_circle o__law_judges_layers o__law_layers o__law_name o__law_same o__law_take o_is_circle o_is_layers o_layers_of

end LK43

namespace LK43
open PySem PySem.Spec L2 Mir
theorem id_w0 {α : Type} {o : Option α} {Q : α → Prop} (h : w0 o Q) : w0 o Q := h
theorem id_w1 {α : Type} {o : Rs α} {Q : α → Prop} (h : w1 o Q) : w1 o Q := h
theorem id_w2 {α : Type} {o : Re α} {Q : α → E → Prop} (h : w2 o Q) : w2 o Q := h
theorem id_wS {s : SR} {N B C : E → Prop} {R : D → E → Prop} (h : wS s N R B C) : wS s N R B C := h
theorem id_and {p q : Prop} (h : p ∧ q) : p ∧ q := h
theorem id_ex {α : Type} {p : α → Prop} (h : ∃ a, p a) : ∃ a, p a := h
local macro_rules | `(tactic| walk_at "m1") => `(tactic| first
  | with_reducible apply w1_bin | ((with_reducible apply w1_var); exact rfl) | with_reducible apply w1_C
  | with_reducible apply w1_cons | with_reducible apply w1_nil | with_reducible apply w1_cal | with_reducible apply w1_un | with_reducible apply w1_call
  | with_reducible apply w1_ch | with_reducible apply w1_and | with_reducible apply w1_or | with_reducible apply w1_not | with_reducible apply w1_tup | with_reducible apply w1_lst | with_reducible apply w1_cut | with_reducible apply w1_cp0 | with_reducible apply w1_cp)
local macro_rules | `(tactic| walk_at "m2") => `(tactic| first
  | with_reducible apply w2_ofN | with_reducible apply w2_tst | with_reducible apply w2_own | with_reducible apply w2_cons | with_reducible apply w2_nil
  | ((with_reducible apply w2_io); exact rfl) | ((with_reducible apply w2_mut); exact rfl) | ((with_reducible apply w2_mv); exact rfl) | with_reducible apply w2_bin | ((with_reducible apply w2_binV); exact rfl) | with_reducible apply w2_un
  | with_reducible apply w2_tup | with_reducible apply w2_lst | with_reducible apply w2_cal | with_reducible apply w2_call | with_reducible apply w2_frz | with_reducible apply w2_cut
  | with_reducible apply w2_and | with_reducible apply w2_or | with_reducible apply w2_not | with_reducible apply w2_tY
  | with_reducible apply w2_wV | with_reducible apply w2_wR1 | with_reducible apply w2_wR2)
local macro_rules | `(tactic| walk_at "mS") => `(tactic| first
  | with_reducible apply wS_seq | with_reducible apply wS_set | with_reducible apply wS_if | with_reducible apply wS_ret
  | with_reducible apply wS_nil | with_reducible apply wS_expr | with_reducible apply wS_retN | with_reducible apply wS_brk | with_reducible apply wS_cnt
  | ((with_reducible apply wS_aug); (focus (exact rfl)); (focus (exact rfl))) | with_reducible apply wS_asg | with_reducible apply wS_par | with_reducible apply wS_setIx | with_reducible apply wS_for)
local macro_rules | `(tactic| walk_at "m0") => `(tactic| first
  | ((with_reducible refine w0_mulI ?_ ?_); focus (first | exact .inr (big64_of (by omega)) | exact .inl (big64_of (by omega))))
  | ((with_reducible refine w0_modI ?_ ?_); focus (first | omega | assumption))
  | ((with_reducible refine w0_divI ?_ ?_); focus (first | omega | assumption))
  | ((with_reducible refine w0_powI ?_ ?_); focus decide)
  | ((with_reducible refine w0_addS ?_ ?_); focus (first | omega | (simp; omega) | (simp; done)))
  | ((with_reducible refine w0_lenS ?_ ?_); focus (first | omega | (simp; omega) | (simp; done)))
  | ((with_reducible refine w0_isTup ?_ ?_); focus (exact rfl)) | ((with_reducible refine w0_isBl ?_ ?_); focus (exact rfl)) | ((with_reducible refine w0_isStr ?_ ?_); focus (exact rfl)) | ((with_reducible refine w0_isInt ?_ ?_); focus (exact rfl)) | ((with_reducible refine w0_isLstD ?_ ?_); focus (exact rfl))
  | ((with_reducible refine w0_strI ?_ ?_); focus omega)
  | ((with_reducible refine w0_eqD ?_ ?_ ?_); (focus (first | assumption | exact rfl)); (focus (first | assumption | exact rfl)))
  | ((with_reducible refine w0_neD ?_ ?_ ?_); (focus (first | assumption | exact rfl)); (focus (first | assumption | exact rfl)))
  | with_reducible apply w0_imm
  | ((fail_if_success with_reducible refine w0_mulI ?_ ?_); (fail_if_success with_reducible refine w0_divI ?_ ?_); (fail_if_success with_reducible refine w0_modI ?_ ?_); (fail_if_success with_reducible refine w0_strI ?_ ?_); (fail_if_success with_reducible refine w0_addS ?_ ?_); (fail_if_success with_reducible refine w0_lenS ?_ ?_); (with_reducible apply w0_of); focus (exact rfl)))
local macro_rules | `(tactic| walk_at "mA") => `(tactic| first
  | ((with_reducible refine And.intro (fun hc => ?_) (fun hc => ?_)) <;> (first | ((with_reducible replace hc := of_decide_eq_true hc); first | omega | (simp at hc; done) | skip) | ((with_reducible replace hc := of_decide_eq_false hc); first | omega | (simp at hc; done) | skip) | exact absurd (show false = true from hc) (by decide) | exact absurd (show true = false from hc) (by decide) | (simp at hc; done) | skip))
  | ((with_reducible apply And.intro); focus (first | with_reducible assumption | ((with_reducible refine small62_of ?_); omega) | ((with_reducible refine fits_of ?_); omega) | exact rfl | (simp [imm, imms, imms_ints, *]; done))))
local macro_rules | `(tactic| walk_at "mE") => `(tactic| first
  | ((with_reducible apply Exists.intro); (with_reducible apply And.intro); focus (exact rfl))
  | ((with_reducible apply Exists.intro); (with_reducible apply Exists.intro); (with_reducible apply And.intro); focus (exact rfl)))
local macro_rules | `(tactic| walk_at "m") => `(tactic| first
  | ((with_reducible refine id_w1 ?_); walk_at "m1") | ((with_reducible refine id_w0 ?_); walk_at "m0") | ((with_reducible refine id_ex ?_); walk_at "mE") | ((with_reducible refine id_w2 ?_); walk_at "m2") | ((with_reducible refine id_and ?_); walk_at "mA") | ((with_reducible refine id_wS ?_); walk_at "mS"))
local macro_rules | `(tactic| walk_at "m1") => `(tactic| first
  | with_reducible apply w1_sm | with_reducible apply w1_disp)
local macro_rules | `(tactic| walk_at "m0") => `(tactic| first
  | ((with_reducible refine w0_augS ?_ ?_); focus (first | omega | (simp; omega) | (simp; done)))
  | ((with_reducible refine w0_cutS ?_ ?_); focus (first | omega | (simp; omega) | assumption))
  | ((with_reducible refine w0_starts ?_ ?_); focus (first | assumption | (simp; done))))
local macro_rules | `(tactic| walk_at "m1") => `(tactic| first
  | with_reducible apply w1_newD | with_reducible apply w1_disp1 | with_reducible apply w1_getB)
local macro_rules | `(tactic| walk_at "m2") => `(tactic| with_reducible apply w2_frzD)
local macro_rules | `(tactic| walk_at "mS") => `(tactic| with_reducible apply wS_dsetS)
local macro_rules | `(tactic| walk_at "m0") => `(tactic| first
  | with_reducible apply w0_dIn | with_reducible apply w0_rIn | with_reducible apply w0_dNotIn | with_reducible apply w0_rNotIn | with_reducible apply w0_dGetOr | with_reducible apply w0_rGetOr
  | (with_reducible refine w0_dGet (by with_reducible assumption) ?_) | (with_reducible refine w0_rGet (by with_reducible assumption) ?_)
  | ((with_reducible refine w0_gT2 ?_ ?_); focus (first | exact rfl | assumption | (simp [imm, imms, imms_ints, *]; done))) | ((with_reducible refine w0_gT3 ?_ ?_); focus (first | exact rfl | assumption | (simp [imm, imms, imms_ints, *]; done)))
  | ((with_reducible refine w0_gT4 ?_ ?_); focus (first | exact rfl | assumption | (simp [imm, imms, imms_ints, *]; done))) | ((with_reducible refine w0_gT5 ?_ ?_); focus (first | exact rfl | assumption | (simp [imm, imms, imms_ints, *]; done))))
def Jar (d : D) : Prop := ∃ (rows : List Int) (at_ : Int), 0 ≤ at_ ∧ (∀ r ∈ rows, 0 ≤ r ∧ r < 1000000) ∧ rows.length ≤ 1000000 ∧ d = .lst [.rol (rows.map .int), .int at_]
/-- an int of 0 .. many - 1 was drawn -/
def Drawn (many : Int) (d : D) (os : List D) : Prop := ∃ r jar', d = .int r ∧ (0 ≤ r ∧ r < many) ∧ Jar jar' ∧ os = [jar', .int many]
theorem take_ok {jar : D} {many : Int} (h : Jar jar) (hm : 0 < many) : wD (m__law_take [jar, .int many]) (Drawn many) := by
  obtain ⟨rows, at_, h0, h1, h2, rfl⟩ := h
  have hl : (rows.map D.int).length = rows.length := List.length_map _
  apply wD_def
  unfold b__law_take
  repeat' walk_at "m"
  · refine w0_ixR h0 (by omega) fun d hd => ?_
    obtain ⟨r, hr, rfl⟩ := get_ints hd
    repeat' walk_at "m"
    exact ⟨_, _, rfl, ⟨Int.emod_nonneg _ (by omega), Int.emod_lt_of_pos _ hm⟩, ⟨rows, at_ + 1, by omega, h1, h2, rfl⟩, rfl⟩
  · have e : ∀ n : Int, at_ - at_ / n * n = at_ % n := fun n => by rw [Int.emod_def, Int.mul_comm]
    refine w0_ixR (by rw [e]; exact Int.emod_nonneg _ (by omega)) (by rw [e]; exact Int.emod_lt_of_pos _ (by omega)) fun d hd => ?_
    obtain ⟨r, hr, rfl⟩ := get_ints hd
    have := h1 r hr
    repeat' walk_at "m"
    exact ⟨_, _, rfl, ⟨Int.emod_nonneg _ (by omega), Int.emod_lt_of_pos _ hm⟩, ⟨rows, at_ + 1, by omega, h1, h2, rfl⟩, rfl⟩
  · exact ⟨_, _, rfl, ⟨Int.emod_nonneg _ (by omega), Int.emod_lt_of_pos _ hm⟩, ⟨rows, at_ + 1, by omega, h1, h2, rfl⟩, rfl⟩
def JarI (s : D) (n : Nat) (e : E) : Prop := ∃ (rows : List Int) (x2 x3 x4 x5 : Option D), (∀ r ∈ rows, 0 ≤ r ∧ r < 1000000) ∧ rows.length ≤ n ∧ e = [some s, some (.lst (rows.map .int)), x2, x3, x4, x5]
def JarJ (s : D) (n : Nat) (e : E) : Prop := ∃ (rows : List Int) (c : Int) (x2 x4 x5 : Option D), 0 ≤ c ∧ (∀ r ∈ rows, 0 ≤ r ∧ r < 1000000) ∧ rows.length ≤ n ∧ e = [some s, some (.lst (rows.map .int)), x2, some (.int c), x4, x5]
theorem w0_app {ns : List Int} {i : Int} {Q : D × D → Prop} (h : ns.length ≤ 1000000) (q : Q (.non, .lst ((ns ++ [i]).map D.int))) : w0 (fAppend (.lst (ns.map D.int)) [.int i]) Q := by
  refine w0_of (show (if (ns.map D.int).length < sizeLine then some (D.non, D.lst (ns.map D.int ++ [.int i])) else none) = _ from ?_) q
  rw [if_pos (by rw [List.length_map]; have : sizeLine = 16777216 := rfl; omega)]
  simp
theorem rows_app {rows : List Int} {i : Int} (h : ∀ r ∈ rows, 0 ≤ r ∧ r < 1000000) (hi : 0 ≤ i ∧ i < 1000000) : ∀ r ∈ rows ++ [i], 0 ≤ r ∧ r < 1000000 := fun r m => by
  rcases List.mem_append.mp m with m | m
  · exact h r m
  · rw [List.mem_singleton.mp m]; exact hi
theorem emod_in {i j : Int} (h : 0 < j) (h1 : j ≤ 1000000) : 0 ≤ i % j ∧ i % j < 1000000 := ⟨Int.emod_nonneg _ (by omega), Int.lt_of_lt_of_le (Int.emod_lt_of_pos _ h) h1⟩
theorem jar_ok (ns : List Int) (h : ns.length ≤ 63) : w1 (m__law_jar [.rol (ns.map .int)]) Jar := by
  have hl : (ns.map D.int).length = ns.length := List.length_map _
  apply w1_def (by simp [imms, imm, imms_ints])
  unfold b__law_jar
  repeat' walk_at "m"
  · refine wS_loop0 (fun k e => JarI (.rol (ns.map .int)) (40 * k) e) _ ⟨[], _, _, _, _, by simp, by simp, rfl⟩ (fun i d e hd hI => ?_) (fun e hI => ?_)
    · obtain ⟨hi, rfl⟩ := range_at hd
      obtain ⟨rows, x2, x3, x4, x5, h1, h2, rfl⟩ := hI
      have hn : i < ns.length ∧ i < 63 := by split at hi <;> omega
      repeat' walk_at "m"
      refine w0_ixR (by omega) (by omega) fun d hd => ?_
      obtain ⟨c, hc, rfl⟩ := get_ints hd
      have big : ∀ (c : Int) (x2 x4 x5 : Option D), 0 ≤ c → wS (mLoop (gN 4) (mIf (tst (ofN (bin fGt (bVar 3) (bC (.int 0)))))
  (mSeq (mExpr (eMut 1 fAppend (acons (ofN (bin fMod (cal fInt (aCons (bVar 3) aNil)) (bC (.int 1009)))) anil)))
  (mSet 3 (ofN (bin fDiv (bVar 3) (bC (.int 1009))))))
  mNil) (rangeD 0 (Int.toNat 40)) [some (.rol (ns.map .int)), some (.lst (rows.map .int)), x2, some (.int c), x4, x5]) (fun e => JarI (.rol (ns.map .int)) (40 * (i + 1)) e) (fun _ _ => False) (fun _ => False) (fun _ => False) := fun c x2 x4 x5 hc => by
        refine wS_loop0 (fun k e => JarJ (.rol (ns.map .int)) (40 * i + k) e) _ ⟨rows, c, _, _, _, hc, h1, h2, rfl⟩ (fun j d e hd hI => ?_) (fun e hI => ?_)
        · obtain ⟨hj, rfl⟩ := range_at hd
          obtain ⟨rows, c, x2, x4, x5, hc, h1, h2, rfl⟩ := hI
          have hj' : j < 40 := hj
          repeat' walk_at "m"
          · refine w0_app (by omega) ?_
            repeat' walk_at "m"
            exact ⟨rows ++ [_], _, _, _, _, by omega, rows_app h1 (emod_in (by decide) (by decide)), by simp; omega, rfl⟩
          · exact ⟨rows, c, _, _, _, hc, h1, by omega, rfl⟩
        · obtain ⟨rows, c, x2, x4, x5, hc, h1, h2, rfl⟩ := hI
          exact ⟨rows, _, _, _, _, h1, by simp [range_len] at h2; omega, rfl⟩
      repeat' walk_at "m"
      · exact wS_mono (big _ _ _ _ (by omega)) (fun _ h => h) (fun _ _ h => h.elim) (fun _ h => h.elim) (fun _ h => h.elim)
      · refine w0_app (by omega) ?_
        repeat' walk_at "m"
        refine w0_app (by simp; omega) ?_
        repeat' walk_at "m"
        exact ⟨_, _, _, _, _, rows_app (rows_app h1 (emod_in (by decide) (by decide))) (emod_in (by decide) (by decide)), by simp; omega, rfl⟩
      · exact wS_mono (big _ _ _ _ (by omega)) (fun _ h => h) (fun _ _ h => h.elim) (fun _ h => h.elim) (fun _ h => h.elim)
      · refine w0_app (by omega) ?_
        repeat' walk_at "m"
        refine w0_app (by simp; omega) ?_
        repeat' walk_at "m"
        exact ⟨_, _, _, _, _, rows_app (rows_app h1 (emod_in (by decide) (by decide))) (emod_in (by decide) (by decide)), by simp; omega, rfl⟩
    · obtain ⟨rows, x2, x3, x4, x5, h1, h2, rfl⟩ := hI
      have hn : rows.length ≤ 1000000 := by
        simp only [range_len] at h2
        split at h2 <;> omega
      repeat' walk_at "m"
      exact ⟨rows, 0, by omega, h1, hn, rfl⟩
theorem draw_k {jar : D} {many : Int} {Q : D → List D → Prop} (h : Jar jar) (hm : 0 < many) (q : ∀ r jar', 0 ≤ r → r < many → Jar jar' → Q (.int r) [jar', .int many]) : wD (m__law_take [jar, .int many]) Q :=
  wD_mono (take_ok h hm) fun _ _ ⟨r, jar', e1, hr, hj, e2⟩ => by subst e1 e2; exact q r jar' hr.1 hr.2 hj
local macro_rules | `(tactic| walk_at "t") => `(tactic| ((with_reducible refine draw_k ?_ ?_ ?_); (focus assumption); (focus (first | omega | (simp; omega) | decide)); intro r jar' hr0 hr1 hj; refine Exists.intro _ (Exists.intro _ (And.intro rfl ?_))))
def Says (p : Prop) (d : D) : Prop := ∃ b, d = .bl b ∧ (b = true ↔ p)
theorem same_leaf (r : MD) (m n : Nat) (a e : D) (ha : pt m a = true) (he : pt n e = true) (hn : ∀ as es, a = .tup as → e = .tup es → False) : w1 (mDef0 1 (b__law_same r) [a, e]) (Says (a = e)) := by
  apply w1_def (by simp [imms, pt_imm ha, pt_imm he])
  unfold b__law_same
  cases e <;> (try simp at he) <;> cases a <;> (try simp at ha) <;> (try exact (hn _ _ rfl rfl).elim)
  all_goals (repeat' walk_at "m")
  all_goals exact ⟨_, rfl, by simp [Mir.isNon]⟩
theorem ite_eq_self {α : Type} {as es : List α} (h : as.length = es.length) : ∀ {k : Nat}, k = es.length → as.take k = es.take k → as = es := fun {k} e q => by
  subst e
  rw [List.take_of_length_le (Nat.le_of_eq h), List.take_of_length_le (Nat.le_refl _)] at q
  exact q
theorem same_tup (r : MD) (m n : Nat) (as es : List D) (ha : pt (m + 1) (.tup as) = true) (he : pt (n + 1) (.tup es) = true) (ih : ∀ a e, pt m a = true → pt n e = true → w1 (r [a, e]) (Says (a = e))) : w1 (mDef0 1 (b__law_same r) [.tup as, .tup es]) (Says (D.tup as = D.tup es)) := by
  obtain ⟨la, ha'⟩ := pt_tup_iff.mp ha
  obtain ⟨le, he'⟩ := pt_tup_iff.mp he
  apply w1_def (by rw [imms, imms, pt_imm ha, pt_imm he]; rfl)
  unfold b__law_same
  repeat' walk_at "m"
  · rename_i hc
    simp at hc
    exact ⟨_, rfl, by simp; intro z; rw [z] at hc; omega⟩
  · rename_i hc
    have hc' : as.length = es.length := by simp at hc; omega
    refine wS_loop0 (fun k e => Hold (∃ x, as.take k = es.take k ∧ e = [some (.tup as), some (.tup es), x])) _ ⟨_, by simp, rfl⟩ (fun i d e hd hI => ?_) (fun e hI => ?_)
    · obtain ⟨hi, rfl⟩ := range_at hd
      obtain ⟨x, hk, rfl⟩ := hI
      have hi' : i < es.length := by omega
      repeat' walk_at "m"
      refine w0_ixT (by omega) (by omega) fun x hx => ?_
      repeat' walk_at "m"
      refine w0_ixT (by omega) (by omega) fun y hy => ?_
      repeat' walk_at "m"
      refine And.intro (by rw [imms, imms, pt_imm (ha' x (mem_get hx)), pt_imm (he' y (mem_get hy))]; rfl) ?_
      refine w1_mono (ih x y (ha' x (mem_get hx)) (he' y (mem_get hy))) fun d hd => ?_
      obtain ⟨b, rfl, hb⟩ := hd
      have e0 : (0 + (i : Int)).toNat = i := by omega
      rw [e0] at hx hy
      repeat' walk_at "m"
      · rename_i hc2
        refine ⟨_, rfl, ⟨fun z => by simp at z, fun z => ?_⟩⟩
        injection z with z
        rw [z] at hx
        rw [hx] at hy
        have : b = true := hb.mpr (Option.some.inj hy)
        rw [this] at hc2
        cases hc2
      · rename_i hc2
        refine ⟨_, ?_, rfl⟩
        have hb' : b = true := by cases b <;> simp_all
        rw [List.take_add_one, List.take_add_one, hk, hx, hy, hb.mp hb']
    · obtain ⟨x, hk, rfl⟩ := hI
      repeat' walk_at "m"
      refine ⟨_, rfl, ⟨fun _ => ?_, fun _ => rfl⟩⟩
      rw [ite_eq_self hc' (by simp [range_len]) hk]
theorem same_ok : ∀ (n m : Nat) (a e : D), pt m a = true → pt n e = true → w1 (m__law_same (n + 1) [a, e]) (Says (a = e)) := by
  intro n
  induction n with
  | zero => exact fun m a e ha he => same_leaf _ m 0 a e ha he fun as es _ z => by subst z; simp at he
  | succ n ih =>
    intro m a e ha he
    by_cases hn : ∃ as es, a = .tup as ∧ e = .tup es
    · obtain ⟨as, es, rfl, rfl⟩ := hn
      cases m with
      | zero => simp at ha
      | succ m => exact same_tup _ m n as es ha he fun a e ha he => ih m a e ha he
    · exact same_leaf _ m (n + 1) a e ha he fun as es h1 h2 => hn ⟨as, es, h1, h2⟩

/-! ### the plain law: names, edges, ways -/
abbrev Nm := List Nat
abbrev Ed := Nm × Nm × Bool
theorem nodup_le {α : Type} [DecidableEq α] : ∀ {xs ys : List α}, xs.Nodup → (∀ x ∈ xs, x ∈ ys) → xs.length ≤ ys.length
  | [], _, _, _ => by simp
  | x :: xs, ys, nd, h => by
    obtain ⟨n1, n2⟩ := List.nodup_cons.mp nd
    have hx := h x List.mem_cons_self
    have := nodup_le (ys := ys.erase x) n2 (fun z hz => (List.mem_erase_of_ne (fun e => n1 (by rw [← e]; exact hz))).mpr (h z (List.mem_cons_of_mem _ hz)))
    rw [List.length_erase_of_mem hx] at this
    have : 0 < ys.length := List.length_pos_of_mem hx
    simp; omega
theorem foldl_take {α β : Type} {l : List α} {f : β → α → β} {a : β} {i : Nat} {x : α} (h : l[i]? = some x) : (l.take (i + 1)).foldl f a = f ((l.take i).foldl f a) x := by
  rw [List.take_add_one, h, List.foldl_append]; rfl
def ks (S : List (Nm × Nat)) : List Nm := S.map (·.1)
def gt (S : List (Nm × Nat)) (u : Nm) : Option Nat := (S.find? fun p => decide (p.1 = u)).map (·.2)
theorem gt_some {S : List (Nm × Nat)} {u : Nm} : (gt S u).isSome = true ↔ u ∈ ks S := by
  unfold gt ks
  rw [Option.isSome_map, List.find?_isSome]
  simp
theorem gt_none {S : List (Nm × Nat)} {u : Nm} (h : u ∉ ks S) : gt S u = none := by
  cases q : gt S u with
  | none => rfl
  | some c => exact (h (gt_some.mp (by rw [q]; rfl))).elim
theorem gt_in {S : List (Nm × Nat)} {u : Nm} {c : Nat} (h : gt S u = some c) : u ∈ ks S := gt_some.mp (by rw [h]; rfl)
theorem gt_app (S T : List (Nm × Nat)) (u : Nm) : gt (S ++ T) u = (gt S u).or (gt T u) := by
  unfold gt
  rw [List.find?_append]
  cases S.find? fun p => decide (p.1 = u) <;> rfl
theorem gt_map (a : List Nm) (c : Nat) (u : Nm) : gt (a.map fun x => (x, c)) u = if u ∈ a then some c else none := by
  induction a with
  | nil => rfl
  | cons x a ih =>
    unfold gt at ih ⊢
    rw [List.map_cons, List.find?_cons]
    by_cases h : x = u
    · subst h; simp
    · rw [decide_eq_false h]
      simp only [ih, List.mem_cons]
      by_cases h2 : u ∈ a
      · simp [h2]
      · rw [if_neg h2, if_neg (by rintro (z | z); exact h z.symm; exact h2 z)]
theorem ks_app (S : List (Nm × Nat)) (a : List Nm) (c : Nat) : ks (S ++ a.map fun x => (x, c)) = ks S ++ a := by
  unfold ks
  rw [List.map_append, List.map_map]
  congr 1
  exact List.map_id a
/-! one round -/
def rstep (K near acc : List Nm) (e : Ed) : List Nm := if e.2.1 ∈ near ∧ e.1 ∉ K ∧ e.1 ∉ acc then acc ++ [e.1] else acc
def rnd (es : List Ed) (K near : List Nm) : List Nm := es.foldl (rstep K near) []
theorem rstep_in {K near acc : List Nm} {e : Ed} {u : Nm} (h : u ∈ rstep K near acc e) : u ∈ acc ∨ (u = e.1 ∧ e.2.1 ∈ near ∧ u ∉ K) := by
  unfold rstep at h
  split at h
  · rename_i c
    rcases List.mem_append.mp h with h | h
    · exact .inl h
    · rw [List.mem_singleton] at h; exact .inr ⟨h, c.1, h ▸ c.2.1⟩
  · exact .inl h
theorem rstep_sub {K near acc : List Nm} {e : Ed} {u : Nm} (h : u ∈ acc) : u ∈ rstep K near acc e := by
  unfold rstep
  split
  · exact List.mem_append_left _ h
  · exact h
theorem rstep_nd {K near acc : List Nm} {e : Ed} (h : acc.Nodup) : (rstep K near acc e).Nodup := by
  unfold rstep
  split
  · rename_i c
    exact List.nodup_append.mpr ⟨h, by simp, fun a m b m' z => by rw [List.mem_singleton.mp m'] at z; subst z; exact c.2.2 m⟩
  · exact h
theorem fold_in {K near : List Nm} {u : Nm} : ∀ (es : List Ed) {acc : List Nm}, u ∈ es.foldl (rstep K near) acc → u ∈ acc ∨ (u ∉ K ∧ ∃ e ∈ es, e.1 = u ∧ e.2.1 ∈ near)
  | [], _, h => .inl h
  | e :: es, acc, h => by
    rcases fold_in es h with h | ⟨h1, e', h2, h3⟩
    · rcases rstep_in h with h | ⟨h1, h2, h3⟩
      · exact .inl h
      · exact .inr ⟨h3, e, List.mem_cons_self, h1.symm, h2⟩
    · exact .inr ⟨h1, e', List.mem_cons_of_mem _ h2, h3⟩
theorem fold_sub {K near : List Nm} {u : Nm} : ∀ (es : List Ed) {acc : List Nm}, u ∈ acc → u ∈ es.foldl (rstep K near) acc
  | [], _, h => h
  | _ :: es, _, h => fold_sub es (rstep_sub h)
theorem fold_nd {K near : List Nm} : ∀ (es : List Ed) {acc : List Nm}, acc.Nodup → (es.foldl (rstep K near) acc).Nodup
  | [], _, h => h
  | _ :: es, _, h => fold_nd es (rstep_nd h)
theorem fold_all {K near : List Nm} {e : Ed} : ∀ (es : List Ed) {acc : List Nm}, e ∈ es → e.2.1 ∈ near → e.1 ∉ K → e.1 ∈ es.foldl (rstep K near) acc
  | [], _, h, _, _ => by cases h
  | f :: es, acc, h, h1, h2 => by
    rcases List.mem_cons.mp h with z | z
    · subst z
      refine fold_sub es ?_
      unfold rstep
      by_cases c : e.1 ∈ acc
      · split
        · exact List.mem_append_left _ c
        · exact c
      · rw [if_pos ⟨h1, h2, c⟩]; exact List.mem_append_right _ List.mem_cons_self
    · exact fold_all es z h1 h2
theorem fold_same {K n1 n2 : List Nm} : ∀ (es : List Ed) {acc : List Nm}, (∀ e ∈ es, e.1 ∉ K → (e.2.1 ∈ n1 ↔ e.2.1 ∈ n2)) → es.foldl (rstep K n1) acc = es.foldl (rstep K n2) acc
  | [], _, _ => rfl
  | e :: es, acc, h => by
    have : rstep K n1 acc e = rstep K n2 acc e := by
      unfold rstep
      by_cases c : e.1 ∈ K
      · rw [if_neg (fun z => z.2.1 c), if_neg (fun z => z.2.1 c)]
      · by_cases d : e.2.1 ∈ n1
        · have d2 := (h e List.mem_cons_self c).mp d
          simp [d, d2]
        · have d2 : e.2.1 ∉ n2 := fun z => d ((h e List.mem_cons_self c).mpr z)
          simp [d, d2]
    rw [List.foldl_cons, List.foldl_cons, this]
    exact fold_same es fun f m => h f (List.mem_cons_of_mem _ m)
/-! the walk back from a goal -/
def nxt (es : List Ed) (S : List (Nm × Nat)) (near : List Nm) (k : Nat) : List (Nm × Nat) := S ++ (rnd es (ks S) near).map fun x => (x, k + 1)
structure Bfs (es : List Ed) (names : List Nm) (goal : Nm) (S : List (Nm × Nat)) (near : List Nm) (k : Nat) : Prop where
  nd : (ks S).Nodup
  sub : ∀ u ∈ ks S, u ∈ names
  cl : ∀ e ∈ es, e.2.1 ∈ ks S → e.2.1 ∈ near ∨ e.1 ∈ ks S
  gl : gt S goal = some 0
  par : ∀ u c, gt S u = some c → (c = 0 ∧ u = goal) ∨ ∃ e ∈ es, e.1 = u ∧ ∃ d, gt S e.2.1 = some d ∧ c = d + 1
  len : near ≠ [] → k + 1 ≤ (ks S).length
  nearv : ∀ u ∈ near, gt S u = some k
section
variable {es : List Ed} {names : List Nm} {goal : Nm} {S : List (Nm × Nat)} {near : List Nm} {k : Nat}
theorem Bfs.near_in (b : Bfs es names goal S near k) {u : Nm} (h : u ∈ near) : u ∈ ks S := gt_in (b.nearv u h)
theorem gt_nxt (u : Nm) : gt (nxt es S near k) u = (gt S u).or (if u ∈ rnd es (ks S) near then some (k + 1) else none) := by
  unfold nxt; rw [gt_app, gt_map]
theorem ks_nxt : ks (nxt es S near k) = ks S ++ rnd es (ks S) near := by unfold nxt; rw [ks_app]
theorem rnd_fresh {u : Nm} (h : u ∈ rnd es (ks S) near) : u ∉ ks S ∧ ∃ e ∈ es, e.1 = u ∧ e.2.1 ∈ near := by
  rcases fold_in es h with h | h
  · cases h
  · exact h
theorem Bfs.start (hg : goal ∈ names) : Bfs es names goal [(goal, 0)] [goal] 0 where
  nd := by simp [ks]
  sub := by intro u hu; simp [ks] at hu; rw [hu]; exact hg
  cl := by intro e _ h; exact .inl (by simpa [ks] using h)
  gl := by simp [gt]
  par := by
    intro u c h
    have hu := gt_in h
    simp [ks] at hu
    subst hu
    simp [gt] at h
    exact .inl ⟨h.symm, rfl⟩
  len := by intro _; simp [ks]
  nearv := by intro u hu; rw [List.mem_singleton.mp hu]; simp [gt]
theorem Bfs.next (b : Bfs es names goal S near k) (hn : near ≠ []) (hu : ∀ e ∈ es, e.1 ∈ names) : Bfs es names goal (nxt es S near k) (rnd es (ks S) near) (k + 1) where
  nd := by
    rw [ks_nxt]
    exact List.nodup_append.mpr ⟨b.nd, fold_nd es List.nodup_nil, fun x m y m' z => by subst z; exact (rnd_fresh m').1 m⟩
  sub := by
    intro u m
    rw [ks_nxt] at m
    rcases List.mem_append.mp m with m | m
    · exact b.sub u m
    · obtain ⟨_, e, h1, h2, _⟩ := rnd_fresh m
      rw [← h2]; exact hu e h1
  cl := by
    intro e he m
    rw [ks_nxt] at m ⊢
    rcases List.mem_append.mp m with m | m
    · right
      rcases b.cl e he m with z | z
      · by_cases c : e.1 ∈ ks S
        · exact List.mem_append_left _ c
        · exact List.mem_append_right _ (fold_all es he z c)
      · exact List.mem_append_left _ z
    · exact .inl m
  gl := by rw [gt_nxt, b.gl]; rfl
  par := by
    intro u c h
    rw [gt_nxt] at h
    cases q : gt S u with
    | some d =>
      rw [q] at h
      cases h
      rcases b.par u _ q with z | ⟨e, h1, h2, d, h3, h4⟩
      · exact .inl z
      · exact .inr ⟨e, h1, h2, d, by rw [gt_nxt, h3]; rfl, h4⟩
    | none =>
      rw [q] at h
      split at h
      · rename_i m
        cases h
        obtain ⟨_, e, h1, h2, h3⟩ := rnd_fresh m
        exact .inr ⟨e, h1, h2, k, by rw [gt_nxt, b.nearv _ h3]; rfl, rfl⟩
      · cases h
  len := by
    intro h
    have := b.len hn
    rw [ks_nxt, List.length_append]
    have : 0 < (rnd es (ks S) near).length := List.length_pos_iff.mpr h
    omega
  nearv := by
    intro u m
    rw [gt_nxt, gt_none (rnd_fresh m).1, if_pos m]; rfl
theorem Bfs.law (b : Bfs es names goal S near k) : rnd es (ks S) (ks S) = rnd es (ks S) near := by
  refine fold_same es fun e he hc => ⟨fun h => ?_, fun h => b.near_in h⟩
  rcases b.cl e he h with z | z
  · exact z
  · exact (hc z).elim
theorem nxt_nil (h : rnd es (ks S) near = []) : nxt es S near k = S := by unfold nxt; rw [h]; simp
end
/-- all names from which a goal can be reached, with the fewest edges -/
def bfs (es : List Ed) : Nat → List (Nm × Nat) → List Nm → Nat → List (Nm × Nat)
  | 0, S, _, _ => S
  | f + 1, S, near, k => if near = [] then S else bfs es f (nxt es S near k) (rnd es (ks S) near) (k + 1)
def toGoal (es : List Ed) (goal : Nm) : List (Nm × Nat) := bfs es 61 [(goal, 0)] [goal] 0
theorem bfs_done {es : List Ed} {f : Nat} {S : List (Nm × Nat)} {k : Nat} : bfs es f S [] k = S := by cases f <;> simp [bfs]
theorem bfs_step {es : List Ed} {f : Nat} {S : List (Nm × Nat)} {near : List Nm} {k : Nat} (h : near ≠ []) : bfs es (f + 1) S near k = bfs es f (nxt es S near k) (rnd es (ks S) near) (k + 1) := by
  rw [bfs, if_neg h]
theorem Bfs.room {es : List Ed} {names : List Nm} {goal : Nm} {S : List (Nm × Nat)} {near : List Nm} {k : Nat} (b : Bfs es names goal S near k) (hn : near ≠ []) : k + 1 ≤ names.length :=
  Nat.le_trans (b.len hn) (nodup_le b.nd b.sub)
theorem bfs_ok {es : List Ed} {names : List Nm} {goal : Nm} (hu : ∀ e ∈ es, e.1 ∈ names) (hl : names.length ≤ 60) : ∀ (f : Nat) {S : List (Nm × Nat)} {near : List Nm} {k : Nat}, f + k = 61 → Bfs es names goal S near k → ∃ k', Bfs es names goal (bfs es f S near k) [] k'
  | 0, S, near, k, hf, b => by
    have : near = [] := Decidable.byContradiction fun h => by have := b.room h; omega
    subst this
    exact ⟨k, b⟩
  | f + 1, S, near, k, hf, b => by
    by_cases h : near = []
    · subst h; rw [bfs_done]; exact ⟨k, b⟩
    · rw [bfs_step h]
      exact bfs_ok hu hl f (by omega) (b.next h hu)
structure Good (names : List Nm) (es : List Ed) : Prop where
  nd : names.Nodup
  len : names.length ≤ 60
  up : ∀ e ∈ es, e.1 ∈ names
  lo : ∀ e ∈ es, e.2.1 ∈ names
section
variable {names : List Nm} {es : List Ed} (g : Good names es) {goal : Nm} (hg : goal ∈ names)
include g hg
theorem goal_bfs : ∃ k, Bfs es names goal (toGoal es goal) [] k := bfs_ok g.up g.len 61 rfl (.start hg)
theorem goal_closed {e : Ed} (he : e ∈ es) (h : e.2.1 ∈ ks (toGoal es goal)) : e.1 ∈ ks (toGoal es goal) := by
  obtain ⟨k, b⟩ := goal_bfs g hg
  exact (b.cl e he h).elim (fun z => by cases z) id
theorem goal_self : gt (toGoal es goal) goal = some 0 := by
  obtain ⟨k, b⟩ := goal_bfs g hg
  exact b.gl
theorem goal_par {u : Nm} {c : Nat} (h : gt (toGoal es goal) u = some (c + 1)) : ∃ e ∈ es, e.1 = u ∧ gt (toGoal es goal) e.2.1 = some c := by
  obtain ⟨k, b⟩ := goal_bfs g hg
  rcases b.par u _ h with ⟨z, _⟩ | ⟨e, h1, h2, d, h3, h4⟩
  · cases z
  · cases h4; exact ⟨e, h1, h2, h3⟩
theorem goal_zero {u : Nm} (h : gt (toGoal es goal) u = some 0) : u = goal := by
  obtain ⟨k, b⟩ := goal_bfs g hg
  rcases b.par u _ h with ⟨_, z⟩ | ⟨e, h1, h2, d, h3, h4⟩
  · exact z
  · omega
end

/-! ### ways and circles -/
def wf (S : List (Nm × Nat)) (c : Nat) (u : Nm) (e : Ed) : Bool := decide (e.1 = u) && decide (gt S e.2.1 = some c)
def way (es : List Ed) (S : List (Nm × Nat)) : Nat → Nm → List Ed
  | 0, _ => []
  | c + 1, u => match es.find? (wf S c u) with
    | some e => e :: way es S c e.2.1
    | none => []
def walk : Nm → List Ed → Nm → Prop
  | u, [], v => u = v
  | u, e :: l, v => e.1 = u ∧ walk e.2.1 l v
theorem walk_app : ∀ {l m : List Ed} {u v w : Nm}, walk u l v → walk v m w → walk u (l ++ m) w
  | [], m, u, v, w, h, k => by cases h; exact k
  | e :: l, m, u, v, w, h, k => ⟨h.1, walk_app h.2 k⟩
theorem walk_at : ∀ {l : List Ed} {u v : Nm} {k : Nat} {x : Ed}, walk u l v → l[k]? = some x → (k = 0 → x.1 = u) ∧ (k + 1 = l.length → x.2.1 = v) ∧ ∀ y, l[k + 1]? = some y → x.2.1 = y.1
  | [], _, _, _, _, _, e => by cases e
  | [a], u, v, 0, x, h, e => by
    cases e
    exact ⟨fun _ => h.1, fun _ => h.2, fun y e => by cases e⟩
  | [a], u, v, k + 1, x, h, e => by cases e
  | a :: b :: l, u, v, 0, x, h, e => by
    cases e
    refine ⟨fun _ => h.1, fun z => by simp at z, fun y e => ?_⟩
    cases e
    exact h.2.1.symm
  | a :: b :: l, u, v, k + 1, x, h, e => by
    obtain ⟨_, h2, h3⟩ := walk_at (l := b :: l) (k := k) h.2 (by simpa using e)
    exact ⟨fun z => by omega, fun z => h2 (by simpa using z), fun y e => h3 y (by simpa using e)⟩
section
variable {names : List Nm} {es : List Ed} (g : Good names es) {goal : Nm} (hg : goal ∈ names)
include g hg
theorem way_find {u : Nm} {c : Nat} (h : gt (toGoal es goal) u = some (c + 1)) : ∃ e, es.find? (wf (toGoal es goal) c u) = some e ∧ e ∈ es ∧ e.1 = u ∧ gt (toGoal es goal) e.2.1 = some c := by
  obtain ⟨e, h1, h2, h3⟩ := goal_par g hg h
  cases q : es.find? (wf (toGoal es goal) c u) with
  | none =>
    have := List.find?_eq_none.mp q e h1
    simp [wf, h2, h3] at this
  | some f =>
    have h4 := List.find?_some q
    simp only [wf, Bool.and_eq_true, decide_eq_true_eq] at h4
    exact ⟨f, rfl, List.mem_of_find?_eq_some q, h4.1, h4.2⟩
theorem way_walk : ∀ (c : Nat) {u : Nm}, gt (toGoal es goal) u = some c → walk u (way es (toGoal es goal) c u) goal ∧ ∀ e ∈ way es (toGoal es goal) c u, e ∈ es
  | 0, u, h => ⟨goal_zero g hg h, fun e m => by cases m⟩
  | c + 1, u, h => by
    obtain ⟨e, h1, h2, h3, h4⟩ := way_find g hg h
    obtain ⟨k1, k2⟩ := way_walk c h4
    rw [way, h1]
    refine ⟨⟨h3, k1⟩, fun f m => ?_⟩
    rcases List.mem_cons.mp m with z | m
    · rw [z]; exact h2
    · exact k2 f m
end
def cf (es : List Ed) (e : Ed) : Bool := e.2.2 && decide (e.2.1 ∈ ks (toGoal es e.1))
def loopOf (es : List Ed) (e : Ed) : List Ed := e :: way es (toGoal es e.1) ((gt (toGoal es e.1) e.2.1).getD 0) e.2.1
def circ (es : List Ed) : List Ed := match es.find? (cf es) with
  | some e => loopOf es e
  | none => []
/-- the circle's form -/
structure OkC (es : List Ed) (c : List Ed) : Prop where
  ne : c ≠ []
  hd : ∀ e, c[0]? = some e → e.2.2 = true
  mem : ∀ e ∈ c, e ∈ es
  nx : ∀ k x y, c[k]? = some x → c[if k = 0 then c.length - 1 else k - 1]? = some y → y.2.1 = x.1
theorem okC_of {es c : List Ed} {u : Nm} (h0 : c ≠ []) (hd : ∀ e, c[0]? = some e → e.2.2 = true) (hm : ∀ e ∈ c, e ∈ es) (hw : walk u c u) : OkC es c := by
  refine ⟨h0, hd, hm, fun k x y hx hy => ?_⟩
  by_cases hk : k = 0
  · subst hk
    rw [if_pos rfl] at hy
    have hl : 0 < c.length := List.length_pos_iff.mpr h0
    rw [(walk_at hw hx).1 rfl, (walk_at hw hy).2.1 (by omega)]
  · rw [if_neg hk] at hy
    obtain ⟨j, rfl⟩ : ∃ j, k = j + 1 := ⟨k - 1, by omega⟩
    exact (walk_at hw hy).2.2 x (by simpa using hx)
section
variable {names : List Nm} {es : List Ed} (g : Good names es)
include g
theorem circ_walk (h : circ es ≠ []) : ∃ e w, circ es = e :: w ∧ e.2.2 = true ∧ walk e.1 (circ es) e.1 ∧ ∀ f ∈ circ es, f ∈ es := by
  unfold circ at h ⊢
  cases q : es.find? (cf es) with
  | none => rw [q] at h; exact (h rfl).elim
  | some e =>
    have h1 := List.find?_some q
    have h2 := List.mem_of_find?_eq_some q
    simp only [cf, Bool.and_eq_true, decide_eq_true_eq] at h1
    obtain ⟨c, hc⟩ := Option.isSome_iff_exists.mp (gt_some.mpr h1.2)
    obtain ⟨k1, k2⟩ := way_walk g (g.up e h2) c hc
    refine ⟨e, _, rfl, h1.1, ?_, ?_⟩
    · show walk e.1 (loopOf es e) e.1
      unfold loopOf
      rw [hc]
      exact ⟨rfl, k1⟩
    · intro f m
      simp only [loopOf, hc, Option.getD_some] at m
      rcases List.mem_cons.mp m with z | m
      · rw [z]; exact h2
      · exact k2 f m
theorem circ_ok (h : circ es ≠ []) : OkC es (circ es) := by
  obtain ⟨e, w, h1, h2, h3, h4⟩ := circ_walk g h
  refine okC_of h (fun f hf => ?_) h4 h3
  rw [h1] at hf; cases hf; exact h2
theorem circ_two (h : circ es ≠ []) : OkC es (circ es ++ circ es) := by
  obtain ⟨e, w, h1, h2, h3, h4⟩ := circ_walk g h
  refine okC_of (u := e.1) (by simp [h]) (fun f hf => ?_) (fun f m => ?_) (walk_app h3 h3)
  · rw [h1] at hf; cases hf; exact h2
  · rcases List.mem_append.mp m with m | m <;> exact h4 f m
theorem circ_none (h : circ es = []) {e : Ed} (he : e ∈ es) (ha : e.2.2 = true) : e.2.1 ∉ ks (toGoal es e.1) := fun m => by
  unfold circ at h
  cases q : es.find? (cf es) with
  | none =>
    have := List.find?_eq_none.mp q e he
    simp [cf, ha, m] at this
  | some f => rw [q] at h; simp [loopOf] at h
theorem loop_not (h : circ es = []) {e : Ed} (he : e ∈ es) (ha : e.2.2 = true) : e.2.1 ≠ e.1 := fun z => by
  have := circ_none g h he ha
  rw [z] at this
  exact this (gt_in (goal_self g (g.up e he)))
end
/-! ### layers -/
def putF (f : Nm → Nat) (u : Nm) (c : Nat) : Nm → Nat := fun v => if v = u then c else f v
def b2 (b : Bool) : Nat := if b = true then 1 else 0
def lstep (f : Nm → Nat) (e : Ed) : Nm → Nat := if f e.1 < f e.2.1 + b2 e.2.2 then putF f e.1 (f e.2.1 + b2 e.2.2) else f
def pass (es : List Ed) (f : Nm → Nat) : Nm → Nat := es.foldl lstep f
def Feas (es : List Ed) (y : Nm → Nat) : Prop := ∀ e ∈ es, y e.2.1 + b2 e.2.2 ≤ y e.1
def itl (es : List Ed) : Nat → Nm → Nat
  | 0 => fun _ => 0
  | k + 1 => pass es (itl es k)
theorem lstep_ge (f : Nm → Nat) (e : Ed) (v : Nm) : f v ≤ lstep f e v := by
  unfold lstep
  split
  · unfold putF; split
    · rename_i h z; rw [z]; omega
    · exact Nat.le_refl _
  · exact Nat.le_refl _
theorem lstep_ok (f : Nm → Nat) (e : Ed) : f e.2.1 + b2 e.2.2 ≤ lstep f e e.1 := by
  unfold lstep
  split
  · unfold putF; simp
  · omega
theorem lstep_le {f y : Nm → Nat} {e : Ed} (h : ∀ v, f v ≤ y v) (hy : y e.2.1 + b2 e.2.2 ≤ y e.1) (v : Nm) : lstep f e v ≤ y v := by
  unfold lstep
  split
  · unfold putF; split
    · rename_i z; rw [z]; have := h e.2.1; omega
    · exact h v
  · exact h v
theorem lstep_out {f : Nm → Nat} {e : Ed} {v : Nm} (h : v ≠ e.1) : lstep f e v = f v := by
  unfold lstep
  split
  · unfold putF; rw [if_neg h]
  · rfl
theorem pass_ge : ∀ (es : List Ed) (f : Nm → Nat) (v : Nm), f v ≤ pass es f v
  | [], _, _ => Nat.le_refl _
  | e :: es, f, v => Nat.le_trans (lstep_ge f e v) (pass_ge es _ v)
theorem pass_le : ∀ {es : List Ed} {f y : Nm → Nat}, (∀ v, f v ≤ y v) → Feas es y → ∀ v, pass es f v ≤ y v
  | [], _, _, h, _, v => h v
  | e :: es, f, y, h, hy, v => pass_le (es := es) (lstep_le h (hy e List.mem_cons_self)) (fun x m => hy x (List.mem_cons_of_mem _ m)) v
theorem pass_edge : ∀ {es : List Ed} {f : Nm → Nat} {e : Ed}, e ∈ es → f e.2.1 + b2 e.2.2 ≤ pass es f e.1
  | [], _, _, m => by cases m
  | x :: es, f, e, m => by
    rcases List.mem_cons.mp m with z | m
    · subst z
      exact Nat.le_trans (lstep_ok f e) (pass_ge es _ _)
    · exact Nat.le_trans (Nat.add_le_add_right (lstep_ge f x _) _) (pass_edge (es := es) m)
theorem pass_out : ∀ {es : List Ed} {f : Nm → Nat} {v : Nm}, (∀ e ∈ es, v ≠ e.1) → pass es f v = f v
  | [], _, _, _ => rfl
  | e :: es, f, v, h => by
    show pass es (lstep f e) v = f v
    rw [pass_out (es := es) fun x m => h x (List.mem_cons_of_mem _ m), lstep_out (h e List.mem_cons_self)]
theorem itl_le {es : List Ed} {y : Nm → Nat} (hy : Feas es y) : ∀ (k : Nat) (v : Nm), itl es k v ≤ y v
  | 0, _ => Nat.zero_le _
  | k + 1, v => pass_le (itl_le hy k) hy v
theorem itl_up (es : List Ed) (k : Nat) (v : Nm) : itl es k v ≤ itl es (k + 1) v := pass_ge es _ v
theorem sum_le {f g : Nm → Nat} : ∀ {l : List Nm}, (∀ v ∈ l, f v ≤ g v) → (l.map f).sum ≤ (l.map g).sum
  | [], _ => Nat.le_refl _
  | a :: l, h => by
    have := sum_le (l := l) fun v m => h v (List.mem_cons_of_mem _ m)
    have := h a List.mem_cons_self
    simp only [List.map_cons, List.sum_cons]; omega
theorem sum_lt {f g : Nm → Nat} : ∀ {l : List Nm}, (∀ v ∈ l, f v ≤ g v) → (∃ v ∈ l, f v < g v) → (l.map f).sum < (l.map g).sum
  | [], _, ⟨v, m, _⟩ => by cases m
  | a :: l, h, ⟨v, m, hv⟩ => by
    have h1 := sum_le (l := l) fun v m => h v (List.mem_cons_of_mem _ m)
    have h2 := h a List.mem_cons_self
    simp only [List.map_cons, List.sum_cons]
    rcases List.mem_cons.mp m with z | m
    · subst z; omega
    · have := sum_lt (l := l) (fun v m => h v (List.mem_cons_of_mem _ m)) ⟨v, m, hv⟩
      omega
theorem filter_le {p q : Nm → Bool} : ∀ {l : List Nm}, (∀ v ∈ l, p v = true → q v = true) → (l.filter p).length ≤ (l.filter q).length
  | [], _ => Nat.le_refl _
  | a :: l, h => by
    have ih := filter_le (l := l) fun v m => h v (List.mem_cons_of_mem _ m)
    have ha := h a List.mem_cons_self
    rw [List.filter_cons, List.filter_cons]
    cases pa : p a with
    | true => rw [ha pa]; simpa using ih
    | false => cases q a <;> simp <;> omega
theorem filter_lt {p q : Nm → Bool} : ∀ {l : List Nm}, (∀ v ∈ l, p v = true → q v = true) → (∃ v ∈ l, p v = false ∧ q v = true) → (l.filter p).length < (l.filter q).length
  | [], _, ⟨v, m, _⟩ => by cases m
  | a :: l, h, ⟨v, m, h1, h2⟩ => by
    have ih := filter_le (l := l) fun v m => h v (List.mem_cons_of_mem _ m)
    have ha := h a List.mem_cons_self
    rw [List.filter_cons, List.filter_cons]
    rcases List.mem_cons.mp m with z | m
    · subst z
      rw [h1, h2]; simp; omega
    · have := filter_lt (l := l) (fun v m => h v (List.mem_cons_of_mem _ m)) ⟨v, m, h1, h2⟩
      cases pa : p a with
      | true => rw [ha pa]; simpa using this
      | false => cases q a <;> simp <;> omega
theorem filter_all {p : Nm → Bool} : ∀ {l : List Nm}, l.length ≤ (l.filter p).length → ∀ v ∈ l, p v = true
  | [], _, v, m => by cases m
  | a :: l, h, v, m => by
    rw [List.filter_cons] at h
    have hl := List.length_filter_le p l
    cases pa : p a with
    | true =>
      rw [pa] at h
      simp at h
      rcases List.mem_cons.mp m with z | m
      · rw [z]; exact pa
      · exact filter_all (l := l) (by omega) v m
    | false => rw [pa] at h; simp at h; omega
section
variable {names : List Nm} {es : List Ed} (g : Good names es) (h0 : circ es = [])
include g h0
/-- names that can be reached -/
theorem feas_reach : Feas es fun v => (names.filter fun w => decide (v ∈ ks (toGoal es w))).length := by
  intro e he
  have hle : ∀ w ∈ names, decide (e.2.1 ∈ ks (toGoal es w)) = true → decide (e.1 ∈ ks (toGoal es w)) = true := fun w hw h =>
    decide_eq_true (goal_closed g hw he (of_decide_eq_true h))
  cases hb : e.2.2 with
  | false =>
    have := filter_le (l := names) hle
    simpa [b2] using this
  | true =>
    have := filter_lt (l := names) hle ⟨e.1, g.up e he, decide_eq_false (circ_none g h0 he hb), decide_eq_true (gt_in (goal_self g (g.up e he)))⟩
    simp only [b2, if_true]
    omega
theorem itl_stop : ∃ M, ∀ v, itl es (M + 1) v = itl es M v := by
  refine Classical.byContradiction fun hn => ?_
  have hy := feas_reach g h0
  have grow : ∀ k, k ≤ (names.map (itl es k)).sum := by
    intro k
    induction k with
    | zero => exact Nat.zero_le _
    | succ k ih =>
      refine Nat.lt_of_le_of_lt ih (sum_lt (fun v _ => itl_up es k v) ?_)
      refine Classical.byContradiction fun hk => hn ⟨k, fun v => ?_⟩
      by_cases hv : v ∈ names
      · have := itl_up es k v
        exact Nat.le_antisymm (Nat.not_lt.mp fun z => hk ⟨v, hv, z⟩) this
      · exact pass_out fun e he z => hv (z ▸ g.up e he)
  have h1 := grow ((names.map fun v => (names.filter fun w => decide (v ∈ ks (toGoal es w))).length).sum + 1)
  have h2 := sum_le (l := names) (f := itl es ((names.map fun v => (names.filter fun w => decide (v ∈ ks (toGoal es w))).length).sum + 1)) fun v _ => itl_le hy _ v
  omega
theorem itl_fix : ∀ v, itl es (names.length + 1) v = itl es names.length v := by
  obtain ⟨M, hM⟩ := itl_stop g h0
  have hF : Feas es (itl es M) := fun e he => by
    have := pass_edge (f := itl es M) he
    rwa [show pass es (itl es M) e.1 = itl es M e.1 from hM e.1] at this
  have hL := itl_le hF
  have cnt : ∀ k, k ≤ names.length → k ≤ (names.filter fun v => decide (itl es k v = itl es M v)).length := by
    intro k
    induction k with
    | zero => exact fun _ => Nat.zero_le _
    | succ k ih =>
      intro hk
      have keep : ∀ v ∈ names, decide (itl es k v = itl es M v) = true → decide (itl es (k + 1) v = itl es M v) = true := fun v _ h => by
        have h := of_decide_eq_true h
        have h1 := itl_up es k v
        have h2 := hL (k + 1) v
        exact decide_eq_true (by omega)
      by_cases hall : names.length ≤ (names.filter fun v => decide (itl es k v = itl es M v)).length
      · have := filter_le (l := names) keep
        omega
      · refine Nat.lt_of_le_of_lt (ih (by omega)) (filter_lt keep ?_)
        -- a tight edge from an unready name to a ready one
        have hex : ∃ e ∈ es, itl es k e.1 < itl es M e.1 ∧ ¬ itl es k e.2.1 < itl es M e.2.1 ∧ itl es M e.1 = itl es M e.2.1 + b2 e.2.2 := by
          refine Classical.byContradiction fun hne => ?_
          have hF2 : Feas es fun v => if itl es k v < itl es M v then itl es M v - 1 else itl es M v := fun e he => by
            have hfe := hF e he
            show (if itl es k e.2.1 < itl es M e.2.1 then itl es M e.2.1 - 1 else itl es M e.2.1) + b2 e.2.2 ≤ if itl es k e.1 < itl es M e.1 then itl es M e.1 - 1 else itl es M e.1
            by_cases c1 : itl es k e.1 < itl es M e.1
            · rw [if_pos c1]
              by_cases c2 : itl es k e.2.1 < itl es M e.2.1
              · rw [if_pos c2]; omega
              · rw [if_neg c2]
                have : itl es M e.1 ≠ itl es M e.2.1 + b2 e.2.2 := fun z => hne ⟨e, he, c1, c2, z⟩
                omega
            · rw [if_neg c1]
              split <;> omega
          have hle := itl_le hF2 M
          -- all are ready
          apply hall
          have : names.filter (fun v => decide (itl es k v = itl es M v)) = names := by
            rw [List.filter_eq_self]
            intro v _
            have h1 := hle v
            have h2 := hL k v
            split at h1
            · omega
            · exact decide_eq_true (by omega)
          rw [this]; exact Nat.le_refl _
        obtain ⟨e, he, c1, c2, c3⟩ := hex
        refine ⟨e.1, g.up e he, decide_eq_false (by omega), decide_eq_true ?_⟩
        have h1 := pass_edge (f := itl es k) he
        have h2 := hL (k + 1) e.1
        have h3 := hL k e.2.1
        have h4 : itl es (k + 1) e.1 = pass es (itl es k) e.1 := rfl
        omega
  have all := filter_all (cnt names.length (Nat.le_refl _))
  intro v
  by_cases hv : v ∈ names
  · have h1 := of_decide_eq_true (all v hv)
    have h2 := itl_up es names.length v
    have h3 := hL (names.length + 1) v
    omega
  · exact pass_out fun e he z => hv (z ▸ g.up e he)
theorem itl_feas : Feas es (itl es names.length) := fun e he => by
  have h1 := pass_edge (f := itl es names.length) he
  have h2 := itl_fix g h0 e.1
  rwa [show pass es (itl es names.length) e.1 = itl es names.length e.1 from h2] at h1
end
theorem itl_from {es : List Ed} {k : Nat} (h : ∀ v, itl es (k + 1) v = itl es k v) : ∀ j, itl es (k + j) = itl es k
  | 0 => rfl
  | j + 1 => by
    show pass es (itl es (k + j)) = itl es k
    rw [itl_from h j]
    exact funext h

/-! ### names, all different -/
theorem any_strs (T : List (List Nat)) (s : List Nat) : anyEq (T.map .str) (.str s) = decide (s ∈ T) := by
  unfold anyEq
  rw [List.any_map, Bool.eq_iff_iff, List.any_eq_true, decide_eq_true_iff]
  constructor
  · rintro ⟨x, hx, h⟩
    have h : D.eqv (.str x) (.str s) = true := h
    rw [eqv_str] at h
    rw [← of_decide_eq_true h]; exact hx
  · intro h
    exact ⟨s, h, by show D.eqv (.str s) (.str s) = true; simp⟩
theorem sh_strs (n : Nat) (T : List (List Nat)) : (T.map D.str).all (sh n) = true := by
  rw [List.all_map, List.all_eq_true]
  intro x _
  cases n <;> rfl
theorem w0_inStrs {T : List (List Nat)} {s : List Nat} {Q : D → Prop} (q : Q (.bl (decide (s ∈ T)))) : w0 (fIn (.str s) (.lst (T.map .str))) Q := by
  refine w0_of (show (if sh 39 (.str s) = true ∧ sh 40 (.lst (T.map .str)) = true then some (D.bl (anyEq (T.map .str) (.str s))) else none) = some (.bl (decide (s ∈ T))) from ?_) q
  rw [if_pos ⟨rfl, sh_strs 39 T⟩, any_strs]
theorem w0_notInStrs {T : List (List Nat)} {s : List Nat} {Q : D → Prop} (q : Q (.bl (!decide (s ∈ T)))) : w0 (fNotIn (.str s) (.lst (T.map .str))) Q := by
  refine w0_of (show (if sh 39 (.str s) = true ∧ sh 40 (.lst (T.map .str)) = true then some (D.bl (!anyEq (T.map .str) (.str s))) else none) = some (.bl (!decide (s ∈ T))) from ?_) q
  rw [if_pos ⟨rfl, sh_strs 39 T⟩, any_strs]
theorem strs_imm (ls : List (List Nat)) : imms (ls.map D.str) = true := by
  induction ls with
  | nil => rfl
  | cons a l ih => rw [List.map_cons, imms, ih]; rfl
local macro_rules | `(tactic| walk_at "m0") => `(tactic| first | with_reducible apply w0_inStrs | with_reducible apply w0_notInStrs)
def lo (c : Nat) : Bool := decide (97 ≤ c ∧ c ≤ 122)
def nc (c : Nat) : Bool := lo c || decide (48 ≤ c ∧ c ≤ 57)
def SM : List Nat := (List.range 26).map (97 + ·)
def DG : List Nat := (List.range 10).map (48 + ·)
theorem alpha_eq : lit "abcdefghijklmnopqrstuvwxyz" = SM := by rw [lit_eq]; rfl
theorem dg_eq : lit "0123456789" = DG := by rw [lit_eq]; rfl
theorem x_eq : lit "x" = [120] := by rw [lit_eq]; rfl
theorem sm_len : SM.length = 26 := by simp [SM]
theorem dg_len : DG.length = 10 := by simp [DG]
theorem sm_nc : ∀ c ∈ SM, nc c = true := by
  intro c h
  unfold SM at h
  obtain ⟨k, hk, rfl⟩ := List.mem_map.mp h
  rw [List.mem_range] at hk
  have : lo (97 + k) = true := decide_eq_true (by omega)
  simp [nc, this]
theorem smdg_nc : ∀ c ∈ SM ++ DG, nc c = true := by
  intro c h
  rcases List.mem_append.mp h with h | h
  · exact sm_nc c h
  · unfold DG at h
    obtain ⟨k, hk, rfl⟩ := List.mem_map.mp h
    rw [List.mem_range] at hk
    have : decide (48 ≤ 48 + k ∧ 48 + k ≤ 57) = true := decide_eq_true (by omega)
    show (lo (48 + k) || decide (48 ≤ 48 + k ∧ 48 + k ≤ 57)) = true
    rw [this, Bool.or_true]
theorem ix_mem {α : Type} {l : List α} {i : Nat} {p : α → Prop} (h : ∀ a ∈ l, p a) {a : α} (e : l[i]? = some a) : p a := h a (mem_get e)
theorem w0_ixSM {i : Int} {Q : D → Prop} (h : 0 ≤ i) (h1 : i < 26) (q : ∀ c, nc c = true → Q (.str [c])) : w0 (fIx (.str SM) (.int i)) Q :=
  w0_ixS (fits_of (by rw [sm_len]; decide)) h (by rw [sm_len]; exact h1) fun c hc => q c (ix_mem sm_nc hc)
theorem w0_ixSD {i : Int} {Q : D → Prop} (h : 0 ≤ i) (h1 : i < 36) (q : ∀ c, nc c = true → Q (.str [c])) : w0 (fIx (.str (SM ++ DG)) (.int i)) Q :=
  w0_ixS (fits_of (by rw [List.length_append, sm_len, dg_len]; decide)) h (by rw [List.length_append, sm_len, dg_len]; exact h1) fun c hc => q c (ix_mem smdg_nc hc)
theorem w0_addSD {Q : D → Prop} (q : Q (.str (SM ++ DG))) : w0 (fAdd (.str SM) (.str DG)) Q := w0_addS (by rw [sm_len, dg_len]; decide) q
local macro_rules | `(tactic| walk_at "m0") => `(tactic| first
  | ((with_reducible refine w0_ixSM ?_ ?_ ?_); (focus assumption); (focus assumption); intro c hc)
  | ((with_reducible refine w0_ixSD ?_ ?_ ?_); (focus assumption); (focus assumption); intro c hc)
  | with_reducible apply w0_addSD)
def dgs (j : Nat) : List Nat := lit (toString ((j : Nat) : Int))
theorem dgs_facts : ((List.range 60).all fun j => !((toString ((j : Nat) : Int)).toList.map Char.toNat).contains 120 && ((toString ((j : Nat) : Int)).toList.map Char.toNat).all nc && decide (((toString ((j : Nat) : Int)).toList.map Char.toNat).length ≤ 2)) = true := by decide +kernel
theorem dgs_ok {j : Nat} (h : j < 60) : 120 ∉ dgs j ∧ (dgs j).all nc = true ∧ (dgs j).length ≤ 2 := by
  have := List.all_eq_true.mp dgs_facts j (List.mem_range.mpr h)
  simp only [Bool.and_eq_true, Bool.not_eq_true', decide_eq_true_eq] at this
  unfold dgs
  rw [lit_eq]
  refine ⟨fun z => ?_, this.1.2, this.2⟩
  have z' := List.contains_iff_mem.mpr z
  rw [this.1.1] at z'; cases z'
theorem dgs_inj : ((List.range 60).all fun i => (List.range 60).all fun j => decide (i = j) || !decide ((toString ((i : Nat) : Int)).toList.map Char.toNat = (toString ((j : Nat) : Int)).toList.map Char.toNat)) = true := by decide +kernel
theorem dgs_ne {i j : Nat} (hi : i < 60) (hj : j < 60) (h : dgs i = dgs j) : i = j := by
  have := List.all_eq_true.mp (List.all_eq_true.mp dgs_inj i (List.mem_range.mpr hi)) j (List.mem_range.mpr hj)
  unfold dgs at h
  rw [lit_eq, lit_eq] at h
  rw [h] at this
  simpa using this
def Tag (c : List Nat) (j : Nat) : Prop := ∃ p, c = p ++ 120 :: dgs j
theorem tail_eq {p q d e : List Nat} (hd : 120 ∉ d) (he : 120 ∉ e) (h : p ++ 120 :: d = q ++ 120 :: e) : d = e := by
  rcases List.append_eq_append_iff.mp h with ⟨a, h1, h2⟩ | ⟨a, h1, h2⟩
  · cases a with
    | nil => simpa using h2
    | cons x a =>
      simp only [List.cons_append, List.cons.injEq] at h2
      exact (hd (by rw [h2.2]; simp)).elim
  · cases a with
    | nil => simp at h2; exact h2.symm
    | cons x a =>
      simp only [List.cons_append, List.cons.injEq] at h2
      exact (he (by rw [h2.2]; simp)).elim
theorem Tag.inj {c : List Nat} {i j : Nat} (hi : i < 60) (hj : j < 60) (a : Tag c i) (b : Tag c j) : i = j := by
  obtain ⟨p, rfl⟩ := a
  obtain ⟨q, e⟩ := b
  exact dgs_ne hi hj (tail_eq (dgs_ok hi).1 (dgs_ok hj).1 e)
/-- a name not yet taken, or the tries so far -/
def Try (T : List (List Nat)) (k : Nat) (c : List Nat) : Prop :=
  k = 0 ∨ c ∉ T ∨ ∃ cs : List (List Nat), cs.length + 1 = k ∧ (∀ x ∈ cs, x ∈ T) ∧ cs.Nodup ∧ (∀ x ∈ cs, ∃ j, j + 1 < k ∧ Tag x j) ∧ ∃ j, j + 1 = k ∧ Tag c j
theorem Try.next {T : List (List Nat)} {k : Nat} {c : List Nat} (hk : k < 60) (h : Try T k c) (hc : c ∈ T) {c' : List Nat} (h' : Tag c' k) : Try T (k + 1) c' := by
  refine .inr (.inr ?_)
  rcases h with h | h | ⟨cs, h1, h2, h3, h4, j, h5, h6⟩
  · subst h
    exact ⟨[], rfl, by simp, by simp, by simp, 0, rfl, h'⟩
  · exact (h hc).elim
  · refine ⟨c :: cs, by simp; omega, fun x m => ?_, List.nodup_cons.mpr ⟨fun m => ?_, h3⟩, fun x m => ?_, k, rfl, h'⟩
    · rcases List.mem_cons.mp m with z | m
      · rw [z]; exact hc
      · exact h2 x m
    · obtain ⟨i, hi, ht⟩ := h4 c m
      have := Tag.inj (by omega) (by omega) ht h6
      omega
    · rcases List.mem_cons.mp m with z | m
      · exact ⟨j, by omega, by rw [z]; exact h6⟩
      · obtain ⟨i, hi, ht⟩ := h4 x m
        exact ⟨i, by omega, ht⟩
theorem Try.stay {T : List (List Nat)} {k : Nat} {c : List Nat} (hc : c ∉ T) : Try T (k + 1) c := .inr (.inl hc)
theorem Try.done {T : List (List Nat)} {c : List Nat} (hT : T.length ≤ 59) (h : Try T 60 c) : c ∉ T := fun hc => by
  rcases h with h | h | ⟨cs, h1, h2, h3, h4, j, h5, h6⟩
  · omega
  · exact h hc
  · have nd : (c :: cs).Nodup := List.nodup_cons.mpr ⟨fun m => by
      obtain ⟨i, hi, ht⟩ := h4 c m
      have := Tag.inj (by omega) (by omega) ht h6
      omega, h3⟩
    have := nodup_le (ys := T) nd fun x m => by
      rcases List.mem_cons.mp m with z | m
      · rw [z]; exact hc
      · exact h2 x m
    simp at this; omega
def Named (T : List (List Nat)) (d : D) (os : List D) : Prop := ∃ (n : List Nat) (jar' : D), d = .str n ∧ n.length ≤ 9 ∧ n.all nc = true ∧ n ∉ T ∧ Jar jar' ∧ os = [jar', .lst ((T ++ [n]).map .str)]
theorem all_take {p : Nat → Bool} {l : List Nat} (h : l.all p = true) (k : Nat) : (l.take k).all p = true := by
  rw [List.all_eq_true] at h ⊢
  exact fun x m => h x (List.mem_of_mem_take m)
theorem w0_appS {T : List (List Nat)} {u : List Nat} {Q : D × D → Prop} (h : T.length ≤ 1000000) (q : Q (.non, .lst ((T ++ [u]).map .str))) : w0 (fAppend (.lst (T.map D.str)) [.str u]) Q := by
  refine w0_of (show (if (T.map D.str).length < sizeLine then some (D.non, D.lst (T.map D.str ++ [.str u])) else none) = _ from ?_) q
  rw [if_pos (by rw [List.length_map]; have : sizeLine = 16777216 := rfl; omega)]
  simp
theorem name_ok {jar : D} {T : List (List Nat)} (h : Jar jar) (hT : T.length ≤ 59) : wD (m__law_name [jar, .lst (T.map .str)]) (Named T) := by
  apply wD_def
  unfold b__law_name
  rw [alpha_eq, dg_eq, x_eq]
  repeat' (first | walk_at "m" | walk_at "t")
  rename_i r1 j1 a0 a1 hj1 c hc r2 j2 b0 b1 hj2 r3 j3 c0 c1 hj3
  have hb : 0 ≤ r2 * (1 + r3) ∧ r2 * (1 + r3) ≤ 9 := by
    have : r2 = 0 ∨ r2 = 1 ∨ r2 = 2 ∨ r2 = 3 := by omega
    rcases this with rfl | rfl | rfl | rfl <;> omega
  generalize r2 * (1 + r3) = m at hb
  refine ⟨small62_of (by omega), ?_⟩
  refine wS_loop0 (fun k e => Hold (∃ (jar : D) (t : List Nat) (x5 : Option D), Jar jar ∧ t.length = k + 1 ∧ t.all nc = true ∧ e = [some jar, some (.lst (T.map .str)), some (.str SM), some (.str (SM ++ DG)), some (.str t), x5])) _ ⟨_, [c], _, hj3, rfl, by simp [hc], rfl⟩ (fun i d e hd hI => ?_) (fun e hI => ?_)
  · obtain ⟨jar, t, x5, hj, ht, h2, rfl⟩ := hI
    obtain ⟨hi, rfl⟩ := range_at hd
    repeat' (first | walk_at "m" | walk_at "t")
    rename_i r4 j4 d0 d1 hj4 c' hc'
    exact ⟨_, t ++ [c'], _, hj4, by simp; omega, by rw [List.all_append, h2]; simp [hc'], rfl⟩
  · obtain ⟨jar, t, x5, hj, ht, h2, rfl⟩ := hI
    rw [range_len] at ht
    repeat' (first | walk_at "m" | walk_at "t")
    rw [cutL_to (by decide), show Int.toNat 8 = 8 from rfl]
    have h3 := all_take h2 8
    have h4 : (t.take 8).length ≤ 9 := by rw [List.length_take]; omega
    generalize t.take 8 = u at h3 h4
    clear h2 ht
    refine wS_loop0 (fun k e => Hold (∃ (u : List Nat) (x5 : Option D), u.length ≤ 9 ∧ u.all nc = true ∧ Try T k u ∧ e = [some jar, some (.lst (T.map .str)), some (.str SM), some (.str (SM ++ DG)), some (.str u), x5])) _ ⟨u, _, h4, h3, .inl rfl, rfl⟩ (fun i d e hd hI => ?_) (fun e hI => ?_)
    · obtain ⟨u, x5, hu, h2, hT2, rfl⟩ := hI
      obtain ⟨hi, rfl⟩ := range_at hd
      have hi' : i < 60 := hi
      have e0 : (0 : Int) + (i : Int) = ((i : Nat) : Int) := by omega
      rw [e0]
      repeat' (first | walk_at "m" | walk_at "t")
      · rename_i hc
        have hc : u ∈ T := by simpa using hc
        obtain ⟨q1, q2, q3⟩ := dgs_ok hi'
        rw [cutL_to (by decide), show Int.toNat 6 = 6 from rfl]
        have l6 : (u.take 6).length ≤ 6 := by rw [List.length_take]; omega
        have l7 : (u.take 6 ++ [120]).length ≤ 7 := by rw [List.length_append]; simp only [List.length_cons, List.length_nil]; omega
        have a6 := all_take h2 6
        have q4 : (lit (toString ((i : Nat) : Int))).length ≤ 2 := q3
        repeat' (first | walk_at "m" | walk_at "t")
        refine ⟨u.take 6 ++ [120] ++ dgs i, _, ?_, ?_, hT2.next hi' hc ⟨u.take 6, by simp⟩, rfl⟩
        · rw [List.length_append]; omega
        · rw [List.all_append, List.all_append, a6, q2]; rfl
      · rename_i hc
        have hc : u ∉ T := by simpa using hc
        exact ⟨u, _, hu, h2, Try.stay hc, rfl⟩
    · obtain ⟨u, x5, hu, h2, hT2, rfl⟩ := hI
      rw [range_len] at hT2
      have hn := hT2.done hT
      repeat' (first | walk_at "m" | walk_at "t")
      refine w0_appS (by omega) ?_
      repeat' (first | walk_at "m" | walk_at "t")
      exact ⟨_, _, rfl, hu, h2, hn, hj, rfl⟩
theorem name_k {jar : D} {T : List (List Nat)} {Q : D → List D → Prop} (h : Jar jar) (hT : T.length ≤ 59) (q : ∀ n jar', n.length ≤ 9 → n.all nc = true → n ∉ T → Jar jar' → Q (.str n) [jar', .lst ((T ++ [n]).map .str)]) : wD (m__law_name [jar, .lst (T.map .str)]) Q :=
  wD_mono (name_ok h hT) fun _ _ ⟨n, jar', e1, h1, h2, h3, h4, e2⟩ => by subst e1 e2; exact q n jar' h1 h2 h3 h4
local macro_rules | `(tactic| walk_at "t") => `(tactic| ((with_reducible refine name_k ?_ ?_ ?_); (focus assumption); (focus (first | assumption | omega | (simp; omega))); intro n jar' hnl hnc hnT hj; refine Exists.intro _ (Exists.intro _ (Exists.intro _ (And.intro rfl ?_)))))

/-! ### the walk back, in the program and in the law -/
def edD (e : Ed) : D := .tup [.str e.1, .str e.2.1, .bl e.2.2]
abbrev esD (es : List Ed) : List D := es.map edD
theorem esD_imm (es : List Ed) : imms (esD es) = true := by
  rw [imms_all, List.all_map, List.all_eq_true]
  intro e _; rfl
def SB (S : List (Nm × Nat)) : SL := S.map fun p => (p.1, D.int (p.2 : Nat))
theorem lk_SB (S : List (Nm × Nat)) (u : Nm) : lk (SB S) u = (gt S u).map fun c => D.int (c : Nat) := by
  unfold lk SB gt
  rw [List.find?_map]
  cases h : S.find? ((fun p => decide (p.1 = u)) ∘ fun p : Nm × Nat => (p.1, D.int (p.2 : Nat))) with
  | none =>
    have h : S.find? (fun p => decide (p.1 = u)) = none := h
    rw [h]; rfl
  | some p =>
    have h : S.find? (fun p => decide (p.1 = u)) = some p := h
    rw [h]; rfl
theorem SB_some (S : List (Nm × Nat)) (u : Nm) : (lk (SB S) u).isSome = decide (u ∈ ks S) := by
  rw [lk_SB, Option.isSome_map, Bool.eq_iff_iff, gt_some, decide_eq_true_iff]
theorem SB_put {S : List (Nm × Nat)} {u : Nm} (c : Nat) (h : u ∉ ks S) : putL (SB S) u (.int c) = SB (S ++ [(u, c)]) := by
  unfold putL
  have : ((SB S).any fun p => decide (p.1 = u)) = false := by
    unfold SB
    rw [List.any_map, Bool.eq_false_iff]
    intro z
    obtain ⟨p, hp, e⟩ := List.any_eq_true.mp z
    have e := of_decide_eq_true e
    exact h (List.mem_map.mpr ⟨p, hp, e⟩)
  rw [this, if_neg (by decide)]
  unfold SB; simp
theorem SB_len (S : List (Nm × Nat)) : (SB S).length = S.length := List.length_map _
theorem rnd_len (es : List Ed) (K near acc : List Nm) : (es.foldl (rstep K near) acc).length ≤ acc.length + es.length := by
  induction es generalizing acc with
  | nil => simp
  | cons e es ih =>
    have h1 := ih (rstep K near acc e)
    have h2 : (rstep K near acc e).length ≤ acc.length + 1 := by
      unfold rstep; split <;> simp
    simp only [List.foldl_cons, List.length_cons]; omega
theorem ed_at {es : List Ed} {i : Nat} {d : D} (h : (esD es)[i]? = some d) : ∃ e, es[i]? = some e ∧ d = edD e := by
  rw [List.getElem?_map] at h
  obtain ⟨e, h1, h2⟩ := Option.map_eq_some_iff.mp h
  exact ⟨e, h1, h2.symm⟩
local macro_rules | `(tactic| walk_at "m0") => `(tactic| ((with_reducible refine w0_appS ?_ ?_); (focus (first | assumption | omega))))
/-- the law's sizes -/
structure Small (names : List Nm) (es : List Ed) : Prop extends Good names es where
  el : es.length ≤ 100
theorem Bfs.slen {es : List Ed} {names : List Nm} {goal : Nm} {S : List (Nm × Nat)} {near : List Nm} {k : Nat} (b : Bfs es names goal S near k) (hl : names.length ≤ 60) : S.length ≤ 60 := by
  have h1 := nodup_le b.nd b.sub
  have h2 : (ks S).length = S.length := List.length_map _
  omega
theorem steps_ok {names : List Nm} {es : List Ed} (g : Small names es) {goal : Nm} (hg : goal ∈ names) : w1 (m_steps_to [.tup (esD es), .str goal]) (· = .rdc (strD (SB (toGoal es goal)))) := by
  have hi := esD_imm es
  have hel := g.el
  apply w1_def (by simp [imms, imm, hi])
  unfold b_steps_to
  repeat' walk_at "m"
  refine wS_wh (fun f e => Hold (∃ (S : List (Nm × Nat)) (near : List Nm) (k : Nat) (x5 x6 x7 x8 : Option D), f + k = 61 ∧ Bfs es names goal S near k ∧ bfs es f S near k = toGoal es goal ∧ e = [some (.tup (esD es)), some (.str goal), some (.dct (strD (SB S))), some (.lst (near.map .str)), some (.int k), x5, x6, x7, x8])) 61 (by decide) ⟨[(goal, 0)], [goal], 0, _, _, _, _, rfl, .start hg, rfl, rfl⟩ (fun f e hI => ?_)
  obtain ⟨S, near, k, x5, x6, x7, x8, hf, hB, hT, rfl⟩ := hI
  have hS := hB.slen g.len
  have hnl : (near.map D.str).length = near.length := List.length_map _
  repeat' walk_at "m"
  · rename_i hc
    have hne : near ≠ [] := by rintro rfl; simp at hc
    have hroom := hB.room hne
    have hnm := g.len
    obtain ⟨f', rfl⟩ : ∃ f', f = f' + 1 := ⟨f - 1, by omega⟩
    refine wS_forV (ds := esD es) rfl (if_pos hi) hi ?_
    refine wS_loop0 (fun i e => Hold (∃ (x6 x7 x8 : Option D), e = [some (.tup (esD es)), some (.str goal), some (.dct (strD (SB (S ++ ((es.take i).foldl (rstep (ks S) near) []).map fun x => (x, k + 1))))), some (.lst (near.map .str)), some (.int ((k : Int) + 1)), some (.lst (((es.take i).foldl (rstep (ks S) near) []).map .str)), x6, x7, x8])) _ ⟨x6, x7, x8, by simp⟩ (fun i d e hd hI => ?_) (fun e hI => ?_)
    · obtain ⟨x6, x7, x8, rfl⟩ := hI
      obtain ⟨ed, he, rfl⟩ := ed_at hd
      have hil : i < es.length := (List.getElem?_eq_some_iff.mp he).1
      have hal := rnd_len (es.take i) (ks S) near []
      have htl : (es.take i).length ≤ 100 := by rw [List.length_take]; omega
      have hfold := foldl_take (f := rstep (ks S) near) (a := []) he
      generalize (es.take i).foldl (rstep (ks S) near) [] = acc at hal hfold ⊢
      simp only [List.length_nil, Nat.zero_add] at hal
      rw [hfold]
      clear hfold
      obtain ⟨u, l, a⟩ := ed
      unfold edD
      have hl7 : (SB (S ++ acc.map fun x => (x, k + 1))).length ≤ 1000000 := by rw [SB_len, List.length_append, List.length_map]; omega
      have hac : acc.length ≤ 1000000 := by omega
      have hks : ∀ v, v ∈ ks (S ++ acc.map fun x => (x, k + 1)) ↔ v ∈ ks S ∨ v ∈ acc := fun v => by rw [ks_app, List.mem_append]
      show w0 (gT [6, 7, 8] (.tup [.str u, .str l, .bl a]) _) _
      repeat' walk_at "m"
      · rename_i h1 h2
        have h2 : ¬(u ∈ ks S ∨ u ∈ acc) := by
          rw [SB_some] at h2
          simpa [hks] using h2
        have hr : rstep (ks S) near acc (u, l, a) = acc ++ [u] := if_pos ⟨h1, fun z => h2 (.inl z), fun z => h2 (.inr z)⟩
        have hp := SB_put (S := S ++ acc.map fun x => (x, k + 1)) (u := u) (k + 1) (fun z => h2 ((hks u).mp z))
        have hp : putL (SB (S ++ acc.map fun x => (x, k + 1))) u (.int ((k : Int) + 1)) = SB (S ++ (acc ++ [u]).map fun x => (x, k + 1)) := by
          refine Eq.trans hp ?_
          simp
        rw [hr, hp]
        exact ⟨_, _, _, rfl⟩
      · rename_i h1 h2
        have h2 : u ∈ ks S ∨ u ∈ acc := by
          rw [SB_some] at h2
          rw [← hks]
          simpa using h2
        have hr : rstep (ks S) near acc (u, l, a) = acc := if_neg fun z => h2.elim z.2.1 z.2.2
        rw [hr]
        exact ⟨_, _, _, rfl⟩
      · rename_i h1 _
        have hr : rstep (ks S) near acc (u, l, a) = acc := if_neg fun z => h1 z.1
        rw [hr]
        exact ⟨_, _, _, rfl⟩
    · obtain ⟨x6, x7, x8, rfl⟩ := hI
      rw [List.length_map, List.take_length]
      repeat' walk_at "m"
      refine ⟨f', by omega, nxt es S near k, rnd es (ks S) near, k + 1, none, x6, x7, x8, by omega, hB.next hne g.up, ?_, rfl⟩
      rw [← hT, bfs_step hne]
  · rename_i hc
    have hne : near = [] := by
      cases near with
      | nil => rfl
      | cons a l => simp at hc
    subst hne
    rw [bfs_done] at hT
    subst hT
    repeat' walk_at "m"
    rfl
theorem law_steps_ok {names : List Nm} {es : List Ed} (g : Small names es) {goal : Nm} (hg : goal ∈ names) : w1 (m__law_steps [.tup (esD es), .str goal]) (· = .rdc (strD (SB (toGoal es goal)))) := by
  have hi := esD_imm es
  have hel := g.el
  have hnm := g.len
  apply w1_def (by simp [imms, imm, hi])
  unfold b__law_steps
  repeat' walk_at "m"
  refine wS_loop0 (fun k e => Hold (∃ (S : List (Nm × Nat)) (near : List Nm) (x3 x4 x5 x6 x7 : Option D), near ≠ [] ∧ Bfs es names goal S near k ∧ bfs es (61 - k) S near k = toGoal es goal ∧ e = [some (.tup (esD es)), some (.str goal), some (.dct (strD (SB S))), x3, x4, x5, x6, x7])) _ ⟨[(goal, 0)], [goal], _, _, _, _, _, by simp, .start hg, rfl, rfl⟩ (fun k d e hd hI => ?_) (fun e hI => ?_)
  · obtain ⟨hk, rfl⟩ := range_at hd
    have hk : k < 61 := hk
    have e0 : (0 : Int) + (k : Int) = ((k : Nat) : Int) := by omega
    rw [e0]
    clear hd
    obtain ⟨S, near, x3, x4, x5, x6, x7, hne, hB, hT, rfl⟩ := hI
    have hS := hB.slen g.len
    have hl7 : (SB S).length ≤ 1000000 := by rw [SB_len]; omega
    repeat' walk_at "m"
    refine wS_forV (ds := esD es) rfl (if_pos hi) hi ?_
    refine wS_loop0 (fun i e => Hold (∃ (x5 x6 x7 : Option D), e = [some (.tup (esD es)), some (.str goal), some (.dct (strD (SB S))), some (.int k), some (.lst (((es.take i).foldl (rstep (ks S) (ks S)) []).map .str)), x5, x6, x7])) _ ⟨x5, x6, x7, rfl⟩ (fun i d e hd hI => ?_) (fun e hI => ?_)
    · obtain ⟨x5, x6, x7, rfl⟩ := hI
      obtain ⟨ed, he, rfl⟩ := ed_at hd
      have hil : i < es.length := (List.getElem?_eq_some_iff.mp he).1
      have hal := rnd_len (es.take i) (ks S) (ks S) []
      have htl : (es.take i).length ≤ 100 := by rw [List.length_take]; omega
      have hfold := foldl_take (f := rstep (ks S) (ks S)) (a := []) he
      generalize (es.take i).foldl (rstep (ks S) (ks S)) [] = acc at hal hfold ⊢
      simp only [List.length_nil, Nat.zero_add] at hal
      rw [hfold]
      clear hfold
      obtain ⟨u, l, a⟩ := ed
      have hac : acc.length ≤ 1000000 := by omega
      show w0 (gT [5, 6, 7] (.tup [.str u, .str l, .bl a]) _) _
      repeat' walk_at "m"
      · rename_i h1 h2 h3
        rw [SB_some] at h1 h2
        have h1 : u ∉ ks S := by simpa using h1
        have h2 : l ∈ ks S := by simpa using h2
        have h3 : u ∉ acc := by simpa using h3
        have hr : rstep (ks S) (ks S) acc (u, l, a) = acc ++ [u] := if_pos ⟨h2, h1, h3⟩
        rw [hr]
        exact ⟨_, _, _, rfl⟩
      · rename_i h1 h2 h3
        have h3 : u ∈ acc := by simpa using h3
        have hr : rstep (ks S) (ks S) acc (u, l, a) = acc := if_neg fun z => z.2.2 h3
        rw [hr]
        exact ⟨_, _, _, rfl⟩
      · rename_i h1 h2 h3
        rw [SB_some] at h2
        have h2 : l ∉ ks S := by simpa using h2
        have hr : rstep (ks S) (ks S) acc (u, l, a) = acc := if_neg fun z => h2 z.1
        rw [hr]
        exact ⟨_, _, _, rfl⟩
      · rename_i h1 h2
        rw [SB_some] at h1
        have h1 : u ∈ ks S := by simpa using h1
        have hr : rstep (ks S) (ks S) acc (u, l, a) = acc := if_neg fun z => z.2.1 h1
        rw [hr]
        exact ⟨_, _, _, rfl⟩
    · obtain ⟨x5, x6, x7, rfl⟩ := hI
      rw [List.length_map, List.take_length]
      have hlaw : es.foldl (rstep (ks S) (ks S)) [] = rnd es (ks S) near := hB.law
      rw [hlaw]
      have hrl : (rnd es (ks S) near).length ≤ 100 := by
        have := rnd_len es (ks S) near []
        simp only [List.length_nil, Nat.zero_add] at this
        exact Nat.le_trans this hel
      have hroom := hB.room hne
      obtain ⟨f, hf⟩ : ∃ f, 61 - k = f + 1 := ⟨60 - k, by omega⟩
      rw [hf, bfs_step hne] at hT
      have hnx := hB.next hne g.up
      have hfr : ∀ u ∈ rnd es (ks S) near, u ∉ ks S := fun u m => (rnd_fresh m).1
      have hnd : (rnd es (ks S) near).Nodup := fold_nd es List.nodup_nil
      have hml : ((rnd es (ks S) near).map D.str).length = (rnd es (ks S) near).length := List.length_map _
      unfold nxt at hT hnx
      generalize rnd es (ks S) near = A at hT hnx hfr hnd hml hrl ⊢
      have hAi := strs_imm A
      repeat' walk_at "m"
      · rename_i hc
        have hA : A = [] := by
          cases A with
          | nil => rfl
          | cons a l => simp at hc; omega
        subst hA
        rw [bfs_done] at hT
        simp at hT
        rw [hT]
      · rename_i hc
        have hA : A ≠ [] := by rintro rfl; simp at hc
        refine wS_forL rfl hAi ?_
        refine wS_loop0 (fun j e => Hold (∃ (x5 : Option D), e = [some (.tup (esD es)), some (.str goal), some (.dct (strD (SB (S ++ (A.take j).map fun x => (x, k + 1))))), some (.int k), none, x5, x6, x7])) _ ⟨x5, by simp⟩ (fun j d e hd hI => ?_) (fun e hI => ?_)
        · obtain ⟨x5, rfl⟩ := hI
          rw [List.getElem?_map] at hd
          obtain ⟨u, hu, rfl⟩ := Option.map_eq_some_iff.mp hd
          have hl8 : (SB (S ++ (A.take j).map fun x => (x, k + 1))).length ≤ 1000000 := by
            rw [SB_len, List.length_append, List.length_map, List.length_take]; omega
          have hnot : u ∉ ks (S ++ (A.take j).map fun x => (x, k + 1)) := by
            rw [ks_app]
            intro z
            rcases List.mem_append.mp z with z | z
            · exact hfr u (mem_get hu) z
            · obtain ⟨i, hi1, hi2⟩ := List.mem_take_iff_getElem.mp z
              have hj := (List.getElem?_eq_some_iff.mp hu)
              obtain ⟨hj1, hj2⟩ := hj
              exact List.pairwise_iff_getElem.mp hnd i j (by omega) hj1 (by omega) (hi2.trans hj2.symm)
          have hp := SB_put (k + 1) hnot
          have hp : putL (SB (S ++ (A.take j).map fun x => (x, k + 1))) u (.int ((k : Int) + 1)) = SB (S ++ (A.take (j + 1)).map fun x => (x, k + 1)) := by
            refine Eq.trans hp ?_
            rw [List.take_add_one, hu]
            simp
          repeat' walk_at "m"
          rw [hp]
          exact ⟨_, rfl⟩
        · obtain ⟨x5, rfl⟩ := hI
          rw [List.length_map, List.take_length]
          repeat' walk_at "m"
          have e1 : 61 - (k + 1) = f := by omega
          exact ⟨_, A, _, _, _, _, _, hA, hnx, by rw [e1]; exact hT, rfl⟩
  · obtain ⟨S, near, x3, x4, x5, x6, x7, hne, hB, hT, rfl⟩ := hI
    rw [range_len] at hB
    have hB : Bfs es names goal S near 61 := hB
    have := hB.room hne
    omega

/-! ### ways and circles, in the program and in the law -/
def optD : Option Ed → D
  | none => .non
  | some e => edD e
theorem find_take {es : List Ed} {p : Ed → Bool} {i : Nat} {e : Ed} (h : es[i]? = some e) : (es.take (i + 1)).find? p = ((es.take i).find? p).or (if p e = true then some e else none) := by
  rw [List.take_add_one, h, List.find?_append]
  simp only [Option.toList_some, List.find?_cons, List.find?_nil]
  cases p e <;> rfl
theorem filter_take {es : List Ed} {p : Ed → Bool} {i : Nat} {e : Ed} (h : es[i]? = some e) : (es.take (i + 1)).filter p = (es.take i).filter p ++ if p e = true then [e] else [] := by
  rw [List.take_add_one, h, List.filter_append]
  simp only [Option.toList_some, List.filter_cons, List.filter_nil]
theorem w0_appE {L : List Ed} {e : Ed} {Q : D × D → Prop} (h : L.length ≤ 1000000) (q : Q (.non, .lst (esD (L ++ [e])))) : w0 (fAppend (.lst (esD L)) [edD e]) Q := by
  refine w0_of (show (if (L.map edD).length < sizeLine then some (D.non, D.lst (L.map edD ++ [edD e])) else none) = _ from ?_) q
  rw [if_pos (by rw [List.length_map]; have : sizeLine = 16777216 := rfl; omega)]
  simp [esD]
local macro_rules | `(tactic| walk_at "m0") => `(tactic| ((with_reducible refine w0_appE ?_ ?_); (focus (first | assumption | omega))))
theorem w0_isN {Q : D → Prop} (q : Q (.bl true)) : w0 (fIs .non .non) Q := w0_of rfl q
theorem w0_isE {e : Ed} {Q : D → Prop} (q : Q (.bl false)) : w0 (fIs (edD e) .non) Q := w0_of rfl q
local macro_rules | `(tactic| walk_at "m0") => `(tactic| first | with_reducible apply w0_isN | with_reducible apply w0_isE)
theorem ed0 {e : Ed} {Q : D → Prop} (q : Q (.str e.1)) : w0 (fIx (edD e) (.int 0)) Q := w0_of rfl q
theorem ed1 {e : Ed} {Q : D → Prop} (q : Q (.str e.2.1)) : w0 (fIx (edD e) (.int 1)) Q := w0_of rfl q
theorem ed2 {e : Ed} {Q : D → Prop} (q : Q (.bl e.2.2)) : w0 (fIx (edD e) (.int 2)) Q := w0_of rfl q
local macro_rules | `(tactic| walk_at "m0") => `(tactic| first | with_reducible apply ed0 | with_reducible apply ed1 | with_reducible apply ed2)
theorem way_len (es : List Ed) (T : List (Nm × Nat)) : ∀ (c : Nat) (u : Nm), (way es T c u).length ≤ c
  | 0, _ => Nat.le_refl _
  | c + 1, u => by
    rw [way]
    split
    · have := way_len es T c
      simp only [List.length_cons]
      exact Nat.succ_le_succ (this _)
    · simp
theorem goal_lt {names : List Nm} {es : List Ed} (g : Good names es) {goal : Nm} (hg : goal ∈ names) {u : Nm} {c : Nat} (h : gt (toGoal es goal) u = some c) : c ≤ 60 := by
  obtain ⟨k, b⟩ := goal_bfs g hg
  -- a way of c edges has c + 1 names
  have key : ∀ (c : Nat) (u : Nm), gt (toGoal es goal) u = some c → ∃ l : List Nm, l.length = c + 1 ∧ l.Nodup ∧ ∀ x ∈ l, x ∈ names ∧ ∃ d, d ≤ c ∧ gt (toGoal es goal) x = some d := by
    intro c
    induction c with
    | zero => intro u h; exact ⟨[u], rfl, by simp, fun x m => by rw [List.mem_singleton.mp m]; exact ⟨b.sub u (gt_in h), 0, Nat.le_refl _, h⟩⟩
    | succ c ih =>
      intro u h
      obtain ⟨e, h1, h2, h3⟩ := goal_par g hg h
      obtain ⟨l, l1, l2, l3⟩ := ih e.2.1 h3
      refine ⟨u :: l, by simp [l1], List.nodup_cons.mpr ⟨fun m => ?_, l2⟩, fun x m => ?_⟩
      · obtain ⟨_, d, d1, d2⟩ := l3 u m
        rw [h] at d2
        cases d2
        omega
      · rcases List.mem_cons.mp m with z | m
        · rw [z]; exact ⟨b.sub u (gt_in h), c + 1, Nat.le_refl _, h⟩
        · obtain ⟨q1, d, d1, d2⟩ := l3 x m
          exact ⟨q1, d, by omega, d2⟩
  obtain ⟨l, l1, l2, l3⟩ := key c u h
  have := nodup_le l2 fun x m => (l3 x m).1
  have := g.len
  omega
theorem lk_gt {T : List (Nm × Nat)} {u : Nm} {c : Nat} (h : gt T u = some c) : lk (SB T) u = some (.int (c : Nat)) := by rw [lk_SB, h]; rfl
theorem get_eq {T : List (Nm × Nat)} {l : Nm} {m : Nat} : D.eqv ((lk (SB T) l).getD (.int ((m + 1 : Nat) : Int))) (.int (((m + 1 : Nat) : Int) - 1)) = decide (gt T l = some m) := by
  rw [lk_SB]
  cases gt T l with
  | none => simp; omega
  | some d =>
    simp only [Option.map_some, Option.getD_some, eqv_int, Option.some.injEq]
    exact decide_eq_decide.mpr ⟨fun z => by omega, fun z => by omega⟩
theorem way_ok {names : List Nm} {es : List Ed} (g : Small names es) {goal : Nm} (hg : goal ∈ names) {u : Nm} {c : Nat} (hu : gt (toGoal es goal) u = some c) : w1 (m_way_along [.tup (esD es), .str u, .rdc (strD (SB (toGoal es goal)))]) (· = .lst (esD (way es (toGoal es goal) c u))) := by
  have hi := esD_imm es
  have hc60 := goal_lt g.toGood hg hu
  have hwl := way_len es (toGoal es goal) c u
  apply w1_def (by simp [imms, imm, hi])
  unfold b_way_along
  repeat' walk_at "m"
  refine wS_wh (fun n e => Hold (∃ (W : List Ed) (v : Nm) (x5 x6 : Option D), gt (toGoal es goal) v = some n ∧ W ++ way es (toGoal es goal) n v = way es (toGoal es goal) c u ∧ e = [some (.tup (esD es)), some (.str u), some (.rdc (strD (SB (toGoal es goal)))), some (.lst (esD W)), some (.str v), x5, x6])) c (Nat.lt_of_le_of_lt hc60 (by decide)) ⟨[], u, _, _, hu, rfl, rfl⟩ (fun n e hI => ?_)
  obtain ⟨W, v, x5, x6, hv, hW, rfl⟩ := hI
  have hlk := lk_gt hv
  repeat' walk_at "m"
  · rename_i hn
    obtain ⟨m, rfl⟩ : ∃ m, n = m + 1 := ⟨n - 1, by simp at hn; omega⟩
    obtain ⟨ed, f1, f2, f3, f4⟩ := way_find g.toGood hg hv
    refine wS_forV (ds := esD es) rfl (if_pos hi) hi ?_
    refine wS_loop0 (fun i e => Hold (∃ (x6 : Option D), e = [some (.tup (esD es)), some (.str u), some (.rdc (strD (SB (toGoal es goal)))), some (.lst (esD W)), some (.str v), some (optD ((es.take i).find? (wf (toGoal es goal) m v))), x6])) _ ⟨x6, rfl⟩ (fun i d e hd hI => ?_) (fun e hI => ?_)
    · obtain ⟨x6, rfl⟩ := hI
      obtain ⟨e, he, rfl⟩ := ed_at hd
      rw [find_take he]
      cases hfi : (es.take i).find? (wf (toGoal es goal) m v) with
      | some e0 =>
        simp only [optD, Option.some_or]
        repeat' walk_at "m"
        exact ⟨_, rfl⟩
      | none =>
        simp only [optD, Option.none_or]
        repeat' walk_at "m"
        · rename_i _ h1
          have h1 : e.1 = v := by simpa using h1
          refine w0_eqD (by rw [lk_SB]; cases gt (toGoal es goal) e.2.1 <;> rfl) rfl ?_
          rw [get_eq]
          repeat' walk_at "m"
          · rename_i h2
            rw [if_pos (by simp [wf, h1, h2])]
            exact ⟨_, rfl⟩
          · rename_i h2
            rw [if_neg (by simp [wf, h2])]
            exact ⟨_, rfl⟩
        · rename_i _ h1 _
          have h1 : e.1 ≠ v := by simpa using h1
          rw [if_neg (by simp [wf, h1])]
          exact ⟨_, rfl⟩
    · obtain ⟨x6, rfl⟩ := hI
      rw [List.length_map, List.take_length, f1]
      have hwl2 : W.length ≤ 1000000 := by
        have := congrArg List.length hW
        rw [List.length_append] at this
        omega
      simp only [optD]
      repeat' walk_at "m"
      refine ⟨m, by omega, W ++ [ed], ed.2.1, _, _, f4, ?_, rfl⟩
      rw [← hW, way, f1, List.append_assoc]
      rfl
  · rename_i hn
    have : n = 0 := by simp at hn; omega
    subst this
    rw [way, List.append_nil] at hW
    subst hW
    repeat' walk_at "m"
    rfl

theorem w0_tupE {L : List Ed} {Q : D → Prop} (q : Q (.tup (esD L))) : w0 (fTuple [.lst (esD L)]) Q := w0_of (show (if imms (esD L) = true then some (D.tup (esD L)) else none) = _ by rw [if_pos (esD_imm L)]) q
theorem w0_catE {L M : List Ed} {Q : D → Prop} (h : L.length + M.length ≤ 1000000) (q : Q (.tup (esD (L ++ M)))) : w0 (fAdd (.tup (esD L)) (.tup (esD M))) Q := by
  refine w0_of (show (if imms (esD L) = true ∧ imms (esD M) = true ∧ fits ((esD L).length + (esD M).length) = true then some (D.tup (esD L ++ esD M)) else none) = _ from ?_) q
  rw [if_pos ⟨esD_imm L, esD_imm M, fits_of (by simp only [esD, List.length_map]; omega)⟩, esD, esD, esD, List.map_append]
local macro_rules | `(tactic| walk_at "m0") => `(tactic| with_reducible apply w0_tupE)
theorem cf_step {es : List Ed} {i : Nat} {e : Ed} (h : es[i]? = some e) (hi : (es.take i).find? (cf es) = none) (hc : cf es e = false) : (es.take (i + 1)).find? (cf es) = none := by
  rw [find_take h, hi, hc]; rfl
theorem cf_hit {es : List Ed} {i : Nat} {e : Ed} (h : es[i]? = some e) (hi : (es.take i).find? (cf es) = none) (hc : cf es e = true) : circ es = loopOf es e := by
  unfold circ
  have : es.find? (cf es) = some e := by
    have h1 := find_take (p := cf es) h
    rw [hi, hc] at h1
    have h2 : es = es.take (i + 1) ++ es.drop (i + 1) := (List.take_append_drop _ _).symm
    rw [h2, List.find?_append, ← h2, h1]; rfl
  rw [this]
theorem first_circle_ok {names : List Nm} {es : List Ed} (g : Small names es) : w1 (m_first_circle [.tup (esD es)]) (· = .tup (esD (circ es))) := by
  have hi := esD_imm es
  apply w1_def (by simp [imms, imm, hi])
  unfold b_first_circle
  repeat' walk_at "m"
  refine wS_forV (ds := esD es) rfl (if_pos hi) hi ?_
  refine wS_loop0 (fun i e => Hold (∃ (x1 x2 : Option D), (es.take i).find? (cf es) = none ∧ e = [some (.tup (esD es)), x1, x2])) _ ⟨_, _, rfl, rfl⟩ (fun i d e hd hI => ?_) (fun e hI => ?_)
  · obtain ⟨x1, x2, hF, rfl⟩ := hI
    obtain ⟨e, he, rfl⟩ := ed_at hd
    have hup := g.up e (mem_get he)
    have hst := w1_is (steps_ok g hup)
    have hi2 : imms [.tup (esD es), .str e.1] = true := by simp [imms, imm, hi]
    have hm1 : imm (edD e) = true := rfl
    repeat' walk_at "m"
    · rename_i ha
      rw [hst]
      refine w1_ok ?_
      repeat' walk_at "m"
      · rename_i hin
        rw [SB_some] at hin
        have hin : e.2.1 ∈ ks (toGoal es e.1) := by simpa using hin
        have hcf : cf es e = true := by
          show (e.2.2 && decide (e.2.1 ∈ ks (toGoal es e.1))) = true
          rw [ha, decide_eq_true hin]; rfl
        obtain ⟨c, hc⟩ := Option.isSome_iff_exists.mp (gt_some.mpr hin)
        have hw := w1_is (way_ok g hup hc)
        have hcl := goal_lt g.toGood hup hc
        have hwl := way_len es (toGoal es e.1) c e.2.1
        refine w1_eq hw ?_
        repeat' walk_at "m"
        refine w0_catE (L := [e]) (by simp only [List.length_cons, List.length_nil]; omega) ?_
        rw [cf_hit he hF hcf, loopOf, hc]; rfl
      · rename_i hin
        rw [SB_some] at hin
        have hin : e.2.1 ∉ ks (toGoal es e.1) := by simpa using hin
        refine ⟨_, _, cf_step he hF ?_, rfl⟩
        show (e.2.2 && decide (e.2.1 ∈ ks (toGoal es e.1))) = false
        rw [decide_eq_false hin, Bool.and_false]
    · rename_i ha
      refine ⟨_, _, cf_step he hF ?_, rfl⟩
      show (e.2.2 && decide (e.2.1 ∈ ks (toGoal es e.1))) = false
      rw [ha]; rfl
  · obtain ⟨x1, x2, hF, rfl⟩ := hI
    rw [List.length_map, List.take_length] at hF
    repeat' walk_at "m"
    unfold circ
    rw [hF]; rfl
theorem w0_ixL0 {a : D} {r : List D} {Q : D → Prop} (q : Q a) : w0 (fIx (.lst (a :: r)) (.int 0)) Q :=
  w0_ixL (by decide) (by simp only [List.length_cons]; omega) fun d hd => by
    have : d = a := by simpa using hd.symm
    rw [this]; exact q
local macro_rules | `(tactic| walk_at "m0") => `(tactic| with_reducible apply w0_ixL0)
theorem filter_hd {es : List Ed} {p : Ed → Bool} {e : Ed} (h : es.find? p = some e) : ∃ r, es.filter p = e :: r := by
  have := List.head?_filter (l := es) (p := p)
  rw [h] at this
  cases q : es.filter p with
  | nil => rw [q] at this; cases this
  | cons a r => rw [q] at this; cases this; exact ⟨r, rfl⟩
theorem law_circle_ok {names : List Nm} {es : List Ed} (g : Small names es) : w1 (m__law_circle [.tup (esD es)]) (· = .tup (esD (circ es))) := by
  have hi := esD_imm es
  have hel := g.el
  apply w1_def (by simp [imms, imm, hi])
  unfold b__law_circle
  repeat' walk_at "m"
  refine wS_forV (ds := esD es) rfl (if_pos hi) hi ?_
  refine wS_loop0 (fun i e => Hold (∃ (x1 x2 x3 x4 x5 x6 x7 : Option D), (es.take i).find? (cf es) = none ∧ e = [some (.tup (esD es)), x1, x2, x3, x4, x5, x6, x7])) _ ⟨_, _, _, _, _, _, _, rfl, rfl⟩ (fun i d e hd hI => ?_) (fun e hI => ?_)
  · obtain ⟨x1, x2, x3, x4, x5, x6, x7, hF, rfl⟩ := hI
    obtain ⟨e, he, rfl⟩ := ed_at hd
    have hup := g.up e (mem_get he)
    have hst := w1_is (law_steps_ok g hup)
    have hi2 : imms [.tup (esD es), .str e.1] = true := by simp [imms, imm, hi]
    have hm1 : imm (edD e) = true := rfl
    repeat' walk_at "m"
    · rename_i ha
      rw [hst]
      refine w1_ok ?_
      generalize hT : toGoal es e.1 = T at *
      repeat' walk_at "m"
      · rename_i hin
        rw [SB_some] at hin
        have hin : e.2.1 ∈ ks T := by simpa using hin
        have hcf : cf es e = true := by
          show (e.2.2 && decide (e.2.1 ∈ ks (toGoal es e.1))) = true
          rw [ha, hT, decide_eq_true hin]; rfl
        obtain ⟨c, hc⟩ := Option.isSome_iff_exists.mp (gt_some.mpr hin)
        have hcl := goal_lt g.toGood hup (hT ▸ hc)
        have hlk := lk_gt hc
        repeat' walk_at "m"
        refine wS_loop0 (fun j e' => Hold (∃ (W : List Ed) (v : Nm) (x5 x6 x7 : Option D), gt T v = some (c - j) ∧ W ++ way es T (c - j) v = e :: way es T c e.2.1 ∧ W.length = j + 1 ∧ e' = [some (.tup (esD es)), some (edD e), some (.rdc (strD (SB T))), some (.lst (esD W)), some (.str v), x5, x6, x7])) _ ⟨[e], e.2.1, _, _, _, hc, rfl, rfl, rfl⟩ (fun j d e' hd hI => ?_) (fun e' hI => ?_)
        · obtain ⟨hj, rfl⟩ := range_at hd
          obtain ⟨W, v, x5, x6, x7, hv, hW, hWl, rfl⟩ := hI
          have hj : j < c := by simpa using hj
          obtain ⟨m, hm⟩ : ∃ m, c - j = m + 1 := ⟨c - j - 1, by omega⟩
          rw [hm] at hv hW
          have hlv := lk_gt hv
          obtain ⟨ed, f1, f2, f3, f4⟩ := way_find g.toGood hup (hT.symm ▸ hv)
          rw [hT] at f1 f4
          repeat' walk_at "m"
          refine wS_forV (ds := esD es) rfl (if_pos hi) hi ?_
          refine wS_loop0 (fun i e' => Hold (∃ (x7 : Option D), e' = [some (.tup (esD es)), some (edD e), some (.rdc (strD (SB T))), some (.lst (esD W)), some (.str v), some (.int (0 + (j : Int))), some (.lst (esD ((es.take i).filter (wf T m v)))), x7])) _ ⟨x7, rfl⟩ (fun i d e' hd hI => ?_) (fun e' hI => ?_)
          · obtain ⟨x7, rfl⟩ := hI
            obtain ⟨o, ho, rfl⟩ := ed_at hd
            have hfl : ((es.take i).filter (wf T m v)).length ≤ 1000000 := by
              have h1 := List.length_filter_le (wf T m v) (es.take i)
              rw [List.length_take] at h1
              omega
            rw [filter_take ho]
            cases hgt : gt T o.2.1 with
            | none =>
              have hwf : wf T m v o = false := by simp [wf, hgt]
              rw [if_neg (by rw [hwf]; decide), List.append_nil]
              have hno : (lk (SB T) o.2.1).isSome = false := by rw [lk_SB, hgt]; rfl
              repeat' walk_at "m"
              all_goals first | exact ⟨_, rfl⟩ | (rename_i z; rw [hno] at z; cases z)
            | some d =>
              have hl2 := lk_gt hgt
              have hyes : (lk (SB T) o.2.1).isSome = true := by rw [lk_SB, hgt]; rfl
              repeat' walk_at "m"
              · rename_i a1 a2 a3
                have a1 : o.1 = v := by simpa using a1
                have a3 : d = m := by simp at a3; omega
                subst a3
                rw [if_pos (by simp [wf, a1, hgt])]
                exact ⟨_, rfl⟩
              · rename_i a1 a2 a3
                have a3 : d ≠ m := by simp at a3; omega
                rw [if_neg (by simp [wf, hgt, a3]), List.append_nil]
                exact ⟨_, rfl⟩
              · rename_i a1 a2 a3
                rw [hyes] at a2; cases a2
              · rename_i a1 a2
                have a1 : o.1 ≠ v := by simpa using a1
                rw [if_neg (by simp [wf, a1]), List.append_nil]
                exact ⟨_, rfl⟩
          · obtain ⟨x7, rfl⟩ := hI
            rw [List.length_map, List.take_length]
            obtain ⟨r, hr⟩ := filter_hd f1
            rw [hr]
            have hWl2 : W.length ≤ 1000000 := by omega
            show wS (mSeq _ _ [_, _, _, _, _, _, some (.lst (edD ed :: r.map edD)), _]) _ _ _ _
            repeat' walk_at "m"
            refine ⟨W ++ [ed], ed.2.1, _, _, _, by rw [show c - (j + 1) = m by omega]; exact f4, ?_, by simp [hWl], rfl⟩
            rw [← hW, way, f1, List.append_assoc, show c - (j + 1) = m by omega]
            rfl
        · obtain ⟨W, v, x5, x6, x7, hv, hW, hWl, rfl⟩ := hI
          rw [range_len] at hW hv
          rw [show c - (c : Int).toNat = 0 by simp, way, List.append_nil] at hW
          subst hW
          repeat' walk_at "m"
          rw [cf_hit he hF hcf, loopOf, hT, hc]
          rfl
      · rename_i hin
        rw [SB_some] at hin
        have hin : e.2.1 ∉ ks T := by simpa using hin
        refine ⟨_, _, _, _, _, _, _, cf_step he hF ?_, rfl⟩
        show (e.2.2 && decide (e.2.1 ∈ ks (toGoal es e.1))) = false
        rw [hT, decide_eq_false hin, Bool.and_false]
    · rename_i ha
      refine ⟨_, _, _, _, _, _, _, cf_step he hF ?_, rfl⟩
      show (e.2.2 && decide (e.2.1 ∈ ks (toGoal es e.1))) = false
      rw [ha]; rfl
  · obtain ⟨x1, x2, x3, x4, x5, x6, x7, hF, rfl⟩ := hI
    rw [List.length_map, List.take_length] at hF
    repeat' walk_at "m"
    unfold circ
    rw [hF]; rfl

/-! ### layers, in the program and in the law -/
abbrev nmD (names : List Nm) : List D := names.map D.str
def LF (names : List Nm) (f : Nm → Int) : SL := fnS names fun n => .int (f n)
theorem LF_len (names : List Nm) (f : Nm → Int) : (LF names f).length = names.length := fnS_len _ _
theorem lk_LF {names : List Nm} {f : Nm → Int} {u : Nm} (h : u ∈ names) : lk (LF names f) u = some (.int (f u)) := lk_fn h
def putI (f : Nm → Int) (u : Nm) (c : Int) : Nm → Int := fun v => if v = u then c else f v
theorem put_LF {names : List Nm} {f : Nm → Int} {u : Nm} {c : Int} (h : u ∈ names) : putL (LF names f) u (.int c) = LF names (putI f u c) := by
  unfold LF
  rw [put_fn h]
  congr 1
  funext v
  unfold putI
  split <;> rfl
theorem put_LFnew {names : List Nm} {f : Nm → Int} {u : Nm} (h : u ∉ names) : putL (LF names f) u (.int (f u)) = LF (names ++ [u]) f := put_new h rfl
theorem LF_nil (f : Nm → Int) : strD (LF [] f) = [] := rfl
theorem fold_LF {f : Nm → Int} : ∀ (names pre : List Nm), (pre ++ names).Nodup → (names.map fun n => (D.str n, D.int (f n))).foldl (fun acc d => dputD acc d.1 d.2) (strD (LF pre f)) = strD (LF (pre ++ names) f)
  | [], pre, _ => by simp
  | n :: names, pre, nd => by
    have hn : n ∉ pre := fun m => (List.nodup_append.mp nd).2.2 n m n List.mem_cons_self rfl
    rw [List.map_cons, List.foldl_cons, dput_str, put_LFnew hn, fold_LF names (pre ++ [n]) (by simpa using nd)]
    simp
def nF (f : Nm → Nat) : Nm → Int := fun v => (f v : Nat)
theorem put_nF (f : Nm → Nat) (u : Nm) (c : Nat) : putI (nF f) u (c : Nat) = nF (putF f u c) := by
  funext v
  unfold putI nF putF
  split <;> rfl
theorem b2_int (b : Bool) : ((b2 b : Nat) : Int) = if b = true then 1 else 0 := by cases b <;> rfl
abbrev fld (es : List Ed) (f : Nm → Nat) (i : Nat) : Nm → Nat := (es.take i).foldl lstep f
theorem fld_ge (es : List Ed) (f : Nm → Nat) (i : Nat) (v : Nm) : f v ≤ fld es f i v := pass_ge (es.take i) f v
/-- one pass over the edges -/
def lstmt : MS := (mSeq (mSet 7 (ofN (bin fDGet (bVar 2) (bVar 5))))
  (mSeq (mIf (tst (own (bVar 6)))
  (mAug 7 fAug (ofN (bC (.int 1))))
  mNil)
  (mIf (tst (ofN (bin fLt (bin fDGet (bVar 2) (bVar 4)) (bVar 7))))
  (mSeq (mDSet 2 (bVar 4) (own (bVar 7)))
  (mSet 3 (ofN (bC (.bl true)))))
  mNil)))
theorem lstmt_ok {names : List Nm} {f : Nm → Nat} {s0 s1 s8 x7 : Option D} {c : Bool} {u l : Nm} {a : Bool} (hl : names.length ≤ 60) (hu : u ∈ names) (hlo : l ∈ names) :
    wS (lstmt [s0, s1, some (.dct (strD (LF names (nF f)))), some (.bl c), some (.str u), some (.str l), some (.bl a), x7, s8])
      (fun e => ∃ x7, e = [s0, s1, some (.dct (strD (LF names (nF (lstep f (u, l, a)))))), some (.bl (c || decide (f u < f l + b2 a))), some (.str u), some (.str l), some (.bl a), x7, s8]) (fun _ _ => False) (fun _ => False) (fun _ => False) := by
  have h1 : lk (LF names (nF f)) u = some (.int (f u : Nat)) := lk_LF hu
  have h2 : lk (LF names (nF f)) l = some (.int (f l : Nat)) := lk_LF hlo
  have hS : (LF names (nF f)).length ≤ 1000000 := by rw [LF_len]; omega
  have up : ∀ c : Nat, putL (LF names (nF f)) u (.int (c : Nat)) = LF names (nF (putF f u c)) := fun c => by rw [put_LF hu, put_nF]
  unfold lstmt
  cases a with
  | true =>
    repeat' walk_at "m"
    · rename_i q
      have q : f u < f l + 1 := by first | omega | (simp at q; omega)
      have e1 : lstep f (u, l, true) = putF f u (f l + 1) := if_pos q
      have e2 := up (f l + 1)
      have e2 : putL (LF names (nF f)) u (.int ((f l : Int) + 1)) = LF names (nF (putF f u (f l + 1))) := e2
      rw [e1, e2, show decide (f u < f l + b2 true) = true from decide_eq_true q, Bool.or_true]
      exact ⟨_, rfl⟩
    · rename_i q
      have q : ¬ f u < f l + 1 := by first | omega | (simp at q; omega)
      have e1 : lstep f (u, l, true) = f := if_neg q
      rw [e1, show decide (f u < f l + b2 true) = false from decide_eq_false q, Bool.or_false]
      exact ⟨_, rfl⟩
  | false =>
    repeat' walk_at "m"
    · rename_i q
      have q : f u < f l := by first | omega | (simp at q; omega)
      have e1 : lstep f (u, l, false) = putF f u (f l) := if_pos q
      have e2 := up (f l)
      rw [e1, e2, show decide (f u < f l + b2 false) = true from decide_eq_true q, Bool.or_true]
      exact ⟨_, rfl⟩
    · rename_i q
      have q : ¬ f u < f l := by first | omega | (simp at q; omega)
      have e1 : lstep f (u, l, false) = f := if_neg q
      rw [e1, show decide (f u < f l + b2 false) = false from decide_eq_false q, Bool.or_false]
      exact ⟨_, rfl⟩
theorem nms_imm (names : List Nm) : imms (nmD names) = true := strs_imm names
theorem w2_nms0 {names : List Nm} {w : MW} {e : E} {Q2 : List D → E → Prop} (h : w2 (w e) Q2) : w2 (w e) Q2 := h
theorem zero_LF {names : List Nm} (nd : names.Nodup) : (nmD names).foldl (fun acc d => dputD acc d (.int 0)) [] = strD (LF names (nF (itl [] 0))) := by
  have := fold_LF (f := nF (itl [] 0)) names [] (by simpa using nd)
  rw [List.nil_append] at this
  rw [← this, LF_nil]
  unfold nmD
  rw [List.foldl_map, List.foldl_map]
  rfl
theorem least_ok {names : List Nm} {es : List Ed} (g : Small names es) (h0 : circ es = []) : w1 (m_least_layers [.tup (nmD names), .tup (esD es)]) (· = .rdc (strD (LF names (nF (itl es names.length))))) := by
  have hi := esD_imm es
  have hn := nms_imm names
  have hnl := g.len
  apply w1_def (by simp [imms, imm, hi, hn])
  unfold b_least_layers
  refine wS_seq (wS_set (w2_dcomp (fun d => d) (fun _ => .int 0) ?_))
  repeat' walk_at "m"
  refine ⟨nmD names, if_pos hn, fits_of (by simp; omega), fun d hd => ?_, ?_⟩
  · obtain ⟨n, hn, rfl⟩ := List.mem_map.mp hd
    exact .mk (.mk ⟨rfl, rfl, .mk ⟨rfl, rfl, .mk ⟨rfl, rfl⟩⟩⟩)
  rw [zero_LF g.nd]
  show wS _ _ _ _ _
  repeat' walk_at "m"
  refine wS_wh (fun n e => Hold (∃ (k : Nat) (b : Bool) (x4 x5 x6 x7 : Option D), (b = true → k ≤ names.length ∧ n + k = names.length + 1) ∧ (b = false → k ≤ names.length + 1 ∧ ∀ v, itl es (k + 1) v = itl es k v) ∧ e = [some (.tup (nmD names)), some (.tup (esD es)), some (.dct (strD (LF names (nF (itl es k))))), some (.bl b), x4, x5, x6, x7, none])) (names.length + 1) (Nat.lt_of_le_of_lt (Nat.succ_le_succ hnl) (by decide)) ⟨0, true, _, _, _, _, fun _ => ⟨Nat.zero_le _, rfl⟩, (fun z => by cases z), rfl⟩ (fun n e hI => ?_)
  obtain ⟨k, b, x4, x5, x6, x7, hb1, hb2, rfl⟩ := hI
  cases b with
  | true =>
    obtain ⟨hk, hnk⟩ := hb1 rfl
    repeat' walk_at "m"
    refine wS_forV (ds := esD es) rfl (if_pos hi) hi ?_
    refine wS_loop0 (fun i e => Hold (∃ (c : Bool) (x4 x5 x6 x7 : Option D), (c = false → fld es (itl es k) i = itl es k) ∧ (c = true → ∃ v, itl es k v < fld es (itl es k) i v) ∧ e = [some (.tup (nmD names)), some (.tup (esD es)), some (.dct (strD (LF names (nF (fld es (itl es k) i))))), some (.bl c), x4, x5, x6, x7, none])) _ ⟨false, _, _, _, _, fun _ => rfl, (fun z => by cases z), rfl⟩ (fun i d e hd hI => ?_) (fun e hI => ?_)
    · obtain ⟨c, x4, x5, x6, x7, c1, c2, rfl⟩ := hI
      obtain ⟨ed, he, rfl⟩ := ed_at hd
      have hup := g.up ed (mem_get he)
      have hlo := g.lo ed (mem_get he)
      have hge := fld_ge es (itl es k) i
      have hst : fld es (itl es k) (i + 1) = lstep (fld es (itl es k) i) ed := foldl_take he
      rw [hst]
      clear hst
      generalize fld es (itl es k) i = f at c1 c2 hge ⊢
      obtain ⟨u, l, a⟩ := ed
      show w0 (gT [4, 5, 6] (.tup [.str u, .str l, .bl a]) _) _
      refine w0_gT3 rfl ?_
      show wS (lstmt _) _ _ _ _
      refine wS_mono (lstmt_ok hnl hup hlo) (fun e he2 => ?_) (fun _ _ h => h.elim) (fun _ h => h.elim) (fun _ h => h.elim)
      obtain ⟨x7, rfl⟩ := he2
      refine ⟨_, _, _, _, _, fun z => ?_, fun z => ?_, rfl⟩
      · obtain ⟨z1, z2⟩ := Bool.or_eq_false_iff.mp z
        have z2 := of_decide_eq_false z2
        rw [lstep, if_neg z2]
        exact c1 z1
      · rcases Bool.or_eq_true_iff.mp z with z | z
        · obtain ⟨v, hv⟩ := c2 z
          exact ⟨v, Nat.lt_of_lt_of_le hv (lstep_ge f _ v)⟩
        · have z := of_decide_eq_true z
          refine ⟨u, ?_⟩
          have h1 := hge u
          have h2 := lstep_ok f (u, l, a)
          simp only at h2
          omega
    · obtain ⟨c, x4, x5, x6, x7, c1, c2, rfl⟩ := hI
      have e1 : fld es (itl es k) (esD es).length = itl es (k + 1) := by
        unfold fld
        rw [List.length_map, List.take_length]
        rfl
      rw [e1] at c1 c2 ⊢
      cases c with
      | true =>
        have hlt : k < names.length := by
          refine Nat.lt_of_le_of_ne hk fun z => ?_
          obtain ⟨v, hv⟩ := c2 rfl
          have := itl_fix g.toGood h0 v
          rw [← z] at this
          omega
        exact ⟨names.length + 1 - (k + 1), by omega, k + 1, true, _, _, _, _, fun _ => ⟨hlt, by omega⟩, (fun z => by cases z), rfl⟩
      | false =>
        have hf := c1 rfl
        exact ⟨0, by omega, k + 1, false, _, _, _, _, (fun z => by cases z), fun _ => ⟨by omega, fun v => by rw [show itl es (k + 1 + 1) = pass es (itl es (k + 1)) from rfl, hf]; exact congrFun hf v⟩, rfl⟩
  | false =>
    obtain ⟨hk, hfix⟩ := hb2 rfl
    have hN : itl es k = itl es names.length := by
      by_cases hle : k ≤ names.length
      · obtain ⟨j, hj⟩ := Nat.le.dest hle
        rw [← hj, itl_from hfix j]
      · have : k = names.length + 1 := by omega
        rw [this]
        exact funext (itl_fix g.toGood h0)
    rw [hN]
    repeat' walk_at "m"
    rfl

/-! ### the law's layers; what is told -/
def rowsI (names : List Nm) (f : Nm → Int) : List D := names.map fun n => .tup [.str n, .int (f n)]
theorem rows_imm (names : List Nm) (f : Nm → Int) : imms (rowsI names f) = true := by
  unfold rowsI
  rw [imms_all, List.all_map, List.all_eq_true]
  intro n _; rfl
theorem w0_tupR {names : List Nm} {f : Nm → Int} {Q : D → Prop} (q : Q (.tup (rowsI names f))) : w0 (fTuple [.lst (rowsI names f)]) Q := w0_of (show (if imms (rowsI names f) = true then some (D.tup (rowsI names f)) else none) = _ by rw [if_pos (rows_imm names f)]) q
def rowF (f : Nm → Int) : D → D
  | .str n => .tup [.str n, .int (f n)]
  | d => d
theorem map_rowF (names : List Nm) (f : Nm → Int) : (nmD names).map (rowF f) = rowsI names f := by
  unfold nmD rowsI
  rw [List.map_map]; rfl
theorem nm_at {names : List Nm} {i : Nat} {d : D} (h : (nmD names)[i]? = some d) : ∃ n, names[i]? = some n ∧ d = .str n := by
  rw [List.getElem?_map] at h
  obtain ⟨n, h1, h2⟩ := Option.map_eq_some_iff.mp h
  exact ⟨n, h1, h2.symm⟩
def lstmt2 : MS := (mSeq (mSet 8 (ofN (bin fAdd (bin fDGet (bVar 2) (bVar 6)) (cal fInt (aCons (bVar 7) aNil)))))
  (mIf (tst (ofN (bin fLt (bin fDGet (bVar 2) (bVar 5)) (bVar 8))))
  (mDSet 2 (bVar 5) (own (bVar 8)))
  mNil))
theorem lstmt2_ok {names : List Nm} {f : Nm → Nat} {s0 s1 s3 s4 x8 : Option D} {u l : Nm} {a : Bool} (hl : names.length ≤ 60) (hu : u ∈ names) (hlo : l ∈ names) :
    wS (lstmt2 [s0, s1, some (.dct (strD (LF names (nF f)))), s3, s4, some (.str u), some (.str l), some (.bl a), x8])
      (fun e => ∃ x8, e = [s0, s1, some (.dct (strD (LF names (nF (lstep f (u, l, a)))))), s3, s4, some (.str u), some (.str l), some (.bl a), x8]) (fun _ _ => False) (fun _ => False) (fun _ => False) := by
  have h1 : lk (LF names (nF f)) u = some (.int (f u : Nat)) := lk_LF hu
  have h2 : lk (LF names (nF f)) l = some (.int (f l : Nat)) := lk_LF hlo
  have hS : (LF names (nF f)).length ≤ 1000000 := by rw [LF_len]; omega
  have up : ∀ c : Nat, putL (LF names (nF f)) u (.int (c : Nat)) = LF names (nF (putF f u c)) := fun c => by rw [put_LF hu, put_nF]
  unfold lstmt2
  cases a with
  | true =>
    repeat' walk_at "m"
    · rename_i q
      have q : f u < f l + 1 := by first | omega | (simp at q; omega)
      have e1 : lstep f (u, l, true) = putF f u (f l + 1) := if_pos q
      have e2 : putL (LF names (nF f)) u (.int ((f l : Int) + 1)) = LF names (nF (putF f u (f l + 1))) := up (f l + 1)
      rw [e1, ← e2]
      exact ⟨_, rfl⟩
    · rename_i q
      have q : ¬ f u < f l + 1 := by first | omega | (simp at q; omega)
      have e1 : lstep f (u, l, true) = f := if_neg q
      rw [e1]
      exact ⟨_, rfl⟩
  | false =>
    repeat' walk_at "m"
    · rename_i q
      have q : f u < f l + 0 := by first | omega | (simp at q; omega)
      have e1 : lstep f (u, l, false) = putF f u (f l + 0) := if_pos q
      have e2 : putL (LF names (nF f)) u (.int ((f l : Int) + 0)) = LF names (nF (putF f u (f l + 0))) := up (f l + 0)
      rw [e1, ← e2]
      exact ⟨_, rfl⟩
    · rename_i q
      have q : ¬ f u < f l + 0 := by first | omega | (simp at q; omega)
      have e1 : lstep f (u, l, false) = f := if_neg q
      rw [e1]
      exact ⟨_, rfl⟩
theorem law_layers_ok {names : List Nm} {es : List Ed} (g : Small names es) (h0 : circ es = []) : w1 (m__law_layers [.tup (nmD names), .tup (esD es)]) (· = .tup (rowsI names (nF (itl es names.length)))) := by
  have hi := esD_imm es
  have hn := nms_imm names
  have hnl := g.len
  have hll : (nmD names).length = names.length := List.length_map _
  apply w1_def (by simp [imms, imm, hi, hn])
  unfold b__law_layers
  repeat' walk_at "m"
  refine wS_forV (ds := nmD names) rfl (if_pos hn) hn ?_
  refine wS_loop0 (fun j e => Hold (∃ (x3 : Option D), e = [some (.tup (nmD names)), some (.tup (esD es)), some (.dct (strD (LF (names.take j) (nF (itl [] 0))))), x3, none, none, none, none, none])) _ ⟨_, rfl⟩ (fun j d e hd hI => ?_) (fun e hI => ?_)
  · obtain ⟨x3, rfl⟩ := hI
    obtain ⟨n, hj, rfl⟩ := nm_at hd
    have hjl := (List.getElem?_eq_some_iff.mp hj).1
    have hS : (LF (names.take j) (nF (itl [] 0))).length ≤ 1000000 := by rw [LF_len, List.length_take]; omega
    have hnot : n ∉ names.take j := by
      intro z
      obtain ⟨i, hi1, hi2⟩ := List.mem_take_iff_getElem.mp z
      obtain ⟨hj1, hj2⟩ := List.getElem?_eq_some_iff.mp hj
      exact List.pairwise_iff_getElem.mp g.nd i j (by omega) hj1 (by omega) (hi2.trans hj2.symm)
    have hp : putL (LF (names.take j) (nF (itl [] 0))) n (.int 0) = LF (names.take (j + 1)) (nF (itl [] 0)) := by
      rw [List.take_add_one, hj]
      exact put_LFnew hnot
    repeat' walk_at "m"
    rw [hp]
    exact ⟨_, rfl⟩
  · obtain ⟨x3, rfl⟩ := hI
    rw [hll, List.take_length]
    repeat' walk_at "m"
    refine wS_loop0 (fun k e => Hold (∃ (x4 x5 x6 x7 x8 : Option D), e = [some (.tup (nmD names)), some (.tup (esD es)), some (.dct (strD (LF names (nF (itl es k))))), x3, x4, x5, x6, x7, x8])) _ ⟨_, _, _, _, _, rfl⟩ (fun k d e hd hI => ?_) (fun e hI => ?_)
    · obtain ⟨x4, x5, x6, x7, x8, rfl⟩ := hI
      obtain ⟨hk, rfl⟩ := range_at hd
      repeat' walk_at "m"
      refine wS_forV (ds := esD es) rfl (if_pos hi) hi ?_
      refine wS_loop0 (fun i e => Hold (∃ (x5 x6 x7 x8 : Option D), e = [some (.tup (nmD names)), some (.tup (esD es)), some (.dct (strD (LF names (nF (fld es (itl es k) i))))), x3, some (.int (0 + (k : Int))), x5, x6, x7, x8])) _ ⟨_, _, _, _, rfl⟩ (fun i d e hd hI => ?_) (fun e hI => ?_)
      · obtain ⟨x5, x6, x7, x8, rfl⟩ := hI
        obtain ⟨ed, he, rfl⟩ := ed_at hd
        have hup := g.up ed (mem_get he)
        have hlo := g.lo ed (mem_get he)
        have hst : fld es (itl es k) (i + 1) = lstep (fld es (itl es k) i) ed := foldl_take he
        rw [hst]
        obtain ⟨u, l, a⟩ := ed
        show w0 (gT [5, 6, 7] (.tup [.str u, .str l, .bl a]) _) _
        refine w0_gT3 rfl ?_
        show wS (lstmt2 _) _ _ _ _
        refine wS_mono (lstmt2_ok hnl hup hlo) (fun e he2 => ?_) (fun _ _ h => h.elim) (fun _ h => h.elim) (fun _ h => h.elim)
        obtain ⟨x8, rfl⟩ := he2
        exact ⟨_, _, _, _, rfl⟩
      · obtain ⟨x5, x6, x7, x8, rfl⟩ := hI
        have e1 : fld es (itl es k) (esD es).length = itl es (k + 1) := by
          unfold fld
          rw [List.length_map, List.take_length]
          rfl
        rw [e1]
        exact ⟨_, _, _, _, _, rfl⟩
    · obtain ⟨x4, x5, x6, x7, x8, rfl⟩ := hI
      rw [range_len, hll, show ((names.length : Int) + 1).toNat = names.length + 1 by omega, show itl es (names.length + 1) = itl es names.length from funext (itl_fix g.toGood h0)]
      have hlk : ∀ n ∈ names, lk (LF names (nF (itl es names.length))) n = some (.int (nF (itl es names.length) n)) := fun n h => lk_LF h
      generalize nF (itl es names.length) = F at hlk ⊢
      refine wS_ret (w2_cal (w2_cons (w2_comp (rowF F) ?_)))
      refine w2_wV (w2_own (w1_var rfl ⟨hn, nmD names, if_pos hn, fits_of (by omega), fun d hd => ?_, ?_⟩))
      · obtain ⟨n, hm, rfl⟩ := List.mem_map.mp hd
        have hq := hlk n hm
        repeat' walk_at "m"
        rfl
      · rw [map_rowF]
        repeat' walk_at "m"
        exact w0_tupR rfl
theorem layers_of_circ {names : List Nm} {es : List Ed} (g : Small names es) (h0 : circ es ≠ []) : w1 (m_layers_of [.tup (nmD names), .tup (esD es)]) (· = .tup [.str (lit "circle"), .tup (esD (circ es))]) := by
  have hi := esD_imm es
  have hn := nms_imm names
  have hci := esD_imm (circ es)
  have hf := w1_is (first_circle_ok g)
  have hi1 : imms [.tup (esD es)] = true := by simp [imms, imm, hi]
  have hi3 : imms [.str (lit "circle"), .tup (esD (circ es))] = true := by simp [imms, imm, hci]
  apply w1_def (by simp [imms, imm, hi, hn])
  unfold b_layers_of
  repeat' walk_at "m"
  rw [hf]
  refine w1_ok ?_
  repeat' walk_at "m"
  · rfl
  · rename_i q
    exact (h0 (by simpa [esD] using q)).elim
theorem layers_of_lay {names : List Nm} {es : List Ed} (g : Small names es) (h0 : circ es = []) : w1 (m_layers_of [.tup (nmD names), .tup (esD es)]) (· = .tup [.str (lit "layers"), .tup (rowsI names (nF (itl es names.length)))]) := by
  have hi := esD_imm es
  have hn := nms_imm names
  have hnl := g.len
  have hll : (nmD names).length = names.length := List.length_map _
  have hf := w1_is (first_circle_ok g)
  rw [h0] at hf
  have hl := w1_is (least_ok g h0)
  have hi1 : imms [.tup (esD es)] = true := by simp [imms, imm, hi]
  have hi2 : imms [.tup (nmD names), .tup (esD es)] = true := by simp [imms, imm, hi, hn]
  apply w1_def hi2
  unfold b_layers_of
  repeat' walk_at "m"
  rw [hf]
  refine w1_ok ?_
  repeat' walk_at "m"
  rw [hl]
  refine w1_ok ?_
  have hlk : ∀ n ∈ names, lk (LF names (nF (itl es names.length))) n = some (.int (nF (itl es names.length) n)) := fun n h => lk_LF h
  generalize nF (itl es names.length) = F at hlk ⊢
  refine wS_ret (w2_tup (w2_cons (w2_ofN (w1_C (w2_cons (w2_cal (w2_cons (w2_comp (rowF F) ?_))))))))
  refine w2_wV (w2_own (w1_var rfl ⟨hn, nmD names, if_pos hn, fits_of (by omega), fun d hd => ?_, ?_⟩))
  · obtain ⟨n, hm, rfl⟩ := List.mem_map.mp hd
    have hq := hlk n hm
    repeat' walk_at "m"
    rfl
  · rw [map_rowF]
    repeat' walk_at "m"
    refine w0_tupR ?_
    repeat' walk_at "m"
    all_goals rfl

/-! ### judging layers -/
theorem w0_neK {a b : D} {k : Bool} {Q : D → Prop} (h : D.eqv a b = k) (h1 : sh 40 a = true) (h2 : sh 40 b = true) (q : Q (.bl (!k))) : w0 (fNe a b) Q := w0_neD h1 h2 (by rw [h]; exact q)
theorem w0_eqK {a b : D} {k : Bool} {Q : D → Prop} (h : D.eqv a b = k) (h1 : sh 40 a = true) (h2 : sh 40 b = true) (q : Q (.bl k)) : w0 (fEq a b) Q := w0_eqD h1 h2 (by rw [h]; exact q)
local macro_rules | `(tactic| walk_at "m0") => `(tactic| first | (with_reducible refine w0_neK (by with_reducible assumption) rfl rfl ?_) | (with_reducible refine w0_eqK (by with_reducible assumption) rfl rfl ?_))
def pb : D → Nm → Bool
  | .tup [.str m, .int i], n => decide (m = n) && decide (0 ≤ i)
  | _, _ => false
inductive PD : D → Prop
  | i {m : Nm} {i : Int} : PD (.tup [.str m, .int i])
  | b {m : Nm} {b : Bool} : PD (.tup [.str m, .bl b])
theorem PD.imm {d : D} (h : PD d) : imm d = true := by cases h <;> rfl
theorem pair_ok {d : D} {n : Nm} (h : PD d) : w1 (m_is_layer_pair [d, .str n]) (· = .bl (pb d n)) := by
  cases h with
  | @i m i =>
    apply w1_def rfl
    unfold b_is_layer_pair
    repeat' walk_at "m"
    all_goals simp_all [pb, isBl]
  | @b m b =>
    apply w1_def rfl
    unfold b_is_layer_pair
    repeat' walk_at "m"
    all_goals simp_all [pb, isBl]
/-- the edges are kept -/
def Kept (es : List Ed) (f : Nm → Int) : Prop := ∀ e ∈ es, f e.2.1 + (b2 e.2.2 : Nat) ≤ f e.1
instance (es : List Ed) (f : Nm → Int) : Decidable (Kept es f) := by unfold Kept; infer_instance
theorem kept_ok {names : List Nm} {f : Nm → Int} {e : Ed} (hu : e.1 ∈ names) (hl : e.2.1 ∈ names) :
    wD (m_is_kept [.dct (strD (LF names f)), edD e]) (fun d os => Hold (d = .bl (decide (f e.2.1 + (b2 e.2.2 : Nat) ≤ f e.1)) ∧ os = [.dct (strD (LF names f)), edD e])) := by
  have h1 := lk_LF (f := f) hu
  have h2 := lk_LF (f := f) hl
  have hm : imm (edD e) = true := rfl
  obtain ⟨u, l, a⟩ := e
  simp only at h1 h2
  apply wD_def
  unfold b_is_kept
  cases a with
  | true =>
    refine wS_seq (wS_asg (w2_own (w1_var rfl ⟨rfl, rfl, w0_gT3 rfl ?_⟩)))
    repeat' walk_at "m"
    · refine ⟨?_, rfl⟩
      simp only [b2, if_true]
      exact congrArg D.bl (decide_eq_decide.mpr ⟨fun z => by omega, fun z => by omega⟩)
  | false =>
    refine wS_seq (wS_asg (w2_own (w1_var rfl ⟨rfl, rfl, w0_gT3 rfl ?_⟩)))
    repeat' walk_at "m"
    · refine ⟨?_, rfl⟩
      simp only [b2, Bool.false_eq_true, if_false]
      exact congrArg D.bl (decide_eq_decide.mpr ⟨fun z => by omega, fun z => by omega⟩)
section
variable {names : List Nm} {es : List Ed} (g : Small names es)
include g
theorem lay_rol (ds : List D) (hd : imms ds = true) : w1 (m_is_layers [.tup (nmD names), .tup (esD es), .rol ds]) (· = .bl false) := by
  have hi := esD_imm es
  have hn := nms_imm names
  apply w1_def (by simp [imms, imm, hi, hn, hd])
  unfold b_is_layers
  repeat' walk_at "m"
  all_goals rfl
theorem lay_non : w1 (m_is_layers [.tup (nmD names), .tup (esD es), .non]) (· = .bl false) := by
  have hi := esD_imm es
  have hn := nms_imm names
  apply w1_def (by simp [imms, imm, hi, hn])
  unfold b_is_layers
  repeat' walk_at "m"
  all_goals rfl
theorem lay_int (i : Int) : w1 (m_is_layers [.tup (nmD names), .tup (esD es), .int i]) (· = .bl false) := by
  have hi := esD_imm es
  have hn := nms_imm names
  apply w1_def (by simp [imms, imm, hi, hn])
  unfold b_is_layers
  repeat' walk_at "m"
  all_goals rfl
theorem lay_size {ps : List D} (hp : imms ps = true) (hl : ps.length ≠ names.length) : w1 (m_is_layers [.tup (nmD names), .tup (esD es), .tup ps]) (· = .bl false) := by
  have hi := esD_imm es
  have hn := nms_imm names
  have hq : D.eqv (.int ps.length) (.int (nmD names).length) = false := by
    rw [eqv_int, List.length_map]
    exact decide_eq_false fun z => hl (by omega)
  have h3 : imms [.tup (nmD names), .tup (esD es), .tup ps] = true := by simp only [imms, imm, hi, hn, hp]; rfl
  clear hl
  apply w1_def h3
  unfold b_is_layers
  repeat' walk_at "m"
  rfl
theorem lay_walk {ps : List D} (hl : ps.length = names.length) (hp : ∀ d ∈ ps, PD d) (N : E → Prop) (B C : E → Prop) (R : D → E → Prop)
    (hbad : ∀ (k : Nat) (d : D) (n : Nm) (e : E), ps[k]? = some d → names[k]? = some n → pb d n = false → R (.bl false) e)
    (hgood : (∀ (k : Nat) (d : D) (n : Nm), ps[k]? = some d → names[k]? = some n → pb d n = true) → ∀ x3, N [some (.tup (nmD names)), some (.tup (esD es)), some (.tup ps), x3, none, none, none, none]) :
    wS ((mFor (wR (acons (ofN (cal fLen (aCons (bVar 0) aNil))) anil)) (gN 3)
  (mIf (notT (tst (ofN (cN m_is_layer_pair (aCons (bin fIx (bVar 2) (bVar 3)) (aCons (bin fIx (bVar 0) (bVar 3)) aNil))))))
  (mRet (ofN (bC (.bl false))))
  mNil)) [some (.tup (nmD names)), some (.tup (esD es)), some (.tup ps), none, none, none, none, none]) N R B C := by
  have hnl := g.len
  have hll : (nmD names).length = names.length := List.length_map _
  refine wS_for (w2_wR1 (w2_ofN (w1_cal (w1_cons (w1_var rfl (w1_nil (w0_of rfl ⟨_, rfl, small62_of (by omega), ?_⟩)))))))
  rw [hll]
  refine wS_loop0 (fun i e => Hold (∃ x3, (∀ (k : Nat) (d : D) (n : Nm), k < i → ps[k]? = some d → names[k]? = some n → pb d n = true) ∧ e = [some (.tup (nmD names)), some (.tup (esD es)), some (.tup ps), x3, none, none, none, none])) _ ⟨_, fun k d n hk => by omega, rfl⟩ (fun i d e hd hI => ?_) (fun e hI => ?_)
  · obtain ⟨x3, hall, rfl⟩ := hI
    obtain ⟨hi, rfl⟩ := range_at hd
    have hi : i < names.length := by omega
    repeat' walk_at "m"
    refine w0_ixT (by omega) (by omega) fun d hd2 => ?_
    repeat' walk_at "m"
    refine w0_ixT (by omega) (by omega) fun y hy => ?_
    rw [show ((0 : Int) + (i : Int)).toNat = i by omega] at hd2 hy
    obtain ⟨n, hn, rfl⟩ := nm_at hy
    have hpd := hp d (mem_get hd2)
    have hii : imms [d, .str n] = true := by simp only [imms, hpd.imm]; rfl
    repeat' walk_at "m"
    refine w1_mono (pair_ok hpd) fun r hr => ?_
    subst hr
    repeat' walk_at "m"
    · rename_i q
      exact hbad i d n _ hd2 hn (by simpa using q)
    · rename_i q
      have q : pb d n = true := by simpa using q
      refine ⟨_, fun k d' n' hk h1 h2 => ?_, rfl⟩
      by_cases hki : k = i
      · subst hki
        rw [hd2] at h1; rw [hn] at h2
        cases h1; cases h2
        exact q
      · exact hall k d' n' (by omega) h1 h2
  · obtain ⟨x3, hall, rfl⟩ := hI
    rw [range_len] at hall
    refine hgood (fun k d n h1 h2 => hall k d n ?_ h1 h2) _
    have := (List.getElem?_eq_some_iff.mp h2).1
    omega
end

def fst2 : D → D
  | .tup [a, _] => a
  | d => d
def snd2 : D → D
  | .tup [_, b] => b
  | d => d
theorem rows_fold {names : List Nm} {f : Nm → Int} (nd : names.Nodup) : (rowsI names f).foldl (fun acc d => dputD acc (fst2 d) (snd2 d)) [] = strD (LF names f) := by
  have := fold_LF (f := f) names [] (by simpa using nd)
  rw [List.nil_append] at this
  rw [← this, LF_nil]
  unfold rowsI
  rw [List.foldl_map, List.foldl_map]
  rfl
theorem rows_len (names : List Nm) (f : Nm → Int) : (rowsI names f).length = names.length := List.length_map _
theorem rows_at {names : List Nm} {f : Nm → Int} {i : Nat} {d : D} (h : (rowsI names f)[i]? = some d) : ∃ n, names[i]? = some n ∧ d = .tup [.str n, .int (f n)] := by
  unfold rowsI at h
  rw [List.getElem?_map] at h
  obtain ⟨n, h1, h2⟩ := Option.map_eq_some_iff.mp h
  exact ⟨n, h1, h2.symm⟩
theorem rows_pd {names : List Nm} {f : Nm → Int} : ∀ d ∈ rowsI names f, PD d := by
  intro d hd
  obtain ⟨n, _, rfl⟩ := List.mem_map.mp hd
  exact .i
section
variable {names : List Nm} {es : List Ed} (g : Small names es)
include g
theorem lay_bad {ps : List D} (hl : ps.length = names.length) (hp : ∀ d ∈ ps, PD d) {k : Nat} {d : D} {n : Nm} (h1 : ps[k]? = some d) (h2 : names[k]? = some n) (h3 : pb d n = false) :
    w1 (m_is_layers [.tup (nmD names), .tup (esD es), .tup ps]) (· = .bl false) := by
  have hi := esD_imm es
  have hn := nms_imm names
  have hip : imms ps = true := by rw [imms_all, List.all_eq_true]; exact fun d hd => (hp d hd).imm
  have hq : D.eqv (.int ps.length) (.int (nmD names).length) = true := by
    rw [eqv_int, List.length_map]
    exact decide_eq_true (by omega)
  have h3' : imms [.tup (nmD names), .tup (esD es), .tup ps] = true := by simp only [imms, imm, hi, hn, hip]; rfl
  apply w1_def h3'
  unfold b_is_layers
  refine wS_seq (wS_mono (N := fun e => e = [some (.tup (nmD names)), some (.tup (esD es)), some (.tup ps), none, none, none, none, none]) (R := fun _ _ => False) (B := fun _ => False) (C := fun _ => False) ?_ (fun e he => ?_) (fun _ _ h => h.elim) (fun _ h => h.elim) (fun _ h => h.elim))
  · repeat' walk_at "m"
    rfl
  subst he
  refine wS_seq ?_
  refine lay_walk g hl hp _ _ _ _ (fun _ _ _ _ _ _ _ => rfl) (fun hall => ?_)
  have := hall k d n h1 h2
  rw [h3] at this; cases this
theorem lay_good {f : Nm → Int} (hf : ∀ n ∈ names, 0 ≤ f n) : w1 (m_is_layers [.tup (nmD names), .tup (esD es), .tup (rowsI names f)]) (· = .bl (decide (Kept es f))) := by
  have hi := esD_imm es
  have hn := nms_imm names
  have hnl := g.len
  have hip := rows_imm names f
  have hrl := rows_len names f
  have hq : D.eqv (.int (rowsI names f).length) (.int (nmD names).length) = true := by
    rw [eqv_int, List.length_map]
    exact decide_eq_true (by omega)
  have h3' : imms [.tup (nmD names), .tup (esD es), .tup (rowsI names f)] = true := by simp only [imms, imm, hi, hn, hip]; rfl
  apply w1_def h3'
  unfold b_is_layers
  refine wS_seq (wS_mono (N := fun e => e = [some (.tup (nmD names)), some (.tup (esD es)), some (.tup (rowsI names f)), none, none, none, none, none]) (R := fun _ _ => False) (B := fun _ => False) (C := fun _ => False) ?_ (fun e he => ?_) (fun _ _ h => h.elim) (fun _ h => h.elim) (fun _ h => h.elim))
  · repeat' walk_at "m"
    rfl
  subst he
  refine wS_seq ?_
  refine lay_walk g hrl rows_pd _ _ _ _ (fun k d n e h1 h2 h3 => ?_) (fun _ x3 => ?_)
  · obtain ⟨n', h4, rfl⟩ := rows_at h1
    rw [h2] at h4; cases h4
    have := hf n (mem_get h2)
    simp [pb] at h3
    omega
  refine wS_seq (wS_set (w2_dcomp fst2 snd2 ?_))
  refine w2_wV (w2_own (w1_var rfl ⟨hip, rowsI names f, if_pos hip, fits_of (by omega), fun d hd => ?_, ?_⟩))
  · obtain ⟨n, hm, rfl⟩ := List.mem_map.mp hd
    repeat' walk_at "m"
    all_goals rfl
  rw [rows_fold g.nd]
  repeat' walk_at "m"
  refine wS_forV (ds := esD es) rfl (if_pos hi) hi ?_
  refine wS_loop0 (fun i e => Hold (∃ (x5 : Option D), (∀ (k : Nat) (e : Ed), k < i → es[k]? = some e → f e.2.1 + (b2 e.2.2 : Nat) ≤ f e.1) ∧ e = [some (.tup (nmD names)), some (.tup (esD es)), some (.tup (rowsI names f)), x3, some (.dct (strD (LF names f))), x5, none, none])) _ ⟨_, fun k e hk => by omega, rfl⟩ (fun i d e hd hI => ?_) (fun e hI => ?_)
  · obtain ⟨x5, hall, rfl⟩ := hI
    obtain ⟨e, he, rfl⟩ := ed_at hd
    have hm := mem_get he
    have hie : imm (edD e) = true := rfl
    repeat' walk_at "m"
    refine wD_mono (kept_ok (g.up e hm) (g.lo e hm)) fun d os hk => ?_
    obtain ⟨rfl, rfl⟩ := hk
    refine ⟨_, _, rfl, ?_⟩
    repeat' walk_at "m"
    · rename_i q
      refine congrArg D.bl (Eq.symm (decide_eq_false fun z => ?_))
      have := z e hm
      simp at q
      omega
    · rename_i q
      have q : f e.2.1 + (b2 e.2.2 : Nat) ≤ f e.1 := by simpa using q
      refine ⟨_, fun k e' hk h1 => ?_, rfl⟩
      by_cases hki : k = i
      · subst hki
        rw [he] at h1; cases h1
        exact q
      · exact hall k e' (by omega) h1
  · obtain ⟨x5, hall, rfl⟩ := hI
    rw [List.length_map] at hall
    repeat' walk_at "m"
    refine congrArg D.bl (Eq.symm (decide_eq_true fun e he => ?_))
    obtain ⟨k, hk⟩ := List.getElem?_of_mem he
    exact hall k e (List.getElem?_eq_some_iff.mp hk).1 hk
theorem keeps_ok {f : Nm → Int} : w1 (m__law_keeps [.tup (rowsI names f), .tup (esD es)]) (· = .bl (decide (Kept es f))) := by
  have hi := esD_imm es
  have hnl := g.len
  have hip := rows_imm names f
  have hrl := rows_len names f
  apply w1_def (by simp only [imms, imm, hi, hip]; rfl)
  unfold b__law_keeps
  repeat' walk_at "m"
  refine wS_forV (ds := rowsI names f) rfl (if_pos hip) hip ?_
  refine wS_loop0 (fun j e => Hold (∃ (x3 x4 : Option D), e = [some (.tup (rowsI names f)), some (.tup (esD es)), some (.dct (strD (LF (names.take j) f))), x3, x4, none, none, none])) _ ⟨_, _, rfl⟩ (fun j d e hd hI => ?_) (fun e hI => ?_)
  · obtain ⟨x3, x4, rfl⟩ := hI
    obtain ⟨n, hj, rfl⟩ := rows_at hd
    have hjl := (List.getElem?_eq_some_iff.mp hj).1
    have hS : (LF (names.take j) f).length ≤ 1000000 := by rw [LF_len, List.length_take]; omega
    have hnot : n ∉ names.take j := by
      intro z
      obtain ⟨i, hi1, hi2⟩ := List.mem_take_iff_getElem.mp z
      obtain ⟨hj1, hj2⟩ := List.getElem?_eq_some_iff.mp hj
      exact List.pairwise_iff_getElem.mp g.nd i j (by omega) hj1 (by omega) (hi2.trans hj2.symm)
    have hp : putL (LF (names.take j) f) n (.int (f n)) = LF (names.take (j + 1)) f := by
      rw [List.take_add_one, hj]
      exact put_LFnew hnot
    repeat' walk_at "m"
    rw [hp]
    exact ⟨_, _, rfl⟩
  · obtain ⟨x3, x4, rfl⟩ := hI
    rw [hrl, List.take_length]
    repeat' walk_at "m"
    refine wS_forV (ds := esD es) rfl (if_pos hi) hi ?_
    refine wS_loop0 (fun i e => Hold (∃ (x5 x6 x7 : Option D), (∀ (k : Nat) (e : Ed), k < i → es[k]? = some e → f e.2.1 + (b2 e.2.2 : Nat) ≤ f e.1) ∧ e = [some (.tup (rowsI names f)), some (.tup (esD es)), some (.dct (strD (LF names f))), x3, x4, x5, x6, x7])) _ ⟨_, _, _, fun k e hk => by omega, rfl⟩ (fun i d e hd hI => ?_) (fun e hI => ?_)
    · obtain ⟨x5, x6, x7, hall, rfl⟩ := hI
      obtain ⟨e, he, rfl⟩ := ed_at hd
      have hm := mem_get he
      have hup := lk_LF (f := f) (g.up e hm)
      have hlo := lk_LF (f := f) (g.lo e hm)
      have hb := b2_int e.2.2
      obtain ⟨u, l, a⟩ := e
      simp only at hup hlo hb
      show w0 (gT [5, 6, 7] (.tup [.str u, .str l, .bl a]) _) _
      repeat' walk_at "m"
      · rename_i q
        refine congrArg D.bl (Eq.symm (decide_eq_false fun z => ?_))
        have := z (u, l, a) hm
        simp only at this
        rw [hb] at this
        first | omega | (simp at q; omega)
      · rename_i q
        refine ⟨_, _, _, fun k e' hk h1 => ?_, rfl⟩
        by_cases hki : k = i
        · subst hki
          rw [he] at h1; cases h1
          simp only
          rw [hb]
          first | omega | (simp at q; omega)
        · exact hall k e' (by omega) h1
    · obtain ⟨x5, x6, x7, hall, rfl⟩ := hI
      rw [List.length_map] at hall
      repeat' walk_at "m"
      refine congrArg D.bl (Eq.symm (decide_eq_true fun e he => ?_))
      obtain ⟨k, hk⟩ := List.getElem?_of_mem he
      exact hall k e (List.getElem?_eq_some_iff.mp hk).1 hk
end

/-! ### pieces of tuples -/
theorem imms_take {ds : List D} (h : imms ds = true) (k : Nat) : imms (ds.take k) = true := by
  rw [imms_all, List.all_eq_true] at h ⊢
  exact fun x m => h x (List.mem_of_mem_take m)
theorem imms_drop {ds : List D} (h : imms ds = true) (k : Nat) : imms (ds.drop k) = true := by
  rw [imms_all, List.all_eq_true] at h ⊢
  exact fun x m => h x (List.mem_of_mem_drop m)
theorem imms_app {a b : List D} (h : imms a = true) (k : imms b = true) : imms (a ++ b) = true := by
  rw [imms_all, List.all_eq_true] at h k ⊢
  intro x m
  rcases List.mem_append.mp m with m | m
  · exact h x m
  · exact k x m
theorem w0_cutTo {ds : List D} {k : Int} {Q : D → Prop} (h : imms ds = true) (hk : 0 ≤ k) (q : Q (.tup (ds.take k.toNat))) : w0 (fCut (.tup ds) none (some k)) Q := w0_cutT h (by rw [cutL_to hk]; exact q)
theorem w0_cutFrom {ds : List D} {k : Int} {Q : D → Prop} (h : imms ds = true) (hk : 0 ≤ k) (q : Q (.tup (ds.drop k.toNat))) : w0 (fCut (.tup ds) (some k) none) Q := w0_cutT h (by rw [cutL_from hk]; exact q)
theorem w0_cutLast {ds : List D} {Q : D → Prop} (h : imms ds = true) (q : Q (.tup (ds.take (ds.length - 1)))) : w0 (fCut (.tup ds) none (some (-1))) Q := w0_cutT h (by
  have : cutL ds none (some (-1)) = ds.take (ds.length - 1) := by
    unfold cutL
    rw [HT.sIx_none, List.drop_zero, Nat.sub_zero]
    congr 1
    show (if (-1 : Int) < 0 then ((-1 : Int) + (ds.length : Int)).toNat else min (-1 : Int).toNat ds.length) = _
    rw [if_pos (by decide)]; omega
  rw [this]; exact q)
theorem w0_addT {a b : List D} {Q : D → Prop} (h : imms a = true) (k : imms b = true) (hl : a.length + b.length ≤ 16777216) (q : Q (.tup (a ++ b))) : w0 (fAdd (.tup a) (.tup b)) Q :=
  w0_of (show (if imms a = true ∧ imms b = true ∧ fits (a.length + b.length) = true then some (D.tup (a ++ b)) else none) = _ by rw [if_pos ⟨h, k, fits_of hl⟩]) q
theorem w0_ixLp {ds : List D} {i : Int} {Q : D → Prop} (p : D → Prop) (h : 0 ≤ i) (h1 : i < ds.length) (hp : ∀ d ∈ ds, p d) (q : ∀ d, p d → Q d) : w0 (fIx (.lst ds) (.int i)) Q := w0_ixL h h1 fun d hd => q d (ix_mem hp hd)
theorem w0_ixT0 {a : D} {r : List D} {Q : D → Prop} (q : Q a) : w0 (fIx (.tup (a :: r)) (.int 0)) Q :=
  w0_ixT (by decide) (by simp only [List.length_cons]; omega) fun d hd => by
    have : d = a := by simpa using hd.symm
    rw [this]; exact q
theorem same_yes {a e : D} (he : pt 9 e = true) (h : a = e) : w1 (m__law_same 10 [a, e]) (· = .bl true) := by
  subst h
  exact w1_mono (same_ok 9 9 a a he he) fun d ⟨b, e1, hb⟩ => by rw [e1, hb.mpr rfl]
theorem w0_isntB {a b : Bool} {Q : D → Prop} (q : Q (.bl (!(a == b)))) : w0 (fIsnt (.bl a) (.bl b)) Q := w0_of (by cases a <;> cases b <;> rfl) q
theorem w0_isB {a b : Bool} {Q : D → Prop} (q : Q (.bl (a == b))) : w0 (fIs (.bl a) (.bl b)) Q := w0_of (by cases a <;> cases b <;> rfl) q
local macro_rules | `(tactic| walk_at "im") => `(tactic| first
  | with_reducible assumption | exact rfl | (with_reducible refine imms_take ?_ _; walk_at "im") | (with_reducible refine imms_drop ?_ _; walk_at "im") | (with_reducible refine imms_app ?_ ?_ <;> walk_at "im") | (simp [imms, imm, *]; done))
local macro_rules | `(tactic| walk_at "m0") => `(tactic| first
  | ((with_reducible refine w0_cutTo ?_ ?_ ?_); (focus (walk_at "im")); (focus omega))
  | ((with_reducible refine w0_cutFrom ?_ ?_ ?_); (focus (walk_at "im")); (focus omega))
  | ((with_reducible refine w0_cutLast ?_ ?_); (focus (walk_at "im")))
  | ((with_reducible refine w0_addT ?_ ?_ ?_ ?_); (focus (walk_at "im")); (focus (walk_at "im")); (focus (first | omega | (simp only [List.length_append, List.length_take, List.length_drop, List.length_cons, List.length_nil]; omega))))
  | with_reducible apply w0_isntB | with_reducible apply w0_isB
  | (with_reducible refine w0_of (by with_reducible assumption) ?_))
local macro_rules | `(tactic| walk_at "m1") => `(tactic| with_reducible refine w1_eq (by with_reducible assumption) ?_)

/-! ### the law's judges of layers -/
theorem row_set {names : List Nm} {f : Nm → Int} {i : Nat} {n : Nm} {c : Int} (nd : names.Nodup) (h : names[i]? = some n) : (rowsI names f).take i ++ [D.tup [.str n, .int c]] ++ (rowsI names f).drop (i + 1) = rowsI names (putI f n c) := by
  apply List.ext_getElem?
  intro j
  have hil : i < names.length := (List.getElem?_eq_some_iff.mp h).1
  have hl := rows_len names f
  have ht : ((rowsI names f).take i).length = i := by rw [List.length_take, hl]; omega
  have hR : ∀ (F : Nm → Int) (j : Nat), (rowsI names F)[j]? = (names[j]?).map fun n => .tup [.str n, .int (F n)] := fun F j => by unfold rowsI; rw [List.getElem?_map]
  rw [hR]
  rcases Nat.lt_trichotomy j i with hj | hj | hj
  · rw [List.append_assoc, List.getElem?_append_left (by omega), List.getElem?_take_of_lt hj, hR]
    cases hm : names[j]? with
    | none => rfl
    | some m =>
      have hne : m ≠ n := fun z => by
        subst z
        obtain ⟨a1, a2⟩ := List.getElem?_eq_some_iff.mp hm
        obtain ⟨b1, b2⟩ := List.getElem?_eq_some_iff.mp h
        exact List.pairwise_iff_getElem.mp nd j i a1 b1 hj (a2.trans b2.symm)
      simp [putI, hne]
  · subst hj
    rw [List.getElem?_append_left (by simp; omega), List.getElem?_append_right (by omega), ht, Nat.sub_self, h]
    simp [putI]
  · rw [List.getElem?_append_right (by simp; omega)]
    have e1 : j - ((rowsI names f).take i ++ [D.tup [.str n, .int c]]).length = j - (i + 1) := by simp [ht]
    rw [e1, List.getElem?_drop, show i + 1 + (j - (i + 1)) = j by omega, hR]
    cases hm : names[j]? with
    | none => rfl
    | some m =>
      have hne : m ≠ n := fun z => by
        subst z
        obtain ⟨a1, a2⟩ := List.getElem?_eq_some_iff.mp hm
        obtain ⟨b1, b2⟩ := List.getElem?_eq_some_iff.mp h
        exact List.pairwise_iff_getElem.mp nd i j b1 a1 hj (b2.trans a2.symm)
      simp [putI, hne]
section
variable {names : List Nm} {es : List Ed} (g : Small names es)
include g
theorem near_ok {f : Nm → Int} (hf : ∀ n ∈ names, 0 ≤ f n) {i : Nat} {n : Nm} (hn : names[i]? = some n) (c : Int) :
    w1 (m_is_layers [.tup (nmD names), .tup (esD es), .tup (rowsI names (putI f n c))]) (· = .bl (decide (0 ≤ c) && decide (Kept es (putI f n c)))) := by
  by_cases hc : 0 ≤ c
  · rw [decide_eq_true hc, Bool.true_and]
    refine lay_good g fun m hm => ?_
    unfold putI
    split
    · exact hc
    · exact hf m hm
  · rw [decide_eq_false hc, Bool.false_and]
    have hr : (rowsI names (putI f n c))[i]? = some (.tup [.str n, .int c]) := by
      unfold rowsI
      rw [List.getElem?_map, hn]
      simp [putI]
    exact lay_bad g (rows_len _ _) rows_pd hr hn (by simp [pb]; omega)
def NotL (names : List Nm) (es : List Ed) (d : D) : Prop := imm d = true ∧ m_is_layers [.tup (nmD names), .tup (esD es), d] = .ok (.bl false)
theorem wrong_l {f : Nm → Int} {i : Nat} {n : Nm} (hn : names[i]? = some n) (b : Bool) : NotL names es (.tup ((rowsI names f).take i ++ [D.tup [.str n, .bl b]] ++ (rowsI names f).drop (i + 1))) := by
  have hil : i < names.length := (List.getElem?_eq_some_iff.mp hn).1
  have hl := rows_len names f
  have hri := rows_imm names f
  have ht : ((rowsI names f).take i).length = i := by rw [List.length_take, hl]; omega
  refine ⟨imms_app (imms_app (imms_take hri _) rfl) (imms_drop hri _), w1_is (lay_bad g (k := i) (d := .tup [.str n, .bl b]) (n := n) ?_ ?_ ?_ hn rfl)⟩
  · simp only [List.length_append, List.length_take, List.length_drop, List.length_cons, List.length_nil, hl]; omega
  · intro d hd
    rcases List.mem_append.mp hd with hd | hd
    · rcases List.mem_append.mp hd with hd | hd
      · exact rows_pd d (List.mem_of_mem_take hd)
      · rw [List.mem_singleton.mp hd]; exact .b
    · exact rows_pd d (List.mem_of_mem_drop hd)
  · rw [List.getElem?_append_left (by simp; omega), List.getElem?_append_right (by omega), ht, Nat.sub_self]; rfl
theorem short_l {f : Nm → Int} (h : 0 < names.length) : NotL names es (.tup ((rowsI names f).take ((rowsI names f).length - 1))) := by
  have hl := rows_len names f
  have hri := rows_imm names f
  refine ⟨imms_take hri _, w1_is (lay_size g (imms_take hri _) ?_)⟩
  rw [List.length_take]; omega
theorem long_l {f : Nm → Int} {d : D} (hd : imm d = true) : NotL names es (.tup (rowsI names f ++ [d])) := by
  have hl := rows_len names f
  have hi : imms (rowsI names f ++ [d]) = true := imms_app (rows_imm names f) (by simp [imms, hd])
  refine ⟨hi, w1_is (lay_size g hi ?_)⟩
  rw [List.length_append, List.length_singleton]; omega
theorem list_l {f : Nm → Int} : NotL names es (.rol (rowsI names f)) := ⟨rows_imm names f, w1_is (lay_rol g _ (rows_imm names f))⟩
theorem turned_l {f : Nm → Int} (h : 1 < names.length) : NotL names es (.tup ((rowsI names f).drop 1 ++ (rowsI names f).take 1)) := by
  have hl := rows_len names f
  have hri := rows_imm names f
  obtain ⟨a, b, r, rfl⟩ : ∃ a b r, names = a :: b :: r := by
    match names, h with
    | a :: b :: r, _ => exact ⟨a, b, r, rfl⟩
  have hne : b ≠ a := fun z => by
    have := g.nd
    simp [z] at this
  refine ⟨imms_app (imms_drop hri _) (imms_take hri _), w1_is (lay_bad g (k := 0) (d := .tup [.str b, .int (f b)]) (n := a) ?_ ?_ rfl rfl (by simp [pb, hne]))⟩
  · simp only [List.length_append, List.length_take, List.length_drop, hl]; omega
  · intro d hd
    rcases List.mem_append.mp hd with hd | hd
    · exact rows_pd d (List.mem_of_mem_drop hd)
    · exact rows_pd d (List.mem_of_mem_take hd)
end

theorem ix_row {names : List Nm} {f : Nm → Int} {r : Int} (h : 0 ≤ r) (h1 : r < names.length) : ∃ n, names[r.toNat]? = some n ∧ fIx (.tup (rowsI names f)) (.int r) = some (.tup [.str n, .int (f n)]) := by
  obtain ⟨d, e1, e2⟩ := atI_in (ds := rowsI names f) h (by rw [rows_len]; exact h1)
  obtain ⟨n, hn, rfl⟩ := rows_at e2
  exact ⟨n, hn, e1⟩
noncomputable def jl_b : MS := (mSeq (mSet 11 (calE fTuple (acons (eComp (wV (own (bVar 3))) (gT [12, 13]) tY (ofN (dTup (aCons (bVar 12) (aCons (bin fAdd (bVar 13) (bC (.int 3))) aNil)))) (([("name", 12), ("layer", 13)] : List (PySem.Str × Nat)).map (·.2))) anil)))
  (mRet (ofN (andB (bin fIs (cN m_is_layers (aCons (bVar 1) (aCons (bVar 2) (aCons (bVar 3) aNil)))) (bC (.bl true))) (bin fIs (cN m_is_layers (aCons (bVar 1) (aCons (bVar 2) (aCons (bVar 11) aNil)))) (bC (.bl true)))))))
noncomputable def jl_a : MS := (mSeq (mIf (notT (tst (ofN (cN (m__law_same 10) (aCons (cN m_is_layers (aCons (bVar 1) (aCons (bVar 2) (aCons (bVar 6) aNil)))) (aCons (bVar 7) aNil))))))
  (mRet (ofN (bC (.bl false))))
  mNil)
  (mSeq (mSet 8 (ofN (bin fAdd (bin fAdd (cut (bVar 3) none (some (bVar 4))) (dTup (aCons (dTup (aCons (bin fIx (bin fIx (bVar 3) (bVar 4)) (bC (.int 0))) (aCons (bin fEq (bin fIx (bin fIx (bVar 3) (bVar 4)) (bC (.int 1))) (bC (.int 1))) aNil))) aNil))) (cut (bVar 3) (some (bin fAdd (bVar 4) (bC (.int 1)))) none))))
  (mSeq (mSet 9 (dLstE (acons (own (bVar 8)) (acons (ofN (cut (bVar 3) none (some (un fNeg (bC (.int 1)))))) (acons (ofN (bin fAdd (bVar 3) (dTup (aCons (bin fIx (bVar 3) (bC (.int 0))) aNil)))) (acons (frz (ofN (cal fList (aCons (bVar 3) aNil)))) (acons (ofN (bC .non)) (acons (ofN (bC (.int 7))) anil))))))))
  (mSeq (mIf (tst (binE fIsnt (cE m_is_layers (acons (own (bVar 1)) (acons (own (bVar 2)) (acons (binV (immF fIx) 9 (eIO [0] m__law_take (acons (ofN (bC (.int 6))) anil))) anil)))) (ofN (bC (.bl false)))))
  (mRet (ofN (bC (.bl false))))
  mNil)
  (mIf (tst (ofN (bin fGt (cal fLen (aCons (bVar 1) aNil)) (bC (.int 1)))))
  (mSeq (mSet 10 (ofN (bin fAdd (cut (bVar 3) (some (bC (.int 1))) none) (cut (bVar 3) none (some (bC (.int 1)))))))
  (mIf (tst (ofN (bin fIsnt (cN m_is_layers (aCons (bVar 1) (aCons (bVar 2) (aCons (bVar 10) aNil)))) (bC (.bl false)))))
  (mRet (ofN (bC (.bl false))))
  mNil))
  mNil)))))
theorem jlb_ok {names : List Nm} {es : List Ed} (g : Small names es) {f : Nm → Int} (hf : ∀ n ∈ names, 0 ≤ f n) (hk : Kept es f) {j : D} {x4 x5 x6 x7 x8 x9 x10 : Option D} :
    wS (jl_b [some j, some (.tup (nmD names)), some (.tup (esD es)), some (.tup (rowsI names f)), x4, x5, x6, x7, x8, x9, x10, none, none, none]) (fun _ => False) (fun d e => Hold (d = .bl true ∧ ∃ r, e = some j :: some (.tup (nmD names)) :: some (.tup (esD es)) :: some (.tup (rowsI names f)) :: r)) (fun _ => False) (fun _ => False) := by
  have hi := esD_imm es
  have hn := nms_imm names
  have hnl := g.len
  have hri := rows_imm names f
  have hrl := rows_len names f
  have k1 := w1_is (lay_good g hf)
  rw [decide_eq_true hk] at k1
  have hf3 : ∀ n ∈ names, 0 ≤ f n + 3 := fun n h => by have := hf n h; omega
  have hk3 : Kept es fun v => f v + 3 := fun e he => by have := hk e he; simp only; omega
  have k2 := w1_is (lay_good g hf3)
  rw [decide_eq_true hk3] at k2
  have i1 : imms [.tup (nmD names), .tup (esD es), .tup (rowsI names f)] = true := by simp only [imms, imm, hi, hn, hri]; rfl
  have i2 : imms [.tup (nmD names), .tup (esD es), .tup (rowsI names fun v => f v + 3)] = true := by simp only [imms, imm, hi, hn, rows_imm]; rfl
  unfold jl_b
  refine wS_seq (wS_set (w2_cal (w2_cons (w2_comp (fun d => match d with | .tup [a, .int i] => .tup [a, .int (i + 3)] | d => d) ?_))))
  refine w2_wV (w2_own (w1_var rfl ⟨hri, rowsI names f, if_pos hri, fits_of (by omega), fun d hd => ?_, ?_⟩))
  · obtain ⟨n, hm, rfl⟩ := List.mem_map.mp hd
    repeat' walk_at "m"
    all_goals rfl
  have e1 : (rowsI names f).map (fun d => match d with | .tup [a, .int i] => .tup [a, .int (i + 3)] | d => d) = rowsI names fun v => f v + 3 := by
    unfold rowsI; rw [List.map_map]; rfl
  rw [e1]
  refine w2_nil (w0_tupR ?_)
  show wS _ _ _ _ _
  repeat' walk_at "m"
  exact ⟨rfl, _, rfl⟩
theorem jla_ok {names : List Nm} {es : List Ed} (g : Small names es) (hne : 0 < names.length) {f : Nm → Int} (hf : ∀ n ∈ names, 0 ≤ f n) {j : D} (hj : Jar j) {r : Int} (hr0 : 0 ≤ r) (hr1 : r < names.length) {n : Nm} (hn2 : names[r.toNat]? = some n)
    (hrow : fIx (.tup (rowsI names f)) (.int r) = some (.tup [.str n, .int (f n)])) {c : Int} :
    wS (jl_a [some j, some (.tup (nmD names)), some (.tup (esD es)), some (.tup (rowsI names f)), some (.int r), some (.int c), some (.tup (rowsI names (putI f n c))), some (.bl (decide (0 ≤ c) && decide (Kept es (putI f n c)))), none, none, none, none, none, none])
      (fun e => Hold (∃ j' x8 x9 x10, Jar j' ∧ e = [some j', some (.tup (nmD names)), some (.tup (esD es)), some (.tup (rowsI names f)), some (.int r), some (.int c), some (.tup (rowsI names (putI f n c))), some (.bl (decide (0 ≤ c) && decide (Kept es (putI f n c)))), x8, x9, x10, none, none, none])) (fun _ _ => False) (fun _ => False) (fun _ => False) := by
  have hi := esD_imm es
  have hn := nms_imm names
  have hnl := g.len
  have hll : (nmD names).length = names.length := List.length_map _
  have hri := rows_imm names f
  have hrl := rows_len names f
  have hri2 := rows_imm names (putI f n c)
  have k1 := w1_is (near_ok g hf hn2 c)
  have i1 : imms [.tup (nmD names), .tup (esD es), .tup (rowsI names (putI f n c))] = true := by simp only [imms, imm, hi, hn, hri2]; rfl
  have s1 : ∀ b : Bool, m__law_same 10 [.bl b, .bl b] = .ok (.bl true) := fun b => w1_is (same_yes rfl rfl)
  have s1 := s1 (decide (0 ≤ c) && decide (Kept es (putI f n c)))
  generalize (decide (0 ≤ c) && decide (Kept es (putI f n c))) = due at k1 s1 ⊢
  have e1 : (r + 1).toNat = r.toNat + 1 := by omega
  unfold jl_a
  repeat' (first | walk_at "m" | walk_at "t")
  rw [e1]
  have hw := wrong_l g hn2 (f := f) (D.eqv (.int (f n)) (.int 1))
  have hlist : fList [.tup (rowsI names f)] = some (.lst (rowsI names f)) := if_pos hri
  generalize D.tup ((rowsI names f).take r.toNat ++ [D.tup [.str n, .bl (D.eqv (.int (f n)) (.int 1))]] ++ (rowsI names f).drop (r.toNat + 1)) = wr at hw ⊢
  have hwi := hw.1
  repeat' (first | walk_at "m" | walk_at "t")
  refine w0_ixT (by omega) (by omega) fun d0 hd0 => ?_
  have hd0i : imm d0 = true := by
    obtain ⟨m, _, rfl⟩ := rows_at hd0
    rfl
  have hlong := long_l g (f := f) hd0i
  have hshort := short_l g (f := f) hne
  have hls := list_l g (f := f)
  repeat' (first | walk_at "m" | walk_at "t")
  rename_i r6 j6 a6 b6 hj6
  refine w0_ixLp (NotL names es) a6 (by simp only [List.length_cons, List.length_nil]; omega) (by intro d hd; simp only [List.mem_cons, List.not_mem_nil, or_false] at hd; rcases hd with rfl | rfl | rfl | rfl | rfl | rfl; exact hw; exact hshort; exact hlong; exact hls; exact ⟨rfl, w1_is (lay_non g)⟩; exact ⟨rfl, w1_is (lay_int g 7)⟩) (fun d hd => ?_)
  obtain ⟨hdi, hd2⟩ := hd
  have i2 : imms [.tup (nmD names), .tup (esD es), d] = true := by simp only [imms, imm, hi, hn, hdi]; rfl
  repeat' (first | walk_at "m" | walk_at "t")
  · rename_i hc
    have hc : 1 < names.length := by
      have h0 : (1 : Int) < ((nmD names).length : Nat) := by simpa using hc
      omega
    obtain ⟨ht1, ht2⟩ := turned_l g (f := f) hc
    have ht2 : m_is_layers [.tup (nmD names), .tup (esD es), .tup ((rowsI names f).drop (Int.toNat 1) ++ (rowsI names f).take (Int.toNat 1))] = .ok (.bl false) := ht2
    have i3 : imms [.tup (nmD names), .tup (esD es), .tup ((rowsI names f).drop (Int.toNat 1) ++ (rowsI names f).take (Int.toNat 1))] = true := by
      have ht1 : imms ((rowsI names f).drop (Int.toNat 1) ++ (rowsI names f).take (Int.toNat 1)) = true := ht1
      simp only [imms, imm, hi, hn, ht1]; rfl
    repeat' (first | walk_at "m" | walk_at "t")
    exact ⟨_, _, _, _, hj6, rfl⟩
  · exact ⟨_, _, _, _, hj6, rfl⟩
theorem outs4 {d0 j : D} {ds es rs : List D} {r : E} (h1 : imms ds = true) (h2 : imms es = true) (h3 : imms rs = true) :
    outsOf (fun i => i == 0) 0 [d0, .tup ds, .tup es, .tup rs] (some j :: some (.tup ds) :: some (.tup es) :: some (.tup rs) :: r) = some [j, .tup ds, .tup es, .tup rs] := by
  simp [outsOf, imm, h1, h2, h3]
theorem judges_lay {names : List Nm} {es : List Ed} (g : Small names es) (hne : 0 < names.length) {f : Nm → Int} (hf : ∀ n ∈ names, 0 ≤ f n) (hk : Kept es f) {jar : D} (hj : Jar jar) :
    wD (m__law_judges_layers [jar, .tup (nmD names), .tup (esD es), .tup (rowsI names f)]) (fun d os => Hold (d = .bl true ∧ ∃ o r, os = o :: r)) := by
  have hi := esD_imm es
  have hn := nms_imm names
  have hnl := g.len
  have hll : (nmD names).length = names.length := List.length_map _
  have hri := rows_imm names f
  have hrl := rows_len names f
  apply wD_def
  show wS (mSeq (mIf _ (mSeq _ (mSeq _ (mSeq _ (mSeq _ jl_a)))) mNil) jl_b _) _ _ _ _
  repeat' (first | walk_at "m" | walk_at "t")
  rename_i r j1 hr0 hr1 hj1
  obtain ⟨n, hn2, hrow⟩ := ix_row (names := names) (f := f) hr0 (by omega)
  repeat' (first | walk_at "m" | walk_at "t")
  rename_i r2 j2 hr2 hr3 hj2
  refine w0_ixLp (fun d => ∃ v : Int, d = .int v) hr2 (by simp only [List.length_cons, List.length_nil]; omega) (by intro d hd; simp at hd; rcases hd with rfl | rfl | rfl <;> exact ⟨_, rfl⟩) (fun d ⟨v, e⟩ => ?_)
  subst e
  repeat' (first | walk_at "m" | walk_at "t")
  all_goals rw [show (r + 1).toNat = r.toNat + 1 by omega, row_set g.nd hn2]
  · rename_i hc
    have hc : 0 ≤ f n + v := by simpa using hc
    have hk2 := w1_is (keeps_ok g (f := putI f n (f n + v)))
    have hri2 := rows_imm names (putI f n (f n + v))
    refine ⟨by simp only [imms, imm, hi, hri2]; rfl, ?_⟩
    rw [hk2]
    refine w1_ok ⟨_, rfl, ?_⟩
    have hdue : decide (Kept es (putI f n (f n + v))) = (decide (0 ≤ f n + v) && decide (Kept es (putI f n (f n + v)))) := by rw [decide_eq_true hc, Bool.true_and]
    rw [hdue]
    refine wS_mono (jla_ok g hne hf hj2 hr0 (by omega) hn2 hrow) (fun e he => ?_) (fun _ _ h => h.elim) (fun _ h => h.elim) (fun _ h => h.elim)
    obtain ⟨j', x8, x9, x10, hj', rfl⟩ := he
    refine wS_mono (jlb_ok g hf hk) (fun _ h => h.elim) (fun d e he => ?_) (fun _ h => h.elim) (fun _ h => h.elim)
    obtain ⟨rfl, r', rfl⟩ := he
    exact w0_of (outs4 hn hi hri) ⟨rfl, _, _, rfl⟩
  · rename_i hc
    have hc : ¬ 0 ≤ f n + v := by simpa using hc
    have hdue : false = (decide (0 ≤ f n + v) && decide (Kept es (putI f n (f n + v)))) := by rw [decide_eq_false hc, Bool.false_and]
    rw [hdue]
    refine wS_mono (jla_ok g hne hf hj2 hr0 (by omega) hn2 hrow) (fun e he => ?_) (fun _ _ h => h.elim) (fun _ h => h.elim) (fun _ h => h.elim)
    obtain ⟨j', x8, x9, x10, hj', rfl⟩ := he
    refine wS_mono (jlb_ok g hf hk) (fun _ h => h.elim) (fun d e he => ?_) (fun _ h => h.elim) (fun _ h => h.elim)
    obtain ⟨rfl, r', rfl⟩ := he
    exact w0_of (outs4 hn hi hri) ⟨rfl, _, _, rfl⟩

/-! ### judging circles -/
theorem ed_eqv (a b : Ed) : D.eqv (edD a) (edD b) = decide (a = b) := by
  obtain ⟨u, l, c⟩ := a
  obtain ⟨u', l', c'⟩ := b
  rw [Bool.eq_iff_iff, decide_eq_true_iff]
  simp [edD]
theorem any_ed (es : List Ed) (e : Ed) : anyEq (esD es) (edD e) = decide (e ∈ es) := by
  unfold anyEq esD
  rw [List.any_map, Bool.eq_iff_iff, List.any_eq_true, decide_eq_true_iff]
  constructor
  · rintro ⟨x, hx, h⟩
    have h : D.eqv (edD x) (edD e) = true := h
    rw [ed_eqv] at h
    rw [← of_decide_eq_true h]; exact hx
  · intro h
    exact ⟨e, h, by show D.eqv (edD e) (edD e) = true; rw [ed_eqv]; exact decide_eq_true rfl⟩
theorem sh_es (n : Nat) (es : List Ed) : (esD es).all (sh (n + 1)) = true := by
  rw [List.all_map, List.all_eq_true]
  intro x _; cases n <;> rfl
theorem w0_inE {es : List Ed} {e : Ed} {Q : D → Prop} (q : Q (.bl (decide (e ∈ es)))) : w0 (fIn (edD e) (.tup (esD es))) Q := by
  refine w0_of (show (if sh 39 (edD e) = true ∧ sh 40 (.tup (esD es)) = true then some (D.bl (anyEq (esD es) (edD e))) else none) = _ from ?_) q
  rw [if_pos ⟨rfl, sh_es 38 es⟩, any_ed]
theorem w0_ninE {es : List Ed} {e : Ed} {Q : D → Prop} (q : Q (.bl (!decide (e ∈ es)))) : w0 (fNotIn (edD e) (.tup (esD es))) Q := by
  refine w0_of (show (if sh 39 (edD e) = true ∧ sh 40 (.tup (esD es)) = true then some (D.bl (!anyEq (esD es) (edD e))) else none) = _ from ?_) q
  rw [if_pos ⟨rfl, sh_es 38 es⟩, any_ed]
local macro_rules | `(tactic| walk_at "m0") => `(tactic| first | with_reducible apply w0_inE | with_reducible apply w0_ninE)
/-- what may stand in a circle -/
inductive CD : D → Prop
  | e (e : Ed) : CD (edD e)
  | i {a b : Nm} {i : Int} : CD (.tup [.str a, .str b, .int i])
  | n : CD .non
  | t {c : List Ed} : CD (.tup (esD c))
def oneOf (es : List Ed) : D → Bool
  | .tup [.str u, .str l, .bl a] => decide ((u, l, a) ∈ es)
  | _ => false
theorem CD.imm {d : D} (h : CD d) : imm d = true := by
  cases h with
  | t => exact esD_imm _
  | _ => rfl
theorem one_ok {es : List Ed} {d : D} (h : CD d) : w1 (m_is_one_of [.tup (esD es), d]) (· = .bl (oneOf es d)) := by
  have hi := esD_imm es
  have hdi := h.imm
  cases h with
  | e e =>
    apply w1_def (by simp [imms, imm, hi, hdi])
    unfold b_is_one_of
    obtain ⟨u, l, a⟩ := e
    have e1 : edD (u, l, a) = .tup [.str u, .str l, .bl a] := rfl
    have q1 : fIsi [edD (u, l, a), .raw (.ty "tuple")] = some (.bl true) := rfl
    have q2 : fLen [edD (u, l, a)] = some (.int 3) := rfl
    have q3 : fIsi [.bl a, .raw (.ty "bool")] = some (.bl true) := rfl
    have q4 : D.eqv (.int 3) c_EDGE_SIZE = true := by rw [show c_EDGE_SIZE = .int 3 from rfl]; simp
    repeat' walk_at "m"
    rfl
  | i =>
    apply w1_def (by simp [imms, imm, hi])
    unfold b_is_one_of
    repeat' walk_at "m"
    all_goals rfl
  | n =>
    apply w1_def (by simp [imms, imm, hi])
    unfold b_is_one_of
    repeat' walk_at "m"
    all_goals rfl
  | @t c =>
    have hci := esD_imm c
    have e0 : oneOf es (.tup (esD c)) = false := by
      match c with
      | [] => rfl
      | [a] => rfl
      | [a, b] => rfl
      | [a, b, x] => rfl
      | a :: b :: x :: y :: r => rfl
    rw [e0]
    by_cases h3 : c.length = 3
    · obtain ⟨a, b, x, rfl⟩ : ∃ a b x, c = [a, b, x] := by
        match c, h3 with
        | [a, b, x], _ => exact ⟨a, b, x, rfl⟩
      have h0 : imms [.tup (esD es), .tup (esD [a, b, x])] = true := by
        show (imms (esD es) && (imms (esD [a, b, x]) && true)) = true
        rw [hi, hci]; rfl
      apply w1_def h0
      unfold b_is_one_of
      have q1 : fIx (.tup (esD [a, b, x])) (.int 2) = some (edD x) := rfl
      have q3 : fIsi [edD x, .raw (.ty "bool")] = some (.bl false) := rfl
      repeat' walk_at "m"
      all_goals rfl
    · have hq : D.eqv (.int (esD c).length) (.int 3) = false := by
        rw [eqv_int, List.length_map]
        exact decide_eq_false fun z => h3 (by omega)
      have hii : imms [.tup (esD es), .tup (esD c)] = true := by simp [imms, imm, hi, hci]
      have hz : c_EDGE_SIZE = .int 3 := rfl
      apply w1_def hii
      unfold b_is_one_of
      rw [hz]
      repeat' walk_at "m"
      rfl
theorem oneOf_ed (es : List Ed) (e : Ed) : oneOf es (edD e) = decide (e ∈ es) := rfl
theorem ix_prev {c : List Ed} {k : Nat} (hk : k < c.length) : ∃ y, c[if k = 0 then c.length - 1 else k - 1]? = some y ∧ fIx (.tup (esD c)) (.int ((k : Int) - 1)) = some (edD y) := by
  have hl : (esD c).length = c.length := List.length_map _
  have hm : (if k = 0 then c.length - 1 else k - 1) < c.length := by split <;> omega
  refine ⟨c[if k = 0 then c.length - 1 else k - 1], List.getElem?_eq_getElem hm, ?_⟩
  show atI (esD c) ((k : Int) - 1) = _
  unfold atI ixN
  rw [hl]
  by_cases h0 : k = 0
  · subst h0
    rw [if_neg (by omega), if_pos (by omega)]
    simp only [Option.bind_some, if_true]
    rw [show (((0 : Nat) : Int) - 1 + (c.length : Int)).toNat = c.length - 1 by omega, List.getElem?_map, List.getElem?_eq_getElem (by omega)]
    rfl
  · rw [if_pos (by omega), if_pos (by omega)]
    simp only [Option.bind_some, if_neg h0]
    rw [show ((k : Int) - 1).toNat = k - 1 by omega, List.getElem?_map, List.getElem?_eq_getElem (by omega)]
    rfl
theorem ix_at {c : List Ed} {k : Nat} (hk : k < c.length) : ∃ x, c[k]? = some x ∧ fIx (.tup (esD c)) (.int (k : Nat)) = some (edD x) := by
  obtain ⟨d, e1, e2⟩ := atI_in (ds := esD c) (i := (k : Nat)) (by omega) (by rw [List.length_map]; omega)
  rw [Int.toNat_natCast] at e2
  obtain ⟨x, hx, rfl⟩ := ed_at e2
  exact ⟨x, hx, e1⟩
/-- the turns' test -/
def Nx (c : List Ed) (k : Nat) : Prop := ∀ x y, c[k]? = some x → c[if k = 0 then c.length - 1 else k - 1]? = some y → y.2.1 = x.1
theorem ne_str (a b : Nm) {Q : D → Prop} (q : Q (.bl (!decide (a = b)))) : w0 (fNe (.str a) (.str b)) Q := w0_neD rfl rfl (by rw [eqv_str]; exact q)
local macro_rules | `(tactic| walk_at "m0") => `(tactic| with_reducible apply ne_str)
/-- what both judges say of edges in a row -/
def SaysC (es c : List Ed) (d : D) : Prop := ∃ b, d = .bl b ∧ (b = true ↔ OkC es c)
theorem law_is_circle_ok {es c : List Ed} (hcl : c.length ≤ 1000) : w1 (m__law_is_circle [.tup (esD es), .tup (esD c)]) (SaysC es c) := by
  have hi := esD_imm es
  have hci := esD_imm c
  have h0 : imms [.tup (esD es), .tup (esD c)] = true := by
    show (imms (esD es) && (imms (esD c) && true)) = true
    rw [hi, hci]; rfl
  apply w1_def h0
  unfold b__law_is_circle
  cases c with
  | nil =>
    have q2 : fLen [.tup (esD [])] = some (.int 0) := rfl
    repeat' walk_at "m"
    exact ⟨false, rfl, (fun z => by cases z), fun z => (OkC.ne z rfl).elim⟩
  | cons a r =>
    have q1 : fIx (.tup (esD (a :: r))) (.int 0) = some (edD a) := by
      obtain ⟨x, hx, hq⟩ := ix_at (c := a :: r) (k := 0) (by simp)
      cases hx
      exact hq
    have hq : D.eqv (.int (esD (a :: r)).length) (.int 0) = false := by
      rw [eqv_int]
      exact decide_eq_false fun z => by simp at z; omega
    have hll : (esD (a :: r)).length = (a :: r).length := List.length_map _
    have h00 : (a :: r)[0]? = some a := rfl
    have hne : (a :: r) ≠ [] := by simp
    generalize hcc : a :: r = c at *
    repeat' walk_at "m"
    · rename_i ha
      refine ⟨false, rfl, (fun z => by cases z), fun z => ?_⟩
      have := z.hd a h00
      rw [this] at ha; cases ha
    · rename_i ha
      have ha : a.2.2 = true := by simpa using ha
      rw [hll]
      refine wS_loop0 (fun i e => Hold (∃ (x2 : Option D), (∀ (j : Nat), j < i → (∀ x, c[j]? = some x → x ∈ es) ∧ Nx c j) ∧ e = [some (.tup (esD es)), some (.tup (esD c)), x2])) _ ⟨_, fun j hj => by omega, rfl⟩ (fun i d e hd hI => ?_) (fun e hI => ?_)
      · obtain ⟨x2, hall, rfl⟩ := hI
        obtain ⟨hii, rfl⟩ := range_at hd
        have hil : i < c.length := by simpa using hii
        rw [show (0 : Int) + (i : Int) = (i : Int) by omega]
        obtain ⟨x, hx, p1⟩ := ix_at hil
        obtain ⟨y, hy, p2⟩ := ix_prev hil
        repeat' walk_at "m"
        · rename_i h1 _
          have h1 : x ∉ es := by simpa using h1
          exact ⟨false, rfl, (fun z => by cases z), fun z => (h1 (z.mem x (mem_get hx))).elim⟩
        · rename_i h1 h2
          have h2 : y.2.1 ≠ x.1 := by simpa using h2
          exact ⟨false, rfl, (fun z => by cases z), fun z => (h2 (z.nx i x y hx hy)).elim⟩
        · rename_i h1 h2
          have h1 : x ∈ es := by simpa using h1
          have h2 : y.2.1 = x.1 := by simpa using h2
          refine ⟨_, fun j hj => ?_, rfl⟩
          by_cases hji : j = i
          · subst hji
            refine ⟨fun x' hx' => ?_, fun x' y' hx' hy' => ?_⟩
            · rw [hx] at hx'; cases hx'; exact h1
            · rw [hx] at hx'; rw [hy] at hy'; cases hx'; cases hy'; exact h2
          · exact hall j (by omega)
      · obtain ⟨x2, hall, rfl⟩ := hI
        rw [range_len, Int.toNat_natCast] at hall
        repeat' walk_at "m"
        refine ⟨true, rfl, fun _ => ?_, fun _ => rfl⟩
        refine ⟨hne, fun e he => ?_, fun e he => ?_, fun k x y hx hy => ?_⟩
        · rw [h00] at he; cases he; exact ha
        · obtain ⟨j, hj⟩ := List.getElem?_of_mem he
          exact (hall j (List.getElem?_eq_some_iff.mp hj).1).1 e hj
        · exact (hall k (List.getElem?_eq_some_iff.mp hx).1).2 x y hx hy
/-- a bad member -/
theorem circ_bad {es : List Ed} {ds : List D} (hcd : ∀ d ∈ ds, CD d) {d : D} (hd : d ∈ ds) (hb : oneOf es d = false) : w1 (m_is_circle [.tup (esD es), .tup ds]) (· = .bl false) := by
  have hi := esD_imm es
  have hdi : imms ds = true := by rw [imms_all, List.all_eq_true]; exact fun x m => (hcd x m).imm
  have h0 : imms [.tup (esD es), .tup ds] = true := by
    show (imms (esD es) && (imms ds && true)) = true
    rw [hi, hdi]; rfl
  have hpos : 0 < ds.length := List.length_pos_of_mem hd
  have hq : D.eqv (.int ds.length) (.int 0) = false := by
    rw [eqv_int]
    exact decide_eq_false fun z => by omega
  apply w1_def h0
  unfold b_is_circle
  refine wS_seq (wS_mono (N := fun e => e = [some (.tup (esD es)), some (.tup ds), none, none]) (R := fun _ _ => False) (B := fun _ => False) (C := fun _ => False) ?_ (fun e he => ?_) (fun _ _ h => h.elim) (fun _ h => h.elim) (fun _ h => h.elim))
  · repeat' walk_at "m"
    rfl
  subst he
  refine wS_seq ?_
  refine wS_forV (ds := ds) rfl (if_pos hdi) hdi ?_
  refine wS_loop0 (fun i e => Hold (∃ (x2 : Option D), (∀ (j : Nat) x, j < i → ds[j]? = some x → oneOf es x = true) ∧ e = [some (.tup (esD es)), some (.tup ds), x2, none])) _ ⟨_, fun j x hj => by omega, rfl⟩ (fun i x e hx hI => ?_) (fun e hI => ?_)
  · obtain ⟨x2, hall, rfl⟩ := hI
    have hcx := hcd x (mem_get hx)
    have hxi := hcx.imm
    have h2 : imms [.tup (esD es), x] = true := by
      show (imms (esD es) && (imm x && true)) = true
      rw [hi, hxi]; rfl
    have ho := w1_is (one_ok (es := es) hcx)
    repeat' walk_at "m"
    · rfl
    · rename_i h1
      have h1 : oneOf es x = true := by simpa using h1
      refine ⟨_, fun j x' hj hx' => ?_, rfl⟩
      by_cases hji : j = i
      · subst hji
        rw [hx] at hx'; cases hx'; exact h1
      · exact hall j x' (by omega) hx'
  · obtain ⟨x2, hall, rfl⟩ := hI
    obtain ⟨j, hj⟩ := List.getElem?_of_mem hd
    have := hall j d (List.getElem?_eq_some_iff.mp hj).1 hj
    rw [hb] at this; cases this
theorem is_circle_ok {es c : List Ed} (hcl : c.length ≤ 1000) : w1 (m_is_circle [.tup (esD es), .tup (esD c)]) (SaysC es c) := by
  have hi := esD_imm es
  have hci := esD_imm c
  have hcd : ∀ d ∈ esD c, CD d := by
    intro d hd
    obtain ⟨e, _, rfl⟩ := List.mem_map.mp hd
    exact .e e
  by_cases hbad : ∃ e ∈ c, e ∉ es
  · obtain ⟨e, he, hn⟩ := hbad
    refine w1_mono (circ_bad hcd (d := edD e) (List.mem_map.mpr ⟨e, he, rfl⟩) ?_) fun d hd => ⟨false, hd, (fun z => by cases z), fun z => (hn (z.mem e he)).elim⟩
    rw [oneOf_ed]; exact decide_eq_false hn
  have hall : ∀ e ∈ c, e ∈ es := fun e he => Classical.byContradiction fun hn => hbad ⟨e, he, hn⟩
  have h0 : imms [.tup (esD es), .tup (esD c)] = true := by
    show (imms (esD es) && (imms (esD c) && true)) = true
    rw [hi, hci]; rfl
  apply w1_def h0
  unfold b_is_circle
  cases c with
  | nil =>
    have q2 : fLen [.tup (esD [])] = some (.int 0) := rfl
    have q3 : D.eqv (.int 0) (.int 0) = true := by simp
    repeat' walk_at "m"
    exact ⟨false, rfl, (fun z => by cases z), fun z => (OkC.ne z rfl).elim⟩
  | cons a r =>
    have q1 : fIx (.tup (esD (a :: r))) (.int 0) = some (edD a) := by
      obtain ⟨x, hx, hq⟩ := ix_at (c := a :: r) (k := 0) (by simp)
      cases hx
      exact hq
    have hq : D.eqv (.int (esD (a :: r)).length) (.int 0) = false := by
      rw [eqv_int]
      exact decide_eq_false fun z => by simp at z; omega
    have hll : (esD (a :: r)).length = (a :: r).length := List.length_map _
    have h00 : (a :: r)[0]? = some a := rfl
    have hne : (a :: r) ≠ [] := by simp
    generalize hcc : a :: r = c at *
    refine wS_seq (wS_mono (N := fun e => e = [some (.tup (esD es)), some (.tup (esD c)), none, none]) (R := fun _ _ => False) (B := fun _ => False) (C := fun _ => False) ?_ (fun e he => ?_) (fun _ _ h => h.elim) (fun _ h => h.elim) (fun _ h => h.elim))
    · repeat' walk_at "m"
      rfl
    subst he
    refine wS_seq ?_
    refine wS_forV (ds := esD c) rfl (if_pos hci) hci ?_
    refine wS_inv (fun e => Hold (∃ (x2 : Option D), e = [some (.tup (esD es)), some (.tup (esD c)), x2, none])) _ ⟨_, rfl⟩ (fun x e hx hI => ?_) (fun e hI => ?_)
    · obtain ⟨x2, rfl⟩ := hI
      obtain ⟨e, he, rfl⟩ := List.mem_map.mp hx
      have h2 : imms [.tup (esD es), edD e] = true := by
        show (imms (esD es) && true) = true
        rw [hi]; rfl
      have ho := w1_is (one_ok (es := es) (.e e))
      rw [oneOf_ed, decide_eq_true (hall e he)] at ho
      have hei : imm (edD e) = true := rfl
      repeat' walk_at "m"
      exact ⟨_, rfl⟩
    obtain ⟨x2, rfl⟩ := hI
    repeat' walk_at "m"
    rw [hll]
    refine wS_loop0 (fun i e => Hold (∃ (x3 : Option D), (∀ (j : Nat), j < i → Nx c j) ∧ e = [some (.tup (esD es)), some (.tup (esD c)), x2, x3])) _ ⟨_, fun j hj => by omega, rfl⟩ (fun i d e hd hI => ?_) (fun e hI => ?_)
    · obtain ⟨x3, hnx, rfl⟩ := hI
      obtain ⟨hii, rfl⟩ := range_at hd
      have hil : i < c.length := by simpa using hii
      rw [show (0 : Int) + (i : Int) = (i : Int) by omega]
      obtain ⟨x, hx, p1⟩ := ix_at hil
      obtain ⟨y, hy, p2⟩ := ix_prev hil
      repeat' walk_at "m"
      · rename_i h2
        have h2 : y.2.1 ≠ x.1 := by simpa using h2
        exact ⟨false, rfl, (fun z => by cases z), fun z => (h2 (z.nx i x y hx hy)).elim⟩
      · rename_i h2
        have h2 : y.2.1 = x.1 := by simpa using h2
        refine ⟨_, fun j hj => ?_, rfl⟩
        by_cases hji : j = i
        · subst hji
          intro x' y' hx' hy'
          rw [hx] at hx'; rw [hy] at hy'; cases hx'; cases hy'; exact h2
        · exact hnx j (by omega)
    · obtain ⟨x3, hnx, rfl⟩ := hI
      rw [range_len, Int.toNat_natCast] at hnx
      repeat' walk_at "m"
      refine ⟨a.2.2, rfl, fun ha => ?_, fun z => z.hd a h00⟩
      refine ⟨hne, fun e he => ?_, hall, fun k x y hx hy => ?_⟩
      · rw [h00] at he; cases he; exact ha
      · exact hnx k (List.getElem?_eq_some_iff.mp hx).1 x y hx hy

section
variable {es : List Ed}
theorem circ_rol {ds : List D} (h : imms ds = true) : w1 (m_is_circle [.tup (esD es), .rol ds]) (· = .bl false) := by
  have hi := esD_imm es
  apply w1_def (by simp [imms, imm, hi, h])
  unfold b_is_circle
  repeat' walk_at "m"
  all_goals rfl
theorem circ_non : w1 (m_is_circle [.tup (esD es), .non]) (· = .bl false) := by
  have hi := esD_imm es
  apply w1_def (by simp [imms, imm, hi])
  unfold b_is_circle
  repeat' walk_at "m"
  all_goals rfl
theorem circ_str (s : List Nat) : w1 (m_is_circle [.tup (esD es), .str s]) (· = .bl false) := by
  have hi := esD_imm es
  apply w1_def (by simp [imms, imm, hi])
  unfold b_is_circle
  repeat' walk_at "m"
  all_goals rfl
def NotC (es : List Ed) (d : D) : Prop := imm d = true ∧ m_is_circle [.tup (esD es), d] = .ok (.bl false)
theorem both_ok {c : List Ed} (hcl : c.length ≤ 1000) : ∃ b, m_is_circle [.tup (esD es), .tup (esD c)] = .ok (.bl b) ∧ m__law_is_circle [.tup (esD es), .tup (esD c)] = .ok (.bl b) := by
  have h1 := is_circle_ok (es := es) hcl
  have h2 := law_is_circle_ok (es := es) hcl
  generalize m_is_circle [.tup (esD es), .tup (esD c)] = r1 at h1
  generalize m__law_is_circle [.tup (esD es), .tup (esD c)] = r2 at h2
  cases h1 with
  | mk h1 =>
    cases h2 with
    | mk h2 =>
      obtain ⟨b1, rfl, i1⟩ := h1
      obtain ⟨b2, rfl, i2⟩ := h2
      have : b1 = b2 := Bool.eq_iff_iff.mpr (i1.trans i2.symm)
      subst this
      exact ⟨b1, rfl, rfl⟩
theorem yes_ok {c : List Ed} (hcl : c.length ≤ 1000) (h : OkC es c) : m_is_circle [.tup (esD es), .tup (esD c)] = .ok (.bl true) := by
  have h1 := is_circle_ok (es := es) hcl
  generalize m_is_circle [.tup (esD es), .tup (esD c)] = r1 at h1
  cases h1 with
  | mk h1 =>
    obtain ⟨b1, rfl, i1⟩ := h1
    rw [i1.mpr h]
theorem no_ok {c : List Ed} (hcl : c.length ≤ 1000) (h : ¬ OkC es c) : m_is_circle [.tup (esD es), .tup (esD c)] = .ok (.bl false) := by
  have h1 := is_circle_ok (es := es) hcl
  generalize m_is_circle [.tup (esD es), .tup (esD c)] = r1 at h1
  cases h1 with
  | mk h1 =>
    obtain ⟨b1, rfl, i1⟩ := h1
    cases b1 with
    | true => exact (h (i1.mp rfl)).elim
    | false => rfl
theorem es_set (c : List Ed) (i j : Nat) (z : Ed) : (esD c).take i ++ [edD z] ++ (esD c).drop j = esD (c.take i ++ [z] ++ c.drop j) := by
  simp [esD, List.map_append, List.map_take, List.map_drop]
theorem es_turn (c : List Ed) (i j : Nat) : (esD c).drop i ++ (esD c).take j = esD (c.drop i ++ c.take j) := by
  simp [esD, List.map_append, List.map_take, List.map_drop]
theorem es_cut (c : List Ed) (i j : Nat) : (esD c).take i ++ (esD c).drop j = esD (c.take i ++ c.drop j) := by
  simp [esD, List.map_append, List.map_take, List.map_drop]
theorem bad_mid {c : List Ed} {i j : Nat} {d : D} (hd : CD d) (hb : oneOf es d = false) : NotC es (.tup ((esD c).take i ++ [d] ++ (esD c).drop j)) := by
  have hcd : ∀ x ∈ (esD c).take i ++ [d] ++ (esD c).drop j, CD x := by
    intro x hx
    have he : ∀ y ∈ esD c, CD y := fun y hy => by
      obtain ⟨e, _, rfl⟩ := List.mem_map.mp hy
      exact .e e
    rcases List.mem_append.mp hx with hx | hx
    · rcases List.mem_append.mp hx with hx | hx
      · exact he x (List.mem_of_mem_take hx)
      · rw [List.mem_singleton.mp hx]; exact hd
    · exact he x (List.mem_of_mem_drop hx)
  refine ⟨?_, w1_is (circ_bad hcd (d := d) (by simp) hb)⟩
  show imms _ = true
  rw [imms_all, List.all_eq_true]
  exact fun x m => (hcd x m).imm
theorem wrap_c {c : List Ed} : NotC es (.tup [.tup (esD c)]) := by
  have hb : oneOf es (.tup (esD c)) = false := by
    match c with
    | [] => rfl
    | [a] => rfl
    | [a, b] => rfl
    | [a, b, x] => rfl
    | a :: b :: x :: y :: r => rfl
  refine ⟨?_, w1_is (circ_bad (fun x hx => by rw [List.mem_singleton.mp hx]; exact .t) List.mem_cons_self hb)⟩
  show (imms (esD c) && true) = true
  rw [esD_imm]; rfl
end
noncomputable def jc_b : MS := (mSeq (mSet 13 (dLstE (acons (ofN (dTup aNil)) (acons (frz (ofN (cal fList (aCons (bVar 3) aNil)))) (acons (ofN (bC .non)) (acons (own (bVar 12)) (acons (ofN (dTup (aCons (bVar 3) aNil))) (acons (ofN (bC (.str (lit "")))) (acons (ofN (bin fAdd (bin fAdd (cut (bVar 3) none (some (bVar 4))) (dTup (aCons (bC .non) aNil))) (cut (bVar 3) (some (bin fAdd (bVar 4) (bC (.int 1)))) none))) anil)))))))))
  (mSeq (mIf (tst (binE fIsnt (cE m_is_circle (acons (own (bVar 2)) (acons (binV (immF fIx) 13 (eIO [0] m__law_take (acons (ofN (bC (.int 7))) anil))) anil))) (ofN (bC (.bl false)))))
  (mRet (ofN (bC (.bl false))))
  mNil)
  (mRet (ofN (andB (bin fIs (cN m_is_circle (aCons (bVar 2) (aCons (bVar 3) aNil))) (bC (.bl true))) (bin fIs (cN m_is_circle (aCons (bVar 2) (aCons (bin fAdd (bVar 3) (bVar 3)) aNil))) (bC (.bl true))))))))
noncomputable def jc_a : MS := (mSeq (mIf (notT (tst (ofN (cN (m__law_same 10) (aCons (cN m_is_circle (aCons (bVar 2) (aCons (bVar 9) aNil))) (aCons (cN m__law_is_circle (aCons (bVar 2) (aCons (bVar 9) aNil))) aNil))))))
  (mRet (ofN (bC (.bl false))))
  mNil)
  (mSeq (mSet 10 (ofN (bin fAdd (cut (bVar 3) (some (bVar 4)) none) (cut (bVar 3) none (some (bVar 4))))))
  (mSeq (mIf (notT (tst (ofN (cN (m__law_same 10) (aCons (cN m_is_circle (aCons (bVar 2) (aCons (bVar 10) aNil))) (aCons (cN m__law_is_circle (aCons (bVar 2) (aCons (bVar 10) aNil))) aNil))))))
  (mRet (ofN (bC (.bl false))))
  mNil)
  (mSeq (mSet 11 (ofN (bin fAdd (cut (bVar 3) none (some (bVar 4))) (cut (bVar 3) (some (bin fAdd (bVar 4) (bC (.int 1)))) none))))
  (mSeq (mIf (notT (tst (ofN (cN (m__law_same 10) (aCons (cN m_is_circle (aCons (bVar 2) (aCons (bVar 11) aNil))) (aCons (cN m__law_is_circle (aCons (bVar 2) (aCons (bVar 11) aNil))) aNil))))))
  (mRet (ofN (bC (.bl false))))
  mNil)
  (mSeq (mSet 12 (ofN (bin fAdd (bin fAdd (cut (bVar 3) none (some (bVar 4))) (dTup (aCons (dTup (aCons (bVar 5) (aCons (bVar 6) (aCons (cal fInt (aCons (bVar 7) aNil)) aNil)))) aNil))) (cut (bVar 3) (some (bin fAdd (bVar 4) (bC (.int 1)))) none))))
  jc_b))))))
theorem jcb_ok {names : List Nm} {es c : List Ed} (hcl : c.length ≤ 100) (ho : OkC es c) (ho2 : OkC es (c ++ c)) {j : D} (hj : Jar j) {r : Int} (hr0 : 0 ≤ r) {w : D} (hw : NotC es w) {x5 x6 x7 x8 x9 x10 x11 : Option D} :
    wS (jc_b [some j, some (.tup (nmD names)), some (.tup (esD es)), some (.tup (esD c)), some (.int r), x5, x6, x7, x8, x9, x10, x11, some w, none]) (fun _ => False) (fun d e => Hold (d = .bl true ∧ ∃ j r, e = some j :: some (.tup (nmD names)) :: some (.tup (esD es)) :: some (.tup (esD c)) :: r)) (fun _ => False) (fun _ => False) := by
  have hi := esD_imm es
  have hci := esD_imm c
  have hll : (esD c).length = c.length := List.length_map _
  have hwi := hw.1
  have hlist : fList [.tup (esD c)] = some (.lst (esD c)) := if_pos hci
  have y1 := yes_ok (es := es) (c := c) (by omega) ho
  have y2 := yes_ok (es := es) (c := c ++ c) (by rw [List.length_append]; omega) ho2
  have y2 : m_is_circle [.tup (esD es), .tup (esD c ++ esD c)] = .ok (.bl true) := by rw [← y2]; simp [esD]
  have i1 : imms [.tup (esD es), .tup (esD c)] = true := by
    show (imms (esD es) && (imms (esD c) && true)) = true
    rw [hi, hci]; rfl
  have i2 : imms [.tup (esD es), .tup (esD c ++ esD c)] = true := by
    show (imms (esD es) && (imms (esD c ++ esD c) && true)) = true
    rw [hi, imms_app hci hci]; rfl
  have hbn := bad_mid (es := es) (c := c) (i := r.toNat) (j := (r + 1).toNat) .n rfl
  unfold jc_b
  repeat' (first | walk_at "m" | walk_at "t")
  rename_i r6 j6 a6 b6 hj6
  refine w0_ixLp (NotC es) a6 (by simp only [List.length_cons, List.length_nil]; omega) (by
    intro d hd
    simp only [List.mem_cons, List.not_mem_nil, or_false] at hd
    rcases hd with rfl | rfl | rfl | rfl | rfl | rfl | rfl
    · exact ⟨rfl, no_ok (c := []) (by simp) fun z => z.ne rfl⟩
    · exact ⟨hci, w1_is (circ_rol hci)⟩
    · exact ⟨rfl, w1_is circ_non⟩
    · exact hw
    · exact wrap_c
    · exact ⟨rfl, w1_is (circ_str _)⟩
    · exact hbn) (fun d hd => ?_)
  obtain ⟨hdi, hd2⟩ := hd
  have i3 : imms [.tup (esD es), d] = true := by
    show (imms (esD es) && (imm d && true)) = true
    rw [hi, hdi]; rfl
  repeat' (first | walk_at "m" | walk_at "t")
  exact ⟨rfl, _, _, rfl⟩
theorem judges_circ {names : List Nm} {es c : List Ed} (hne : 0 < names.length) (hnl : names.length ≤ 60) (hc0 : 0 < c.length) (hcl : c.length ≤ 100) (ho : OkC es c) (ho2 : OkC es (c ++ c)) {jar : D} (hj : Jar jar) :
    wD (m__law_judges_circle [jar, .tup (nmD names), .tup (esD es), .tup (esD c)]) (fun d os => Hold (d = .bl true ∧ ∃ o r, os = o :: r)) := by
  have hi := esD_imm es
  have hn := nms_imm names
  have hci := esD_imm c
  have hll : (esD c).length = c.length := List.length_map _
  have hln : (nmD names).length = names.length := List.length_map _
  apply wD_def
  show wS (mSeq _ (mSeq _ (mSeq _ (mSeq _ jc_a))) _) _ _ _ _
  repeat' (first | walk_at "m" | walk_at "t")
  rename_i r j1 hr0 hr1 hj1
  obtain ⟨x, hx, hrow⟩ : ∃ x, c[r.toNat]? = some x ∧ fIx (.tup (esD c)) (.int r) = some (edD x) := by
    obtain ⟨x, h1, h2⟩ := ix_at (c := c) (k := r.toNat) (by omega)
    rw [Int.toNat_of_nonneg hr0] at h2
    exact ⟨x, h1, h2⟩
  refine w0_of hrow ?_
  have hxi : imm (edD x) = true := rfl
  obtain ⟨u, l, a⟩ := x
  have hg3 : ∀ (e : E) (Q : E → Prop), Q (((e.set 5 (some (.str u))).set 6 (some (.str l))).set 7 (some (.bl a))) → w0 (gT [5, 6, 7] (edD (u, l, a)) e) Q := fun e Q q => w0_gT3 rfl q
  refine ⟨hxi, hxi, hg3 _ _ ?_⟩
  repeat' (first | walk_at "m" | walk_at "t")
  rename_i r2 j2 hr2 hr3 hj2
  refine w0_ixT hr2 (by omega) fun d hd => ?_
  obtain ⟨m, hm, rfl⟩ := nm_at hd
  repeat' (first | walk_at "m" | walk_at "t")
  rename_i r3 j3 hr4 hr5 hj3
  refine w0_ixLp (fun d => ∃ z : Ed, d = edD z) hr4 (by simp only [List.length_cons, List.length_nil]; omega) (by
    intro d hd
    simp only [List.mem_cons, List.not_mem_nil, or_false] at hd
    rcases hd with rfl | rfl | rfl
    · exact ⟨(u, m, a), rfl⟩
    · exact ⟨(u, l, !a), rfl⟩
    · exact ⟨(l, u, a), rfl⟩) (fun d ⟨z, e⟩ => ?_)
  subst e
  have hzi : imm (edD z) = true := rfl
  repeat' (first | walk_at "m" | walk_at "t")
  have him : ∀ ds : List D, imms ds = true → imms [.tup (esD es), .tup ds] = true := fun ds h => by
    show (imms (esD es) && (imms ds && true)) = true
    rw [hi, h]; rfl
  have hi1 : imms ((esD c).take r.toNat ++ [edD z] ++ (esD c).drop (r + 1).toNat) = true := imms_app (imms_app (imms_take hci _) rfl) (imms_drop hci _)
  have hi2 : imms ((esD c).drop r.toNat ++ (esD c).take r.toNat) = true := imms_app (imms_drop hci _) (imms_take hci _)
  have hi3 : imms ((esD c).take r.toNat ++ (esD c).drop (r + 1).toNat) = true := imms_app (imms_take hci _) (imms_drop hci _)
  have m1 := him _ hi1
  have m2 := him _ hi2
  have m3 := him _ hi3
  obtain ⟨b1, n1, n2⟩ := both_ok (es := es) (c := c.take r.toNat ++ [z] ++ c.drop (r + 1).toNat) (by simp only [List.length_append, List.length_take, List.length_drop, List.length_cons, List.length_nil]; omega)
  obtain ⟨b2, n3, n4⟩ := both_ok (es := es) (c := c.drop r.toNat ++ c.take r.toNat) (by simp only [List.length_append, List.length_take, List.length_drop]; omega)
  obtain ⟨b3, n5, n6⟩ := both_ok (es := es) (c := c.take r.toNat ++ c.drop (r + 1).toNat) (by simp only [List.length_append, List.length_take, List.length_drop]; omega)
  rw [← es_set] at n1 n2
  rw [← es_turn] at n3 n4
  rw [← es_cut] at n5 n6
  have s1 : m__law_same 10 [.bl b1, .bl b1] = .ok (.bl true) := w1_is (same_yes rfl rfl)
  have s2 : m__law_same 10 [.bl b2, .bl b2] = .ok (.bl true) := w1_is (same_yes rfl rfl)
  have s3 : m__law_same 10 [.bl b3, .bl b3] = .ok (.bl true) := w1_is (same_yes rfl rfl)
  have hw := bad_mid (es := es) (c := c) (i := r.toNat) (j := (r + 1).toNat) (d := .tup [.str u, .str l, .int (if a = true then 1 else 0)]) .i rfl
  have hwi : imms ((esD c).take r.toNat ++ [D.tup [.str u, .str l, .int (if a = true then 1 else 0)]] ++ (esD c).drop (r + 1).toNat) = true := hw.1
  show wS (mSeq _ (mSeq _ (mSeq _ (mSeq _ (mSeq _ (mSeq _ jc_b))))) _) _ _ _ _
  repeat' (first | walk_at "m" | walk_at "t")
  refine wS_mono (jcb_ok hcl ho ho2 hj3 hr0 hw) (fun _ h => h.elim) (fun d e he => ?_) (fun _ h => h.elim) (fun _ h => h.elim)
  obtain ⟨rfl, j', r', rfl⟩ := he
  exact w0_of (outs4 hn hi hci) ⟨rfl, _, _, rfl⟩

/-! ### drawn edges -/
theorem w2_andE {na nb : ME} {e : E} {Q : D → E → Prop} (h : w2 (na e) fun a e1 => ∃ k, a = .bl k ∧ (k = true → w2 (nb e1) fun b e2 => ∃ c, b = .bl c ∧ Q (.bl c) e2) ∧ (k = false → Q (.bl false) e1)) : w2 (andE na nb e) Q := by
  refine w2_bind (w2_mono h fun a e1 ⟨k, h1, h2, h3⟩ => ?_)
  subst h1
  cases k with
  | true =>
    simp only [bl2, if_true]
    refine w2_bind (w2_mono (h2 rfl) fun b e2 ⟨c, h4, h5⟩ => ?_)
    subst h4
    exact .mk h5
  | false => exact .mk (h3 rfl)
theorem w2_orE {na nb : ME} {e : E} {Q : D → E → Prop} (h : w2 (na e) fun a e1 => ∃ k, a = .bl k ∧ (k = true → Q (.bl true) e1) ∧ (k = false → w2 (nb e1) fun b e2 => ∃ c, b = .bl c ∧ Q (.bl c) e2)) : w2 (orE na nb e) Q := by
  refine w2_bind (w2_mono h fun a e1 ⟨k, h1, h2, h3⟩ => ?_)
  subst h1
  cases k with
  | true => exact .mk (h2 rfl)
  | false =>
    simp only [bl2, Bool.false_eq_true, if_false]
    refine w2_bind (w2_mono (h3 rfl) fun b e2 ⟨c, h4, h5⟩ => ?_)
    subst h4
    exact .mk h5
local macro_rules | `(tactic| walk_at "m2") => `(tactic| first | with_reducible apply w2_andE | with_reducible apply w2_orE)
def EdL (names : List Nm) (k : Nat) (L : List Ed) : Prop := L.length ≤ k ∧ ∀ e ∈ L, e.1 ∈ names ∧ e.2.1 ∈ names
theorem EdL.app {names : List Nm} {k : Nat} {L : List Ed} {e : Ed} (h : EdL names k L) (h1 : e.1 ∈ names) (h2 : e.2.1 ∈ names) : EdL names (k + 1) (L ++ [e]) :=
  ⟨by rw [List.length_append, List.length_singleton]; have := h.1; omega, fun x m => by
    rcases List.mem_append.mp m with m | m
    · exact h.2 x m
    · rw [List.mem_singleton.mp m]; exact ⟨h1, h2⟩⟩
theorem EdL.mono {names : List Nm} {k m : Nat} {L : List Ed} (h : EdL names k L) (hk : k ≤ m) : EdL names m L := ⟨Nat.le_trans h.1 hk, h.2⟩
def EdgesP (names : List Nm) (d : D) (os : List D) : Prop := ∃ (es : List Ed) (jar' : D) (r : List D), d = .tup (esD es) ∧ EdL names 100 es ∧ Jar jar' ∧ os = jar' :: r
noncomputable def edg3 : MS := (mSeq (mIf (andT (tst (ofN (bin fGt (cal fLen (aCons (bVar 3) aNil)) (bC (.int 0))))) (tst (binE fEq (eIO [0] m__law_take (acons (ofN (bC (.int 8))) anil)) (ofN (bC (.int 0))))))
  (mSet 11 (binV (immF fIx) 3 (eIO [0] m__law_take (acons (ofN (cal fLen (aCons (bVar 3) aNil))) anil))))
  mNil)
  (mExpr (eMut 3 fAppend (acons (own (bVar 11)) anil))))
noncomputable def edg2 : MS := (mSeq (mSet 11 (dTupE (acons (own (bin fIx (bVar 1) (bVar 9))) (acons (own (bin fIx (bVar 1) (bVar 10))) (acons (andE (binE fEq (eIO [0] m__law_take (acons (ofN (bC (.int 3))) anil)) (ofN (bC (.int 0)))) (orE (ofN (bin fNe (bVar 9) (bVar 10))) (binE fEq (eIO [0] m__law_take (acons (ofN (bC (.int 9))) anil)) (ofN (bC (.int 0)))))) anil)))))
  edg3)
noncomputable def edg1 : MS := (mSeq (mSet 9 (eIO [0] m__law_take (acons (own (bVar 4)) anil)))
  (mSeq (mSet 10 (eIO [0] m__law_take (acons (own (bVar 4)) anil)))
  (mSeq (mIf (andT (tst (binE fGt (eIO [0] m__law_take (acons (ofN (bC (.int 3))) anil)) (ofN (bC (.int 0))))) (tst (ofN (bin fLt (bVar 9) (bVar 10)))))
  (mPar 9 10 (acons (own (bVar 10)) (acons (own (bVar 9)) anil)))
  mNil)
  edg2)))
noncomputable def edgr : MS := (mSeq (mFor (wR (acons (own (bVar 2)) anil)) (gN 8)
  edg1)
  (mSeq (mIf (tst (ofN (bin fGt (cal fLen (aCons (bVar 3) aNil)) (bC (.int 0)))))
  (mSeq (mSet 12 (eIO [0] m__law_take (acons (ofN (cal fLen (aCons (bVar 3) aNil))) anil)))
  (mSet 3 (ofN (bin fAdd (cut (bVar 3) (some (bVar 12)) none) (cut (bVar 3) none (some (bVar 12)))))))
  mNil)
  (mRet (ofN (cal fTuple (aCons (bVar 3) aNil))))))
noncomputable def edgl : MS := (mSeq (mSet 9 (own (bin fIx (bVar 1) (bin fMod (cal fInt (aCons (bin fAdd (bVar 7) (bVar 8)) aNil)) (bVar 4)))))
  (mSeq (mSet 10 (own (bin fIx (bVar 1) (bin fMod (cal fInt (aCons (bin fAdd (bVar 7) (bin fMod (cal fInt (aCons (bin fAdd (bVar 8) (bC (.int 1))) aNil)) (bVar 5))) aNil)) (bVar 4)))))
  (mExpr (eMut 3 fAppend (acons (ofN (dTup (aCons (bVar 9) (aCons (bVar 10) (aCons (bin fEq (bVar 8) (bVar 6)) aNil))))) anil)))))
theorem ix_nm {names : List Nm} {i : Int} (h : 0 ≤ i) (h1 : i < names.length) : ∃ n ∈ names, fIx (.tup (nmD names)) (.int i) = some (.str n) := by
  obtain ⟨d, e1, e2⟩ := atI_in (ds := nmD names) h (by rw [List.length_map]; exact h1)
  obtain ⟨n, hn, rfl⟩ := nm_at e2
  exact ⟨n, mem_get hn, e1⟩
section
variable {names : List Nm} (hne : 0 < names.length) (hnl : names.length ≤ 60)
include hne hnl
theorem edg3_ok {k : Nat} {L : List Ed} {e : Ed} {j : D} {x2 x5 x6 x7 x8 x9 x10 : Option D} (hj : Jar j) (hL : EdL names k L) (hk : k ≤ 96) (h1 : e.1 ∈ names) (h2 : e.2.1 ∈ names) :
    wS (edg3 [some j, some (.tup (nmD names)), x2, some (.lst (esD L)), some (.int names.length), x5, x6, x7, x8, x9, x10, some (edD e), none])
      (fun e => Hold (∃ (j' : D) (L' : List Ed) (x11 : Option D), Jar j' ∧ EdL names (k + 1) L' ∧ e = [some j', some (.tup (nmD names)), x2, some (.lst (esD L')), some (.int names.length), x5, x6, x7, x8, x9, x10, x11, none])) (fun _ _ => False) (fun _ => False) (fun _ => False) := by
  have hll : (esD L).length = L.length := List.length_map _
  have hk1 := hL.1
  have hLi : L.length ≤ 1000000 := by omega
  have hei : imm (edD e) = true := rfl
  unfold edg3
  repeat' (first | walk_at "m" | walk_at "t")
  · rename_i r6 j6 a6 b6 hj6
    refine w0_ixL a6 (by omega) fun d hd => ?_
    obtain ⟨x, hx, rfl⟩ := ed_at hd
    have hm := hL.2 x (mem_get hx)
    have hxi : imm (edD x) = true := rfl
    repeat' (first | walk_at "m" | walk_at "t")
    exact ⟨_, _, _, hj6, hL.app hm.1 hm.2, rfl⟩
  · exact ⟨_, _, _, by assumption, hL.app h1 h2, rfl⟩
  · exact ⟨_, _, _, hj, hL.app h1 h2, rfl⟩
theorem edg2_ok {k : Nat} {L : List Ed} {u l : Int} {j : D} {x2 x5 x6 x7 x8 x11 : Option D} (hj : Jar j) (hL : EdL names k L) (hk : k ≤ 96) (hu0 : 0 ≤ u) (hu1 : u < names.length) (hl0 : 0 ≤ l) (hl1 : l < names.length) :
    wS (edg2 [some j, some (.tup (nmD names)), x2, some (.lst (esD L)), some (.int names.length), x5, x6, x7, x8, some (.int u), some (.int l), x11, none])
      (fun e => Hold (∃ (j' : D) (L' : List Ed) (x11 : Option D), Jar j' ∧ EdL names (k + 1) L' ∧ e = [some j', some (.tup (nmD names)), x2, some (.lst (esD L')), some (.int names.length), x5, x6, x7, x8, some (.int u), some (.int l), x11, none])) (fun _ _ => False) (fun _ => False) (fun _ => False) := by
  obtain ⟨a, ha, hia⟩ := ix_nm hu0 hu1
  obtain ⟨b, hb, hib⟩ := ix_nm hl0 hl1
  unfold edg2
  repeat' (first | walk_at "m" | walk_at "t")
  all_goals (refine wS_mono (edg3_ok hne hnl (e := (a, b, _)) (by assumption) hL hk ha hb) (fun e he => he) (fun _ _ h => h.elim) (fun _ h => h.elim) (fun _ h => h.elim))
theorem edg1_ok {k : Nat} {L : List Ed} {j : D} {x2 x5 x6 x7 x8 x9 x10 x11 : Option D} (hj : Jar j) (hL : EdL names k L) (hk : k ≤ 96) :
    wS (edg1 [some j, some (.tup (nmD names)), x2, some (.lst (esD L)), some (.int names.length), x5, x6, x7, x8, x9, x10, x11, none])
      (fun e => Hold (∃ (j' : D) (L' : List Ed) (x9 x10 x11 : Option D), Jar j' ∧ EdL names (k + 1) L' ∧ e = [some j', some (.tup (nmD names)), x2, some (.lst (esD L')), some (.int names.length), x5, x6, x7, x8, x9, x10, x11, none])) (fun _ _ => False) (fun _ => False) (fun _ => False) := by
  unfold edg1
  repeat' (first | walk_at "m" | walk_at "t")
  all_goals (refine wS_mono (edg2_ok hne hnl (by assumption) hL hk (by omega) (by omega) (by omega) (by omega)) (fun e he => ?_) (fun _ _ h => h.elim) (fun _ h => h.elim) (fun _ h => h.elim))
  all_goals (obtain ⟨j', L', x11', q1, q2, rfl⟩ := he; exact ⟨_, _, _, _, _, q1, q2, rfl⟩)
theorem edgl_ok {k : Nat} {L : List Ed} {j : D} {x2 x9 x10 : Option D} {len ab st : Int} (hL : EdL names k L) (hk : k ≤ 96) (hlen : 0 < len) (hlen1 : len ≤ 10) (hst : 0 ≤ st) (hst1 : st < names.length) {i : Nat} (hi : i ≤ 10) :
    wS (edgl [some j, some (.tup (nmD names)), x2, some (.lst (esD L)), some (.int names.length), some (.int len), some (.int ab), some (.int st), some (.int i), x9, x10, none, none])
      (fun e => Hold (∃ (L' : List Ed) (x9 x10 : Option D), EdL names (k + 1) L' ∧ e = [some j, some (.tup (nmD names)), x2, some (.lst (esD L')), some (.int names.length), some (.int len), some (.int ab), some (.int st), some (.int i), x9, x10, none, none])) (fun _ _ => False) (fun _ => False) (fun _ => False) := by
  have hk1 := hL.1
  have hLi : L.length ≤ 1000000 := by omega
  obtain ⟨a, ha, hia⟩ := ix_nm (names := names) (i := (st + i) % names.length) (Int.emod_nonneg _ (by omega)) (Int.emod_lt_of_pos _ (by omega))
  obtain ⟨b, hb, hib⟩ := ix_nm (names := names) (i := (st + ((i : Int) + 1) % len) % names.length) (Int.emod_nonneg _ (by omega)) (Int.emod_lt_of_pos _ (by omega))
  unfold edgl
  repeat' (first | walk_at "m" | walk_at "t")
  refine w0_appE (e := (a, b, _)) hLi ?_
  repeat' (first | walk_at "m" | walk_at "t")
  exact ⟨_, _, _, hL.app ha hb, rfl⟩
theorem edgr_ok {L : List Ed} {j : D} {x5 x6 x7 x8 x9 x10 : Option D} {many : Int} (hj : Jar j) (hL : EdL names 5 L) (h0 : 0 ≤ many) (h1 : many ≤ 90) :
    wS (edgr [some j, some (.tup (nmD names)), some (.int many), some (.lst (esD L)), some (.int names.length), x5, x6, x7, x8, x9, x10, none, none])
      (fun _ => False) (fun d e => Hold (∃ (es : List Ed) (j' : D) (r : E), d = .tup (esD es) ∧ EdL names 100 es ∧ Jar j' ∧ e = some j' :: some (.tup (nmD names)) :: some (.int many) :: r)) (fun _ => False) (fun _ => False) := by
  unfold edgr
  repeat' (first | walk_at "m" | walk_at "t")
  refine wS_loop0 (fun i e => Hold (∃ (j : D) (L : List Ed) (x8 x9 x10 x11 : Option D), Jar j ∧ EdL names (5 + i) L ∧ e = [some j, some (.tup (nmD names)), some (.int many), some (.lst (esD L)), some (.int names.length), x5, x6, x7, x8, x9, x10, x11, none])) _ ⟨_, _, _, _, _, _, hj, hL, rfl⟩ (fun i d e hd hI => ?_) (fun e hI => ?_)
  · obtain ⟨j, L, x8, x9, x10, x11, hj, hL, rfl⟩ := hI
    obtain ⟨hi, rfl⟩ := range_at hd
    repeat' (first | walk_at "m" | walk_at "t")
    refine wS_mono (edg1_ok hne hnl hj hL (by omega)) (fun e he => ?_) (fun _ _ h => h.elim) (fun _ h => h.elim) (fun _ h => h.elim)
    obtain ⟨j', L', x9', x10', x11', q1, q2, rfl⟩ := he
    exact ⟨_, _, _, _, _, _, q1, q2, rfl⟩
  · obtain ⟨j, L, x8, x9, x10, x11, hj, hL, rfl⟩ := hI
    rw [range_len] at hL
    have hL : EdL names 100 L := hL.mono (by omega)
    have hLl := hL.1
    have hLi := esD_imm L
    have hll : (esD L).length = L.length := List.length_map _
    repeat' (first | walk_at "m" | walk_at "t")
    · rename_i r6 j6 a6 b6 hj6
      have hc1 : fCut (.lst (esD L)) (some r6) none = some (.lst (esD (L.drop r6.toNat))) := by
        show (if imms (esD L) = true then some (D.lst (cutL (esD L) (some r6) none)) else none) = _
        rw [if_pos hLi, cutL_from a6, esD, esD, List.map_drop]
      have hc2 : fCut (.lst (esD L)) none (some r6) = some (.lst (esD (L.take r6.toNat))) := by
        show (if imms (esD L) = true then some (D.lst (cutL (esD L) none (some r6))) else none) = _
        rw [if_pos hLi, cutL_to a6, esD, esD, List.map_take]
      have hc3 : fAdd (.lst (esD (L.drop r6.toNat))) (.lst (esD (L.take r6.toNat))) = some (.lst (esD (L.drop r6.toNat ++ L.take r6.toNat))) := by
        show (if imms (esD (L.drop r6.toNat)) = true ∧ imms (esD (L.take r6.toNat)) = true ∧ fits ((esD (L.drop r6.toNat)).length + (esD (L.take r6.toNat)).length) = true then some (D.lst (esD (L.drop r6.toNat) ++ esD (L.take r6.toNat))) else none) = _
        rw [if_pos ⟨esD_imm _, esD_imm _, fits_of (by simp only [esD, List.length_map, List.length_drop, List.length_take]; omega)⟩, esD, esD, esD, List.map_append]
      repeat' (first | walk_at "m" | walk_at "t")
      refine ⟨_, _, _, rfl, ⟨by simp only [List.length_append, List.length_drop, List.length_take]; omega, fun e m => ?_⟩, hj6, rfl⟩
      rcases List.mem_append.mp m with m | m
      · exact hL.2 e (List.mem_of_mem_drop m)
      · exact hL.2 e (List.mem_of_mem_take m)
    · exact ⟨_, _, _, rfl, hL, hj, rfl⟩
end
theorem edges_ok {names : List Nm} {jar : D} {many : Int} (hj : Jar jar) (hne : 0 < names.length) (hnl : names.length ≤ 60) (h0 : 0 ≤ many) (h1 : many ≤ 90) : wD (m__law_edges [jar, .tup (nmD names), .int many]) (EdgesP names) := by
  have hn := nms_imm names
  have hln : (nmD names).length = names.length := List.length_map _
  apply wD_def
  show wS (mSeq _ (mSeq _ (mSeq (mIf _ (mSeq _ (mSeq _ (mSeq _ (mFor _ _ edgl)))) mNil) edgr)) _) _ _ _ _
  repeat' (first | walk_at "m" | walk_at "t")
  all_goals rw [hln]
  · rename_i r1 j1 a1 b1 hj1 hc r2 j2 a2 b2 hj2 r3 j3 a3 b3 hj3 r4 j4 a4 b4 hj4
    have h5 : r2 < 5 := by split at b2 <;> omega
    refine wS_loop0 (fun i e => Hold (∃ (L : List Ed) (x8 x9 x10 : Option D), EdL names i L ∧ e = [some j4, some (.tup (nmD names)), some (.int many), some (.lst (esD L)), some (.int names.length), some (.int (1 + r2)), some (.int r3), some (.int r4), x8, x9, x10, none, none])) _ ⟨[], _, _, _, ⟨Nat.le_refl _, fun e m => by cases m⟩, rfl⟩ (fun i d e hd hI => ?_) (fun e hI => ?_)
    · obtain ⟨L, x8, x9, x10, hL, rfl⟩ := hI
      obtain ⟨hi, rfl⟩ := range_at hd
      have hi : i < 5 := by omega
      rw [show (0 : Int) + (i : Int) = (i : Int) by omega]
      repeat' (first | walk_at "m" | walk_at "t")
      refine wS_mono (edgl_ok hne hnl hL (by omega) (by omega) (by omega) a4 (by omega) (by omega)) (fun e he => ?_) (fun _ _ h => h.elim) (fun _ h => h.elim) (fun _ h => h.elim)
      obtain ⟨L', x9', x10', q1, rfl⟩ := he
      exact ⟨_, _, _, _, q1, rfl⟩
    · obtain ⟨L, x8, x9, x10, hL, rfl⟩ := hI
      rw [range_len] at hL
      refine wS_mono (edgr_ok hne hnl hj4 (hL.mono (by omega)) h0 h1) (fun _ h => h.elim) (fun d e he => ?_) (fun _ h => h.elim) (fun _ h => h.elim)
      obtain ⟨es, j', r, rfl, q1, q2, rfl⟩ := he
      exact w0_of (a := [j', .tup (nmD names), .int many]) (by simp [outsOf, imm, hn]) ⟨es, j', _, rfl, q1, q2, rfl⟩
  · refine wS_mono (edgr_ok (L := []) hne hnl (by assumption) ⟨Nat.zero_le _, fun e m => by cases m⟩ h0 h1) (fun _ h => h.elim) (fun d e he => ?_) (fun _ h => h.elim) (fun _ h => h.elim)
    obtain ⟨es, j', r, rfl, q1, q2, rfl⟩ := he
    exact w0_of (a := [j', .tup (nmD names), .int many]) (by simp [outsOf, imm, hn]) ⟨es, j', _, rfl, q1, q2, rfl⟩

theorem w2_io2 {i j : Nat} {m : MI} {ms : MAE} {a0 b0 : D} {e : E} {Q2 : D → E → Prop} (h0 : e[i]? = some (some a0)) (hj : e[j]? = some (some b0)) (h : w2 (ms e) fun ds e1 => ∃ a b, e1[i]? = some (some a) ∧ (e1.set i none)[j]? = some (some b) ∧ wD (m (a :: b :: ds)) fun d os => ∃ o1 o2 r, os = o1 :: o2 :: r ∧ Q2 d (((((e1.set i none).set j none).set i (some o1))).set j (some o2))) : w2 (eIO [i, j] m ms e) Q2 := by
  unfold eIO
  have e0 : there [i, j] e = true := by simp only [there, h0, hj]
  rw [if_pos e0]
  refine w2_bind (w2_mono h fun ds e1 ⟨a, b, h1, h2, h⟩ => ?_)
  simp only [takeS, h1, h2, Option.map_some, List.cons_append, List.nil_append]
  generalize m (a :: b :: ds) = r at h ⊢
  cases h with
  | mk h =>
    obtain ⟨o1, o2, r, rfl, h⟩ := h
    exact .mk h
local macro_rules | `(tactic| walk_at "m2") => `(tactic| ((with_reducible apply w2_io2); (focus exact rfl); (focus exact rfl)))
theorem w0_tupS {T : List (List Nat)} {Q : D → Prop} (q : Q (.tup (T.map .str))) : w0 (fTuple [.lst (T.map .str)]) Q := w0_of (show (if imms (T.map D.str) = true then some (D.tup (T.map .str)) else none) = _ by rw [if_pos (strs_imm T)]) q
local macro_rules | `(tactic| walk_at "m0") => `(tactic| with_reducible apply w0_tupS)
theorem pt_es {es : List Ed} (h : es.length ≤ 1000) : pt 2 (.tup (esD es)) = true := by
  rw [pt_tup_iff, List.length_map]
  refine ⟨h, fun x hx => ?_⟩
  obtain ⟨e, _, rfl⟩ := List.mem_map.mp hx
  rfl
theorem pt_rows {names : List Nm} {f : Nm → Int} (h : names.length ≤ 1000) : pt 2 (.tup (rowsI names f)) = true := by
  rw [pt_tup_iff, rows_len]
  refine ⟨h, fun x hx => ?_⟩
  obtain ⟨n, _, rfl⟩ := List.mem_map.mp hx
  rfl
theorem pt_pair {s : List Nat} {d : D} (h : pt 2 d = true) : pt 9 (.tup [.str s, d]) = true := by
  have := pt_up h (by decide : 2 ≤ 8)
  simp [pt_tup, this]
noncomputable def lwb : MS := (mSeq (mSet 12 (ofN (cN m__law_layers (aCons (bVar 6) (aCons (bVar 8) aNil)))))
  (mSeq (mIf (notT (tst (ofN (cN (m__law_same 10) (aCons (bVar 9) (aCons (dTup (aCons (bC (.str (lit "layers"))) (aCons (bVar 12) aNil))) aNil))))))
  (mRet (ofN (bC (.bl false))))
  mNil)
  (mSeq (mForV 8 (gN 13)
  (mIf (andT (tst (own (bin fIx (bVar 13) (bC (.int 2))))) (tst (ofN (bin fIsnt (cN m_is_circle (aCons (bVar 8) (aCons (dTup (aCons (bVar 13) aNil)) aNil))) (bC (.bl false))))))
  (mRet (ofN (bC (.bl false))))
  mNil))
  (mRet (eIO [1] m__law_judges_layers (acons (own (bVar 6)) (acons (own (bVar 8)) (acons (own (bVar 12)) anil))))))))
noncomputable def lwa : MS := (mSeq (mSet 9 (ofN (cN m_layers_of (aCons (bVar 6) (aCons (bVar 8) aNil)))))
  (mSeq (mSet 10 (ofN (cN m__law_circle (aCons (bVar 8) aNil))))
  (mSeq (mIf (tst (ofN (bin fGt (cal fLen (aCons (bVar 10) aNil)) (bC (.int 0)))))
  (mSeq (mIf (notT (tst (ofN (cN (m__law_same 10) (aCons (bVar 9) (aCons (dTup (aCons (bC (.str (lit "circle"))) (aCons (bVar 10) aNil))) aNil))))))
  (mRet (ofN (bC (.bl false))))
  mNil)
  (mSeq (mSet 11 (calE fTuple (acons (eComp (wV (own (bVar 6))) (gN 14) tY (ofN (dTup (aCons (bVar 14) (aCons (bC (.int 0)) aNil)))) (([("name", 14)] : List (PySem.Str × Nat)).map (·.2))) anil)))
  (mSeq (mIf (tst (ofN (bin fIsnt (cN m_is_layers (aCons (bVar 6) (aCons (bVar 8) (aCons (bVar 11) aNil)))) (bC (.bl false)))))
  (mRet (ofN (bC (.bl false))))
  mNil)
  (mRet (eIO [1] m__law_judges_circle (acons (own (bVar 6)) (acons (own (bVar 8)) (acons (own (bVar 10)) anil))))))))
  mNil)
  lwb)))

theorem zero_bad {names : List Nm} {es : List Ed} (g : Small names es) (h0 : circ es ≠ []) : ¬ Kept es fun _ => 0 := fun hk => by
  obtain ⟨e, w, h1, h2, h3, h4⟩ := circ_walk g.toGood h0
  have := hk e (h4 e (by rw [h1]; simp))
  simp [b2, h2] at this
theorem circ_len {names : List Nm} {es : List Ed} (g : Small names es) : (circ es).length ≤ 61 := by
  unfold circ
  cases q : es.find? (cf es) with
  | none => simp
  | some e =>
    have h1 := List.find?_some q
    have h2 := List.mem_of_find?_eq_some q
    simp only [cf, Bool.and_eq_true, decide_eq_true_eq] at h1
    obtain ⟨c, hc⟩ := Option.isSome_iff_exists.mp (gt_some.mpr h1.2)
    have := goal_lt g.toGood (g.up e h2) hc
    have := way_len es (toGoal es e.1) c e.2.1
    simp only [loopOf, hc, Option.getD_some, List.length_cons]
    omega
theorem lwa_circ {names : List Nm} {es : List Ed} (g : Small names es) (hne : 0 < names.length) (h0 : circ es ≠ []) {j : D} (hj : Jar j) {x0 x2 x3 x4 x5 x7 : Option D} :
    wS (lwa [x0, some j, x2, x3, x4, x5, some (.tup (nmD names)), x7, some (.tup (esD es)), none, none, none, none, none, none]) (fun _ => False) (fun d _ => d = .bl true) (fun _ => False) (fun _ => False) := by
  have hi := esD_imm es
  have hn := nms_imm names
  have hnl := g.len
  have hci := esD_imm (circ es)
  have hcl := circ_len g
  have hcp : 0 < (circ es).length := List.length_pos_iff.mpr h0
  have hcll : (esD (circ es)).length = (circ es).length := List.length_map _
  have k1 := w1_is (layers_of_circ g h0)
  have k2 := w1_is (law_circle_ok g)
  have k3 := w1_is (lay_good g (f := fun _ => 0) (fun _ _ => Int.le_refl _))
  rw [decide_eq_false (zero_bad g h0)] at k3
  have i1 : imms [.tup (nmD names), .tup (esD es)] = true := by show (imms (nmD names) && (imms (esD es) && true)) = true; rw [hi, hn]; rfl
  have i2 : imms [.tup (esD es)] = true := by show (imms (esD es) && true) = true; rw [hi]; rfl
  have i3 : imms [.str (lit "circle"), .tup (esD (circ es))] = true := by show (imms (esD (circ es)) && true) = true; rw [hci]; rfl
  have i4 : imms [.tup [.str (lit "circle"), .tup (esD (circ es))], .tup [.str (lit "circle"), .tup (esD (circ es))]] = true := by
    show ((imms (esD (circ es)) && true) && ((imms (esD (circ es)) && true) && true)) = true; rw [hci]; rfl
  have s1 : m__law_same 10 [.tup [.str (lit "circle"), .tup (esD (circ es))], .tup [.str (lit "circle"), .tup (esD (circ es))]] = .ok (.bl true) := w1_is (same_yes (pt_pair (pt_es (by omega))) rfl)
  have hri := rows_imm names fun _ => 0
  have i5 : imms [.tup (nmD names), .tup (esD es), .tup (rowsI names fun _ => 0)] = true := by show (imms (nmD names) && (imms (esD es) && (imms (rowsI names fun _ => 0) && true))) = true; rw [hi, hn, hri]; rfl
  unfold lwa
  repeat' walk_at "m"
  refine w2_comp (rowF fun _ => 0) ?_
  refine w2_wV (w2_own (w1_var rfl ⟨hn, nmD names, if_pos hn, fits_of (by rw [List.length_map]; omega), fun d hd => ?_, ?_⟩))
  · obtain ⟨n, hm, rfl⟩ := List.mem_map.mp hd
    repeat' walk_at "m"
    rfl
  rw [map_rowF]
  refine w2_nil (w0_tupR ?_)
  show wS _ _ _ _ _
  repeat' walk_at "m"
  refine wD_mono (judges_circ hne hnl hcp (by omega) (circ_ok g.toGood h0) (circ_two g.toGood h0) hj) fun d os h => ?_
  obtain ⟨rfl, o, r, rfl⟩ := h
  exact ⟨_, _, rfl, rfl⟩
theorem lwa_lay {names : List Nm} {es : List Ed} (g : Small names es) (hne : 0 < names.length) (h0 : circ es = []) {j : D} (hj : Jar j) {x0 x2 x3 x4 x5 x7 : Option D} :
    wS (lwa [x0, some j, x2, x3, x4, x5, some (.tup (nmD names)), x7, some (.tup (esD es)), none, none, none, none, none, none]) (fun _ => False) (fun d _ => d = .bl true) (fun _ => False) (fun _ => False) := by
  have hi := esD_imm es
  have hn := nms_imm names
  have hnl := g.len
  have k1 := w1_is (layers_of_lay g h0)
  have k2 := w1_is (law_circle_ok g)
  rw [h0] at k2
  have k3 := w1_is (law_layers_ok g h0)
  have hf : ∀ n ∈ names, 0 ≤ nF (itl es names.length) n := fun n _ => Int.natCast_nonneg _
  have hk : Kept es (nF (itl es names.length)) := fun e he => by
    have := itl_feas g.toGood h0 e he
    unfold nF
    omega
  generalize nF (itl es names.length) = f at k1 k3 hf hk
  have hri := rows_imm names f
  have hrl := rows_len names f
  have i1 : imms [.tup (nmD names), .tup (esD es)] = true := by show (imms (nmD names) && (imms (esD es) && true)) = true; rw [hi, hn]; rfl
  have i2 : imms [.tup (esD es)] = true := by show (imms (esD es) && true) = true; rw [hi]; rfl
  have i3 : imms [.str (lit "layers"), .tup (rowsI names f)] = true := by show (imms (rowsI names f) && true) = true; rw [hri]; rfl
  have i4 : imms [.tup [.str (lit "layers"), .tup (rowsI names f)], .tup [.str (lit "layers"), .tup (rowsI names f)]] = true := by
    show ((imms (rowsI names f) && true) && ((imms (rowsI names f) && true) && true)) = true; rw [hri]; rfl
  have s1 : m__law_same 10 [.tup [.str (lit "layers"), .tup (rowsI names f)], .tup [.str (lit "layers"), .tup (rowsI names f)]] = .ok (.bl true) := w1_is (same_yes (pt_pair (pt_rows (by omega))) rfl)
  unfold lwa
  repeat' walk_at "m"
  unfold lwb
  repeat' walk_at "m"
  refine wS_forV (ds := esD es) rfl (if_pos hi) hi ?_
  refine wS_inv (fun e => Hold (∃ (x13 : Option D), e = [x0, some j, x2, x3, x4, x5, some (.tup (nmD names)), x7, some (.tup (esD es)), some (.tup [.str (lit "layers"), .tup (rowsI names f)]), some (.tup []), none, some (.tup (rowsI names f)), x13, none])) _ ⟨_, rfl⟩ (fun x e hx hI => ?_) (fun e hI => ?_)
  · obtain ⟨x13, rfl⟩ := hI
    obtain ⟨e, he, rfl⟩ := List.mem_map.mp hx
    have hei : imm (edD e) = true := rfl
    have i5 : imms [.tup (esD es), .tup [edD e]] = true := by show (imms (esD es) && true) = true; rw [hi]; rfl
    repeat' walk_at "m"
    · rename_i ha
      have hno := no_ok (es := es) (c := [e]) (by simp) fun z => loop_not g.toGood h0 he ha (z.nx 0 e e rfl rfl)
      have hno : m_is_circle [.tup (esD es), .tup [edD e]] = .ok (.bl false) := hno
      repeat' walk_at "m"
      exact ⟨_, rfl⟩
    · exact ⟨_, rfl⟩
  · obtain ⟨x13, rfl⟩ := hI
    repeat' walk_at "m"
    refine wD_mono (judges_lay g hne hf hk hj) fun d os h => ?_
    obtain ⟨rfl, o, r, rfl⟩ := h
    exact ⟨_, _, rfl, rfl⟩
noncomputable def lw7 : MS := (mSeq (mFor (wR (acons (own (bVar 3)) anil)) (gN 7)
  (mExpr (eMut 6 fAppend (acons (eIO [1, 5] m__law_name anil) anil))))
  (mSeq (mSet 6 (ofN (cal fTuple (aCons (bVar 6) aNil))))
  (mSeq (mSet 8 (eIO [1] m__law_edges (acons (own (bVar 6)) (acons (own (bVar 4)) anil))))
  lwa)))
theorem lw7_ok {j : D} {x0 x2 : Option D} {size many : Int} (hj : Jar j) (h0 : 1 ≤ size) (h1 : size ≤ 60) (h2 : 0 ≤ many) (h3 : many ≤ 90) :
    wS (lw7 [x0, some j, x2, some (.int size), some (.int many), some (.lst []), some (.lst []), none, none, none, none, none, none, none, none]) (fun _ => False) (fun d _ => d = .bl true) (fun _ => False) (fun _ => False) := by
  unfold lw7
  repeat' (first | walk_at "m" | walk_at "t")
  refine wS_loop0 (fun k e => Hold (∃ (j : D) (T : List Nm) (x7 : Option D), Jar j ∧ T.length = k ∧ T.Nodup ∧ e = [x0, some j, x2, some (.int size), some (.int many), some (.lst (T.map .str)), some (.lst (T.map .str)), x7, none, none, none, none, none, none, none])) _ ⟨j, [], _, hj, rfl, List.nodup_nil, rfl⟩ (fun i d e hd hI => ?_) (fun e hI => ?_)
  · obtain ⟨j, T, x7, hj, hT, hnd, rfl⟩ := hI
    obtain ⟨hi, rfl⟩ := range_at hd
    have hi : i < 60 := by omega
    have hT59 : T.length ≤ 59 := by omega
    have hTi : T.length ≤ 1000000 := by omega
    repeat' (first | walk_at "m" | walk_at "t")
    rename_i n jn hl hc hn hjn
    exact ⟨_, T ++ [n], _, hjn, by simp [hT], List.nodup_append.mpr ⟨hnd, by simp, fun a m b m' z => by rw [List.mem_singleton.mp m'] at z; subst z; exact hn m⟩, rfl⟩
  · obtain ⟨j, T, x7, hj, hT, hnd, rfl⟩ := hI
    rw [range_len] at hT
    have hne : 0 < T.length := by omega
    have hnl : T.length ≤ 60 := by omega
    have hTn := strs_imm T
    repeat' (first | walk_at "m" | walk_at "t")
    refine wD_mono (edges_ok hj hne hnl h2 h3) fun d os h => ?_
    obtain ⟨es, j', r, rfl, hE, hj', rfl⟩ := h
    refine ⟨_, _, rfl, ?_⟩
    have g : Small T es := { nd := hnd, len := hnl, up := fun e he => (hE.2 e he).1, lo := fun e he => (hE.2 e he).2, el := hE.1 }
    by_cases hc : circ es = []
    · exact lwa_lay g hne hc hj'
    · exact lwa_circ g hne hc hj'
theorem math (ns : List Int) (h : ns.length ≤ 63) : m_law [.rol (ns.map D.int)] = .ok (.bl true) := by
  apply w1_is
  apply w1_def (by simp [imms, imm, imms_ints])
  show wS (mSeq _ (mSeq _ (mSeq _ (mSeq _ (mSeq _ (mSeq _ (mSeq _ lw7)))))) _) _ _ _ _
  generalize hscr : D.rol (ns.map D.int) = script
  have iscr : imm script = true := by rw [← hscr]; simp [imm, imms_ints]
  repeat' (first | walk_at "m" | walk_at "t")
  refine w1_mono (by rw [← hscr]; exact jar_ok ns h) fun jar hj => ?_
  clear hscr h
  repeat' (first | walk_at "m" | walk_at "t")
  · exact wS_mono (lw7_ok (by assumption) (by omega) (by omega) (by omega) (by omega)) (fun _ h => h.elim) (fun _ _ h => h) (fun _ h => h) (fun _ h => h)
  · exact wS_mono (lw7_ok (by assumption) (by omega) (by omega) (by omega) (by omega)) (fun _ h => h.elim) (fun _ _ h => h) (fun _ h => h) (fun _ h => h)

end LK43

open PySem PySem.W PyProof.Rows in
set_option maxHeartbeats 0 in
theorem PySem.Challenge.cw_lectern_k43_layers_exactly_holds : PySem.Challenge.rw_lectern_k43_layers_exactly.Holds := by
  w_on; o_law; k_head; (case hw => w_witness2)
  k_fill
  refine L2.walk_of (l := PySem.Challenge.rw_lectern_k43_layers_exactly) (n := 63) (k := 13) (x := "script") (CX := fun _ => L2.CX0) (sp := fun w => Mir.spN _ 1 LK43.m_law) rfl (by decide) rfl ⟨rfl, by decide, by decide⟩ (fun w h Y => PySem.W.kIn_of Y) ?F (fun w H a ns hl ho hS => Mir.law_start ho hS (LK43.math ns hl)) (fun _ _ _ _ _ h => h)
  case F =>
    intro w mg fa h KX G hmg
    refine' LK43.all_mk KX G hmg ?a0 ?l0 ?c0 ?k0 ?a1 ?l1 ?c1 ?k1 ?a2 ?l2 ?c2 ?k2 ?a3 ?l3 ?c3 ?k3 ?a4 ?l4 ?c4 ?k4 ?a5 ?l5 ?c5 ?k5 ?a6 ?l6 ?c6 ?k6 ?a7 ?l7 ?c7 ?k7 ?a8 ?l8 ?c8 ?k8 ?a9 ?l9 ?c9 ?k9 ?a10 ?l10 ?c10 ?k10 ?a11 ?l11 ?c11 ?k11 ?a12 ?l12 ?c12 ?k12 ?a13 ?l13 ?c13 ?k13 ?a14 ?l14 ?c14 ?k14 ?a15 ?l15 ?c15 ?k15 ?a16 ?l16 ?c16 ?k16 ?a17 ?l17 ?c17 ?k17 ?a18 ?l18 ?c18 ?k18 ?a19 ?l19 ?c19 ?k19 ?a20 ?l20 ?c20 ?k20 ?a21 ?l21 ?c21 ?k21 ?a22 ?l22 ?c22 ?k22 ?e0 ?z0 ?z1 ?z2 ?z3 ?z4 ?z5 ?z6 ?z7 ?z8
    (case a0 => k_is); (case l0 => k_is); (case c0 => k_is); (case k0 => k_is); (case a1 => k_is); (case l1 => k_is); (case c1 => k_is); (case k1 => k_is); (case a2 => k_is); (case l2 => k_is); (case c2 => k_is); (case k2 => k_is); (case a3 => k_is); (case l3 => k_is); (case c3 => k_is); (case k3 => k_is); (case a4 => k_is); (case l4 => k_is); (case c4 => k_is); (case k4 => k_is); (case a5 => k_is); (case l5 => k_is); (case c5 => k_is); (case k5 => k_is); (case a6 => k_is); (case l6 => k_is); (case c6 => k_is); (case k6 => k_is); (case a7 => k_is); (case l7 => k_is); (case c7 => k_is); (case k7 => k_is); (case a8 => k_is); (case l8 => k_is); (case c8 => k_is); (case k8 => k_is); (case a9 => k_is); (case l9 => k_is); (case c9 => k_is); (case k9 => k_is); (case a10 => k_is); (case l10 => k_is); (case c10 => k_is); (case k10 => k_is); (case a11 => k_is); (case l11 => k_is); (case c11 => k_is); (case k11 => k_is); (case a12 => k_is); (case l12 => k_is); (case c12 => k_is); (case k12 => k_is); (case a13 => k_is); (case l13 => k_is); (case c13 => k_is); (case k13 => k_is); (case a14 => k_is); (case l14 => k_is); (case c14 => k_is); (case k14 => k_is); (case a15 => k_is); (case l15 => k_is); (case c15 => k_is); (case k15 => k_is); (case a16 => k_is); (case l16 => k_is); (case c16 => k_is); (case k16 => k_is); (case a17 => k_is); (case l17 => k_is); (case c17 => k_is); (case k17 => k_is); (case a18 => k_is); (case l18 => k_is); (case c18 => k_is); (case k18 => k_is); (case a19 => k_is); (case l19 => k_is); (case c19 => k_is); (case k19 => k_is); (case a20 => k_is); (case l20 => k_is); (case c20 => k_is); (case k20 => k_is); (case a21 => k_is); (case l21 => k_is); (case c21 => k_is); (case k21 => k_is); (case a22 => k_is); (case l22 => k_is); (case c22 => k_is); (case k22 => k_is); (case e0 => k_is); (case z0 => k_is); (case z1 => k_is); (case z2 => k_is); (case z3 => k_is); (case z4 => k_is); (case z5 => k_is); (case z6 => k_is); (case z7 => k_is); (case z8 => k_is)
