import PyProof.Rows.All
import Wide.All
import OpenK.AllK
import Wide.FinOn
import HandS.ForMost
import HandS.HeadHook1
import HandS.Deep
import HandS.Exc
import HandS.ExcOwn
import HandS.TryOnly
import HandS.TupAny
import HandS.IsInst
import HandS.Style
import PyProof.StrBlock2
import HandS.RaiseMore
import HandS.TupLe
import HandS.WordsDict
import HandS.WordsExc
import HandS.ExcIs
import HandS.Dict
import HandS.Text
import HandS.Replace
import KE.IntTextLaws
import KE.KIntText
import HandS.Codes
import HandS.StrMore
import PyProof.Rows.StrPins
import HandS.DictComp
import PySem.Challenge.RW_lectern_k48_places_exactly
set_option Elab.async false
set_option linter.all false
set_option maxRecDepth 100000
set_option maxHeartbeats 4000000
namespace Mir
open PySem PySem.Spec L2

/-- pure data trees; texts are their codes -/
inductive D where
  | non | bl (b : Bool) | int (i : Int) | str (s : List Nat) | tup (ds : List D) | lst (ds : List D)
  | rol (ds : List D) | dct (kvs : List (D × D)) | rdc (kvs : List (D × D)) | ins (c : Str) (fs : List (Str × D)) | raw (v : V)
  deriving Inhabited

/-- which objects may change -/
def isM : HO → Bool
  | .lst _ => true
  | .dK _ => true
  | .dT _ => true
  | .set _ _ => true
  | .ins _ _ _ => true
  | _ => false
def Keeps (S : List Addr) (H H' : Hp) : Prop := ∀ a o, H a = some o → (isM o = false ∨ a ∉ S) → H' a = some o
theorem Keeps.refl (S : List Addr) (H : Hp) : Keeps S H H := fun _ _ h _ => h
theorem Keeps.mono {S T : List Addr} {H H' : Hp} (k : Keeps S H H') (h : ∀ a, a ∈ S → a ∈ T) : Keeps T H H' := fun a o e q => k a o e (q.imp id fun n m => n (h a m))
/-- steps in a row: what the second may change was there or is new -/
theorem Keeps.trans {S T : List Addr} {H H1 H2 : Hp} (k : Keeps S H H1) (k' : Keeps T H1 H2) (h : ∀ a, a ∈ T → a ∈ S ∨ H a = none) : Keeps S H H2 := fun a o e q => by
  refine k' a o (k a o e q) ?_
  rcases q with q | q
  · exact .inl q
  · refine .inr fun m => ?_
    rcases h a m with z | z
    · exact q z
    · rw [z] at e; cases e
theorem Keeps.same {H H' : Hp} (h : Same H H') (S : List Addr) : Keeps S H H' := fun a o e _ => h a o e
theorem Keeps.toSame {H H' : Hp} (k : Keeps [] H H') : Same H H' := fun a o e => k a o e (.inr (fun h => by cases h))
theorem Keeps.new {H : Hp} {p : Addr} {o : HO} (h : H p = none) (S : List Addr) : Keeps S H (upd H p o) := fun a u e _ => by
  rw [upd_ne (ne_of_none e h)]; exact e
theorem Keeps.upd {H : Hp} {p : Addr} {o u : HO} {S : List Addr} (h : H p = some u) (m : isM u = true) (hp : p ∈ S) : Keeps S H (upd H p o) := fun a w e q => by
  by_cases z : a = p
  · subst z
    rw [h] at e; cases e
    rcases q with q | q
    · rw [m] at q; cases q
    · exact absurd hp q
  · rw [upd_ne z]; exact e
theorem Keeps.none {S : List Addr} {H H' : Hp} (k : Keeps S H H') {a : Addr} (h : H' a = none) (ha : a ∉ S) : H a = none := by
  cases q : H a with
  | none => rfl
  | some o => rw [k a o q (.inr ha)] at h; cases h

/-- a tuple: tracked, or of the written part -/
def TqT (K : PySem.W.Frag) (H : Hp) (a : Addr) (xs : List V) : Prop :=
  H a = some (.tup xs) ∨ ∃ (o : Obj) (its : Array Value) (n : Nat), K.lookup a = some o ∧ o.cls = .type "tuple" ∧ o.data = .seq its n ∧ its.size ≤ sizeLine ∧ Vals xs its.toList
theorem TqT.sq {K : PySem.W.Frag} {H : Hp} {a : Addr} {xs : List V} (h : TqT K H a xs) : SqT K H a xs := by
  rcases h with h | h
  · exact .inl (.inl h)
  · exact .inr h
theorem TqT.of {K : PySem.W.Frag} {H : Hp} {a : Addr} {xs : List V} (h : H a = some (.tup xs)) : TqT K H a xs := .inl h
/-- a list that nobody changes any more: of the hand, or of the written part -/
def RoL (K : PySem.W.Frag) (H : Hp) (a : Addr) (xs : List V) : Prop :=
  (∃ o, H a = some (.frz o (.lst xs))) ∨ ∃ (o : Obj) (its : Array Value) (n : Nat), K.lookup a = some o ∧ o.cls = .type "list" ∧ o.dict = none ∧ o.data = .seq its n ∧ its.size ≤ sizeLine ∧ Vals xs its.toList
theorem RoL.sq {K : PySem.W.Frag} {H : Hp} {a : Addr} {xs : List V} (h : RoL K H a xs) : SqL K H a xs := by
  rcases h with ⟨o, h⟩ | h
  · exact .inl (.inr ⟨o, h⟩)
  · exact .inr h
def kD : Key → D
  | .inl i => .int i
  | .inr x => .str x.cps.toList
/-! ### a value shows a datum; the last list: the objects of it that may change -/
mutual
inductive Rp (K : PySem.W.Frag) (H : Hp) : V → D → List Addr → Prop
  | non : Rp K H .non .non []
  | bl {b : Bool} : Rp K H (.bl b) (.bl b) []
  | int {i : Int} : Rp K H (.int i) (.int i) []
  | str {x : Str} : x.cps.all (· < 0x110000) = true → Rp K H (.str x) (.str x.cps.toList) []
  | raw {v : V} : Rp K H v (.raw v) []
  | tup {a : Addr} {vs : List V} {ds : List D} {F : List Addr} : TqT K H a vs → Rps K H vs ds F → Rp K H (.ref a) (.tup ds) F
  | lst {a : Addr} {vs : List V} {ds : List D} {F : List Addr} : H a = some (.lst vs) → Rps K H vs ds F → Rp K H (.ref a) (.lst ds) (a :: F)
  | rol {a : Addr} {vs : List V} {ds : List D} : RoL K H a vs → Rps K H vs ds [] → Rp K H (.ref a) (.rol ds) []
  | dct {a : Addr} {kvs : List (Key × V)} {ds : List (D × D)} : H a = some (.dK kvs) → kvs.map (fun p => kD p.1) = ds.map (·.1) → Rps K H (kvs.map (·.2)) (ds.map (·.2)) [] → Rp K H (.ref a) (.dct ds) [a]
  | rdc {a : Addr} {kvs : List (Key × V)} {ds : List (D × D)} : (∃ o, H a = some (.frz o (.dK kvs))) → kvs.map (fun p => kD p.1) = ds.map (·.1) → Rps K H (kvs.map (·.2)) (ds.map (·.2)) [] → Rp K H (.ref a) (.rdc ds) []
  | ins {a C dx : Addr} {fs : List (Str × V)} {c : Str} {gs : List (Str × D)} {F : List Addr} : H a = some (.ins C dx fs) → C = He.ga K c → fs.map (·.1) = gs.map (·.1) → Rps K H (fs.map (·.2)) (gs.map (·.2)) F → Rp K H (.ref a) (.ins c gs) (a :: F)
inductive Rps (K : PySem.W.Frag) (H : Hp) : List V → List D → List Addr → Prop
  | nil : Rps K H [] [] []
  | cons {v : V} {d : D} {vs : List V} {ds : List D} {F G : List Addr} : Rp K H v d F → Rps K H vs ds G → Rps K H (v :: vs) (d :: ds) (F ++ G)
end

mutual
/-- no part may change -/
def imm : D → Bool
  | .lst _ => false
  | .dct _ => false
  | .ins _ _ => false
  | .tup ds => imms ds
  | .rol ds => imms ds
  | _ => true
def imms : List D → Bool
  | [] => true
  | d :: ds => imm d && imms ds
end

section
variable {K : PySem.W.Frag} {H H' : Hp}
theorem RoL.keep {S : List Addr} {a : Addr} {xs : List V} (k : Keeps S H H') (h : RoL K H a xs) : RoL K H' a xs := by
  rcases h with ⟨o, h⟩ | h
  · exact .inl ⟨o, k _ _ h (.inl rfl)⟩
  · exact .inr h
theorem TqT.keep {S : List Addr} {a : Addr} {xs : List V} (k : Keeps S H H') (h : TqT K H a xs) : TqT K H' a xs := by
  rcases h with h | h
  · exact .inl (k _ _ h (.inl rfl))
  · exact .inr h
mutual
theorem Rp.keep {S : List Addr} (k : Keeps S H H') : ∀ {v : V} {d : D} {F : List Addr}, Rp K H v d F → (∀ a ∈ F, a ∉ S) → Rp K H' v d F
  | _, _, _, .non, _ => .non
  | _, _, _, .bl, _ => .bl
  | _, _, _, .int, _ => .int
  | _, _, _, .str h, _ => .str h
  | _, _, _, .raw, _ => .raw
  | _, _, _, .tup h r, q => .tup (TqT.keep k h) (Rps.keep k r q)
  | _, _, _, .lst h r, q => .lst (k _ _ h (.inr (q _ List.mem_cons_self))) (Rps.keep k r fun a m => q a (List.mem_cons_of_mem _ m))
  | _, _, _, .rol h r, q => .rol (RoL.keep k h) (Rps.keep k r fun a m => by cases m)
  | _, _, _, .dct h c r, q => .dct (k _ _ h (.inr (q _ List.mem_cons_self))) c (Rps.keep k r fun a m => by cases m)
  | _, _, _, .rdc h c r, q => .rdc (by obtain ⟨o, h⟩ := h; exact ⟨o, k _ _ h (.inl rfl)⟩) c (Rps.keep k r fun a m => by cases m)
  | _, _, _, .ins h c n r, q => .ins (k _ _ h (.inr (q _ List.mem_cons_self))) c n (Rps.keep k r fun a m => q a (List.mem_cons_of_mem _ m))
theorem Rps.keep {S : List Addr} (k : Keeps S H H') : ∀ {vs : List V} {ds : List D} {F : List Addr}, Rps K H vs ds F → (∀ a ∈ F, a ∉ S) → Rps K H' vs ds F
  | _, _, _, .nil, _ => .nil
  | _, _, _, .cons h r, q => .cons (Rp.keep k h fun a m => q a (List.mem_append_left _ m)) (Rps.keep k r fun a m => q a (List.mem_append_right _ m))
end
mutual
theorem Rp.alloc : ∀ {v : V} {d : D} {F : List Addr}, Rp K H v d F → ∀ a ∈ F, ∃ o, H a = some o ∧ isM o = true
  | _, _, _, .non, a, m => by cases m
  | _, _, _, .bl, a, m => by cases m
  | _, _, _, .int, a, m => by cases m
  | _, _, _, .str h, a, m => by cases m
  | _, _, _, .raw, a, m => by cases m
  | _, _, _, .tup h r, a, m => Rps.alloc r a m
  | _, _, _, .lst h r, a, m => by
    rcases List.mem_cons.mp m with e | m
    · subst e; exact ⟨_, h, rfl⟩
    · exact Rps.alloc r a m
  | _, _, _, .rol h r, a, m => by cases m
  | _, _, _, .dct h c r, a, m => by
    rcases List.mem_cons.mp m with e | m
    · subst e; exact ⟨_, h, rfl⟩
    · cases m
  | _, _, _, .rdc h c r, a, m => by cases m
  | _, _, _, .ins h c n r, a, m => by
    rcases List.mem_cons.mp m with e | m
    · subst e; exact ⟨_, h, rfl⟩
    · exact Rps.alloc r a m
theorem Rps.alloc : ∀ {vs : List V} {ds : List D} {F : List Addr}, Rps K H vs ds F → ∀ a ∈ F, ∃ o, H a = some o ∧ isM o = true
  | _, _, _, .nil, a, m => by cases m
  | _, _, _, .cons h r, a, m => by
    rcases List.mem_append.mp m with m | m
    · exact Rp.alloc h a m
    · exact Rps.alloc r a m
end
theorem Rp.there {v : V} {d : D} {F : List Addr} (r : Rp K H v d F) {a : Addr} (m : a ∈ F) : H a ≠ none := fun e => by
  obtain ⟨o, h, _⟩ := r.alloc a m
  rw [e] at h; cases h
theorem Rps.there {vs : List V} {ds : List D} {F : List Addr} (r : Rps K H vs ds F) {a : Addr} (m : a ∈ F) : H a ≠ none := fun e => by
  obtain ⟨o, h, _⟩ := r.alloc a m
  rw [e] at h; cases h
mutual
theorem Rp.fpImm : ∀ {v : V} {d : D} {F : List Addr}, Rp K H v d F → imm d = true → F = []
  | _, _, _, .non, _ => rfl
  | _, _, _, .bl, _ => rfl
  | _, _, _, .int, _ => rfl
  | _, _, _, .str h, _ => rfl
  | _, _, _, .raw, _ => rfl
  | _, _, _, .tup h r, q => Rps.fpImm r (by simpa [imm] using q)
  | _, _, _, .lst h r, q => by simp [imm] at q
  | _, _, _, .rol h r, q => rfl
  | _, _, _, .dct h c r, q => by simp [imm] at q
  | _, _, _, .rdc h c r, q => rfl
  | _, _, _, .ins h c n r, q => by simp [imm] at q
theorem Rps.fpImm : ∀ {vs : List V} {ds : List D} {F : List Addr}, Rps K H vs ds F → imms ds = true → F = []
  | _, _, _, .nil, _ => rfl
  | _, _, _, .cons (d := d) (ds := ds) h r, q => by
    have q' : (imm d && imms ds) = true := by simpa only [imms] using q
    obtain ⟨q1, q2⟩ := Bool.and_eq_true_iff.mp q'
    rw [Rp.fpImm h q1, Rps.fpImm r q2]; rfl
end
theorem Rp.same {v : V} {d : D} {F : List Addr} (r : Rp K H v d F) (k : Keeps [] H H') : Rp K H' v d F := r.keep k fun _ _ m => by cases m
theorem Rps.same {vs : List V} {ds : List D} {F : List Addr} (r : Rps K H vs ds F) (k : Keeps [] H H') : Rps K H' vs ds F := r.keep k fun _ _ m => by cases m
theorem Rps.length {vs : List V} {ds : List D} {F : List Addr} (r : Rps K H vs ds F) : vs.length = ds.length := by
  induction ds generalizing vs F with
  | nil => cases r; rfl
  | cons d ds ih => cases r with
    | cons h r => rw [List.length_cons, List.length_cons, ih r]
theorem Rps.append {vs ws : List V} {ds es : List D} {F G : List Addr} (r : Rps K H vs ds F) (q : Rps K H ws es G) : Rps K H (vs ++ ws) (ds ++ es) (F ++ G) := by
  induction ds generalizing vs F with
  | nil => cases r; exact q
  | cons d ds ih => cases r with
    | cons h r => rw [List.append_assoc]; exact .cons h (ih r)
/-- the i-th part -/
theorem Rps.get {vs : List V} {ds : List D} {F : List Addr} (r : Rps K H vs ds F) {i : Nat} {d : D} (e : ds[i]? = some d) : ∃ v G, vs[i]? = some v ∧ Rp K H v d G ∧ ∀ a ∈ G, a ∈ F := by
  induction ds generalizing vs F i with
  | nil => simp at e
  | cons d' ds ih =>
    cases r with
    | cons h r =>
      cases i with
      | zero => simp at e; subst e; exact ⟨_, _, rfl, h, fun a m => List.mem_append_left _ m⟩
      | succ i =>
        obtain ⟨v, G, h1, h2, h3⟩ := ih r (by simpa using e)
        exact ⟨v, G, by simpa using h1, h2, fun a m => List.mem_append_right _ (h3 a m)⟩
theorem Rps.getV {vs : List V} {ds : List D} {F : List Addr} (r : Rps K H vs ds F) {i : Nat} {v : V} (e : vs[i]? = some v) : ∃ d G, ds[i]? = some d ∧ Rp K H v d G ∧ ∀ a ∈ G, a ∈ F := by
  have hl := r.length
  obtain ⟨hi, _⟩ := List.getElem?_eq_some_iff.mp e
  obtain ⟨v', G, h1, h2, h3⟩ := r.get (List.getElem?_eq_getElem (show i < ds.length by omega))
  rw [e] at h1; cases h1
  exact ⟨_, G, List.getElem?_eq_getElem (show i < ds.length by omega), h2, h3⟩
theorem Rps.takeD {vs : List V} {ds : List D} (r : Rps K H vs ds []) (n : Nat) : Rps K H (vs.take n) (ds.take n) [] ∧ Rps K H (vs.drop n) (ds.drop n) [] := by
  induction ds generalizing vs n with
  | nil => cases r; simp; exact Rps.nil
  | cons d ds ih =>
    generalize hF : ([] : List Addr) = F at r
    cases r with
    | cons h r =>
      obtain ⟨e1, e2⟩ := List.append_eq_nil_iff.mp hF.symm
      subst e1 e2
      cases n with
      | zero => exact ⟨Rps.nil, Rps.cons h r⟩
      | succ n => exact ⟨Rps.cons h (ih r n).1, (ih r n).2⟩
end
theorem imms_all : ∀ {ds : List D}, imms ds = ds.all imm
  | [] => rfl
  | d :: ds => by rw [imms, List.all_cons, imms_all]
end Mir

namespace Mir
open PySem PySem.Spec L2

abbrev E := List (Option D)
structure Ex where
  cls : Str
  fs : List (Str × D)
inductive Rs (α : Type) where | ok (a : α) | exc (x : Ex) | bad
inductive Re (α : Type) where | ok (a : α) (e : E) | exc (x : Ex) (e : E) | bad
/-- what a statement ends in -/
inductive SR where | nx (e : E) | rt (d : D) (e : E) | bk (e : E) | ct (e : E) | exc (x : Ex) (e : E) | bad
abbrev MB := E → Rs D
abbrev ME := E → Re D
abbrev MT := E → Re Bool
abbrev MS := E → SR
def Rs.bind {α β : Type} (r : Rs α) (f : α → Rs β) : Rs β := match r with
  | .ok a => f a
  | .exc x => .exc x
  | .bad => .bad
def Re.bind {α β : Type} (r : Re α) (f : α → E → Re β) : Re β := match r with
  | .ok a e => f a e
  | .exc x e => .exc x e
  | .bad => .bad
def Rs.of {α : Type} : Option α → Rs α
  | some a => .ok a
  | none => .bad
def Rs.at {α : Type} (r : Rs α) (e : E) : Re α := match r with
  | .ok a => .ok a e
  | .exc x => .exc x e
  | .bad => .bad

inductive RelS (K : PySem.W.Frag) (H : Hp) : St → E → List Addr → Prop
  | nil : RelS K H [] [] []
  | no {x : Option V} {σ : St} {e : E} {F : List Addr} : RelS K H σ e F → RelS K H (x :: σ) (none :: e) F
  | so {v : V} {d : D} {σ : St} {e : E} {G F : List Addr} : Rp K H v d G → RelS K H σ e F → RelS K H (some v :: σ) (some d :: e) (G ++ F)

section
variable {K : PySem.W.Frag} {H H' : Hp} {σ : St} {e : E} {F : List Addr}
theorem RelS.keep {S : List Addr} (r : RelS K H σ e F) (k : Keeps S H H') (h : ∀ a ∈ F, a ∉ S) : RelS K H' σ e F := by
  induction r with
  | nil => exact .nil
  | no r ih => exact .no (ih h)
  | so p r ih => exact .so (p.keep k fun a m => h a (List.mem_append_left _ m)) (ih fun a m => h a (List.mem_append_right _ m))
theorem RelS.same (r : RelS K H σ e F) (k : Keeps [] H H') : RelS K H' σ e F := r.keep k fun _ _ m => by cases m
theorem RelS.len (r : RelS K H σ e F) : σ.length = e.length := by
  induction r with
  | nil => rfl
  | no r ih => rw [List.length_cons, List.length_cons, ih]
  | so p r ih => rw [List.length_cons, List.length_cons, ih]
theorem RelS.there (r : RelS K H σ e F) {a : Addr} (m : a ∈ F) : H a ≠ none := by
  induction r with
  | nil => cases m
  | no r ih => exact ih m
  | so p r ih =>
    rcases List.mem_append.mp m with m | m
    · exact p.there m
    · exact ih m
theorem RelS.alloc (r : RelS K H σ e F) {a : Addr} (m : a ∈ F) : ∃ o, H a = some o ∧ isM o = true := by
  induction r with
  | nil => cases m
  | no r ih => exact ih m
  | so p r ih =>
    rcases List.mem_append.mp m with m | m
    · exact p.alloc a m
    · exact ih m
theorem RelS.take (r : RelS K H σ e F) {i : Nat} {d : D} (h : e[i]? = some (some d)) : ∃ v G F0, σ[i]? = some (some v) ∧ Rp K H v d G ∧ RelS K H σ (e.set i none) F0 ∧ F.Perm (G ++ F0) := by
  induction r generalizing i with
  | nil => simp at h
  | no r ih =>
    cases i with
    | zero => simp at h
    | succ i =>
      obtain ⟨v, G, F0, h1, h2, h3, h4⟩ := ih (by simpa using h)
      exact ⟨v, G, F0, by simpa using h1, h2, .no h3, h4⟩
  | @so v' d' σ' e' G' F' p r ih =>
    cases i with
    | zero =>
      have e1 : d' = d := by simpa using h
      subst e1
      exact ⟨v', G', F', rfl, p, .no r, .refl _⟩
    | succ i =>
      obtain ⟨v, G, F0, h1, h2, h3, h4⟩ := ih (by simpa using h)
      refine ⟨v, G, G' ++ F0, by simpa using h1, h2, .so p h3, ?_⟩
      have q : (G' ++ F').Perm (G' ++ (G ++ F0)) := List.Perm.append_left _ h4
      refine q.trans ?_
      rw [← List.append_assoc, ← List.append_assoc]
      exact List.Perm.append_right _ List.perm_append_comm
theorem RelS.put (r : RelS K H σ e F) {i : Nat} {v : V} {d : D} {G : List Addr} (h : e[i]? = some none) (p : Rp K H v d G) : ∃ F', RelS K H (σ.set i (some v)) (e.set i (some d)) F' ∧ F'.Perm (G ++ F) := by
  induction r generalizing i with
  | nil => simp at h
  | no r ih =>
    cases i with
    | zero => exact ⟨_, .so p r, .refl _⟩
    | succ i =>
      obtain ⟨F', h1, h2⟩ := ih (by simpa using h)
      exact ⟨F', .no h1, h2⟩
  | @so v' d' σ' e' G' F' q r ih =>
    cases i with
    | zero => simp at h
    | succ i =>
      obtain ⟨F2, h1, h2⟩ := ih (by simpa using h)
      refine ⟨G' ++ F2, .so q h1, ?_⟩
      refine (List.Perm.append_left G' h2).trans ?_
      rw [← List.append_assoc, ← List.append_assoc]
      exact List.Perm.append_right _ List.perm_append_comm
theorem set_self {α : Type} : ∀ {l : List α} {i : Nat} {a : α}, l[i]? = some a → l.set i a = l
  | [], _, _, h => by simp at h
  | x :: l, 0, a, h => by simp at h; subst h; rfl
  | x :: l, i + 1, a, h => by
    rw [List.set_cons_succ, set_self (l := l) (by simpa using h)]
theorem RelS.get (r : RelS K H σ e F) {i : Nat} {d : D} (h : e[i]? = some (some d)) : ∃ v G, σ[i]? = some (some v) ∧ Rp K H v d G ∧ ∀ a ∈ G, a ∈ F := by
  obtain ⟨v, G, F0, h1, h2, h3, h4⟩ := r.take h
  exact ⟨v, G, h1, h2, fun a m => h4.mem_iff.mpr (List.mem_append_left _ m)⟩
/-- whatever stands at a place may be given up -/
theorem RelS.drop (r : RelS K H σ e F) (i : Nat) : ∃ F0 G, RelS K H σ (e.set i none) F0 ∧ F.Perm (G ++ F0) := by
  cases q : e[i]? with
  | none =>
    rw [List.set_eq_of_length_le (List.getElem?_eq_none_iff.mp q)]
    exact ⟨F, [], r, .refl _⟩
  | some o =>
    cases o with
    | none => rw [set_self q]; exact ⟨F, [], r, .refl _⟩
    | some d =>
      obtain ⟨v, G, F0, h1, h2, h3, h4⟩ := r.take q
      exact ⟨F0, G, h3, h4⟩
end

/-! ### states in a row -/
structure Ev (K : PySem.W.Frag) (F : List Addr) (H : Hp) (σ' : St) (H' : Hp) (e' : E) (F' : List Addr) : Prop where
  k : Keeps F H H'
  r : RelS K H' σ' e' F'
  nd : F'.Nodup
  new : ∀ a ∈ F', a ∈ F ∨ H a = none
section
variable {K : PySem.W.Frag} {H H1 H2 : Hp} {σ σ1 σ2 : St} {e e1 e2 : E} {F F1 F2 : List Addr}
theorem Ev.trans (x : Ev K F H σ1 H1 e1 F1) (y : Ev K F1 H1 σ2 H2 e2 F2) : Ev K F H σ2 H2 e2 F2 where
  k := x.k.trans y.k x.new
  r := y.r
  nd := y.nd
  new := fun a m => by
    rcases y.new a m with h | h
    · exact x.new a h
    · by_cases z : a ∈ F
      · exact .inl z
      · exact .inr (x.k.none h z)
/-- nothing but new things -/
theorem Ev.grow (x : Ev K F H σ1 H1 e1 F1) (k : Keeps [] H1 H2) : Ev K F H σ1 H2 e1 F1 :=
  x.trans ⟨k.mono (fun _ m => by cases m), x.r.same k, x.nd, fun a m => Or.inl m⟩
theorem Ev.refl (r : RelS K H σ e F) (nd : F.Nodup) : Ev K F H σ H e F := ⟨.refl _ _, r, nd, fun _ m => .inl m⟩
theorem Ev.pure (r : RelS K H σ e F) (nd : F.Nodup) (k : Keeps [] H H1) : Ev K F H σ H1 e F := (Ev.refl r nd).grow k
/-- the first of the slots -/
theorem Ev.head {v : V} {d : D} (x : Ev K F H (some v :: σ1) H1 (some d :: e1) F1) : ∃ G F0, F1 = G ++ F0 ∧ Rp K H1 v d G ∧ Ev K F H σ1 H1 e1 F0 ∧ (∀ a ∈ G, a ∉ F0) ∧ G.Nodup ∧ ∀ a ∈ G, a ∈ F ∨ H a = none := by
  obtain ⟨k, r, nd, nw⟩ := x
  cases r with
  | so p r =>
    obtain ⟨n1, n2, n3⟩ := List.nodup_append.mp nd
    exact ⟨_, _, rfl, p, ⟨k, r, n2, fun a m => nw a (List.mem_append_right _ m)⟩, fun a m m' => n3 a m a m' rfl, n1, fun a m => nw a (List.mem_append_left _ m)⟩
theorem Ev.cons {v : V} {d : D} {G : List Addr} (x : Ev K F H σ1 H1 e1 F1) (p : Rp K H1 v d G) (hd : ∀ a ∈ G, a ∉ F1) (nd : G.Nodup) (nw : ∀ a ∈ G, a ∈ F ∨ H a = none) : Ev K F H (some v :: σ1) H1 (some d :: e1) (G ++ F1) where
  k := x.k
  r := .so p x.r
  nd := List.nodup_append.mpr ⟨nd, x.nd, fun a m b m' z => by subst z; exact hd a m m'⟩
  new := fun a m => by
    rcases List.mem_append.mp m with m | m
    · exact nw a m
    · exact x.new a m
/-- a new thing on top -/
theorem Ev.consNew {v : V} {d : D} {G : List Addr} (x : Ev K F H σ1 H1 e1 F1) (k : Keeps [] H1 H2) (p : Rp K H2 v d G) (nd : G.Nodup) (nw : ∀ a ∈ G, H1 a = none) : Ev K F H (some v :: σ1) H2 (some d :: e1) (G ++ F1) :=
  (x.grow k).cons p (fun a m m' => x.r.there m' (nw a m)) nd fun a m => by
    by_cases z : a ∈ F
    · exact .inl z
    · exact .inr (x.k.none (nw a m) z)
theorem Ev.consImm {v : V} {d : D} {G : List Addr} (x : Ev K F H σ1 H1 e1 F1) (p : Rp K H1 v d G) (hi : imm d = true) : Ev K F H (some v :: σ1) H1 (some d :: e1) F1 := by
  have e := p.fpImm hi
  subst e
  exact x.cons p (fun _ m => by cases m) .nil (fun _ m => by cases m)
/-- a thing that waits while the rest goes on -/
theorem Ev.frame {v : V} {d : D} (x : Ev K F H (some v :: σ1) H1 (some d :: e1) F1) {F0 : List Addr} (hF : ∀ G F', F1 = G ++ F' → RelS K H1 σ1 e1 F' → Rp K H1 v d G → F' = F0) (y : Ev K F0 H1 σ2 H2 e2 F2) : ∃ F3, Ev K F H (some v :: σ2) H2 (some d :: e2) F3 := by
  obtain ⟨G, F', eF, p, x', hd, n1, nw⟩ := x.head
  have e0 := hF G F' eF x'.r p
  subst e0
  refine ⟨_, (x'.trans y).cons (p.keep y.k hd) (fun a m m' => ?_) n1 nw⟩
  rcases y.new a m' with h | h
  · exact hd a m h
  · exact p.there m h
/-- the slot i is given a value -/
theorem Ev.store {v : V} {d : D} (x : Ev K F H (some v :: σ1) H1 (some d :: e1) F1) (i : Nat) (hi : i < e1.length) : ∃ F3, Ev K F H (σ1.set i (some v)) H1 (e1.set i (some d)) F3 := by
  obtain ⟨G, F', eF, p, x', hd, n1, nw⟩ := x.head
  obtain ⟨F0, G0, r0, pm⟩ := x'.r.drop i
  have hn : (e1.set i none)[i]? = some none := by rw [List.getElem?_set_self hi]
  obtain ⟨F3, r3, pm3⟩ := r0.put hn p
  rw [List.set_set] at r3
  have nd0 := (List.nodup_append.mp (pm.nodup_iff.mp x'.nd)).2.1
  have sub : ∀ a ∈ F0, a ∈ F' := fun a m => pm.mem_iff.mpr (List.mem_append_right _ m)
  refine ⟨F3, x'.k, r3, pm3.nodup_iff.mpr (List.nodup_append.mpr ⟨n1, nd0, fun a m b m' z => by subst z; exact hd a m (sub a m')⟩), fun a m => ?_⟩
  rcases List.mem_append.mp (pm3.mem_iff.mp m) with m | m
  · exact nw a m
  · exact x'.new a (sub a m)
/-- a slot is emptied onto the top -/
theorem Ev.move {d : D} {i : Nat} (x : Ev K F H σ1 H1 e1 F1) (h : e1[i]? = some (some d)) : ∃ v F3, σ1[i]? = some (some v) ∧ Ev K F H (some v :: σ1) H1 (some d :: e1.set i none) F3 := by
  obtain ⟨v, G, F0, h1, h2, h3, h4⟩ := x.r.take h
  exact ⟨v, _, h1, x.k, .so h2 h3, h4.nodup_iff.mp x.nd, fun a m => x.new a (h4.mem_iff.mpr m)⟩
/-- the top goes back to its own slot -/
theorem Ev.back {v : V} {d : D} {i : Nat} (x : Ev K F H (some v :: σ1) H1 (some d :: e1) F1) (hs : σ1[i]? = some (some v)) : ∃ F3, Ev K F H σ1 H1 (e1.set i (some d)) F3 := by
  have hl : σ1.length = e1.length := by
    have := x.r.len
    simpa using this
  obtain ⟨hi, _⟩ := List.getElem?_eq_some_iff.mp hs
  obtain ⟨F3, y⟩ := x.store i (by omega)
  rw [set_self hs] at y
  exact ⟨F3, y⟩
end

/-! ### exceptions -/
structure RpX (K : PySem.W.Frag) (H : Hp) (c : Value) (dx : Option Addr) (x : Ex) : Prop where
  cls : c = .ref (He.ga K x.cls)
  fs : (x.fs = [] ∧ dx = none) ∨ ∃ d vs, x.fs ≠ [] ∧ dx = some d ∧ H d = some (.xd vs) ∧ vs.map (·.1) = x.fs.map (·.1) ∧ Rps K H (vs.map (·.2)) (x.fs.map (·.2)) []
theorem RpX.same {K : PySem.W.Frag} {H H' : Hp} {c : Value} {dx : Option Addr} {x : Ex} {S : List Addr} (p : RpX K H c dx x) (k : Keeps S H H') : RpX K H' c dx x := by
  refine ⟨p.cls, p.fs.imp id ?_⟩
  rintro ⟨d, vs, h0, h1, h2, h3, h4⟩
  exact ⟨d, vs, h0, h1, k _ _ h2 (.inl rfl), h3, h4.keep k fun _ m => by cases m⟩

/-! ### the readings of mirrors -/
def tB (K : PySem.W.Frag) (W : WX) (m : MB) : TE := fun σ H Q => ∃ e F, RelS K H σ e F ∧ match m e with
  | .ok d => ∀ v H' G, Keeps [] H H' → Rp K H' v d G → Q v H'
  | .exc x => ∀ c dx H', Keeps [] H H' → RpX K H' c dx x → W c dx σ H'
  | .bad => False
def tN (K : PySem.W.Frag) (W : WX) (m : MB) : TE := fun σ H Q => ∃ e F, RelS K H σ e F ∧ match m e with
  | .ok d => ∀ v H' G, Keeps [] H H' → Rp K H' v d G → G.Nodup → (∀ a ∈ G, H a = none) → Q v H'
  | .exc x => ∀ c dx H', Keeps [] H H' → RpX K H' c dx x → W c dx σ H'
  | .bad => False
def tE (K : PySem.W.Frag) (W : WX) (m : ME) : TE := fun σ H Q => ∃ e F, RelS K H σ e F ∧ F.Nodup ∧ match m e with
  | .ok d e' => ∀ v H' F', Ev K F H (some v :: σ) H' (some d :: e') F' → Q v H'
  | .exc x e' => ∀ c dx H' F', Ev K F H σ H' e' F' → RpX K H' c dx x → W c dx σ H'
  | .bad => False
def tT (K : PySem.W.Frag) (W : WX) (m : MT) : TT := fun σ H Q => ∃ e F, RelS K H σ e F ∧ F.Nodup ∧ match m e with
  | .ok b e' => ∀ H' F', Ev K F H σ H' e' F' → Q b H'
  | .exc x e' => ∀ c dx H' F', Ev K F H σ H' e' F' → RpX K H' c dx x → W c dx σ H'
  | .bad => False
/-- the slots that keep their values -/
abbrev Zs := Nat → Bool
def Fz (Z : Zs) (σ σ' : St) : Prop := σ'.length = σ.length ∧ ∀ i, Z i = true → σ'[i]? = σ[i]?
theorem Fz.refl (Z : Zs) (σ : St) : Fz Z σ σ := ⟨rfl, fun _ _ => rfl⟩
theorem Fz.trans {Z : Zs} {σ σ1 σ2 : St} (a : Fz Z σ σ1) (b : Fz Z σ1 σ2) : Fz Z σ σ2 := ⟨b.1.trans a.1, fun i m => (b.2 i m).trans (a.2 i m)⟩
theorem Fz.sub {Z Y : Zs} {σ σ1 : St} (a : Fz Y σ σ1) (h : ∀ i, Z i = true → Y i = true) : Fz Z σ σ1 := ⟨a.1, fun i m => a.2 i (h i m)⟩
def z0 : Zs := fun _ => false
def zc (i : Nat) (Z : Zs) : Zs := fun j => j == i || Z j
def zw (vs : List Nat) : Zs := fun j => !vs.contains j
def tM (K : PySem.W.Frag) (W : WX) (Z : Zs) (m : MS) : TS := fun D σ H => ∃ e F, RelS K H σ e F ∧ F.Nodup ∧ match m e with
  | .nx e' => ∀ σ' H' F', Ev K F H σ' H' e' F' → Fz Z σ σ' → D.nx σ' H'
  | .rt d e' => ∀ v σ' H' F', Ev K F H (some v :: σ') H' (some d :: e') F' → Fz Z σ σ' → D.rt v H'
  | .bk e' => ∀ σ' H' F', Ev K F H σ' H' e' F' → Fz Z σ σ' → D.bk σ' H'
  | .ct e' => ∀ σ' H' F', Ev K F H σ' H' e' F' → Fz Z σ σ' → D.ct σ' H'
  | .exc x e' => ∀ c dx σ' H' F', Ev K F H σ' H' e' F' → Fz Z σ σ' → RpX K H' c dx x → W c dx σ' H'
  | .bad => False

theorem PE.mono {X : Cx} {e : Expr} {t t' : TE} (p : PE X e t) (h : ∀ σ H Q, t' σ H Q → t σ H Q) : PE X e t' := ⟨fun pins s σ H Q I q => p.run pins s σ H Q I (h _ _ _ q)⟩
theorem PE.or {X : Cx} {e : Expr} {t t' : TE} (p : PE X e t) (p' : PE X e t') : PE X e (fun σ H Q => t σ H Q ∨ t' σ H Q) := ⟨fun pins s σ H Q I q => q.elim (p.run pins s σ H Q I) (p'.run pins s σ H Q I)⟩
theorem PT.mono {X : Cx} {e : Expr} {t t' : TT} (p : PT X e t) (h : ∀ σ H Q, t' σ H Q → t σ H Q) : PT X e t' := ⟨fun pins s σ H Q I q => p.run pins s σ H Q I (h _ _ _ q)⟩
theorem PW.mono {X : Cx} {e : Expr} {t t' : TT} (p : PW X e t) (h : ∀ σ H Q, t' σ H Q → t σ H Q) : PW X e t' := ⟨fun wh pins s σ H Q I q => p.run wh pins s σ H Q I (h _ _ _ q)⟩
theorem PA.mono {X : Cx} {e : List Expr} {t t' : TA} (p : PA X e t) (h : ∀ σ H Q, t' σ H Q → t σ H Q) : PA X e t' := ⟨fun pos pins s σ H Q I q => p.run pos pins s σ H Q I (h _ _ _ q)⟩
theorem PS.mono {X : Cx} {e : Stmt} {t t' : TS} (p : PS X e t) (h : ∀ D σ H, t' D σ H → t D σ H) : PS X e t' := ⟨fun pins s σ H Q I q => p.run pins s σ H Q I (h _ _ _ q)⟩
theorem PSs.mono {X : Cx} {e : List Stmt} {t t' : TS} (p : PSs X e t) (h : ∀ D σ H, t' D σ H → t D σ H) : PSs X e t' := ⟨fun pins s σ H Q I q => p.run pins s σ H Q I (h _ _ _ q)⟩
theorem PI.or {X : Cx} {tg e : Expr} {t t' : TI} (p : PI X tg e t) (p' : PI X tg e t') : PI X tg e (fun σ H R => t σ H R ∨ t' σ H R) := ⟨fun pins s σ H Q I q => q.elim (p.run pins s σ H Q I) (p'.run pins s σ H Q I)⟩

section
variable {X : Cx} {W : WX} {x : Expr}
theorem nb {m : MB} (p : PE X x (tN X.K W m)) : PE X x (tB X.K W m) := PE.mono p fun σ H Q ⟨e, F, r, h⟩ => ⟨e, F, r, by
  split at h
  · exact fun v H' G k p _ _ => h v H' G k p
  · exact h
  · exact h⟩
/-- a new thing, as a step -/
def ofN (m : MB) : ME := fun e => (m e).at e
theorem ne {m : MB} (p : PE X x (tN X.K W m)) : PE X x (tE X.K W (ofN m)) := PE.mono p fun σ H Q ⟨e, F, r, nd, h⟩ => ⟨e, F, r, by
  unfold ofN Rs.at at h
  cases q : m e with
  | ok d => rw [q] at h; exact fun v H' G k p n1 n2 => h v H' _ ((Ev.refl r nd).consNew k p n1 n2)
  | exc y => rw [q] at h; exact fun c dx H' k p => h c dx H' _ (Ev.pure r nd k) p
  | bad => rw [q] at h; exact h⟩
/-- a thing that can't change, as a step -/
def own (m : MB) : ME := fun e => (m e).bind (fun d => if imm d = true then .ok d else .bad) |>.at e
theorem be {m : MB} (p : PE X x (tB X.K W m)) : PE X x (tE X.K W (own m)) := PE.mono p fun σ H Q ⟨e, F, r, nd, h⟩ => ⟨e, F, r, by
  unfold own at h
  cases q : m e with
  | ok d =>
    rw [q] at h
    by_cases hi : imm d = true
    · simp only [Rs.bind, hi, if_true, Rs.at] at h
      exact fun v H' G k p => h v H' F ((Ev.pure r nd k).consImm p hi)
    · simp only [Rs.bind, hi, Rs.at] at h
      exact h.elim
  | exc y => rw [q] at h; exact fun c dx H' k p => h c dx H' _ (Ev.pure r nd k) p
  | bad => rw [q] at h; exact h⟩
end
end Mir

namespace Mir
open PySem PySem.Spec L2

/-! ### names and constants -/
def bVar (i : Nat) : MB := fun e => match e[i]? with
  | some (some d) => .ok d
  | _ => .bad
def eMv (i : Nat) : ME := fun e => match e[i]? with
  | some (some d) => .ok d (e.set i none)
  | _ => .bad
def bC (d : D) : MB := fun _ => .ok d
/-- a text's codes -/
def lit (s : String) : List Nat := (Str.ofString s).cps.toList
theorem lit_eq (s : String) : lit s = s.toList.map Char.toNat := by
  unfold lit
  rw [Str.ofString_eq_toList]
theorem okC_of {l : List Nat} (h : ∀ c ∈ l, c < 0x110000) : (⟨l.toArray⟩ : Str).cps.all (· < 0x110000) = true := by
  rw [← Array.all_toList]
  exact List.all_eq_true.mpr fun c m => decide_eq_true (h c (by simpa using m))
theorem okC_mem {x : Str} (h : x.cps.all (· < 0x110000) = true) : ∀ c ∈ x.cps.toList, c < 0x110000 := fun c m => by
  rw [← Array.all_toList] at h
  exact of_decide_eq_true (List.all_eq_true.mp h c m)
theorem lit_ok (s : String) : (Str.ofString s).cps.all (· < 0x110000) = true := by
  rw [Str.ofString_eq_toList]
  refine okC_of fun c m => ?_
  obtain ⟨ch, _, rfl⟩ := List.mem_map.mp m
  have h := ch.valid
  simp only [UInt32.isValidChar, Nat.isValidChar] at h
  show ch.val.toNat < 0x110000
  omega
section
variable {X : Cx} {W : WX} {pos : Pos}
theorem x_var {i : Nat} {x : Str} (hN : X.N[i]? = some x := by rfl) (hv : Vis X.env.scope x := by first | exact Or.inl rfl | exact Or.inr (Or.inl rfl) | exact Or.inr (Or.inr rfl)) (hd : (x == ("__debug__" : Str)) = false := by decide)
    (hcd : (x == ("__classdict__" : Str)) = false := by decide) : PE X (.Name x pos) (tB X.K W (bVar i)) := PE.mono (pe_var hN hv hd hcd) fun σ H Q ⟨e, F, r, h⟩ => by
  unfold bVar at h
  cases q : e[i]? with
  | none => rw [q] at h; exact h.elim
  | some o =>
    rw [q] at h
    cases o with
    | none => exact h.elim
    | some d =>
      obtain ⟨v, G, h1, h2, h3⟩ := r.get q
      exact ⟨v, h1, h v H G (.refl _ _) h2⟩
theorem x_mv {i : Nat} {x : Str} (hN : X.N[i]? = some x := by rfl) (hv : Vis X.env.scope x := by first | exact Or.inl rfl | exact Or.inr (Or.inl rfl) | exact Or.inr (Or.inr rfl)) (hd : (x == ("__debug__" : Str)) = false := by decide)
    (hcd : (x == ("__classdict__" : Str)) = false := by decide) : PE X (.Name x pos) (tE X.K W (eMv i)) := PE.mono (pe_var hN hv hd hcd) fun σ H Q ⟨e, F, r, nd, h⟩ => by
  unfold eMv at h
  cases q : e[i]? with
  | none => rw [q] at h; exact h.elim
  | some o =>
    rw [q] at h
    cases o with
    | none => exact h.elim
    | some d =>
      obtain ⟨v, F3, h1, h2⟩ := (Ev.refl r nd).move q
      exact ⟨v, h1, h v H F3 h2⟩
theorem tC_N {v : V} {d : D} (p : ∀ H, Rp X.K H v d []) {σ : L2.St} {H : Hp} {Q : VK} (h : tN X.K W (bC d) σ H Q) : tC v σ H Q := by
  obtain ⟨e, F, r, h⟩ := h
  exact h v H [] (.refl _ _) (p H) .nil fun _ m => by cases m
theorem x_int {i : Int} {j : Nat} : PE X (.Constant (.int i) j pos) (tN X.K W (bC (.int i))) := PE.mono pe_int fun _ _ _ h => tC_N (fun _ => .int) h
theorem x_bl {b : Bool} {j : Nat} : PE X (.Constant (.bool b) j pos) (tN X.K W (bC (.bl b))) := PE.mono pe_bl fun _ _ _ h => tC_N (fun _ => .bl) h
theorem x_non {j : Nat} : PE X (.Constant .none j pos) (tN X.K W (bC .non)) := PE.mono pe_non fun _ _ _ h => tC_N (fun _ => .non) h
theorem x_str {s : String} {j : Nat} : PE X (.Constant (.str (Str.ofString s)) j pos) (tN X.K W (bC (.str (lit s)))) := PE.mono pe_str fun _ _ _ h => tC_N (fun _ => .str (lit_ok s)) h
theorem x_glob {x : Str} {v : V} {u : Value} {d : D} (hg : Gl X x) (hm : X.mg x = some u) (r : RelV v u) (p : ∀ H, Rp X.K H v d []) (hd : (x == ("__debug__" : Str)) = false := by decide) : PE X (.Name x pos) (tN X.K W (bC d)) :=
  PE.mono (pe_glob hg hm r hd) fun _ _ _ h => tC_N p h
theorem x_bltn {x : Str} {v : V} {u : Value} (hg : Gl X x) (hm : X.mg x = none) (hv : bootBuiltins x = some u) (r : RelV v u) (hn : x ≠ "__name__" := by decide) (hd : (x == ("__debug__" : Str)) = false := by decide) : PE X (.Name x pos) (tN X.K W (bC (.raw v))) :=
  PE.mono (pe_bltn hg hm hv r hn hd) fun _ _ _ h => tC_N (fun _ => .raw) h
end

/-! ### two operands -/
def OpN (K : PySem.W.Frag) (r : R2) (f : D → D → Option D) : Prop := ∀ {H : Hp} {v1 v2 : V} {d1 d2 : D} {G1 G2 : List Addr} {d : D} {Q : VK}, Rp K H v1 d1 G1 → Rp K H v2 d2 G2 → f d1 d2 = some d →
  (∀ v H' G, Keeps [] H H' → Rp K H' v d G → G.Nodup → (∀ a ∈ G, H a = none) → Q v H') → r v1 v2 H Q
def OpB (K : PySem.W.Frag) (r : R2) (f : D → D → Option D) : Prop := ∀ {H : Hp} {v1 v2 : V} {d1 d2 : D} {G1 G2 : List Addr} {d : D} {Q : VK}, Rp K H v1 d1 G1 → Rp K H v2 d2 G2 → f d1 d2 = some d →
  (∀ v H' G, Keeps [] H H' → Rp K H' v d G → Q v H') → r v1 v2 H Q
def immF (f : D → D → Option D) : D → D → Option D := fun a b => (f a b).bind fun d => if imm d = true then some d else none
theorem OpB.imm {K : PySem.W.Frag} {r : R2} {f : D → D → Option D} (o : OpB K r f) : OpN K r (immF f) := fun {H v1 v2 d1 d2 G1 G2 d Q} p1 p2 e h => by
  unfold immF at e
  cases q : f d1 d2 with
  | none => rw [q] at e; cases e
  | some d' =>
    rw [q] at e
    by_cases hi : Mir.imm d' = true
    · simp only [Option.bind_some, hi, if_true, Option.some.injEq] at e
      subst e
      exact o p1 p2 q fun v H' G k p => by
        have e0 := p.fpImm hi
        subst e0
        exact h v H' [] k p .nil fun _ m => by cases m
    · simp only [Option.bind_some, hi, if_false] at e
      cases e
/-- both read -/
def bin (f : D → D → Option D) (ma mb : MB) : MB := fun e => (ma e).bind fun a => (mb e).bind fun b => .of (f a b)
/-- both as steps -/
def binE (f : D → D → Option D) (ma mb : ME) : ME := fun e => (ma e).bind fun a e1 => (mb e1).bind fun b e2 => (Rs.of (f a b)).at e2
/-- a name, a step -/
def binV (f : D → D → Option D) (i : Nat) (mb : ME) : ME := fun e => match e[i]? with
  | some (some _) => (mb e).bind fun b e2 => match e2[i]? with
    | some (some a) => (Rs.of (f a b)).at e2
    | _ => .bad
  | _ => .bad
section
variable {K : PySem.W.Frag} {W : WX} {r : R2} {f : D → D → Option D} {ma mb : MB} {na nb' : ME} {σ : L2.St} {H : Hp} {Q : VK}
theorem op_bb (o : OpN K r f) (h : tN K W (bin f ma mb) σ H Q) : tOp r (tB K W ma) (tB K W mb) σ H Q := by
  obtain ⟨e, F, rl, h⟩ := h
  unfold bin at h
  refine ⟨e, F, rl, ?_⟩
  cases qa : ma e with
  | bad => rw [qa] at h; exact h
  | exc y => rw [qa] at h; exact h
  | ok a =>
    rw [qa] at h
    intro v1 H1 G1 k1 p1
    refine ⟨e, F, rl.same k1, ?_⟩
    cases qb : mb e with
    | bad => simp only [Rs.bind, qb] at h
    | exc y =>
      simp only [Rs.bind, qb] at h
      exact fun c dx H' k p => h c dx H' (k1.trans k fun _ m => by cases m) p
    | ok b =>
      simp only [Rs.bind, qb] at h
      intro v2 H2 G2 k2 p2
      cases qf : f a b with
      | none => rw [qf] at h; exact h.elim
      | some d =>
        rw [qf] at h
        have k12 : Keeps [] H H2 := k1.trans k2 fun _ m => by cases m
        exact o (p1.same k2) p2 qf fun v H' G k p n1 n2 => h v H' G (k12.trans k fun _ m => by cases m) p n1 fun z m => k12.none (n2 z m) fun m => by cases m
theorem op_bbB (o : OpB K r f) (h : tB K W (bin f ma mb) σ H Q) : tOp r (tB K W ma) (tB K W mb) σ H Q := by
  obtain ⟨e, F, rl, h⟩ := h
  unfold bin at h
  refine ⟨e, F, rl, ?_⟩
  cases qa : ma e with
  | bad => rw [qa] at h; exact h
  | exc y => rw [qa] at h; exact h
  | ok a =>
    rw [qa] at h
    intro v1 H1 G1 k1 p1
    refine ⟨e, F, rl.same k1, ?_⟩
    cases qb : mb e with
    | bad => simp only [Rs.bind, qb] at h
    | exc y =>
      simp only [Rs.bind, qb] at h
      exact fun c dx H' k p => h c dx H' (k1.trans k fun _ m => by cases m) p
    | ok b =>
      simp only [Rs.bind, qb] at h
      intro v2 H2 G2 k2 p2
      cases qf : f a b with
      | none => rw [qf] at h; exact h.elim
      | some d =>
        rw [qf] at h
        exact o (p1.same k2) p2 qf fun v H' G k p => h v H' G ((k1.trans k2 fun _ m => by cases m).trans k fun _ m => by cases m) p
/-- two steps in a row, the second's top over the first's -/
theorem ev2 {F F1 F2 : List Addr} {H1 H2 : Hp} {v1 v2 : V} {a b : D} {e1 e2 : E} (x : Ev K F H (some v1 :: σ) H1 (some a :: e1) F1)
    (y : ∀ F0, RelS K H1 σ e1 F0 → F0.Nodup → ∃ F2, Ev K F0 H1 (some v2 :: σ) H2 (some b :: e2) F2) : ∃ G1 G2 F3, Rp K H2 v1 a G1 ∧ Rp K H2 v2 b G2 ∧ Ev K F H σ H2 e2 F3 := by
  obtain ⟨G, F0, eF, p, x', hd, n1, nw⟩ := x.head
  obtain ⟨F2, y'⟩ := y F0 x'.r x'.nd
  obtain ⟨G2, F3, eF2, p2, y2, hd2, n2, nw2⟩ := y'.head
  exact ⟨G, G2, F3, p.keep y'.k hd, p2, x'.trans y2⟩
theorem op_ee (o : OpN K r f) (h : tE K W (binE f na nb') σ H Q) : tOp r (tE K W na) (tE K W nb') σ H Q := by
  obtain ⟨e, F, rl, nd, h⟩ := h
  unfold binE at h
  refine ⟨e, F, rl, nd, ?_⟩
  cases qa : na e with
  | bad => rw [qa] at h; exact h
  | exc y e1 => rw [qa] at h; exact h
  | ok a e1 =>
    rw [qa] at h
    intro v1 H1 F1 x
    obtain ⟨G, F0, eF, p, x', hd, n1, nw⟩ := x.head
    refine ⟨e1, F0, x'.r, x'.nd, ?_⟩
    cases qb : nb' e1 with
    | bad => simp only [Re.bind, qb] at h
    | exc y e2 =>
      simp only [Re.bind, qb] at h
      exact fun c dx H' F' y p => h c dx H' F' (x'.trans y) p
    | ok b e2 =>
      simp only [Re.bind, qb] at h
      intro v2 H2 F2 y
      obtain ⟨G2, F3, eF2, p2, y2, hd2, n2, nw2⟩ := y.head
      cases qf : f a b with
      | none => rw [qf] at h; exact h.elim
      | some d =>
        rw [qf] at h
        exact o (p.keep y.k hd) p2 qf fun v H' G' k p' n1' n2' => h v H' _ ((x'.trans y2).consNew k p' n1' n2')
theorem op_ve {i : Nat} (o : OpN K r f) (h : tE K W (binV f i nb') σ H Q) : tOp r (tVar i) (tE K W nb') σ H Q := by
  obtain ⟨e, F, rl, nd, h⟩ := h
  unfold binV at h
  cases q : e[i]? with
  | none => rw [q] at h; exact h.elim
  | some oo =>
    rw [q] at h
    cases oo with
    | none => exact h.elim
    | some d0 =>
      obtain ⟨v1, G0, hs, _, _⟩ := rl.get q
      refine ⟨v1, hs, e, F, rl, nd, ?_⟩
      cases qb : nb' e with
      | bad => simp only [Re.bind, qb] at h
      | exc y e2 =>
        simp only [Re.bind, qb] at h
        exact fun c dx H' F' y p => h c dx H' F' y p
      | ok b e2 =>
        simp only [Re.bind, qb] at h
        intro v2 H2 F2 y
        obtain ⟨G2, F3, eF2, p2, y2, hd2, n2, nw2⟩ := y.head
        cases q2 : e2[i]? with
        | none => rw [q2] at h; exact h.elim
        | some o2 =>
          rw [q2] at h
          cases o2 with
          | none => exact h.elim
          | some a =>
            obtain ⟨v1', G1, hs', p1, _⟩ := y2.r.get q2
            rw [hs] at hs'; cases hs'
            simp only at h
            cases qf : f a b with
            | none => rw [qf] at h; exact h.elim
            | some d =>
              rw [qf] at h
              exact o p1 p2 qf fun v H' G' k p' n1' n2' => h v H' _ (y2.consNew k p' n1' n2')
end
end Mir

namespace Mir
open PySem PySem.Spec L2

/-! ### data as the library's -/
mutual
def D.py : D → PyData
  | .non => .none
  | .bl b => .bool b
  | .int i => .int i
  | .str s => .str ⟨s.toArray⟩
  | .tup ds => .tuple (D.pys ds)
  | .lst ds => .list (D.pys ds)
  | .rol ds => .list (D.pys ds)
  | _ => .none
def D.pys : List D → List PyData
  | [] => []
  | d :: ds => d.py :: D.pys ds
end
/-- plain data of this depth -/
def sh : Nat → D → Bool
  | 0, d => match d with
    | .non => true
    | .bl _ => true
    | .int _ => true
    | .str _ => true
    | _ => false
  | n + 1, d => match d with
    | .non => true
    | .bl _ => true
    | .int _ => true
    | .str _ => true
    | .tup ds => ds.all (sh n)
    | .lst ds => ds.all (sh n)
    | .rol ds => ds.all (sh n)
    | _ => false
@[simp] theorem sh_non (n : Nat) : sh n .non = true := by cases n <;> rfl
@[simp] theorem sh_bl (n : Nat) (b : Bool) : sh n (.bl b) = true := by cases n <;> rfl
@[simp] theorem sh_int (n : Nat) (i : Int) : sh n (.int i) = true := by cases n <;> rfl
@[simp] theorem sh_str (n : Nat) (s : List Nat) : sh n (.str s) = true := by cases n <;> rfl
@[simp] theorem sh_tup (n : Nat) (ds : List D) : sh (n + 1) (.tup ds) = ds.all (sh n) := rfl
@[simp] theorem sh_lst (n : Nat) (ds : List D) : sh (n + 1) (.lst ds) = ds.all (sh n) := rfl
theorem sh_mono : ∀ {n : Nat} {d : D}, sh n d = true → sh (n + 1) d = true
  | 0, d, h => by cases d <;> first | rfl | (simp [sh] at h)
  | n + 1, d, h => by
    cases d with
    | tup ds => exact List.all_eq_true.mpr fun x m => sh_mono (List.all_eq_true.mp (show ds.all (sh n) = true from h) x m)
    | lst ds => exact List.all_eq_true.mpr fun x m => sh_mono (List.all_eq_true.mp (show ds.all (sh n) = true from h) x m)
    | rol ds => exact List.all_eq_true.mpr fun x m => sh_mono (List.all_eq_true.mp (show ds.all (sh n) = true from h) x m)
    | _ => first | rfl | (simp [sh] at h)
section
variable {K : PySem.W.Frag} {H : Hp}
theorem pys_canLay {n : Nat} (ih : ∀ {v : V} {d : D} {F : List Addr}, Rp K H v d F → sh n d = true → d.py.canLay0 = true ∧ d.py.depth ≤ n ∧ Dp K H v d.py) :
    ∀ {ds : List D} {vs : List V} {F : List Addr}, Rps K H vs ds F → ds.all (sh n) = true → PyData.canLayAll0 (D.pys ds) = true ∧ PyData.depthAll (D.pys ds) ≤ n ∧ DpAll K H vs (D.pys ds)
  | [], _, _, r, _ => by
    cases r
    simp only [D.pys, PyData.canLayAll0, PyData.depthAll]
    exact ⟨trivial, Nat.zero_le _, .nil⟩
  | d :: ds, _, _, r, h => by
    cases r with
    | cons p r =>
      obtain ⟨h1, h2⟩ := Bool.and_eq_true_iff.mp (show (sh n d && ds.all (sh n)) = true from h)
      obtain ⟨a1, a2, a3⟩ := ih p h1
      obtain ⟨b1, b2, b3⟩ := pys_canLay ih r h2
      simp only [D.pys, PyData.canLayAll0, PyData.depthAll, a1, b1]
      exact ⟨rfl, Nat.max_le.mpr ⟨a2, b2⟩, .cons a3 b3⟩
theorem sh_ok : ∀ {n : Nat} {v : V} {d : D} {F : List Addr}, Rp K H v d F → sh n d = true → d.py.canLay0 = true ∧ d.py.depth ≤ n ∧ Dp K H v d.py
  | n, _, _, _, .non, _ => by simp only [D.py, PyData.canLay0, PyData.depth]; exact ⟨trivial, Nat.zero_le _, .non⟩
  | n, _, _, _, .bl, _ => by simp only [D.py, PyData.canLay0, PyData.depth]; exact ⟨trivial, Nat.zero_le _, .bl _⟩
  | n, _, _, _, .int, _ => by simp only [D.py, PyData.canLay0, PyData.depth]; exact ⟨trivial, Nat.zero_le _, .int _⟩
  | n, _, _, _, .str (x := x) h, _ => by
    have e : (⟨x.cps.toList.toArray⟩ : Str) = x := by cases x; simp
    simp only [D.py, PyData.canLay0, PyData.depth, e]
    exact ⟨h, Nat.zero_le _, .str _⟩
  | 0, _, _, _, .raw, h => by simp [sh] at h
  | n + 1, _, _, _, .raw, h => by simp [sh] at h
  | 0, _, _, _, .tup q r, h => by simp [sh] at h
  | n + 1, _, _, _, .tup q r, h => by
    obtain ⟨a1, a2, a3⟩ := pys_canLay (fun p z => sh_ok (n := n) p z) r h
    simp only [D.py, PyData.canLay0, PyData.depth]
    exact ⟨a1, Nat.succ_le_succ a2, .tup q.sq a3⟩
  | 0, _, _, _, .lst q r, h => by simp [sh] at h
  | n + 1, _, _, _, .lst q r, h => by
    obtain ⟨a1, a2, a3⟩ := pys_canLay (fun p z => sh_ok (n := n) p z) r h
    simp only [D.py, PyData.canLay0, PyData.depth]
    exact ⟨a1, Nat.succ_le_succ a2, .lst (.of q) a3⟩
  | 0, _, _, _, .rol q r, h => by simp [sh] at h
  | n + 1, _, _, _, .rol q r, h => by
    obtain ⟨a1, a2, a3⟩ := pys_canLay (fun p z => sh_ok (n := n) p z) r h
    simp only [D.py, PyData.canLay0, PyData.depth]
    exact ⟨a1, Nat.succ_le_succ a2, .lst q.sq a3⟩
  | 0, _, _, _, .dct q c r, h => by simp [sh] at h
  | 0, _, _, _, .rdc q c r, h => by simp [sh] at h
  | 0, _, _, _, .ins q c z r, h => by simp [sh] at h
  | n + 1, _, _, _, .dct q c r, h => by simp [sh] at h
  | n + 1, _, _, _, .rdc q c r, h => by simp [sh] at h
  | n + 1, _, _, _, .ins q c z r, h => by simp [sh] at h
theorem sh_shaped {n : Nat} {v : V} {d : D} {F : List Addr} (p : Rp K H v d F) (h : sh n d = true) (hn : n ≤ 64) : SeqAt.shaped d.py = true ∧ Dp K H v d.py := by
  obtain ⟨a, b, c⟩ := sh_ok p h
  exact ⟨Bool.and_eq_true_iff.mpr ⟨a, decide_eq_true (Nat.le_trans b hn)⟩, c⟩
end
/-- == -/
@[irreducible] def D.eqv (a b : D) : Bool := PyData.eqv a.py b.py
theorem D.eqv_def (a b : D) : D.eqv a b = PyData.eqv a.py b.py := by unfold D.eqv; rfl

section
variable {K : PySem.W.Frag} {H : Hp}
theorem rp_str {x : Str} {s : List Nat} (h : x.cps.all (· < 0x110000) = true) (e : x.cps.toList = s) : Rp K H (.str x) (.str s) [] := by subst e; exact .str h
theorem Rp.same0 {v : V} {d : D} {Q : VK} (h : ∀ v H' G, Keeps [] H H' → Rp K H' v d G → G.Nodup → (∀ a ∈ G, H a = none) → Q v H') (p : Rp K H v d []) : Q v H :=
  h v H [] (.refl _ _) p .nil fun _ m => by cases m
end
def fits (n : Nat) : Bool := decide (n ≤ sizeLine)
def fAdd : D → D → Option D
  | .int i, .int j => some (.int (i + j))
  | .str s, .str t => if fits (s.length + t.length) = true then some (.str (s ++ t)) else none
  | .lst a, .lst b => if imms a = true ∧ imms b = true ∧ fits (a.length + b.length) = true then some (.lst (a ++ b)) else none
  | .tup a, .tup b => if imms a = true ∧ imms b = true ∧ fits (a.length + b.length) = true then some (.tup (a ++ b)) else none
  | _, _ => none
def fSub : D → D → Option D
  | .int i, .int j => some (.int (i - j))
  | _, _ => none
def big64 (i : Int) : Bool := decide (-(2 ^ 64) < i ∧ i < 2 ^ 64)
def fMul : D → D → Option D
  | .int i, .int j => if (big64 i || big64 j) = true then some (.int (i * j)) else none
  | .str s, .int n => if 0 ≤ n ∧ n ≤ 16777216 ∧ fits (s.length * n.toNat) = true then some (.str (List.replicate n.toNat s).flatten) else none
  | .lst a, .int n => if 0 ≤ n ∧ n ≤ 16777216 ∧ imms a = true ∧ fits (a.length * n.toNat) = true then some (.lst (List.replicate n.toNat a).flatten) else none
  | _, _ => none
def fDiv : D → D → Option D
  | .int i, .int j => if 0 < j ∧ j < 1073741824 then some (.int (i / j)) else none
  | _, _ => none
def fMod : D → D → Option D
  | .int i, .int j => if 0 < j then some (.int (i % j)) else none
  | _, _ => none
def fPow : D → D → Option D
  | .int i, .int j => if 0 ≤ j ∧ j ≤ 1000000 ∧ i.natAbs < 2 ^ 64 then some (.int (i ^ j.toNat)) else none
  | _, _ => none
def fEq (a b : D) : Option D := if sh 40 a = true ∧ sh 40 b = true then some (.bl (D.eqv a b)) else none
def fNe (a b : D) : Option D := if sh 40 a = true ∧ sh 40 b = true then some (.bl (!D.eqv a b)) else none
def fLt : D → D → Option D
  | .int i, .int j => some (.bl (decide (i < j)))
  | .str s, .str t => some (.bl (decide (s < t)))
  | _, _ => none
def fLe : D → D → Option D
  | .int i, .int j => some (.bl (decide (i ≤ j)))
  | .str s, .str t => some (.bl (!decide (t < s)))
  | _, _ => none
def fGt : D → D → Option D
  | .int i, .int j => some (.bl (decide (j < i)))
  | .str s, .str t => some (.bl (decide (t < s)))
  | _, _ => none
def fGe : D → D → Option D
  | .int i, .int j => some (.bl (decide (j ≤ i)))
  | .str s, .str t => some (.bl (!decide (s < t)))
  | _, _ => none
def isNon : D → Bool
  | .non => true
  | _ => false
def fIsN : D → D → Option D
  | d, .non => match d with
    | .raw _ => none
    | d => some (.bl (isNon d))
  | _, _ => none
def fIsntN : D → D → Option D
  | d, .non => match d with
    | .raw _ => none
    | d => some (.bl (!isNon d))
  | _, _ => none
def anyEq (ds : List D) (d : D) : Bool := ds.any fun z => D.eqv z d
def fIn : D → D → Option D
  | .str s, .str t => match s with
    | [c] => some (.bl (decide (c ∈ t)))
    | _ => none
  | d, .tup ds => if sh 39 d = true ∧ sh 40 (.tup ds) = true then some (.bl (anyEq ds d)) else none
  | d, .lst ds => if sh 39 d = true ∧ sh 40 (.lst ds) = true then some (.bl (anyEq ds d)) else none
  | _, _ => none
def fNotIn : D → D → Option D
  | .str s, .str t => match s with
    | [c] => some (.bl (!decide (c ∈ t)))
    | _ => none
  | d, .tup ds => if sh 39 d = true ∧ sh 40 (.tup ds) = true then some (.bl (!anyEq ds d)) else none
  | d, .lst ds => if sh 39 d = true ∧ sh 40 (.lst ds) = true then some (.bl (!anyEq ds d)) else none
  | _, _ => none
def fIx : D → D → Option D
  | .tup ds, .int i => atI ds i
  | .lst ds, .int i => atI ds i
  | .rol ds, .int i => atI ds i
  | .str s, .int i => if fits s.length = true then (atI s i).map fun c => .str [c] else none
  | _, _ => none

theorem okC_append {x y : Str} (h1 : x.cps.all (· < 0x110000) = true) (h2 : y.cps.all (· < 0x110000) = true) : (x ++ y).cps.all (· < 0x110000) = true := by
  rw [← Array.all_toList] at h1 h2 ⊢
  have e : (x ++ y).cps.toList = x.cps.toList ++ y.cps.toList := by
    show (x.cps ++ y.cps).toList = _
    simp
  rw [e, List.all_append, h1, h2]
  rfl
theorem toList_append (x y : Str) : (x ++ y).cps.toList = x.cps.toList ++ y.cps.toList := by
  show (x.cps ++ y.cps).toList = _
  simp
theorem imms_append {a b : List D} : imms (a ++ b) = (imms a && imms b) := by rw [imms_all, imms_all, imms_all, List.all_append]
theorem fits_le {n : Nat} (h : fits n = true) : n ≤ sizeLine := of_decide_eq_true h
theorem Rps.rep {K : PySem.W.Frag} {H : Hp} {vs : List V} {ds : List D} (r : Rps K H vs ds []) : ∀ n : Nat, Rps K H (List.replicate n vs).flatten (List.replicate n ds).flatten []
  | 0 => .nil
  | n + 1 => by
    rw [List.replicate_succ, List.replicate_succ, List.flatten_cons, List.flatten_cons]
    exact Rps.append r (Rps.rep r n)

section
variable {X : Cx}
abbrev rAddA (K : PySem.W.Frag) : R2 := fun x y H Q => (rI0 fun i j => .int (i + j)) x y H Q ∨ (∃ i j, x = .str i ∧ y = .str j ∧ i.length + j.length ≤ sizeLine ∧ Q (.str (i ++ j)) H) ∨ rCat x y H Q ∨ rCatA K x y H Q
theorem o_add : OpR X (binaryOp .Add) (rAddA X.K) := op_add.or (op_add_str.or (op_cat.or op_catA))
theorem n_add {K : PySem.W.Frag} : OpN K (rAddA K) fAdd := by
  intro H v1 v2 d1 d2 G1 G2 d Q p1 p2 e h
  unfold fAdd at e
  split at e
  · cases e; cases p1; cases p2
    exact .inl ⟨_, _, rfl, rfl, Rp.same0 h .int⟩
  · split at e
    · rename_i hf
      cases e; cases p1; cases p2
      rename_i x hx y hy
      refine .inr (.inl ⟨_, _, rfl, rfl, ?_, Rp.same0 h (rp_str (okC_append hx hy) (toList_append _ _))⟩)
      simpa [Str.length] using fits_le hf
    · cases e
  · split at e
    · rename_i hf
      cases e
      cases p1 with | lst ha ra => ?_
      cases p2 with | lst hb rb => ?_
      have e1 := Rps.fpImm ra hf.1
      have e2 := Rps.fpImm rb hf.2.1
      subst e1 e2
      refine .inr (.inr (.inl ⟨_, _, _, _, rfl, rfl, ha, hb, by rw [ra.length, rb.length]; exact fits_le hf.2.2, fun p hp => ?_⟩))
      refine h _ _ [p] (.new hp _) (.lst upd_same ((ra.append rb).same (.new hp _))) (by simp) fun a m => ?_
      rw [List.mem_singleton.mp m]; exact hp
    · cases e
  · split at e
    · rename_i hf
      cases e
      cases p1 with | tup ha ra => ?_
      cases p2 with | tup hb rb => ?_
      have e1 := Rps.fpImm ra hf.1
      have e2 := Rps.fpImm rb hf.2.1
      subst e1 e2
      refine .inr (.inr (.inr ⟨_, _, _, _, rfl, rfl, ha.sq, hb.sq, by rw [ra.length, rb.length]; exact fits_le hf.2.2, fun z => ?_, fun _ z => ?_, fun _ _ p hp => ?_⟩))
      · subst z
        cases ra
        exact Rp.same0 h (.tup hb rb)
      · subst z
        cases rb
        exact Rp.same0 h (by rw [List.append_nil]; exact .tup ha ra)
      · exact h _ _ [] (.new hp _) (.tup (.of upd_same) ((ra.append rb).same (.new hp _))) .nil fun a m => by cases m
    · cases e
  · cases e
theorem n_sub {K : PySem.W.Frag} : OpN K (rI0 fun i j => .int (i - j)) fSub := by
  intro H v1 v2 d1 d2 G1 G2 d Q p1 p2 e h
  unfold fSub at e
  split at e
  · cases e; cases p1; cases p2
    exact ⟨_, _, rfl, rfl, Rp.same0 h .int⟩
  · cases e
/-- text times a number -/
def rMulS : R2 := fun x y H Q => ∃ z n, x = .str z ∧ y = .int n ∧ 0 ≤ n ∧ n ≤ 16777216 ∧ z.length * n.toNat ≤ sizeLine ∧ Q (.str ⟨(List.replicate n.toNat z.cps.toList).flatten.toArray⟩) H
theorem foldl_cat (c : Array Nat) : ∀ (n : Nat) (acc : Array Nat), ((List.replicate n c).foldl (· ++ ·) acc).toList = acc.toList ++ (List.replicate n c.toList).flatten
  | 0, acc => by simp
  | n + 1, acc => by
    rw [List.replicate_succ, List.foldl_cons, foldl_cat c n, List.replicate_succ, List.flatten_cons]
    simp
theorem o_mulS : OpR X (binaryOp .Mult) rMulS := by
  intro pins s σ H x y v u Q I rx ry h
  obtain ⟨z, n, rfl, rfl, h0, hb, hz, q⟩ := h
  obtain ⟨t, rfl⟩ := rx
  obtain ⟨t', rfl⟩ := ry
  have hsl := sizeLine_eq
  have e : Txt.mul z n = ⟨(List.replicate n.toNat z.cps.toList).flatten.toArray⟩ := by
    unfold Txt.mul
    by_cases h1 : n < 1
    · rw [if_pos h1]
      have : n.toNat = 0 := by omega
      rw [this]
      rfl
    · rw [if_neg h1]
      by_cases h2 : (n == 1 || z.length == 0) = true
      · rw [if_pos h2]
        rcases Bool.or_eq_true_iff.mp h2 with h3 | h3
        · have e3 : n = 1 := eq_of_beq h3
          subst e3
          cases z
          simp
        · have e3 : z.cps.size = 0 := eq_of_beq h3
          have e4 : z.cps.toList = [] := by
            rw [← List.length_eq_zero_iff, Array.length_toList]; exact e3
          rw [e4]
          have e5 : z = ⟨#[]⟩ := by
            cases z
            rename_i c
            congr 1
            exact Array.eq_empty_of_size_eq_zero e3
          rw [e5]
          simp
      · rw [if_neg h2]
        congr 1
        rw [← Array.toList_inj, foldl_cat]
        simp
  refine SB.mul (n := n) ⟨?_, fun h1 h2 => ?_, fun h1 h2 => ?_⟩ fun t2 k => ?_
  · have a1 : ¬ n < -(2 ^ 63 : Int) := by omega
    have a2 : ¬ n ≥ 2 ^ 63 := by omega
    rw [decide_eq_false a1, decide_eq_false a2]; rfl
  · have hn1 : (z.length : Int) * n ≤ 16777216 := by
      have : ((z.length * n.toNat : Nat) : Int) ≤ 16777216 := by omega
      rw [Int.natCast_mul, Int.toNat_of_nonneg h0] at this
      exact this
    have hn2 : (z.length : Int) ≤ (2 ^ 63 - 1) / n := by
      refine Int.le_ediv_of_mul_le (by omega) (by omega)
    omega
  · show decide _ = false
    exact decide_eq_false (by omega)
  · rw [e]
    exact ⟨.str _, H, I.tok _, ⟨_, rfl⟩, q⟩
abbrev rMulA : R2 := fun x y H Q => (rI CMul fun i j => .int (i * j)) x y H Q ∨ rMulS x y H Q ∨ rRep x y H Q
theorem o_mul : OpR X (binaryOp .Mult) rMulA := op_mul.or (o_mulS.or op_rep)
theorem okC_flat {l : List Nat} (h : ∀ c ∈ l, c < 0x110000) (n : Nat) : ∀ c ∈ (List.replicate n l).flatten, c < 0x110000 := fun c m => by
  obtain ⟨x, hx, hc⟩ := List.mem_flatten.mp m
  rw [List.eq_of_mem_replicate hx] at hc
  exact h c hc
theorem n_mul {K : PySem.W.Frag} : OpN K rMulA fMul := by
  intro H v1 v2 d1 d2 G1 G2 d Q p1 p2 e h
  have hsl := sizeLine_eq
  unfold fMul at e
  split at e
  · split at e
    · rename_i hf
      cases e; cases p1; cases p2
      refine .inl ⟨_, _, rfl, rfl, ?_, Rp.same0 h .int⟩
      exact (Bool.or_eq_true_iff.mp hf).imp of_decide_eq_true of_decide_eq_true
    · cases e
  · split at e
    · rename_i hf
      cases e; cases p1; cases p2
      rename_i x hx
      refine .inr (.inl ⟨_, _, rfl, rfl, hf.1, hf.2.1, ?_, Rp.same0 h (rp_str (okC_of (okC_flat (okC_mem hx) _)) rfl)⟩)
      simpa [Str.length] using fits_le hf.2.2
    · cases e
  · split at e
    · rename_i hf
      cases e
      cases p1 with | lst ha ra => ?_
      cases p2
      have e1 := Rps.fpImm ra hf.2.2.1
      subst e1
      refine .inr (.inr ⟨_, _, _, rfl, rfl, ha, by omega, by omega, by rw [ra.length]; exact fits_le hf.2.2.2, fun p hp => ?_⟩)
      refine h _ _ [p] (.new hp _) (.lst upd_same ((ra.rep _).same (.new hp _))) (by simp) fun a m => ?_
      rw [List.mem_singleton.mp m]; exact hp
    · cases e
  · cases e
theorem n_div {K : PySem.W.Frag} : OpN K (rI CDiv fun i j => .int (i / j)) fDiv := by
  intro H v1 v2 d1 d2 G1 G2 d Q p1 p2 e h
  unfold fDiv at e
  split at e
  · split at e
    · rename_i hf
      cases e; cases p1; cases p2
      exact ⟨_, _, rfl, rfl, hf, Rp.same0 h .int⟩
    · cases e
  · cases e
theorem n_mod {K : PySem.W.Frag} : OpN K (rI (fun _ j => 0 < j) fun i j => .int (i % j)) fMod := by
  intro H v1 v2 d1 d2 G1 G2 d Q p1 p2 e h
  unfold fMod at e
  split at e
  · split at e
    · rename_i hf
      cases e; cases p1; cases p2
      exact ⟨_, _, rfl, rfl, hf, Rp.same0 h .int⟩
    · cases e
  · cases e
theorem n_pow {K : PySem.W.Frag} : OpN K (rI CPow fun i j => .int (i ^ j.toNat)) fPow := by
  intro H v1 v2 d1 d2 G1 G2 d Q p1 p2 e h
  unfold fPow at e
  split at e
  · split at e
    · rename_i hf
      cases e; cases p1; cases p2
      exact ⟨_, _, rfl, rfl, hf, Rp.same0 h .int⟩
    · cases e
  · cases e
theorem n_eq {K : PySem.W.Frag} : OpN K (rEqD K) fEq := by
  intro H v1 v2 d1 d2 G1 G2 d Q p1 p2 e h
  unfold fEq at e
  split at e
  · rename_i hf
    cases e
    obtain ⟨s1, q1⟩ := sh_shaped p1 hf.1 (by decide)
    obtain ⟨s2, q2⟩ := sh_shaped p2 hf.2 (by decide)
    exact ⟨_, _, q1, q2, s1, s2, by have z := Rp.same0 h .bl; rw [D.eqv_def] at z; exact z⟩
  · cases e
theorem n_ne {K : PySem.W.Frag} : OpN K (rNeD K) fNe := by
  intro H v1 v2 d1 d2 G1 G2 d Q p1 p2 e h
  unfold fNe at e
  split at e
  · rename_i hf
    cases e
    obtain ⟨s1, q1⟩ := sh_shaped p1 hf.1 (by decide)
    obtain ⟨s2, q2⟩ := sh_shaped p2 hf.2 (by decide)
    exact ⟨_, _, q1, q2, s1, s2, by have z := Rp.same0 h .bl; rw [D.eqv_def] at z; exact z⟩
  · cases e
abbrev rLtA : R2 := fun x y H Q => (rI0 fun i j => .bl (decide (i < j))) x y H Q ∨ ∃ i j, x = .str i ∧ y = .str j ∧ Q (.bl (decide (i.cps.toList < j.cps.toList))) H
abbrev rLeA : R2 := fun x y H Q => (rI0 fun i j => .bl (decide (i ≤ j))) x y H Q ∨ ∃ i j, x = .str i ∧ y = .str j ∧ Q (.bl (!decide (j.cps.toList < i.cps.toList))) H
abbrev rGtA : R2 := fun x y H Q => (rI0 fun i j => .bl (decide (j < i))) x y H Q ∨ ∃ i j, x = .str i ∧ y = .str j ∧ Q (.bl (decide (j.cps.toList < i.cps.toList))) H
abbrev rGeA : R2 := fun x y H Q => (rI0 fun i j => .bl (decide (j ≤ i))) x y H Q ∨ ∃ i j, x = .str i ∧ y = .str j ∧ Q (.bl (!decide (i.cps.toList < j.cps.toList))) H
theorem o_lt : OpR X (compareOp .Lt) rLtA := op_lt.or op_lt_str
theorem o_le : OpR X (compareOp .LtE) rLeA := op_le.or op_le_str
theorem o_gt : OpR X (compareOp .Gt) rGtA := op_gt.or op_gt_str
theorem o_ge : OpR X (compareOp .GtE) rGeA := op_ge.or op_ge_str
theorem n_lt {K : PySem.W.Frag} : OpN K rLtA fLt := by
  intro H v1 v2 d1 d2 G1 G2 d Q p1 p2 e h
  unfold fLt at e
  split at e
  · cases e; cases p1; cases p2; exact .inl ⟨_, _, rfl, rfl, Rp.same0 h .bl⟩
  · cases e; cases p1; cases p2; exact .inr ⟨_, _, rfl, rfl, Rp.same0 h .bl⟩
  · cases e
theorem n_le {K : PySem.W.Frag} : OpN K rLeA fLe := by
  intro H v1 v2 d1 d2 G1 G2 d Q p1 p2 e h
  unfold fLe at e
  split at e
  · cases e; cases p1; cases p2; exact .inl ⟨_, _, rfl, rfl, Rp.same0 h .bl⟩
  · cases e; cases p1; cases p2; exact .inr ⟨_, _, rfl, rfl, Rp.same0 h .bl⟩
  · cases e
theorem n_gt {K : PySem.W.Frag} : OpN K rGtA fGt := by
  intro H v1 v2 d1 d2 G1 G2 d Q p1 p2 e h
  unfold fGt at e
  split at e
  · cases e; cases p1; cases p2; exact .inl ⟨_, _, rfl, rfl, Rp.same0 h .bl⟩
  · cases e; cases p1; cases p2; exact .inr ⟨_, _, rfl, rfl, Rp.same0 h .bl⟩
  · cases e
theorem n_ge {K : PySem.W.Frag} : OpN K rGeA fGe := by
  intro H v1 v2 d1 d2 G1 G2 d Q p1 p2 e h
  unfold fGe at e
  split at e
  · cases e; cases p1; cases p2; exact .inl ⟨_, _, rfl, rfl, Rp.same0 h .bl⟩
  · cases e; cases p1; cases p2; exact .inr ⟨_, _, rfl, rfl, Rp.same0 h .bl⟩
  · cases e
theorem n_isN {K : PySem.W.Frag} : OpN K (fun x y H Q => y = .non ∧ Q (.bl (decide (x = .non))) H) fIsN := by
  intro H v1 v2 d1 d2 G1 G2 d Q p1 p2 e h
  unfold fIsN at e
  split at e
  · split at e
    · cases e
    · rename_i hne
      cases e; cases p2
      refine ⟨rfl, ?_⟩
      have q : decide (v1 = .non) = Mir.isNon d1 := by
        cases p1 <;> first | rfl | exact absurd rfl (hne _)
      rw [q]
      exact Rp.same0 h .bl
  · cases e
theorem n_isntN {K : PySem.W.Frag} : OpN K (fun x y H Q => y = .non ∧ Q (.bl (!decide (x = .non))) H) fIsntN := by
  intro H v1 v2 d1 d2 G1 G2 d Q p1 p2 e h
  unfold fIsntN at e
  split at e
  · split at e
    · cases e
    · rename_i hne
      cases e; cases p2
      refine ⟨rfl, ?_⟩
      have q : decide (v1 = .non) = Mir.isNon d1 := by
        cases p1 <;> first | rfl | exact absurd rfl (hne _)
      rw [q]
      exact Rp.same0 h .bl
  · cases e
end
end Mir

namespace Mir
open PySem PySem.Spec L2

/-! ### in, is, places -/
section
variable {X : Cx}
def rInT (K : PySem.W.Frag) (neg : Bool) : R2 := fun x y H Q => ∃ d ds, Dp K H x d ∧ Dp K H y (.tuple ds) ∧ SeqAt.shaped d = true ∧ SeqAt.shaped (.tuple ds) = true ∧ Q (.bl (if neg then !ds.any fun z => PyData.eqv z d else ds.any fun z => PyData.eqv z d)) H
theorem room_tup {A : Around} {d : PyData} {xs : List PyData} (sd : SeqAt.shaped d = true) (hu : A.units + 65 < cLine) : A.units + 1 + min (PyData.depthAll xs) d.depth < cLine := by
  have h1 := SeqAt.depth_of_shaped sd
  have h2 : min (PyData.depthAll xs) d.depth ≤ d.depth := Nat.min_le_right _ _
  omega
theorem o_inT (hu : X.A.units + 65 < cLine) : OpR X (compareOp .In) (rInT X.K false) := by
  intro pins s σ H x y v u Q I rx ry h
  obtain ⟨d, ds, hd, he, sd, se, q⟩ := h
  obtain ⟨as, r1⟩ := Dp.reads I d x v hd rx
  obtain ⟨bs, r2⟩ := Dp.reads I (.tuple ds) y u he ry
  exact SeqAt.in_tuple_reads r2 r1 (SeqAt.canLay_of_shaped se) (SeqAt.canLay_of_shaped sd) (room_tup sd hu) ⟨.bl _, H, I, rfl, q⟩
theorem o_notInT (hu : X.A.units + 65 < cLine) : OpR X (compareOp .NotIn) (rInT X.K true) := by
  intro pins s σ H x y v u Q I rx ry h
  obtain ⟨d, ds, hd, he, sd, se, q⟩ := h
  obtain ⟨as, r1⟩ := Dp.reads I d x v hd rx
  obtain ⟨bs, r2⟩ := Dp.reads I (.tuple ds) y u he ry
  exact SeqAt.notIn_tuple_reads r2 r1 (SeqAt.canLay_of_shaped se) (SeqAt.canLay_of_shaped sd) (room_tup sd hu) ⟨.bl _, H, I, rfl, q⟩
abbrev rInA (K : PySem.W.Frag) : R2 := fun x y H Q => (∃ (c : Nat) (z : Str), x = .str ⟨#[c]⟩ ∧ y = .str z ∧ Q (.bl (decide (c ∈ z.cps.toList))) H) ∨ rInT K false x y H Q ∨ rInD K x y H Q
abbrev rNotInA (K : PySem.W.Frag) : R2 := fun x y H Q => (∃ (c : Nat) (z : Str), x = .str ⟨#[c]⟩ ∧ y = .str z ∧ Q (.bl (!decide (c ∈ z.cps.toList))) H) ∨ rInT K true x y H Q ∨ rNotInD K x y H Q
theorem o_in (hu : X.A.units + 65 < cLine) : OpR X (compareOp .In) (rInA X.K) := op_in_sign.or ((o_inT hu).or (op_inD hu))
theorem o_notIn (hu : X.A.units + 65 < cLine) : OpR X (compareOp .NotIn) (rNotInA X.K) := op_notIn_sign.or ((o_notInT hu).or (op_notInD hu))
theorem any_pys (d : D) : ∀ ds : List D, ((D.pys ds).any fun z => PyData.eqv z d.py) = anyEq ds d
  | [] => rfl
  | x :: ds => by
    simp only [D.pys, List.any_cons, anyEq, D.eqv_def]
    rw [any_pys d ds]
    simp only [anyEq, D.eqv_def]
theorem str_one {x : Str} {c : Nat} (h : x.cps.toList = [c]) : x = ⟨#[c]⟩ := by
  cases x
  congr 1
  rw [← Array.toList_inj]
  simpa using h
theorem n_in {K : PySem.W.Frag} : OpN K (rInA K) fIn := by
  intro H v1 v2 d1 d2 G1 G2 d Q p1 p2 e h
  unfold fIn at e
  split at e
  · split at e
    · rename_i c
      cases e; cases p2
      generalize hs : ([c] : List Nat) = s at p1
      cases p1 with | str hx => ?_
      exact .inl ⟨c, _, by rw [str_one hs.symm], rfl, Rp.same0 h .bl⟩
    · cases e
  · split at e
    · rename_i hf
      cases e
      obtain ⟨s1, q1⟩ := sh_shaped p1 hf.1 (by decide)
      obtain ⟨s2, q2⟩ := sh_shaped p2 hf.2 (by decide)
      refine .inr (.inl ⟨_, _, q1, q2, s1, s2, ?_⟩)
      have z := Rp.same0 h .bl
      rw [← any_pys] at z
      exact z
    · cases e
  · split at e
    · rename_i hf
      cases e
      obtain ⟨s1, q1⟩ := sh_shaped p1 hf.1 (by decide)
      obtain ⟨s2, q2⟩ := sh_shaped p2 hf.2 (by decide)
      refine .inr (.inr ⟨_, _, q1, q2, s1, s2, ?_⟩)
      have z := Rp.same0 h .bl
      rw [← any_pys] at z
      exact z
    · cases e
  · cases e
theorem n_notIn {K : PySem.W.Frag} : OpN K (rNotInA K) fNotIn := by
  intro H v1 v2 d1 d2 G1 G2 d Q p1 p2 e h
  unfold fNotIn at e
  split at e
  · split at e
    · rename_i c
      cases e; cases p2
      generalize hs : ([c] : List Nat) = s at p1
      cases p1 with | str hx => ?_
      exact .inl ⟨c, _, by rw [str_one hs.symm], rfl, Rp.same0 h .bl⟩
    · cases e
  · split at e
    · rename_i hf
      cases e
      obtain ⟨s1, q1⟩ := sh_shaped p1 hf.1 (by decide)
      obtain ⟨s2, q2⟩ := sh_shaped p2 hf.2 (by decide)
      refine .inr (.inl ⟨_, _, q1, q2, s1, s2, ?_⟩)
      have z := Rp.same0 h .bl
      rw [← any_pys] at z
      exact z
    · cases e
  · split at e
    · rename_i hf
      cases e
      obtain ⟨s1, q1⟩ := sh_shaped p1 hf.1 (by decide)
      obtain ⟨s2, q2⟩ := sh_shaped p2 hf.2 (by decide)
      refine .inr (.inr ⟨_, _, q1, q2, s1, s2, ?_⟩)
      have z := Rp.same0 h .bl
      rw [← any_pys] at z
      exact z
    · cases e
  · cases e
/-- is, is not: None and truth values -/
def fIs : D → D → Option D
  | .bl a, .bl b => some (.bl (decide (a = b)))
  | a, b => fIsN a b
def fIsnt : D → D → Option D
  | .bl a, .bl b => some (.bl (!decide (a = b)))
  | a, b => fIsntN a b
abbrev rIsA : R2 := fun x y H Q => rIsB x y H Q ∨ (y = .non ∧ Q (.bl (decide (x = .non))) H)
abbrev rIsntA : R2 := fun x y H Q => rNotB x y H Q ∨ (y = .non ∧ Q (.bl (!decide (x = .non))) H)
theorem o_is : OpR X (compareOp .Is) rIsA := op_isBl.or op_isN
theorem o_isnt : OpR X (compareOp .IsNot) rIsntA := op_notBl.or op_notN
theorem n_is {K : PySem.W.Frag} : OpN K rIsA fIs := by
  intro H v1 v2 d1 d2 G1 G2 d Q p1 p2 e h
  unfold fIs at e
  split at e
  · cases e; cases p1; cases p2; exact .inl ⟨_, _, rfl, rfl, Rp.same0 h .bl⟩
  · exact .inr (n_isN p1 p2 e h)
theorem n_isnt {K : PySem.W.Frag} : OpN K rIsntA fIsnt := by
  intro H v1 v2 d1 d2 G1 G2 d Q p1 p2 e h
  unfold fIsnt at e
  split at e
  · cases e; cases p1; cases p2; exact .inl ⟨_, _, rfl, rfl, Rp.same0 h .bl⟩
  · exact .inr (n_isntN p1 p2 e h)

theorem Rps.atI {K : PySem.W.Frag} {H : Hp} {vs : List V} {ds : List D} {F : List Addr} (r : Rps K H vs ds F) {i : Int} {d : D} (e : L2.atI ds i = some d) : ∃ v G, L2.atI vs i = some v ∧ Rp K H v d G := by
  unfold L2.atI at e ⊢
  rw [r.length]
  cases q : ixN ds.length i with
  | none => rw [q] at e; cases e
  | some j =>
    rw [q] at e
    obtain ⟨v, G, h1, h2, _⟩ := r.get (show ds[j]? = some d from e)
    exact ⟨v, G, h1, h2⟩
theorem atI_mem {α : Type} {xs : List α} {i : Int} {a : α} (h : L2.atI xs i = some a) : a ∈ xs := by
  unfold L2.atI at h
  cases q : ixN xs.length i with
  | none => rw [q] at h; cases h
  | some j => rw [q] at h; exact List.mem_of_getElem? (show xs[j]? = some a from h)
theorem b_ix {K : PySem.W.Frag} : OpB K (rIx K) fIx := by
  intro H v1 v2 d1 d2 G1 G2 d Q p1 p2 e h
  unfold fIx at e
  split at e
  · cases p2
    cases p1 with | tup ha ra => ?_
    obtain ⟨v, G, h1, h2⟩ := ra.atI e
    exact .inr (.inl ⟨_, _, _, v, rfl, rfl, ha.sq, h1, h v H G (.refl _ _) h2⟩)
  · cases p2
    cases p1 with | lst ha ra => ?_
    obtain ⟨v, G, h1, h2⟩ := ra.atI e
    exact .inl ⟨_, _, _, v, rfl, rfl, .of ha, h1, h v H G (.refl _ _) h2⟩
  · cases p2
    cases p1 with | rol ha ra => ?_
    obtain ⟨v, G, h1, h2⟩ := ra.atI e
    exact .inl ⟨_, _, _, v, rfl, rfl, ha.sq, h1, h v H G (.refl _ _) h2⟩
  · split at e
    · rename_i hf
      cases p2
      cases p1 with | str hx => ?_
      obtain ⟨c, e1, e2⟩ := Option.map_eq_some_iff.mp e
      subst e2
      refine .inr (.inr ⟨_, _, c, rfl, rfl, ?_, e1, h _ H [] (.refl _ _) (rp_str (okC_of fun z m => ?_) rfl)⟩)
      · simpa [Str.length] using fits_le hf
      · rw [List.mem_singleton.mp m]; exact okC_mem hx c (atI_mem e1)
    · cases e
  · cases e
end

/-! ### rules for two operands -/
section
variable {X : Cx} {W : WX} {a b : Expr} {pos : Pos} {ma mb : MB} {na n2 : ME} {f : D → D → Option D} {r : R2}
theorem x_op {op : Operator} (o : OpR X (binaryOp op) r) (n : OpN X.K r f) (pa : PE X a (tB X.K W ma)) (pb : PE X b (tB X.K W mb)) : PE X (.BinOp a op b pos) (tN X.K W (bin f ma mb)) := PE.mono (pe_op o pa pb) fun _ _ _ => op_bb n
theorem e_op {op : Operator} (o : OpR X (binaryOp op) r) (n : OpN X.K r f) (pa : PE X a (tE X.K W na)) (pb : PE X b (tE X.K W n2)) : PE X (.BinOp a op b pos) (tE X.K W (binE f na n2)) := PE.mono (pe_op o pa pb) fun _ _ _ => op_ee n
theorem x_cmp {op : CmpOp} (o : OpR X (compareOp op) r) (n : OpN X.K r f) (pa : PE X a (tB X.K W ma)) (pb : PE X b (tB X.K W mb)) (hm : behindInMarks op b = false) : PE X (.Compare a [op] [b] pos) (tN X.K W (bin f ma mb)) := PE.mono (pe_cmpR o pa pb hm) fun _ _ _ => op_bb n
theorem e_cmp {op : CmpOp} (o : OpR X (compareOp op) r) (n : OpN X.K r f) (pa : PE X a (tE X.K W na)) (pb : PE X b (tE X.K W n2)) (hm : behindInMarks op b = false) : PE X (.Compare a [op] [b] pos) (tE X.K W (binE f na n2)) := PE.mono (pe_cmpR o pa pb hm) fun _ _ _ => op_ee n
theorem v_cmp {op : CmpOp} {i : Nat} {x : Str} {p1 : Pos} (o : OpR X (compareOp op) r) (n : OpN X.K r f) (pb : PE X b (tE X.K W n2)) (hm : behindInMarks op b = false) (hN : X.N[i]? = some x := by rfl) (hv : Vis X.env.scope x := by first | exact Or.inl rfl | exact Or.inr (Or.inl rfl) | exact Or.inr (Or.inr rfl)) (hd : (x == ("__debug__" : Str)) = false := by decide)
    (hcd : (x == ("__classdict__" : Str)) = false := by decide) : PE X (.Compare (.Name x p1) [op] [b] pos) (tE X.K W (binV f i n2)) := PE.mono (pe_cmpR o (pe_var hN hv hd hcd) pb hm) fun _ _ _ => op_ve n
/-- a[b] -/
theorem x_ix (pa : PE X a (tB X.K W ma)) (pb : PE X b (tB X.K W mb)) (hs : PlainIx b := by exact fun _ _ => rfl) : PE X (.Subscript a b pos) (tB X.K W (bin fIx ma mb)) := PE.mono (pe_ix ix_seq pa pb hs) fun _ _ _ => op_bbB b_ix
theorem e_ix (pa : PE X a (tE X.K W na)) (pb : PE X b (tE X.K W n2)) (hs : PlainIx b := by exact fun _ _ => rfl) : PE X (.Subscript a b pos) (tE X.K W (binE (immF fIx) na n2)) := PE.mono (pe_ix ix_seq pa pb hs) fun _ _ _ => op_ee b_ix.imm
theorem v_ix {i : Nat} {x : Str} {p1 : Pos} (pb : PE X b (tE X.K W n2)) (hs : PlainIx b := by exact fun _ _ => rfl) (hN : X.N[i]? = some x := by rfl) (hv : Vis X.env.scope x := by first | exact Or.inl rfl | exact Or.inr (Or.inl rfl) | exact Or.inr (Or.inr rfl)) (hd : (x == ("__debug__" : Str)) = false := by decide)
    (hcd : (x == ("__classdict__" : Str)) = false := by decide) : PE X (.Subscript (.Name x p1) b pos) (tE X.K W (binV (immF fIx) i n2)) := PE.mono (pe_ix ix_seq (pe_var hN hv hd hcd) pb hs) fun _ _ _ => op_ve b_ix.imm
theorem v_op {op : Operator} {i : Nat} {x : Str} {p1 : Pos} (o : OpR X (binaryOp op) r) (n : OpN X.K r f) (pb : PE X b (tE X.K W n2)) (hN : X.N[i]? = some x := by rfl) (hv : Vis X.env.scope x := by first | exact Or.inl rfl | exact Or.inr (Or.inl rfl) | exact Or.inr (Or.inr rfl)) (hd : (x == ("__debug__" : Str)) = false := by decide)
    (hcd : (x == ("__classdict__" : Str)) = false := by decide) : PE X (.BinOp (.Name x p1) op b pos) (tE X.K W (binV f i n2)) := PE.mono (pe_op o (pe_var hN hv hd hcd) pb) fun _ _ _ => op_ve n
end

/-! ### one operand, three operands -/
def un (f : D → Option D) (m : MB) : MB := fun e => (m e).bind fun a => .of (f a)
def unE (f : D → Option D) (m : ME) : ME := fun e => (m e).bind fun a e1 => (Rs.of (f a)).at e1
def fNeg : D → Option D
  | .int i => some (.int (-i))
  | _ => none
def UnN (K : PySem.W.Frag) (r : V → Hp → VK → Prop) (f : D → Option D) : Prop := ∀ {H : Hp} {v : V} {a d : D} {G : List Addr} {Q : VK}, Rp K H v a G → f a = some d →
  (∀ v H' G, Keeps [] H H' → Rp K H' v d G → G.Nodup → (∀ a ∈ G, H a = none) → Q v H') → r v H Q
section
variable {K : PySem.W.Frag} {W : WX} {r : V → Hp → VK → Prop} {f : D → Option D} {m : MB} {n : ME} {σ : L2.St} {H : Hp} {Q : VK}
theorem un_b (o : UnN K r f) (h : tN K W (un f m) σ H Q) : tB K W m σ H fun x H1 => r x H1 Q := by
  obtain ⟨e, F, rl, h⟩ := h
  unfold un at h
  refine ⟨e, F, rl, ?_⟩
  cases qa : m e with
  | bad => rw [qa] at h; exact h
  | exc y => rw [qa] at h; exact h
  | ok a =>
    rw [qa] at h
    intro v1 H1 G1 k1 p1
    cases qf : f a with
    | none => simp only [Rs.bind, qf, Rs.of] at h
    | some d =>
      simp only [Rs.bind, qf, Rs.of] at h
      exact o p1 qf fun v H' G k p n1 n2 => h v H' G (k1.trans k fun _ m => by cases m) p n1 fun z m => k1.none (n2 z m) fun m => by cases m
theorem un_e (o : UnN K r f) (h : tE K W (unE f n) σ H Q) : tE K W n σ H fun x H1 => r x H1 Q := by
  obtain ⟨e, F, rl, nd, h⟩ := h
  unfold unE at h
  refine ⟨e, F, rl, nd, ?_⟩
  cases qa : n e with
  | bad => rw [qa] at h; exact h
  | exc y e1 => rw [qa] at h; exact h
  | ok a e1 =>
    rw [qa] at h
    intro v1 H1 F1 x
    obtain ⟨G, F0, eF, p, x', hd, n1, nw⟩ := x.head
    cases qf : f a with
    | none => simp only [Re.bind, qf, Rs.of, Rs.at] at h
    | some d =>
      simp only [Re.bind, qf, Rs.of, Rs.at] at h
      exact o p qf fun v H' G' k p' n1' n2' => h v H' _ (x'.consNew k p' n1' n2')
end
theorem n_neg {K : PySem.W.Frag} : UnN K (rU fun i => .int (-i)) fNeg := by
  intro H v a d G Q p e h
  unfold fNeg at e
  split at e
  · cases e; cases p; exact ⟨_, rfl, Rp.same0 h .int⟩
  · cases e
section
variable {X : Cx} {W : WX} {a : Expr} {pos : Pos} {m : MB} {n : ME}
theorem x_neg (pa : PE X a (tB X.K W m)) : PE X (.UnaryOp .USub a pos) (tN X.K W (un fNeg m)) := PE.mono (pe_un un_neg pa) fun _ _ _ => un_b n_neg
theorem e_neg (pa : PE X a (tE X.K W n)) : PE X (.UnaryOp .USub a pos) (tE X.K W (unE fNeg n)) := PE.mono (pe_un un_neg pa) fun _ _ _ => un_e n_neg
end

/-! ### slices -/
def cutL {α : Type} (xs : List α) (lo hi : Option Int) : List α := (xs.drop (HT.sIx xs.length 0 lo)).take (HT.sIx xs.length xs.length hi - HT.sIx xs.length 0 lo)
def fCut (d : D) (lo hi : Option Int) : Option D := match d with
  | .str s => if fits s.length = true then some (.str (cutL s lo hi)) else none
  | .tup ds => if imms ds = true then some (.tup (cutL ds lo hi)) else none
  | .lst ds => if imms ds = true then some (.lst (cutL ds lo hi)) else none
  | .rol ds => if imms ds = true then some (.lst (cutL ds lo hi)) else none
  | _ => none
/-- an end of a slice -/
def cutP (m : Option MB) : E → Rs (Option Int) := fun e => match m with
  | none => .ok none
  | some m => (m e).bind fun d => match d with
    | .int i => .ok (some i)
    | _ => .bad
def cut (m : MB) (lo hi : Option MB) : MB := fun e => (m e).bind fun d => (cutP lo e).bind fun l => (cutP hi e).bind fun u => .of (fCut d l u)
def tPo (K : PySem.W.Frag) (W : WX) (m : Option MB) : TO := fun σ H Q => ∃ e F, RelS K H σ e F ∧ match cutP m e with
  | .ok o => ∀ H', Keeps [] H H' → Q o H'
  | .exc x => ∀ c dx H', Keeps [] H H' → RpX K H' c dx x → W c dx σ H'
  | .bad => False
theorem PO.mono {X : Cx} {e : Option Expr} {t t' : TO} (p : PO X e t) (h : ∀ σ H Q, t' σ H Q → t σ H Q) : PO X e t' := ⟨fun pins s σ H Q I q => p.run pins s σ H Q I (h _ _ _ q)⟩
section
variable {X : Cx} {W : WX} {e a : Expr} {lo hi : Option Expr} {pos p2 : Pos} {m : MB} {ml mh : Option MB}
theorem o_none : PO X none (tPo X.K W none) := PO.mono po_none fun σ H Q ⟨e, F, r, h⟩ => h H (.refl _ _)
theorem o_some (p : PE X e (tB X.K W m)) : PO X (some e) (tPo X.K W (some m)) := PO.mono (po_some p) fun σ H Q ⟨e, F, r, h⟩ => by
  refine ⟨e, F, r, ?_⟩
  unfold cutP at h
  cases q : m e with
  | bad => simp only [q, Rs.bind] at h
  | exc y => simp only [q, Rs.bind] at h; exact h
  | ok d =>
    simp only [q, Rs.bind] at h
    intro v H' G k p
    cases d with
    | int i => cases p; exact ⟨i, rfl, h H' k⟩
    | _ => exact h.elim
abbrev rSlA' (K : PySem.W.Frag) : V → Option Int → Option Int → Hp → VK → Prop := fun x lo hi H Q => rSlS x lo hi H Q ∨ rSlA K x lo hi H Q ∨ rSlL K x lo hi H Q
theorem sl_all : SlR X (rSlA' X.K) := sl_str.or (sl_tupA.or sl_list)
theorem Rps.cut {K : PySem.W.Frag} {H : Hp} {vs : List V} {ds : List D} (r : Rps K H vs ds []) (lo hi : Option Int) : Rps K H (cutV vs lo hi) (cutL ds lo hi) [] := by
  unfold cutV cutL
  rw [r.length]
  exact ((r.takeD _).2.takeD _).1
theorem cutL_whole {K : PySem.W.Frag} {H : Hp} {vs : List V} {ds : List D} {F : List Addr} {lo hi : Option Int} (ra : Rps K H vs ds F) (z : HT.sIx vs.length 0 lo = 0 ∧ HT.sIx vs.length vs.length hi = vs.length) : cutL ds lo hi = ds := by
  unfold cutL
  rw [← ra.length, z.1, z.2, List.drop_zero, Nat.sub_zero, ra.length, List.take_length]
theorem fCut_ok {K : PySem.W.Frag} {H : Hp} {v : V} {d d' : D} {G : List Addr} {lo hi : Option Int} {Q : VK} (p : Rp K H v d G) (e : fCut d lo hi = some d')
    (h : ∀ v H' G, Keeps [] H H' → Rp K H' v d' G → G.Nodup → (∀ a ∈ G, H a = none) → Q v H') : rSlA' K v lo hi H Q := by
  unfold fCut at e
  split at e
  · split at e
    · rename_i hf
      cases e
      cases p with | str hx => ?_
      rename_i x
      have ez : (cutS x lo hi).cps.toList = cutL x.cps.toList lo hi := by
        unfold cutS cutL
        rw [Array.length_toList]
        rfl
      refine .inl ⟨_, rfl, by simpa [Str.length] using fits_le hf, Rp.same0 h (rp_str ?_ ez)⟩
      rw [show cutS x lo hi = ⟨(cutL x.cps.toList lo hi).toArray⟩ by rw [← ez]]
      refine okC_of fun c m => okC_mem hx c ?_
      unfold cutL at m
      exact List.mem_of_mem_drop (List.mem_of_mem_take m)
    · cases e
  · split at e
    · rename_i hf
      cases e
      cases p with | tup ha ra => ?_
      have e1 := Rps.fpImm ra hf
      subst e1
      refine .inr (.inl ⟨_, _, rfl, ha.sq, fun z => ?_, fun _ p hp => ?_⟩)
      · rw [cutL_whole ra z] at h
        exact Rp.same0 h (.tup ha ra)
      · exact h _ _ [] (.new hp _) (.tup (.of upd_same) ((ra.cut lo hi).same (.new hp _))) .nil fun a m => by cases m
    · cases e
  · split at e
    · rename_i hf
      cases e
      cases p with | lst ha ra => ?_
      have e1 := Rps.fpImm ra hf
      subst e1
      refine .inr (.inr ⟨_, _, rfl, .of ha, fun p hp => ?_⟩)
      refine h _ _ [p] (.new hp _) (.lst upd_same ((ra.cut lo hi).same (.new hp _))) (by simp) fun a m => ?_
      rw [List.mem_singleton.mp m]; exact hp
    · cases e
  · split at e
    · rename_i hf
      cases e
      cases p with | rol ha ra => ?_
      refine .inr (.inr ⟨_, _, rfl, ha.sq, fun p hp => ?_⟩)
      refine h _ _ [p] (.new hp _) (.lst upd_same ((ra.cut lo hi).same (.new hp _))) (by simp) fun a m => ?_
      rw [List.mem_singleton.mp m]; exact hp
    · cases e
  · cases e
theorem x_cut (pa : PE X a (tB X.K W m)) (pl : PO X lo (tPo X.K W ml)) (ph : PO X hi (tPo X.K W mh)) : PE X (.Subscript a (.Slice lo hi none p2) pos) (tN X.K W (cut m ml mh)) :=
  PE.mono (pe_slice sl_all pa pl ph) fun σ H Q ⟨e, F, r, h⟩ => by
    unfold cut at h
    refine ⟨e, F, r, ?_⟩
    cases qa : m e with
    | bad => simp only [qa, Rs.bind] at h
    | exc y => simp only [qa, Rs.bind] at h; exact h
    | ok d =>
      simp only [qa, Rs.bind] at h
      intro v H1 G1 k1 p1
      refine ⟨e, F, r.same k1, ?_⟩
      cases ql : cutP ml e with
      | bad => simp only [ql] at h
      | exc y => simp only [ql] at h; exact fun c dx H' k p => h c dx H' (k1.trans k fun _ m => by cases m) p
      | ok l =>
        simp only [ql] at h
        intro H2 k2
        refine ⟨e, F, (r.same k1).same k2, ?_⟩
        have k12 : Keeps [] H H2 := k1.trans k2 fun _ m => by cases m
        cases qh : cutP mh e with
        | bad => simp only [qh] at h
        | exc y => simp only [qh] at h; exact fun c dx H' k p => h c dx H' (k12.trans k fun _ m => by cases m) p
        | ok u =>
          simp only [qh] at h
          intro H3 k3
          have k13 : Keeps [] H H3 := k12.trans k3 fun _ m => by cases m
          cases qf : fCut d l u with
          | none => simp only [qf, Rs.of] at h
          | some d' =>
            simp only [qf, Rs.of] at h
            exact fCut_ok ((p1.same k2).same k3) qf fun v H' G k p n1 n2 => h v H' G (k13.trans k fun _ m => by cases m) p n1 fun z m => k13.none (n2 z m) fun m => by cases m
end
end Mir

namespace Mir
open PySem PySem.Spec L2

abbrev MA := E → Rs (List D)
abbrev MAE := E → Re (List D)
/-! ### argument lists -/
def tAB (K : PySem.W.Frag) (W : WX) (m : MA) : TA := fun σ H Q => ∃ e F, RelS K H σ e F ∧ match m e with
  | .ok ds => ∀ vs H' G, Keeps [] H H' → Rps K H' vs ds G → Q vs H'
  | .exc x => ∀ c dx H', Keeps [] H H' → RpX K H' c dx x → W c dx σ H'
  | .bad => False
/-- values on top of the slots -/
structure EvA (K : PySem.W.Frag) (F : List Addr) (H : Hp) (vs : List V) (σ' : L2.St) (H' : Hp) (ds : List D) (e' : E) (G F' : List Addr) : Prop where
  ev : Ev K F H σ' H' e' F'
  ps : Rps K H' vs ds G
  hd : ∀ a ∈ G, a ∉ F'
  nd : G.Nodup
  new : ∀ a ∈ G, a ∈ F ∨ H a = none
def tAE (K : PySem.W.Frag) (W : WX) (m : MAE) : TA := fun σ H Q => ∃ e F, RelS K H σ e F ∧ F.Nodup ∧ match m e with
  | .ok ds e' => ∀ vs H' G F', EvA K F H vs σ H' ds e' G F' → Q vs H'
  | .exc x e' => ∀ c dx H' F', Ev K F H σ H' e' F' → RpX K H' c dx x → W c dx σ H'
  | .bad => False
def aNil : MA := fun _ => .ok []
def aCons (m : MB) (ms : MA) : MA := fun e => (m e).bind fun d => (ms e).bind fun ds => .ok (d :: ds)
def anil : MAE := fun e => .ok [] e
def acons (m : ME) (ms : MAE) : MAE := fun e => (m e).bind fun d e1 => (ms e1).bind fun ds e2 => .ok (d :: ds) e2
section
variable {X : Cx} {W : WX} {e : Expr} {es : List Expr} {m : MB} {ms : MA} {n : ME} {ns : MAE}
theorem a_nil : PA X [] (tAB X.K W aNil) := PA.mono pa_nil fun σ H Q ⟨e, F, r, h⟩ => h [] H [] (.refl _ _) .nil
theorem a_cons (p : PE X e (tB X.K W m)) (q : PA X es (tAB X.K W ms)) (hs : starEach (e :: es) X.env = (false, eval e X.env) :: starEach es X.env := by rfl) : PA X (e :: es) (tAB X.K W (aCons m ms)) := PA.mono (pa_cons p q hs) fun σ H Q ⟨e, F, r, h⟩ => by
  unfold aCons at h
  refine ⟨e, F, r, ?_⟩
  cases qa : m e with
  | bad => simp only [qa, Rs.bind] at h
  | exc y => simp only [qa, Rs.bind] at h; exact h
  | ok d =>
    simp only [qa, Rs.bind] at h
    intro v H1 G1 k1 p1
    refine ⟨e, F, r.same k1, ?_⟩
    cases qb : ms e with
    | bad => simp only [qb] at h
    | exc y => simp only [qb] at h; exact fun c dx H' k p => h c dx H' (k1.trans k fun _ m => by cases m) p
    | ok ds =>
      simp only [qb] at h
      exact fun vs H2 G2 k2 p2 => h (v :: vs) H2 _ (k1.trans k2 fun _ m => by cases m) (.cons (p1.same k2) p2)
theorem ae_nil : PA X [] (tAE X.K W anil) := PA.mono pa_nil fun σ H Q ⟨e, F, r, nd, h⟩ => h [] H [] F ⟨Ev.refl r nd, .nil, (fun _ m => by cases m), .nil, fun _ m => by cases m⟩
theorem ae_cons (p : PE X e (tE X.K W n)) (q : PA X es (tAE X.K W ns)) (hs : starEach (e :: es) X.env = (false, eval e X.env) :: starEach es X.env := by rfl) : PA X (e :: es) (tAE X.K W (acons n ns)) := PA.mono (pa_cons p q hs) fun σ H Q ⟨e, F, r, nd, h⟩ => by
  unfold acons at h
  refine ⟨e, F, r, nd, ?_⟩
  cases qa : n e with
  | bad => simp only [qa, Re.bind] at h
  | exc y e1 => simp only [qa, Re.bind] at h; exact h
  | ok d e1 =>
    simp only [qa, Re.bind] at h
    intro v H1 F1 x
    obtain ⟨G, F0, eF, p, x', hd, n1, nw⟩ := x.head
    refine ⟨e1, F0, x'.r, x'.nd, ?_⟩
    cases qb : ns e1 with
    | bad => simp only [qb] at h
    | exc y e2 => simp only [qb] at h; exact fun c dx H' F' y p => h c dx H' F' (x'.trans y) p
    | ok ds e2 =>
      simp only [qb] at h
      intro vs H2 G2 F2 y
      have dj : ∀ a ∈ G, a ∉ G2 := fun a m m' => (y.new a m').elim (hd a m) (p.there m)
      have dj2 : ∀ a ∈ G, a ∉ F2 := fun a m m' => (y.ev.new a m').elim (hd a m) (p.there m)
      refine h (v :: vs) H2 (G ++ G2) F2 ⟨x'.trans y.ev, .cons (p.keep y.ev.k hd) y.ps, fun a m => ?_, ?_, fun a m => ?_⟩
      · rcases List.mem_append.mp m with m | m
        · exact dj2 a m
        · exact y.hd a m
      · exact List.nodup_append.mpr ⟨n1, y.nd, fun a m b m' z => by subst z; exact dj a m m'⟩
      · rcases List.mem_append.mp m with m | m
        · exact nw a m
        · rcases y.new a m with z | z
          · exact x'.new a z
          · by_cases zz : a ∈ F
            · exact .inl zz
            · exact .inr (x'.k.none z zz)
end

/-! ### displays -/
def dTup (ms : MA) : MB := fun e => (ms e).bind fun ds => if imms ds = true ∧ fits ds.length = true then .ok (.tup ds) else .bad
def dLst (ms : MA) : MB := fun e => (ms e).bind fun ds => if imms ds = true ∧ fits ds.length = true then .ok (.lst ds) else .bad
def dTupE (ms : MAE) : ME := fun e => (ms e).bind fun ds e1 => if fits ds.length = true then .ok (.tup ds) e1 else .bad
def dLstE (ms : MAE) : ME := fun e => (ms e).bind fun ds e1 => if fits ds.length = true then .ok (.lst ds) e1 else .bad
section
variable {X : Cx} {W : WX} {es : List Expr} {pos : Pos} {ms : MA} {ns : MAE}
theorem x_tup {x1} (p : PA X es (tAB X.K W ms)) : PE X (.Tuple es x1 pos) (tN X.K W (dTup ms)) := PE.mono (pe_tup p) fun σ H Q ⟨e, F, r, h⟩ => by
  unfold dTup at h
  refine ⟨e, F, r, ?_⟩
  cases qa : ms e with
  | bad => simp only [qa, Rs.bind] at h
  | exc y => simp only [qa, Rs.bind] at h; exact h
  | ok ds =>
    simp only [qa, Rs.bind] at h
    intro vs H1 G k p
    by_cases hi : imms ds = true ∧ fits ds.length = true
    · rw [if_pos hi] at h
      have e1 := p.fpImm hi.1
      subst e1
      refine ⟨by rw [p.length]; exact fits_le hi.2, fun q hq => ?_⟩
      exact h _ _ [] (k.trans (.new hq []) fun _ m => by cases m) (.tup (.of upd_same) (p.same (.new hq _))) .nil fun _ m => by cases m
    · rw [if_neg hi] at h; exact h.elim
theorem x_lst (p : PA X es (tAB X.K W ms)) : PE X (.List es pos) (tN X.K W (dLst ms)) := PE.mono (pe_lst p) fun σ H Q ⟨e, F, r, h⟩ => by
  unfold dLst at h
  refine ⟨e, F, r, ?_⟩
  cases qa : ms e with
  | bad => simp only [qa, Rs.bind] at h
  | exc y => simp only [qa, Rs.bind] at h; exact h
  | ok ds =>
    simp only [qa, Rs.bind] at h
    intro vs H1 G k p
    by_cases hi : imms ds = true ∧ fits ds.length = true
    · rw [if_pos hi] at h
      have e1 := p.fpImm hi.1
      subst e1
      refine ⟨by rw [p.length]; exact fits_le hi.2, fun q hq => ?_⟩
      refine h _ _ [q] (k.trans (.new hq []) fun _ m => by cases m) (.lst upd_same (p.same (.new hq _))) (by simp) fun a m => ?_
      rw [List.mem_singleton.mp m]
      exact k.none hq fun m => by cases m
    · rw [if_neg hi] at h; exact h.elim
theorem e_tup {x1} (p : PA X es (tAE X.K W ns)) : PE X (.Tuple es x1 pos) (tE X.K W (dTupE ns)) := PE.mono (pe_tup p) fun σ H Q ⟨e, F, r, nd, h⟩ => by
  unfold dTupE at h
  refine ⟨e, F, r, nd, ?_⟩
  cases qa : ns e with
  | bad => simp only [qa, Re.bind] at h
  | exc y e1 => simp only [qa, Re.bind] at h; exact h
  | ok ds e1 =>
    simp only [qa, Re.bind] at h
    intro vs H1 G F1 x
    by_cases hi : fits ds.length = true
    · rw [if_pos hi] at h
      refine ⟨by rw [x.ps.length]; exact fits_le hi, fun q hq => ?_⟩
      exact h _ _ _ ((x.ev.grow (.new hq [])).cons (.tup (.of upd_same) (x.ps.same (.new hq _))) x.hd x.nd x.new)
    · rw [if_neg hi] at h; exact h.elim
theorem e_lst (p : PA X es (tAE X.K W ns)) : PE X (.List es pos) (tE X.K W (dLstE ns)) := PE.mono (pe_lst p) fun σ H Q ⟨e, F, r, nd, h⟩ => by
  unfold dLstE at h
  refine ⟨e, F, r, nd, ?_⟩
  cases qa : ns e with
  | bad => simp only [qa, Re.bind] at h
  | exc y e1 => simp only [qa, Re.bind] at h; exact h
  | ok ds e1 =>
    simp only [qa, Re.bind] at h
    intro vs H1 G F1 x
    by_cases hi : fits ds.length = true
    · rw [if_pos hi] at h
      refine ⟨by rw [x.ps.length]; exact fits_le hi, fun q hq => ?_⟩
      refine h _ _ _ ((x.ev.grow (.new hq [])).cons (.lst upd_same (x.ps.same (.new hq _))) (fun a m m' => ?_) ?_ fun a m => ?_)
      · rcases List.mem_cons.mp m with z | m
        · subst z; exact x.ev.r.there m' hq
        · exact x.hd a m m'
      · exact List.nodup_cons.mpr ⟨fun m => x.ps.there m hq, x.nd⟩
      · rcases List.mem_cons.mp m with z | m
        · subst z
          by_cases zz : a ∈ F
          · exact .inl zz
          · exact .inr (x.ev.k.none hq zz)
        · exact x.new a m
    · rw [if_neg hi] at h; exact h.elim
end

/-! ### built-in calls by values -/
def CallN (K : PySem.W.Frag) (r : List V → Hp → VK → Prop) (f : List D → Option D) : Prop := ∀ {H : Hp} {vs : List V} {ds : List D} {d : D} {G : List Addr} {Q : VK}, Rps K H vs ds G → f ds = some d →
  (∀ v H' G, Keeps [] H H' → Rp K H' v d G → G.Nodup → (∀ a ∈ G, H a = none) → Q v H') → r vs H Q
def cal (f : List D → Option D) (ms : MA) : MB := fun e => (ms e).bind fun ds => .of (f ds)
def calE (f : List D → Option D) (ms : MAE) : ME := fun e => (ms e).bind fun ds e1 => (Rs.of (f ds)).at e1
section
variable {K : PySem.W.Frag} {W : WX} {r : List V → Hp → VK → Prop} {f : List D → Option D} {ms : MA} {ns : MAE} {σ : L2.St} {H : Hp} {Q : VK}
theorem cal_b (o : CallN K r f) (h : tN K W (cal f ms) σ H Q) : tAB K W ms σ H fun vs H1 => r vs H1 Q := by
  obtain ⟨e, F, rl, h⟩ := h
  unfold cal at h
  refine ⟨e, F, rl, ?_⟩
  cases qa : ms e with
  | bad => rw [qa] at h; exact h
  | exc y => rw [qa] at h; exact h
  | ok ds =>
    rw [qa] at h
    intro vs H1 G1 k1 p1
    cases qf : f ds with
    | none => simp only [Rs.bind, qf, Rs.of] at h
    | some d =>
      simp only [Rs.bind, qf, Rs.of] at h
      exact o p1 qf fun v H' G k p n1 n2 => h v H' G (k1.trans k fun _ m => by cases m) p n1 fun z m => k1.none (n2 z m) fun m => by cases m
theorem cal_e (o : CallN K r f) (h : tE K W (calE f ns) σ H Q) : tAE K W ns σ H fun vs H1 => r vs H1 Q := by
  obtain ⟨e, F, rl, nd, h⟩ := h
  unfold calE at h
  refine ⟨e, F, rl, nd, ?_⟩
  cases qa : ns e with
  | bad => rw [qa] at h; exact h
  | exc y e1 => rw [qa] at h; exact h
  | ok ds e1 =>
    rw [qa] at h
    intro vs H1 G F1 x
    cases qf : f ds with
    | none => simp only [Re.bind, qf, Rs.of, Rs.at] at h
    | some d =>
      simp only [Re.bind, qf, Rs.of, Rs.at] at h
      exact o x.ps qf fun v H' G' k p' n1' n2' => h v H' _ (x.ev.consNew k p' n1' n2')
variable {X : Cx} {x : Str} {p pos : Pos} {e : Expr} {es : List Expr} {id T : String}
theorem x_callB (hc : CallR X (.builtin id) r) (o : CallN X.K r f) (hg : Gl X x) (hm : X.mg x = none) (hv : bootBuiltins x = some (.builtin id)) (ha : PA X (e :: es) (tAB X.K W ms)) : PE X (.Call (.Name x p) (e :: es) [] pos) (tCB r (tAB X.K W ms)) → PE X (.Call (.Name x p) (e :: es) [] pos) (tN X.K W (cal f ms)) :=
  fun q => PE.mono q fun _ _ _ => cal_b o
theorem x_call (o : CallN X.K r f) (q : PE X (.Call (.Name x p) (e :: es) [] pos) (tCB r (tAB X.K W ms))) : PE X (.Call (.Name x p) (e :: es) [] pos) (tN X.K W (cal f ms)) := PE.mono q fun _ _ _ => cal_b o
theorem e_call (o : CallN X.K r f) (q : PE X (.Call (.Name x p) (e :: es) [] pos) (tCB r (tAE X.K W ns))) : PE X (.Call (.Name x p) (e :: es) [] pos) (tE X.K W (calE f ns)) := PE.mono q fun _ _ _ => cal_e o
end
def lenD : D → Option Nat
  | .str s => if fits s.length = true then some s.length else none
  | .tup ds => some ds.length
  | .lst ds => some ds.length
  | .rol ds => some ds.length
  | .dct kvs => some kvs.length
  | _ => none
def fLen : List D → Option D
  | [d] => (lenD d).map fun (n : Nat) => .int (n : Int)
  | _ => none
def fInt : List D → Option D
  | [.int i] => some (.int i)
  | [.bl b] => some (.int (if b = true then 1 else 0))
  | [.str s] => if s.length ≤ 640 then (PySem.intText? ⟨s.toArray⟩).map .int else none
  | _ => none
def fStr : List D → Option D
  | [.int i] => if big64 i = true then some (.str (lit (toString i))) else none
  | [.str s] => some (.str s)
  | _ => none
def fAbs : List D → Option D
  | [.int i] => some (.int (if i < 0 then -i else i))
  | _ => none
def fMax : List D → Option D
  | [.int i, .int j] => some (.int (if j > i then j else i))
  | _ => none
def fMin : List D → Option D
  | [.int i, .int j] => some (.int (if j < i then j else i))
  | _ => none
def fOrd : List D → Option D
  | [.str [c]] => some (.int c)
  | _ => none
def fTuple : List D → Option D
  | [.tup ds] => if imms ds = true then some (.tup ds) else none
  | [.lst ds] => if imms ds = true then some (.tup ds) else none
  | [.rol ds] => if imms ds = true then some (.tup ds) else none
  | _ => none
def fList : List D → Option D
  | [.tup ds] => if imms ds = true then some (.lst ds) else none
  | [.lst ds] => if imms ds = true then some (.lst ds) else none
  | [.rol ds] => if imms ds = true then some (.lst ds) else none
  | _ => none
def fDivmod : List D → Option D
  | [.int i, .int j] => if 0 < j ∧ j < 1073741824 then some (.tup [.int (i / j), .int (i % j)]) else none
  | _ => none
def tyName : D → Option String
  | .non => some "NoneType"
  | .bl _ => some "bool"
  | .int _ => some "int"
  | .str _ => some "str"
  | .tup _ => some "tuple"
  | .lst _ => some "list"
  | .rol _ => some "list"
  | .dct _ => some "dict"
  | _ => none
def fIsi : List D → Option D
  | [d, .raw (.ty n)] => (tyName d).bind fun a => (kitB a n).map .bl
  | _ => none
/-- isinstance of one of two -/
def fIsi2 : List D → Option D
  | [d, .tup [.raw (.ty n), .raw (.ty m)]] => (tyName d).bind fun a => (kitB a n).bind fun b => (kitB a m).map fun c => .bl (b || c)
  | _ => none
section
variable {X : Cx} {K : PySem.W.Frag}
theorem SqL.rol {H : Hp} {a : Addr} {o : Obj} {vs : List V} (h : H a = some (.frz o (.lst vs))) : SqL K H a vs := .inl (.inr ⟨o, h⟩)
abbrev rLenA (K : PySem.W.Frag) : List V → Hp → VK → Prop := fun xs H Q => (∃ (x : V) (n : Nat), xs = [x] ∧ LenV K x H n ∧ Q (.int n) H) ∨ ∃ a kvs, xs = [V.ref a] ∧ H a = some (.dK kvs) ∧ Q (.int kvs.length) H
theorem c_len : CallR X (.builtin "len") (rLenA X.K) := call_len.or call_lenD
theorem n_len : CallN K (rLenA K) fLen := by
  intro H vs ds d G Q p e h
  unfold fLen at e
  split at e
  · obtain ⟨n, e1, e2⟩ := Option.map_eq_some_iff.mp e
    subst e2
    cases p with | cons p q => ?_
    cases q
    unfold lenD at e1
    split at e1
    · split at e1
      · rename_i hf
        cases e1; cases p
        exact .inl ⟨_, _, rfl, ⟨by simpa [Str.length] using fits_le hf, by simp [Str.length]⟩, Rp.same0 h .int⟩
      · cases e1
    · cases e1
      cases p with | tup ha ra => ?_
      exact .inl ⟨_, _, rfl, .inr ⟨_, ha.sq, ra.length.symm⟩, Rp.same0 h .int⟩
    · cases e1
      cases p with | lst ha ra => ?_
      exact .inl ⟨_, _, rfl, .inl ⟨_, .of ha, ra.length.symm⟩, Rp.same0 h .int⟩
    · cases e1
      cases p with | rol ha ra => ?_
      exact .inl ⟨_, _, rfl, .inl ⟨_, ha.sq, ra.length.symm⟩, Rp.same0 h .int⟩
    · cases e1
      cases p with | dct ha hk ra => ?_
      refine .inr ⟨_, _, rfl, ha, ?_⟩
      have z := congrArg List.length hk
      simp only [List.length_map] at z
      rw [z]
      exact Rp.same0 h .int
    · cases e1
  · cases e
abbrev rIntA : List V → Hp → VK → Prop := fun xs H Q => ((∃ i, xs = [.int i] ∧ Q (.int i) H) ∨ ∃ k, xs = [.bl k] ∧ Q (.int (if k then 1 else 0)) H) ∨ ∃ a n, xs = [.str a] ∧ PySem.intText? a = some n ∧ a.length ≤ 640 ∧ Q (.int n) H
theorem c_int : CallR X (.type "int") rIntA := call_int1.or call_int_str
theorem n_int : CallN K rIntA fInt := by
  intro H vs ds d G Q p e h
  unfold fInt at e
  split at e
  · cases e
    cases p with | cons p q => ?_
    cases q; cases p
    exact .inl (.inl ⟨_, rfl, Rp.same0 h .int⟩)
  · cases e
    cases p with | cons p q => ?_
    cases q; cases p
    exact .inl (.inr ⟨_, rfl, Rp.same0 h .int⟩)
  · split at e
    · rename_i hl
      obtain ⟨n, e1, e2⟩ := Option.map_eq_some_iff.mp e
      subst e2
      cases p with | cons p q => ?_
      cases q
      cases p with | str hx => ?_
      refine .inr ⟨_, n, rfl, ?_, by simpa [Str.length] using hl, Rp.same0 h .int⟩
      rw [← e1]
    · cases e
  · cases e
abbrev rStrA : List V → Hp → VK → Prop := fun xs H Q => (∃ i, xs = [.int i] ∧ i.natAbs.log2 < 1920 ∧ Q (.str (toString i)) H) ∨ ∃ a, xs = [.str a] ∧ Q (.str a) H
theorem c_str : CallR X (.type "str") rStrA := call_str_int.or SkE.call_str_str
theorem n_str : CallN K rStrA fStr := by
  intro H vs ds d G Q p e h
  unfold fStr at e
  split at e
  · split at e
    · rename_i i hi
      cases e
      cases p with | cons p q => ?_
      cases q; cases p
      have hb : -(2 ^ 64) < i ∧ i < 2 ^ 64 := of_decide_eq_true hi
      refine .inl ⟨_, rfl, ?_, Rp.same0 h (.str (lit_ok _))⟩
      have h1 : i.natAbs < 2 ^ 64 := by omega
      by_cases hz : i.natAbs = 0
      · rw [hz]; decide
      · exact Nat.lt_trans ((Nat.log2_lt hz).mpr h1) (by decide)
    · cases e
  · cases e
    cases p with | cons p q => ?_
    cases q
    cases p with | str hx => ?_
    exact .inr ⟨_, rfl, Rp.same0 h (.str hx)⟩
  · cases e
theorem n_abs : CallN K (fun xs H Q => ∃ i, xs = [.int i] ∧ Q (.int (if i < 0 then -i else i)) H) fAbs := by
  intro H vs ds d G Q p e h
  unfold fAbs at e
  split at e
  · cases e
    cases p with | cons p q => ?_
    cases q; cases p
    exact ⟨_, rfl, Rp.same0 h .int⟩
  · cases e
theorem n_max : CallN K (fun xs H Q => ∃ i j, xs = [.int i, .int j] ∧ Q (.int (if j > i then j else i)) H) fMax := by
  intro H vs ds d G Q p e h
  unfold fMax at e
  split at e
  · cases e
    cases p with | cons p q => ?_
    cases q with | cons q z => ?_
    cases z; cases p; cases q
    exact ⟨_, _, rfl, Rp.same0 h .int⟩
  · cases e
theorem n_min : CallN K (fun xs H Q => ∃ i j, xs = [.int i, .int j] ∧ Q (.int (if j < i then j else i)) H) fMin := by
  intro H vs ds d G Q p e h
  unfold fMin at e
  split at e
  · cases e
    cases p with | cons p q => ?_
    cases q with | cons q z => ?_
    cases z; cases p; cases q
    exact ⟨_, _, rfl, Rp.same0 h .int⟩
  · cases e
theorem n_ord : CallN K (fun xs H Q => ∃ x, xs = [.str x] ∧ x.length = 1 ∧ Q (.int (x.cps.getD 0 0 : Nat)) H) fOrd := by
  intro H vs ds d G Q p e h
  unfold fOrd at e
  split at e
  · rename_i c
    cases e
    cases p with | cons p q => ?_
    cases q
    generalize hs : ([c] : List Nat) = s at p
    cases p with | str hx => ?_
    refine ⟨_, rfl, ?_, ?_⟩
    · rw [str_one hs.symm]; rfl
    · rw [str_one hs.symm]; exact Rp.same0 h .int
  · cases e
abbrev rTupleA (K : PySem.W.Frag) : List V → Hp → VK → Prop := fun xs H Q => ∃ p ys, xs = [.ref p] ∧ ((SqL K H p ys ∧ ∀ l, H l = none → Q (.ref l) (upd H l (.tup ys))) ∨ (SqT K H p ys ∧ Q (.ref p) H))
theorem n_tuple : CallN K (rTupleA K) fTuple := by
  intro H vs ds d G Q p e h
  have newT : ∀ {vs : List V} {ds : List D} (r : Rps K H vs ds []), (∀ v H' G, Keeps [] H H' → Rp K H' v (.tup ds) G → G.Nodup → (∀ a ∈ G, H a = none) → Q v H') → ∀ l, H l = none → Q (.ref l) (upd H l (.tup vs)) :=
    fun r h l hl => h _ _ [] (.new hl _) (.tup (.of upd_same) (r.same (.new hl _))) .nil fun _ m => by cases m
  unfold fTuple at e
  split at e
  · split at e
    · rename_i hi
      cases e
      cases p with | cons p q => ?_
      cases q
      cases p with | tup ha ra => ?_
      have e1 := Rps.fpImm ra hi
      subst e1
      exact ⟨_, _, rfl, .inr ⟨ha.sq, Rp.same0 h (.tup ha ra)⟩⟩
    · cases e
  · split at e
    · rename_i hi
      cases e
      cases p with | cons p q => ?_
      cases q
      cases p with | lst ha ra => ?_
      have e1 := Rps.fpImm ra hi
      subst e1
      exact ⟨_, _, rfl, .inl ⟨.of ha, newT ra h⟩⟩
    · cases e
  · split at e
    · rename_i hi
      cases e
      cases p with | cons p q => ?_
      cases q
      cases p with | rol ha ra => ?_
      exact ⟨_, _, rfl, .inl ⟨ha.sq, newT ra h⟩⟩
    · cases e
  · cases e
abbrev rListA (K : PySem.W.Frag) : List V → Hp → VK → Prop := fun xs H Q => ∃ p ys, xs = [.ref p] ∧ (SqL K H p ys ∨ SqT K H p ys) ∧ ∀ l, H l = none → Q (.ref l) (upd H l (.lst ys))
theorem n_list : CallN K (rListA K) fList := by
  intro H vs ds d G Q p e h
  have newL : ∀ {vs : List V} {ds : List D} (r : Rps K H vs ds []), (∀ v H' G, Keeps [] H H' → Rp K H' v (.lst ds) G → G.Nodup → (∀ a ∈ G, H a = none) → Q v H') → ∀ l, H l = none → Q (.ref l) (upd H l (.lst vs)) :=
    fun r h l hl => h _ _ [l] (.new hl _) (.lst upd_same (r.same (.new hl _))) (by simp) fun a m => by rw [List.mem_singleton.mp m]; exact hl
  unfold fList at e
  split at e
  · split at e
    · rename_i hi
      cases e
      cases p with | cons p q => ?_
      cases q
      cases p with | tup ha ra => ?_
      have e1 := Rps.fpImm ra hi
      subst e1
      exact ⟨_, _, rfl, .inr ha.sq, newL ra h⟩
    · cases e
  · split at e
    · rename_i hi
      cases e
      cases p with | cons p q => ?_
      cases q
      cases p with | lst ha ra => ?_
      have e1 := Rps.fpImm ra hi
      subst e1
      exact ⟨_, _, rfl, .inl (.of ha), newL ra h⟩
    · cases e
  · split at e
    · rename_i hi
      cases e
      cases p with | cons p q => ?_
      cases q
      cases p with | rol ha ra => ?_
      exact ⟨_, _, rfl, .inl (ha.sq), newL ra h⟩
    · cases e
  · cases e
theorem n_divmod : CallN K (fun xs H Q => ∃ i j, xs = [.int i, .int j] ∧ CDiv i j ∧ ∀ p, H p = none → Q (.ref p) (upd H p (.tup [.int (i / j), .int (i % j)]))) fDivmod := by
  intro H vs ds d G Q p e h
  unfold fDivmod at e
  split at e
  · split at e
    · rename_i hf
      cases e
      cases p with | cons p q => ?_
      cases q with | cons q z => ?_
      cases z; cases p; cases q
      exact ⟨_, _, rfl, hf, fun l hl => h _ _ [] (.new hl _) (.tup (.of upd_same) (.cons .int (.cons .int .nil))) .nil fun _ m => by cases m⟩
    · cases e
  · cases e
theorem tyX {H : Hp} {v : V} {d : D} {G : List Addr} {a : String} (p : Rp K H v d G) (e : tyName d = some a) : TyX K H v (.type a) := by
  cases p with
  | non => cases e; exact .base .non
  | bl => cases e; exact .base (.bl _)
  | int => cases e; exact .base (.int _)
  | str h => cases e; exact .base (.str _)
  | raw => cases e
  | tup h r =>
    cases e
    rcases h with h | ⟨o, its, n, h, c, _⟩
    · exact .base (.tup h)
    · exact .kTuple h c
  | lst h r => cases e; exact .base (.lst h)
  | rol h r =>
    cases e
    rcases h with ⟨o, h⟩ | ⟨o, its, n, h, c, _⟩
    · exact .base (.frz h)
    · exact .kList h c
  | dct h c r => cases e; exact .base (.dK h)
  | rdc h c r => cases e
  | ins _ _ _ _ => cases e
theorem n_isi : CallN K (rIsi K) fIsi := by
  intro H vs ds d G Q p e h
  unfold fIsi at e
  split at e
  · rename_i x n
    cases p with | cons p q => ?_
    cases q with | cons q z => ?_
    cases z; cases q
    obtain ⟨a, e1, e2⟩ := Option.bind_eq_some_iff.mp e
    obtain ⟨b, e3, e4⟩ := Option.map_eq_some_iff.mp e2
    subst e4
    exact ⟨_, _, _, _, b, rfl, .ty n, tyX p e1, kit_ty e3, Rp.same0 h .bl⟩
  · cases e
abbrev rIsi2A (K : PySem.W.Frag) : List V → Hp → VK → Prop := fun xs H Q => rIsiT K xs H Q ∨ rIsiK K xs H Q
theorem c_isi2 : CallR X (.builtin "isinstance") (rIsi2A X.K) := call_isiT.or call_isiK
theorem n_isi2 : CallN K (rIsi2A K) fIsi2 := by
  intro H vs ds d G Q p e h
  unfold fIsi2 at e
  split at e
  · rename_i x n m
    cases p with | cons p q => ?_
    cases q with | cons q z => ?_
    cases z
    cases q with | tup ht rt => ?_
    cases rt with | cons r1 r2 => ?_
    cases r2 with | cons r2 r3 => ?_
    cases r1; cases r2; cases r3
    obtain ⟨a, e1, e2⟩ := Option.bind_eq_some_iff.mp e
    obtain ⟨b, e3, e4⟩ := Option.bind_eq_some_iff.mp e2
    obtain ⟨c, e5, e6⟩ := Option.map_eq_some_iff.mp e4
    subst e6
    have any : PySem.W.kitAny K (.type a) [.type n, .type m] = some (b || c) := by
      refine kitAny_cons (kit_ty e3) (fun z => ?_) fun z => by rw [z]; rfl
      subst z
      exact kitAny_cons (kit_ty e5) (fun z => by rw [z]; exact kitAny_nil) fun z => by rw [z]; rfl
    rcases ht with ht | ⟨o, its, n', hk, hc, hd, hz, hv⟩
    · exact .inl ⟨_, _, _, _, _, _, rfl, ht, .cons (.ty n) (.cons (.ty m) .nil), tyX p e1, any, Rp.same0 h .bl⟩
    · have e7 : its.toList = [.type n, .type m] := ClsV.all (.cons (.ty n) (.cons (.ty m) .nil)) hv
      obtain ⟨oc, od, dt, sl⟩ := o
      simp only at hc hd
      subst hc hd
      have e8 : its = [Value.type n, Value.type m].toArray := by rw [← e7]
      subst e8
      exact .inr ⟨_, _, _, _, _, _, _, _, rfl, hk, tyX p e1, any, Rp.same0 h .bl⟩
  · cases e
end
end Mir

namespace Mir
open PySem PySem.Spec L2

section
variable {K : PySem.W.Frag} {W : WX} {σ : L2.St} {H : Hp} {Q : VK}
theorem ofN_N {m : MB} (h : tE K W (ofN m) σ H Q) : tN K W m σ H Q := by
  obtain ⟨e, F, r, nd, h⟩ := h
  refine ⟨e, F, r, ?_⟩
  unfold ofN Rs.at at h
  cases q : m e with
  | ok d => rw [q] at h; exact fun v H' G k p n1 n2 => h v H' _ ((Ev.refl r nd).consNew k p n1 n2)
  | exc y => rw [q] at h; exact fun c dx H' k p => h c dx H' _ (Ev.pure r nd k) p
  | bad => rw [q] at h; exact h
theorem own_B {m : MB} (h : tE K W (own m) σ H Q) : tB K W m σ H Q := by
  obtain ⟨e, F, r, nd, h⟩ := h
  refine ⟨e, F, r, ?_⟩
  unfold own at h
  cases q : m e with
  | ok d =>
    rw [q] at h
    by_cases hi : imm d = true
    · simp only [Rs.bind, hi, if_true, Rs.at] at h
      exact fun v H' G k p => h v H' F ((Ev.pure r nd k).consImm p hi)
    · simp only [Rs.bind, hi, Rs.at] at h
      exact h.elim
  | exc y => rw [q] at h; exact fun c dx H' k p => h c dx H' _ (Ev.pure r nd k) p
  | bad => rw [q] at h; exact h
end
/-! ### tests -/
def tst (n : ME) : MT := fun e => (n e).bind fun d e1 => match d with
  | .bl b => .ok b e1
  | _ => .bad
def andT (t u : MT) : MT := fun e => (t e).bind fun c e1 => if c = true then u e1 else .ok false e1
def orT (t u : MT) : MT := fun e => (t e).bind fun c e1 => if c = true then .ok true e1 else u e1
def notT (t : MT) : MT := fun e => (t e).bind fun c e1 => .ok (!c) e1
section
variable {K : PySem.W.Frag} {W : WX} {σ : L2.St} {H : Hp}
theorem tst_of {n : ME} {Q : Bool → Hp → Prop} (h : tT K W (tst n) σ H Q) : tE K W n σ H fun x H' => ∃ k, x = .bl k ∧ Q k H' := by
  obtain ⟨e, F, r, nd, h⟩ := h
  refine ⟨e, F, r, nd, ?_⟩
  unfold tst at h
  cases q : n e with
  | bad => simp only [q, Re.bind] at h
  | exc y e1 => simp only [q, Re.bind] at h; exact h
  | ok d e1 =>
    simp only [q, Re.bind] at h
    intro v H' F' x
    obtain ⟨G, F0, eF, p, x', hd, n1, nw⟩ := x.head
    cases d with
    | bl b => cases p; exact ⟨b, rfl, h H' F0 x'⟩
    | _ => exact h.elim
theorem and_of {t u : MT} {Q : Bool → Hp → Prop} (h : tT K W (andT t u) σ H Q) : tAnd (tT K W t) (tT K W u) σ H Q := by
  obtain ⟨e, F, r, nd, h⟩ := h
  refine ⟨e, F, r, nd, ?_⟩
  unfold andT at h
  cases q : t e with
  | bad => simp only [q, Re.bind] at h
  | exc y e1 => simp only [q, Re.bind] at h; exact h
  | ok c e1 =>
    simp only [q, Re.bind] at h
    intro H1 F1 x
    cases c with
    | false => exact h H1 F1 x
    | true =>
      simp only [if_true] at h ⊢
      refine ⟨e1, F1, x.r, x.nd, ?_⟩
      cases q2 : u e1 with
      | bad => rw [q2] at h; exact h
      | exc y e2 => rw [q2] at h; exact fun c dx H' F' y p => h c dx H' F' (x.trans y) p
      | ok b e2 => rw [q2] at h; exact fun H' F' y => h H' F' (x.trans y)
theorem or_of {t u : MT} {Q : Bool → Hp → Prop} (h : tT K W (orT t u) σ H Q) : tOr (tT K W t) (tT K W u) σ H Q := by
  obtain ⟨e, F, r, nd, h⟩ := h
  refine ⟨e, F, r, nd, ?_⟩
  unfold orT at h
  cases q : t e with
  | bad => simp only [q, Re.bind] at h
  | exc y e1 => simp only [q, Re.bind] at h; exact h
  | ok c e1 =>
    simp only [q, Re.bind] at h
    intro H1 F1 x
    cases c with
    | true => exact h H1 F1 x
    | false =>
      simp only [Bool.false_eq_true, if_false] at h ⊢
      refine ⟨e1, F1, x.r, x.nd, ?_⟩
      cases q2 : u e1 with
      | bad => rw [q2] at h; exact h
      | exc y e2 => rw [q2] at h; exact fun c dx H' F' y p => h c dx H' F' (x.trans y) p
      | ok b e2 => rw [q2] at h; exact fun H' F' y => h H' F' (x.trans y)
theorem not_of {t : MT} {Q : Bool → Hp → Prop} (h : tT K W (notT t) σ H Q) : tNot (tT K W t) σ H Q := by
  obtain ⟨e, F, r, nd, h⟩ := h
  refine ⟨e, F, r, nd, ?_⟩
  unfold notT at h
  cases q : t e with
  | bad => simp only [q, Re.bind] at h
  | exc y e1 => simp only [q, Re.bind] at h; exact h
  | ok c e1 =>
    simp only [q, Re.bind] at h
    exact fun H1 F1 x => h H1 F1 x
variable {X : Cx} {a b : Expr} {pos : Pos} {ma mb : MB} {na n2 : ME} {f : D → D → Option D} {r : R2} {t u : MT} {rest : List Expr}
theorem t_val {e : Expr} {n : ME} (h : PE X e (tE X.K W n)) (he : ∀ whole, isTrue e X.env whole = (do let v ← whole; standAt e.pos; holding [v] (truthy v)) := by intro _; rfl) : PT X e (tT X.K W (tst n)) := PT.mono (pt_val h he) fun _ _ _ h => tst_of h
theorem t_cmp {op : CmpOp} (o : OpR X (compareOp op) r) (n : OpN X.K r f) (pa : PE X a (tB X.K W ma)) (pb : PE X b (tB X.K W mb)) (hm : behindInMarks op b = false) : PT X (.Compare a [op] [b] pos) (tT X.K W (tst (ofN (bin f ma mb)))) := PT.mono (pt_cmpR o pa pb hm) fun _ _ _ h => op_bb n (ofN_N (tst_of h))
theorem te_cmp {op : CmpOp} (o : OpR X (compareOp op) r) (n : OpN X.K r f) (pa : PE X a (tE X.K W na)) (pb : PE X b (tE X.K W n2)) (hm : behindInMarks op b = false) : PT X (.Compare a [op] [b] pos) (tT X.K W (tst (binE f na n2))) := PT.mono (pt_cmpR o pa pb hm) fun _ _ _ h => op_ee n (tst_of h)
theorem tv_cmp {op : CmpOp} {i : Nat} {x : Str} {p1 : Pos} (o : OpR X (compareOp op) r) (n : OpN X.K r f) (pb : PE X b (tE X.K W n2)) (hm : behindInMarks op b = false) (hN : X.N[i]? = some x := by rfl) (hv : Vis X.env.scope x := by first | exact Or.inl rfl | exact Or.inr (Or.inl rfl) | exact Or.inr (Or.inr rfl)) (hd : (x == ("__debug__" : Str)) = false := by decide)
    (hcd : (x == ("__classdict__" : Str)) = false := by decide) : PT X (.Compare (.Name x p1) [op] [b] pos) (tT X.K W (tst (binV f i n2))) := PT.mono (pt_cmpR o (pe_var hN hv hd hcd) pb hm) fun _ _ _ h => op_ve n (tst_of h)
theorem t_and1 (ha : PT X a (tT X.K W t)) : PW X (.BoolOp .And [a] pos) (tT X.K W t) := pw_and1 ha
theorem t_or1 (ha : PT X a (tT X.K W t)) : PW X (.BoolOp .Or [a] pos) (tT X.K W t) := pw_or1 ha
theorem t_and (ha : PT X a (tT X.K W t)) (hb : PW X (.BoolOp .And (b :: rest) pos) (tT X.K W u)) : PW X (.BoolOp .And (a :: b :: rest) pos) (tT X.K W (andT t u)) := PW.mono (pw_and ha hb) fun _ _ _ h => and_of h
theorem t_or (ha : PT X a (tT X.K W t)) (hb : PW X (.BoolOp .Or (b :: rest) pos) (tT X.K W u)) : PW X (.BoolOp .Or (a :: b :: rest) pos) (tT X.K W (orT t u)) := PW.mono (pw_or ha hb) fun _ _ _ h => or_of h
theorem t_not (ha : PT X a (tT X.K W t)) : PT X (.UnaryOp .Not a pos) (tT X.K W (notT t)) := PT.mono (pt_not ha) fun _ _ _ h => not_of h
end

/-! ### and, or, not as values -/
def bl1 {α : Type} (d : D) (k : Bool → Rs α) : Rs α := match d with
  | .bl b => k b
  | _ => .bad
def bl2 {α : Type} (d : D) (k : Bool → Re α) : Re α := match d with
  | .bl b => k b
  | _ => .bad
def andB (ma mb : MB) : MB := fun e => (ma e).bind fun a => bl1 a fun k => if k = true then (mb e).bind fun b => bl1 b fun c => .ok (.bl c) else .ok (.bl false)
def orB (ma mb : MB) : MB := fun e => (ma e).bind fun a => bl1 a fun k => if k = true then .ok (.bl true) else (mb e).bind fun b => bl1 b fun c => .ok (.bl c)
def notB (ma : MB) : MB := fun e => (ma e).bind fun a => bl1 a fun k => .ok (.bl (!k))
def andE (ma mb : ME) : ME := fun e => (ma e).bind fun a e1 => bl2 a fun k => if k = true then (mb e1).bind fun b e2 => bl2 b fun c => .ok (.bl c) e2 else .ok (.bl false) e1
def orE (ma mb : ME) : ME := fun e => (ma e).bind fun a e1 => bl2 a fun k => if k = true then .ok (.bl true) e1 else (mb e1).bind fun b e2 => bl2 b fun c => .ok (.bl c) e2
def notE (ma : ME) : ME := fun e => (ma e).bind fun a e1 => bl2 a fun k => .ok (.bl (!k)) e1
section
variable {K : PySem.W.Frag} {W : WX} {σ : L2.St} {H : Hp} {Q : VK}
theorem bl_B {m : MB} (h : tN K W (fun e => (m e).bind fun b => bl1 b fun c => .ok (.bl c)) σ H Q) : tB K W m σ H Q := by
  obtain ⟨e, F, r, h⟩ := h
  refine ⟨e, F, r, ?_⟩
  cases q : m e with
  | bad => simp only [q, Rs.bind] at h
  | exc y => simp only [q, Rs.bind] at h; exact h
  | ok d =>
    simp only [q, Rs.bind] at h
    intro v H' G k p
    cases d with
    | bl b => cases p; exact h _ H' [] k .bl .nil fun _ m => by cases m
    | _ => exact h.elim
theorem bl_E {m : ME} (h : tE K W (fun e => (m e).bind fun b e2 => bl2 b fun c => .ok (.bl c) e2) σ H Q) : tE K W m σ H Q := by
  obtain ⟨e, F, r, nd, h⟩ := h
  refine ⟨e, F, r, nd, ?_⟩
  cases q : m e with
  | bad => simp only [q, Re.bind] at h
  | exc y e1 => simp only [q, Re.bind] at h; exact h
  | ok d e1 =>
    simp only [q, Re.bind] at h
    cases d with
    | bl b => exact h
    | _ => exact h.elim
theorem andB_of {ma mb : MB} (h : tN K W (andB ma mb) σ H Q) : tAndV (tB K W ma) (tB K W mb) σ H Q := by
  obtain ⟨e, F, r, h⟩ := h
  refine ⟨e, F, r, ?_⟩
  unfold andB at h
  cases q : ma e with
  | bad => simp only [q, Rs.bind] at h
  | exc y => simp only [q, Rs.bind] at h; exact h
  | ok d =>
    simp only [q, Rs.bind] at h
    intro v H' G k p
    cases d with
    | bl b =>
      cases p
      refine ⟨b, rfl, ?_⟩
      cases b with
      | true =>
        simp only [bl1, if_true] at h ⊢
        refine bl_B ⟨e, F, r.same k, ?_⟩
        cases q2 : mb e with
        | bad => simp only [q2] at h
        | exc y =>
          simp only [q2, Rs.bind] at h ⊢
          exact fun c dx H2 k2 p => h c dx H2 (k.trans k2 (fun _ m => by cases m)) p
        | ok d2 =>
          simp only [q2, Rs.bind] at h ⊢
          cases d2 with
          | bl c => exact fun v H2 G2 k2 p2 n1 n2 => h v H2 G2 (k.trans k2 (fun _ m => by cases m)) p2 n1 (fun z m => k.none (n2 z m) (fun m => by cases m))
          | _ => exact h.elim
      | false =>
        simp only [bl1] at h
        exact h _ H' [] k .bl .nil fun _ m => by cases m
    | _ => exact h.elim
theorem orB_of {ma mb : MB} (h : tN K W (orB ma mb) σ H Q) : tOrV (tB K W ma) (tB K W mb) σ H Q := by
  obtain ⟨e, F, r, h⟩ := h
  refine ⟨e, F, r, ?_⟩
  unfold orB at h
  cases q : ma e with
  | bad => simp only [q, Rs.bind] at h
  | exc y => simp only [q, Rs.bind] at h; exact h
  | ok d =>
    simp only [q, Rs.bind] at h
    intro v H' G k p
    cases d with
    | bl b =>
      cases p
      refine ⟨b, rfl, ?_⟩
      cases b with
      | false =>
        simp only [bl1, Bool.false_eq_true, if_false] at h ⊢
        refine bl_B ⟨e, F, r.same k, ?_⟩
        cases q2 : mb e with
        | bad => simp only [q2] at h
        | exc y =>
          simp only [q2, Rs.bind] at h ⊢
          exact fun c dx H2 k2 p => h c dx H2 (k.trans k2 (fun _ m => by cases m)) p
        | ok d2 =>
          simp only [q2, Rs.bind] at h ⊢
          cases d2 with
          | bl c => exact fun v H2 G2 k2 p2 n1 n2 => h v H2 G2 (k.trans k2 (fun _ m => by cases m)) p2 n1 (fun z m => k.none (n2 z m) (fun m => by cases m))
          | _ => exact h.elim
      | true =>
        simp only [bl1] at h
        exact h _ H' [] k .bl .nil fun _ m => by cases m
    | _ => exact h.elim
theorem notB_of {ma : MB} (h : tN K W (notB ma) σ H Q) : tNotV (tB K W ma) σ H Q := by
  obtain ⟨e, F, r, h⟩ := h
  refine ⟨e, F, r, ?_⟩
  unfold notB at h
  cases q : ma e with
  | bad => simp only [q, Rs.bind] at h
  | exc y => simp only [q, Rs.bind] at h; exact h
  | ok d =>
    simp only [q, Rs.bind] at h
    intro v H' G k p
    cases d with
    | bl b => cases p; exact ⟨b, rfl, h _ H' [] k .bl .nil fun _ m => by cases m⟩
    | _ => exact h.elim
theorem andE_of {ma mb : ME} (h : tE K W (andE ma mb) σ H Q) : tAndV (tE K W ma) (tE K W mb) σ H Q := by
  obtain ⟨e, F, r, nd, h⟩ := h
  refine ⟨e, F, r, nd, ?_⟩
  unfold andE at h
  cases q : ma e with
  | bad => simp only [q, Re.bind] at h
  | exc y e1 => simp only [q, Re.bind] at h; exact h
  | ok d e1 =>
    simp only [q, Re.bind] at h
    intro v H1 F1 x
    obtain ⟨G, F0, eF, p, x', hd, n1, nw⟩ := x.head
    cases d with
    | bl b =>
      cases p
      refine ⟨b, rfl, ?_⟩
      cases b with
      | true =>
        simp only [bl2, if_true] at h ⊢
        refine bl_E ⟨e1, F0, x'.r, x'.nd, ?_⟩
        cases q2 : mb e1 with
        | bad => simp only [q2] at h
        | exc y e2 =>
          simp only [q2, Re.bind] at h ⊢
          exact fun c dx H2 F2 y p => h c dx H2 F2 (x'.trans y) p
        | ok d2 e2 =>
          simp only [q2, Re.bind] at h ⊢
          cases d2 with
          | bl c => exact fun v H2 F2 y => h v H2 F2 (x'.trans y)
          | _ => exact h.elim
      | false =>
        simp only [bl2] at h
        exact h _ H1 _ (x'.consImm .bl rfl)
    | _ => exact h.elim
theorem orE_of {ma mb : ME} (h : tE K W (orE ma mb) σ H Q) : tOrV (tE K W ma) (tE K W mb) σ H Q := by
  obtain ⟨e, F, r, nd, h⟩ := h
  refine ⟨e, F, r, nd, ?_⟩
  unfold orE at h
  cases q : ma e with
  | bad => simp only [q, Re.bind] at h
  | exc y e1 => simp only [q, Re.bind] at h; exact h
  | ok d e1 =>
    simp only [q, Re.bind] at h
    intro v H1 F1 x
    obtain ⟨G, F0, eF, p, x', hd, n1, nw⟩ := x.head
    cases d with
    | bl b =>
      cases p
      refine ⟨b, rfl, ?_⟩
      cases b with
      | false =>
        simp only [bl2, Bool.false_eq_true, if_false] at h ⊢
        refine bl_E ⟨e1, F0, x'.r, x'.nd, ?_⟩
        cases q2 : mb e1 with
        | bad => simp only [q2] at h
        | exc y e2 =>
          simp only [q2, Re.bind] at h ⊢
          exact fun c dx H2 F2 y p => h c dx H2 F2 (x'.trans y) p
        | ok d2 e2 =>
          simp only [q2, Re.bind] at h ⊢
          cases d2 with
          | bl c => exact fun v H2 F2 y => h v H2 F2 (x'.trans y)
          | _ => exact h.elim
      | true =>
        simp only [bl2] at h
        exact h _ H1 _ (x'.consImm .bl rfl)
    | _ => exact h.elim
theorem notE_of {ma : ME} (h : tE K W (notE ma) σ H Q) : tNotV (tE K W ma) σ H Q := by
  obtain ⟨e, F, r, nd, h⟩ := h
  refine ⟨e, F, r, nd, ?_⟩
  unfold notE at h
  cases q : ma e with
  | bad => simp only [q, Re.bind] at h
  | exc y e1 => simp only [q, Re.bind] at h; exact h
  | ok d e1 =>
    simp only [q, Re.bind] at h
    intro v H1 F1 x
    obtain ⟨G, F0, eF, p, x', hd, n1, nw⟩ := x.head
    cases d with
    | bl b => cases p; exact ⟨b, rfl, h _ H1 _ (x'.consImm .bl rfl)⟩
    | _ => exact h.elim
variable {X : Cx} {a b : Expr} {pos : Pos} {ma mb : MB} {na nb' : ME} {rest : List Expr}
theorem x_one {op} {t : TE} (h : PE X a t) : PE X (.BoolOp op [a] pos) t := pe_one h
theorem x_and (ha : PE X a (tB X.K W ma)) (hb : PE X (.BoolOp .And (b :: rest) pos) (tB X.K W mb)) : PE X (.BoolOp .And (a :: b :: rest) pos) (tN X.K W (andB ma mb)) := PE.mono (pe_and ha hb) fun _ _ _ h => andB_of h
theorem x_or (ha : PE X a (tB X.K W ma)) (hb : PE X (.BoolOp .Or (b :: rest) pos) (tB X.K W mb)) : PE X (.BoolOp .Or (a :: b :: rest) pos) (tN X.K W (orB ma mb)) := PE.mono (pe_or ha hb) fun _ _ _ h => orB_of h
theorem x_not (ha : PE X a (tB X.K W ma)) : PE X (.UnaryOp .Not a pos) (tN X.K W (notB ma)) := PE.mono (pe_not ha) fun _ _ _ h => notB_of h
theorem e_and (ha : PE X a (tE X.K W na)) (hb : PE X (.BoolOp .And (b :: rest) pos) (tE X.K W nb')) : PE X (.BoolOp .And (a :: b :: rest) pos) (tE X.K W (andE na nb')) := PE.mono (pe_and ha hb) fun _ _ _ h => andE_of h
theorem e_or (ha : PE X a (tE X.K W na)) (hb : PE X (.BoolOp .Or (b :: rest) pos) (tE X.K W nb')) : PE X (.BoolOp .Or (a :: b :: rest) pos) (tE X.K W (orE na nb')) := PE.mono (pe_or ha hb) fun _ _ _ h => orE_of h
theorem e_not (ha : PE X a (tE X.K W na)) : PE X (.UnaryOp .Not a pos) (tE X.K W (notE na)) := PE.mono (pe_not ha) fun _ _ _ h => notE_of h
end

/-! ### a chain of two comparisons -/
def chB (f g : D → D → Option D) (ma mb mc : MB) : MB := fun e => (ma e).bind fun a => (mb e).bind fun b => (Rs.of (f a b)).bind fun z => bl1 z fun k => if k = true then (mc e).bind fun c => (Rs.of (g b c)).bind fun y => bl1 y fun q => .ok (.bl q) else .ok (.bl false)
section
variable {K : PySem.W.Frag} {W : WX} {σ : L2.St} {H : Hp} {Q : VK} {r r' : R2} {f g : D → D → Option D} {ma mb mc : MB}
theorem ch_of (o : OpN K r f) (o' : OpN K r' g) (h : tN K W (chB f g ma mb mc) σ H Q) : tChain r r' (tB K W ma) (tB K W mb) (tB K W mc) σ H Q := by
  obtain ⟨e, F, rl, h⟩ := h
  unfold chB at h
  refine ⟨e, F, rl, ?_⟩
  cases qa : ma e with
  | bad => simp only [qa, Rs.bind] at h
  | exc y => simp only [qa, Rs.bind] at h; exact h
  | ok a =>
    simp only [qa, Rs.bind] at h
    intro v1 H1 G1 k1 p1
    refine ⟨e, F, rl.same k1, ?_⟩
    cases qb : mb e with
    | bad => simp only [qb] at h
    | exc y => simp only [qb] at h; exact fun c dx H' k p => h c dx H' (k1.trans k fun _ m => by cases m) p
    | ok b =>
      simp only [qb] at h
      intro v2 H2 G2 k2 p2
      have k12 : Keeps [] H H2 := k1.trans k2 fun _ m => by cases m
      cases qf : f a b with
      | none => simp only [qf, Rs.of] at h
      | some z =>
        simp only [qf, Rs.of] at h
        refine o (p1.same k2) p2 qf fun v H3 G k3 p n1 n2 => ?_
        have k13 : Keeps [] H H3 := k12.trans k3 fun _ m => by cases m
        cases z with
        | bl k =>
          cases p
          refine ⟨k, rfl, ?_⟩
          cases k with
          | false => exact h _ H3 [] k13 .bl .nil fun _ m => by cases m
          | true =>
            simp only [bl1, if_true] at h ⊢
            refine ⟨e, F, ((rl.same k1).same k2).same k3, ?_⟩
            cases qc : mc e with
            | bad => simp only [qc] at h
            | exc y => simp only [qc] at h; exact fun c dx H' k p => h c dx H' (k13.trans k fun _ m => by cases m) p
            | ok c =>
              simp only [qc] at h
              intro v4 H4 G4 k4 p4
              cases qg : g b c with
              | none => simp only [qg] at h
              | some y =>
                simp only [qg] at h
                refine o' ((p2.same k3).same k4) p4 qg fun v H5 G k5 p n1 n2 => ?_
                cases y with
                | bl q => cases p; exact h _ H5 [] ((k13.trans k4 fun _ m => by cases m).trans k5 fun _ m => by cases m) .bl .nil fun _ m => by cases m
                | _ => exact h.elim
        | _ => exact h.elim
variable {X : Cx} {a b c : Expr} {pos : Pos}
theorem x_chain {op op' : CmpOp} (ho : OpR X (compareOp op) r) (o : OpN X.K r f) (ho' : OpR X (compareOp op') r') (o' : OpN X.K r' g) (pa : PE X a (tB X.K W ma)) (pb : PE X b (tB X.K W mb)) (pc : PE X c (tB X.K W mc))
    (q : PE X (.Compare a [op, op'] [b, c] pos) (tChain r r' (tB X.K W ma) (tB X.K W mb) (tB X.K W mc))) : PE X (.Compare a [op, op'] [b, c] pos) (tN X.K W (chB f g ma mb mc)) := PE.mono q fun _ _ _ h => ch_of o o' h
theorem t_chain {op op' : CmpOp} (o : OpN X.K r f) (o' : OpN X.K r' g)
    (q : PT X (.Compare a [op, op'] [b, c] pos) (tTest (tChain r r' (tB X.K W ma) (tB X.K W mb) (tB X.K W mc)))) : PT X (.Compare a [op, op'] [b, c] pos) (tT X.K W (tst (ofN (chB f g ma mb mc)))) := PT.mono q fun _ _ _ h => ch_of o o' (ofN_N (tst_of h))
end
end Mir

namespace Mir
open PySem PySem.Spec L2

/-! ### statements -/
section
variable {K : PySem.W.Frag} {H H1 : Hp} {σ σ1 : L2.St} {e e1 : E} {F F1 : List Addr}
theorem set_over {α : Type} {l : List α} {i : Nat} (h : l.length ≤ i) (a : α) : l.set i a = l := List.set_eq_of_length_le h
/-- a store at any place -/
theorem Ev.put {v : V} {d : D} (x : Ev K F H (some v :: σ1) H1 (some d :: e1) F1) (i : Nat) : ∃ F3, Ev K F H (σ1.set i (some v)) H1 (e1.set i (some d)) F3 := by
  by_cases hi : i < e1.length
  · exact x.store i hi
  · obtain ⟨G, F0, eF, p, x', hd, n1, nw⟩ := x.head
    have hl := x'.r.len
    rw [set_over (by omega), set_over (by omega)]
    exact ⟨F0, x'⟩
/-- what stands in the slot i is changed where it stands -/
theorem Ev.update {d : D} {i : Nat} (x : Ev K F H σ H1 e1 F1) (h : e1[i]? = some (some d)) :
    ∃ v G, σ[i]? = some (some v) ∧ Rp K H1 v d G ∧ (∀ a ∈ G, a ∈ F1) ∧ G.Nodup ∧ ∀ H2 d' G', Keeps G H1 H2 → Rp K H2 v d' G' → G'.Nodup → (∀ a ∈ G', a ∈ G ∨ ((a ∈ F ∨ H a = none) ∧ a ∉ F1)) → ∃ F', Ev K F H σ H2 (e1.set i (some d')) F' := by
  obtain ⟨v, G, F0, h1, h2, h3, h4⟩ := x.r.take h
  obtain ⟨n1, n2, n3⟩ := List.nodup_append.mp (h4.nodup_iff.mp x.nd)
  have sub : ∀ a ∈ G, a ∈ F1 := fun a m => h4.mem_iff.mpr (List.mem_append_left _ m)
  have sub0 : ∀ a ∈ F0, a ∈ F1 := fun a m => h4.mem_iff.mpr (List.mem_append_right _ m)
  refine ⟨v, G, h1, h2, sub, n1, fun H2 d' G' k p nd hG => ?_⟩
  have dj : ∀ a ∈ F0, a ∉ G := fun a m m' => n3 a m' a m rfl
  have r0 := h3.keep k dj
  have hi : i < e1.length := (List.getElem?_eq_some_iff.mp h).1
  obtain ⟨F', r1, pm⟩ := r0.put (i := i) (by rw [List.getElem?_set_self hi]) p
  rw [List.set_set, set_self h1] at r1
  refine ⟨F', x.k.trans k fun a m => x.new a (sub a m), r1, pm.nodup_iff.mpr (List.nodup_append.mpr ⟨nd, n2, fun a m b m' z => ?_⟩), fun a m => ?_⟩
  · subst z
    rcases hG a m with z | z
    · exact dj a m' z
    · exact z.2 (sub0 a m')
  · rcases List.mem_append.mp (pm.mem_iff.mp m) with m | m
    · rcases hG a m with z | z
      · exact x.new a (sub a z)
      · exact z.1
    · exact x.new a (sub0 a m)
end
def mNil : MS := fun e => .nx e
def mSeq (a b : MS) : MS := fun e => match a e with
  | .nx e1 => b e1
  | r => r
def mSet (i : Nat) (n : ME) : MS := fun e => match n e with
  | .ok d e1 => .nx (e1.set i (some d))
  | .exc x e1 => .exc x e1
  | .bad => .bad
def mExpr (n : ME) : MS := fun e => match n e with
  | .ok _ e1 => .nx e1
  | .exc x e1 => .exc x e1
  | .bad => .bad
def mIf (t : MT) (a b : MS) : MS := fun e => match t e with
  | .ok c e1 => if c = true then a e1 else b e1
  | .exc x e1 => .exc x e1
  | .bad => .bad
def mRet (n : ME) : MS := fun e => match n e with
  | .ok d e1 => .rt d e1
  | .exc x e1 => .exc x e1
  | .bad => .bad
def mRetN : MS := fun e => .rt .non e
def mBreak : MS := fun e => .bk e
def mCont : MS := fun e => .ct e
/-- name op= expression -/
def mAug (i : Nat) (f : D → D → Option D) (n : ME) : MS := fun e => match e[i]? with
  | some (some a) => if imm a = true then (match n e with
    | .ok b e1 => (match f a b with
      | some d => .nx (e1.set i (some d))
      | none => .bad)
    | .exc x e1 => .exc x e1
    | .bad => .bad) else .bad
  | _ => .bad
theorem Fz.set {Z : Zs} {σ : L2.St} {i : Nat} {v : Option V} (h : Z i = false) : Fz Z σ (σ.set i v) := ⟨List.length_set, fun j m => by
  rw [List.getElem?_set_ne]
  intro z
  rw [← z, h] at m
  cases m⟩
section
variable {X : Cx} {W : WX} {Z : Zs}
/-- the rest of a row, from a later state -/
theorem tM_next {m : MS} {D : Ends} {σ σ1 : L2.St} {H H1 : Hp} {e1 : E} {F F1 : List Addr} {K : PySem.W.Frag} (x : Ev K F H σ1 H1 e1 F1) (z : Fz Z σ σ1)
    (h : match m e1 with
      | .nx e' => ∀ σ' H' F', Ev K F H σ' H' e' F' → Fz Z σ σ' → D.nx σ' H'
      | .rt d e' => ∀ v σ' H' F', Ev K F H (some v :: σ') H' (some d :: e') F' → Fz Z σ σ' → D.rt v H'
      | .bk e' => ∀ σ' H' F', Ev K F H σ' H' e' F' → Fz Z σ σ' → D.bk σ' H'
      | .ct e' => ∀ σ' H' F', Ev K F H σ' H' e' F' → Fz Z σ σ' → D.ct σ' H'
      | .exc x e' => ∀ c dx σ' H' F', Ev K F H σ' H' e' F' → Fz Z σ σ' → RpX K H' c dx x → W c dx σ' H'
      | .bad => False) : tM K W Z m D σ1 H1 := by
  refine ⟨e1, F1, x.r, x.nd, ?_⟩
  cases q : m e1 with
  | nx e' => rw [q] at h; exact fun σ' H' F' y w => h σ' H' F' (x.trans y) (z.trans w)
  | rt d e' => rw [q] at h; exact fun v σ' H' F' y w => h v σ' H' F' (x.trans y) (z.trans w)
  | bk e' => rw [q] at h; exact fun σ' H' F' y w => h σ' H' F' (x.trans y) (z.trans w)
  | ct e' => rw [q] at h; exact fun σ' H' F' y w => h σ' H' F' (x.trans y) (z.trans w)
  | exc y e' => rw [q] at h; exact fun c dx σ' H' F' y w p => h c dx σ' H' F' (x.trans y) (z.trans w) p
  | bad => rw [q] at h; exact h
theorem m_nil : PSs X [] (tM X.K W Z mNil) := PSs.mono pss_nil fun D σ H ⟨e, F, r, nd, h⟩ => h σ H F (.refl r nd) (.refl _ _)
theorem m_cons {st : Stmt} {rest : List Stmt} {a b : MS} (p : PS X st (tM X.K W Z a)) (q : PSs X rest (tM X.K W Z b)) : PSs X (st :: rest) (tM X.K W Z (mSeq a b)) := PSs.mono (pss_cons p q) fun D σ H ⟨e, F, r, nd, h⟩ => by
  refine ⟨e, F, r, nd, ?_⟩
  unfold mSeq at h
  cases qa : a e with
  | nx e1 => rw [qa] at h; exact fun σ' H' F' x z => tM_next x z h
  | rt d e' => rw [qa] at h; exact h
  | bk e' => rw [qa] at h; exact h
  | ct e' => rw [qa] at h; exact h
  | exc y e' => rw [qa] at h; exact h
  | bad => rw [qa] at h; exact h
theorem m_one {st : Stmt} {a : MS} (p : PS X st (tM X.K W Z a)) : PSs X [st] (tM X.K W Z a) := pss_one p
theorem m_pass {pos : Pos} : PS X (.Pass pos) (tM X.K W Z mNil) := PS.mono ps_pass fun D σ H ⟨e, F, r, nd, h⟩ => h σ H F (.refl r nd) (.refl _ _)
theorem m_break {pos : Pos} : PS X (.Break pos) (tM X.K W Z mBreak) := PS.mono ps_break fun D σ H ⟨e, F, r, nd, h⟩ => h σ H F (.refl r nd) (.refl _ _)
theorem m_cont {pos : Pos} : PS X (.Continue pos) (tM X.K W Z mCont) := PS.mono ps_continue fun D σ H ⟨e, F, r, nd, h⟩ => h σ H F (.refl r nd) (.refl _ _)
theorem tSet_of {K : PySem.W.Frag} {i : Nat} {n : ME} {D : Ends} {σ : L2.St} {H : Hp} (hz : Z i = false) (h : tM K W Z (mSet i n) D σ H) : tAsg (tE K W n) (gName i) D σ H := by
  obtain ⟨e, F, r, nd, h⟩ := h
  refine ⟨e, F, r, nd, ?_⟩
  unfold mSet at h
  cases q : n e with
  | bad => rw [q] at h; exact h
  | exc y e1 => rw [q] at h; exact fun c dx H' F' x p => h c dx σ H' F' x (.refl _ _) p
  | ok d e1 =>
    rw [q] at h
    intro v H' F' x
    obtain ⟨F3, y⟩ := x.put i
    exact h _ H' F3 y (.set hz)
theorem m_set {i : Nat} {x : Str} {e : Expr} {n : ME} {pos pos' : Pos} (he : PE X e (tE X.K W n)) (hN : X.N.Nodup) (hz : Z i = false := by rfl) (hi : X.N[i]? = some x := by rfl) (hx : Loc X.env.scope x := by first | exact Or.inl rfl | exact Or.inr rfl)
    (hs : swapsWith e (some (.Name x pos')) pos.line X.env = pure false := by rfl) (hf : X.fn x = true ∨ X.env.scope.names.lookup x = some .local := by first | exact .inl rfl | exact .inr rfl | assumption) :
    PS X (.Assign [.Name x pos'] e pos) (tM X.K W Z (mSet i n)) := PS.mono (ps_set hN hi hx he hs hf) fun D σ H => tSet_of hz
theorem m_expr {e : Expr} {n : ME} {pos : Pos} (he : PE X e (tE X.K W n)) (hs : swapsWith e none pos.line X.env = pure false := by rfl) : PS X (.Expr e pos) (tM X.K W Z (mExpr n)) := PS.mono (ps_expr he hs) fun D σ H ⟨e, F, r, nd, h⟩ => by
  refine ⟨e, F, r, nd, ?_⟩
  unfold mExpr at h
  cases q : n e with
  | bad => rw [q] at h; exact h
  | exc y e1 => rw [q] at h; exact fun c dx H' F' x p => h c dx σ H' F' x (.refl _ _) p
  | ok d e1 =>
    rw [q] at h
    intro v H' F' x
    obtain ⟨G, F0, eF, p, x', hd, n1, nw⟩ := x.head
    exact h _ H' F0 x' (.refl _ _)
theorem m_if {c : Expr} {t : MT} {ss us : List Stmt} {a b : MS} {pos : Pos} (hc : PT X c (tT X.K W t)) (ha : PSs X ss (tM X.K W Z a)) (hb : PSs X us (tM X.K W Z b)) : PS X (.If c ss us pos) (tM X.K W Z (mIf t a b)) := PS.mono (ps_if hc ha hb) fun D σ H ⟨e, F, r, nd, h⟩ => by
  refine ⟨e, F, r, nd, ?_⟩
  unfold mIf at h
  cases q : t e with
  | bad => rw [q] at h; exact h
  | exc y e1 => rw [q] at h; exact fun c dx H' F' x p => h c dx σ H' F' x (.refl _ _) p
  | ok k e1 =>
    rw [q] at h
    intro H1 F1 x
    cases k with
    | true => exact tM_next x (.refl _ _) h
    | false => exact tM_next x (.refl _ _) h
theorem m_ret {e : Expr} {n : ME} {pos : Pos} (he : PE X e (tE X.K W n)) : PS X (.Return (some e) pos) (tM X.K W Z (mRet n)) := PS.mono (ps_ret he) fun D σ H ⟨e, F, r, nd, h⟩ => by
  refine ⟨e, F, r, nd, ?_⟩
  unfold mRet at h
  cases q : n e with
  | bad => rw [q] at h; exact h
  | exc y e1 => rw [q] at h; exact fun c dx H' F' x p => h c dx σ H' F' x (.refl _ _) p
  | ok d e1 => rw [q] at h; exact fun v H' F' x => h v σ H' F' x (.refl _ _)
theorem m_retN {pos : Pos} : PS X (.Return none pos) (tM X.K W Z mRetN) := PS.mono ps_retN fun D σ H ⟨e, F, r, nd, h⟩ => h .non σ H F ((Ev.refl r nd).consImm .non rfl) (.refl _ _)
theorem m_aug {i : Nat} {x : Str} {e : Expr} {n : ME} {op : Operator} {f : D → D → Option D} {ti : TIp} {pos pos' : Pos} (ho : PIp X op ti) (o : OpN X.K ti f) (he : PE X e (tE X.K W n)) (hN : X.N.Nodup) (hz : Z i = false := by rfl) (hi : X.N[i]? = some x := by rfl) (hx : Loc X.env.scope x := by first | exact Or.inl rfl | exact Or.inr rfl)
    (hf : X.fn x = true ∨ X.env.scope.names.lookup x = some .local := by first | exact .inl rfl | exact .inr rfl | assumption) : PS X (.AugAssign (.Name x pos') op e pos) (tM X.K W Z (mAug i f n)) := PS.mono (ps_aug hN hi hx he ho hf) fun D σ H ⟨e, F, r, nd, h⟩ => by
  unfold mAug at h
  cases q : e[i]? with
  | none => rw [q] at h; exact h.elim
  | some oo =>
    rw [q] at h
    cases oo with
    | none => exact h.elim
    | some a =>
      simp only at h
      obtain ⟨v1, G0, hs, p1, _⟩ := r.get q
      by_cases hi : imm a = true
      · rw [if_pos hi] at h
        have e0 := p1.fpImm hi
        subst e0
        refine ⟨v1, hs, e, F, r, nd, ?_⟩
        cases qb : n e with
        | bad => rw [qb] at h; exact h
        | exc y e1 => rw [qb] at h; exact fun c dx H' F' x p => h c dx σ H' F' x (.refl _ _) p
        | ok b e1 =>
          rw [qb] at h
          intro v2 H2 F2 y
          obtain ⟨G2, F3, eF2, p2, y2, hd2, n2, nw2⟩ := y.head
          simp only at h
          cases qf : f a b with
          | none => rw [qf] at h; exact h.elim
          | some d =>
            rw [qf] at h
            refine o (p1.keep y.k fun _ m => by cases m) p2 qf fun v H' G' k p' n1' n2' => ?_
            obtain ⟨F4, w⟩ := (y2.consNew k p' n1' n2').put i
            exact h _ H' F4 w (.set hz)
      · rw [if_neg hi] at h; exact h.elim
end
abbrev rAug : TIp := fun x y H Q => (rI0 fun i j => .int (i + j)) x y H Q ∨ ∃ i j, x = .str i ∧ y = .str j ∧ i.length + j.length ≤ sizeLine ∧ Q (.str (i ++ j)) H
def fAug : D → D → Option D
  | .int i, .int j => some (.int (i + j))
  | .str s, .str t => if fits (s.length + t.length) = true then some (.str (s ++ t)) else none
  | _, _ => none
theorem PIp.of {X : Cx} {op : Operator} {r : R2} (h : OpR X (inplaceOp op) r) : PIp X op r := fun pins s σ H x y v u Q I rx ry q => h pins s σ H x y v u Q I rx ry q
theorem i_add {X : Cx} : PIp X .Add rAug := PIp.of (iop_add.or iop_add_str)
theorem i_sub {X : Cx} : PIp X .Sub (rI0 fun i j => .int (i - j)) := PIp.of iop_sub
theorem i_mul {X : Cx} : PIp X .Mult (rI CMul fun i j => .int (i * j)) := PIp.of iop_mul
theorem i_fdiv {X : Cx} : PIp X .FloorDiv (rI CDiv fun i j => .int (i / j)) := PIp.of iop_fdiv
theorem n_aug {K : PySem.W.Frag} : OpN K rAug fAug := by
  intro H v1 v2 d1 d2 G1 G2 d Q p1 p2 e h
  unfold fAug at e
  split at e
  · cases e; cases p1; cases p2
    exact .inl ⟨_, _, rfl, rfl, Rp.same0 h .int⟩
  · split at e
    · rename_i hf
      cases e; cases p1; cases p2
      rename_i x hx y hy
      refine .inr ⟨_, _, rfl, rfl, ?_, Rp.same0 h (rp_str (okC_append hx hy) (toList_append _ _))⟩
      simpa [Str.length] using fits_le hf
    · cases e
  · cases e

/-! ### targets -/
abbrev MG := D → E → Option E
def gN (i : Nat) : MG := fun d e => some (e.set i (some d))
def gNs : List Nat → List D → E → Option E
  | [], [], e => some e
  | i :: is, d :: ds, e => gNs is ds (e.set i (some d))
  | _, _, _ => none
def gT (is : List Nat) : MG := fun d e => match d with
  | .tup ds => if imms ds = true then gNs is ds e else none
  | _ => none
/-- a target's reading: an immutable thing comes -/
def tG (K : PySem.W.Frag) (Z : Zs) (g : MG) : TG := fun v σ H Q => ∃ d e F e', Rp K H v d [] ∧ RelS K H σ e F ∧ F.Nodup ∧ g d e = some e' ∧ ∀ σ' H' F', Ev K F H σ' H' e' F' → Fz Z σ σ' → Q σ' H'
def tGs (K : PySem.W.Frag) (Z : Zs) (is : List Nat) : TGs := fun vs σ H Q => ∃ ds e F e', Rps K H vs ds [] ∧ RelS K H σ e F ∧ F.Nodup ∧ gNs is ds e = some e' ∧ ∀ σ' H' F', Ev K F H σ' H' e' F' → Fz Z σ σ' → Q σ' H'
theorem PG.mono {X : Cx} {e : Expr} {t t' : TG} (p : PG X e t) (h : ∀ v σ H Q, t' v σ H Q → t v σ H Q) : PG X e t' := ⟨fun pins s σ H v u Q I r q => p.run pins s σ H v u Q I r (h _ _ _ _ q)⟩
theorem PGs.mono {X : Cx} {e : List Expr} {t t' : TGs} (p : PGs X e t) (h : ∀ v σ H Q, t' v σ H Q → t v σ H Q) : PGs X e t' := ⟨fun pins s σ H v u Q I r q => p.run pins s σ H v u Q I r (h _ _ _ _ q)⟩
section
variable {X : Cx} {W : WX} {Z : Zs} {pos : Pos}
theorem g_name {i : Nat} {x : Str} (hN : X.N.Nodup) (hz : Z i = false := by rfl) (hi : X.N[i]? = some x := by rfl) (hx : Loc X.env.scope x := by first | exact Or.inl rfl | exact Or.inr rfl) (hf : X.fn x = true ∨ X.env.scope.names.lookup x = some .local := by first | exact .inl rfl | exact .inr rfl | assumption) :
    PG X (.Name x pos) (tG X.K Z (gN i)) := PG.mono (pg_name hN hi hx hf) fun v σ H Q ⟨d, e, F, e', p, r, nd, h1, h⟩ => by
  cases h1
  obtain ⟨F3, y⟩ := ((Ev.refl r nd).cons p (fun _ m => by cases m) .nil fun _ m => by cases m).put i
  exact h _ H F3 y (.set hz)
theorem gs_nil : PGs X [] (tGs X.K Z []) := PGs.mono pgs_nil fun vs σ H Q ⟨ds, e, F, e', p, r, nd, h1, h⟩ => by
  cases ds with
  | nil => cases p; cases h1; exact ⟨rfl, h σ H F (.refl r nd) (.refl _ _)⟩
  | cons _ _ => cases h1
theorem gs_cons {i : Nat} {is : List Nat} {x : Str} {px : Pos} {es : List Expr} (hN : X.N.Nodup) (q : PGs X es (tGs X.K Z is)) (hz : Z i = false := by rfl) (hi : X.N[i]? = some x := by rfl) (hx : Loc X.env.scope x := by first | exact Or.inl rfl | exact Or.inr rfl) (hf : X.fn x = true ∨ X.env.scope.names.lookup x = some .local := by first | exact .inl rfl | exact .inr rfl | assumption)
    (hs : (assignEach (.Name x px :: es) X.env).map (·.2) = assign (.Name x px) X.env :: (assignEach es X.env).map (·.2) := by rfl) : PGs X (.Name x px :: es) (tGs X.K Z (i :: is)) := PGs.mono (pgs_cons (g_name (Z := Z) hN hz hi hx hf) q hs) fun vs σ H Q ⟨ds, e, F, e', p, r, nd, h1, h⟩ => by
  cases ds with
  | nil => cases h1
  | cons d ds =>
    generalize hG : ([] : List Addr) = G at p
    cases p with | cons p ps => ?_
    obtain ⟨z1, z2⟩ := List.append_eq_nil_iff.mp hG.symm
    subst z1 z2
    refine ⟨_, _, rfl, d, e, F, _, p, r, nd, rfl, fun σ1 H1 F1 x w => ?_⟩
    exact ⟨ds, _, F1, e', ps.keep x.k (fun _ m => by cases m), x.r, x.nd, h1, fun σ2 H2 F2 y w2 => h σ2 H2 F2 (x.trans y) (w.trans w2)⟩
theorem g_tup {es : List Expr} {k : Nat} {is : List Nat} (hc : X.calm = true) (q : PGs X es (tGs X.K Z is)) (hn : (assignEach es X.env).length = is.length := by rfl) (hst : (assignEach es X.env).findIdx? (·.1) = none := by rfl) : PG X (.Tuple es k pos) (tG X.K Z (gT is)) :=
  PG.mono (pg_tup hc q hn hst) fun v σ H Q ⟨d, e, F, e', p, r, nd, h1, h⟩ => by
    unfold gT at h1
    cases d with
    | tup ds =>
      by_cases hi : imms ds = true
      · simp only [hi, if_true] at h1
        cases p with | tup ht rp => ?_
        refine ⟨_, _, rfl, ht.sq, ?_, ds, e, F, e', rp, r, nd, h1, h⟩
        rw [rp.length]
        have len : ∀ (is : List Nat) (ds : List D) (e : E), gNs is ds e = some e' → ds.length = is.length := by
          intro is
          induction is with
          | nil => intro ds e h; cases ds with
            | nil => rfl
            | cons _ _ => cases h
          | cons i is ih => intro ds e h; cases ds with
            | nil => cases h
            | cons d ds => rw [List.length_cons, List.length_cons, ih ds _ h]
        exact len is ds e h1
      · simp only [hi] at h1
        cases h1
    | _ => cases h1
/-- target = value, for what can't change -/
def mAsg (g : MG) (n : ME) : MS := fun e => match n e with
  | .ok d e1 => if imm d = true then (match g d e1 with
    | some e2 => .nx e2
    | none => .bad) else .bad
  | .exc x e1 => .exc x e1
  | .bad => .bad
theorem m_asg {tg e : Expr} {g : MG} {n : ME} (he : PE X e (tE X.K W n)) (hg : PG X tg (tG X.K Z g)) (hs : swapsWithSole [tg] e pos.line X.env = pure false := by rfl) (hw : swappedStores [tg] e X.env = pure none := by rfl)
    (h1 : (assignEach [tg] X.env).map (·.2) = [assign tg X.env] := by rfl) : PS X (.Assign [tg] e pos) (tM X.K W Z (mAsg g n)) := PS.mono (ps_asg he hg hs hw h1) fun D σ H ⟨e, F, r, nd, h⟩ => by
  refine ⟨e, F, r, nd, ?_⟩
  unfold mAsg at h
  cases q : n e with
  | bad => rw [q] at h; exact h
  | exc y e1 => rw [q] at h; exact fun c dx H' F' x p => h c dx σ H' F' x (.refl _ _) p
  | ok d e1 =>
    rw [q] at h
    simp only at h
    intro v H' F' x
    obtain ⟨G, F0, eF, p, x', hd, n1, nw⟩ := x.head
    by_cases hi : imm d = true
    · rw [if_pos hi] at h
      have e0 := p.fpImm hi
      subst e0
      cases qg : g d e1 with
      | none => rw [qg] at h; exact h.elim
      | some e2 =>
        rw [qg] at h
        exact ⟨d, e1, F0, e2, p, x'.r, x'.nd, qg, fun σ2 H2 F2 y w => h σ2 H2 F2 (x'.trans y) w⟩
    · rw [if_neg hi] at h; exact h.elim
/-- a, b = x, y of plain local names -/
def mPar (i j : Nat) (ns : MAE) : MS := fun e => match ns e with
  | .ok ds e1 => (match ds with
    | [a, b] => if imm a = true ∧ imm b = true then .nx ((e1.set i (some a)).set j (some b)) else .bad
    | _ => .bad)
  | .exc x e1 => .exc x e1
  | .bad => .bad
theorem m_par {i j : Nat} {x y : Str} {a b : Expr} {ns : MAE} {px py pt : Pos} {kt k2 pt2} (ha : PA X [a, b] (tAE X.K W ns)) (hc : X.calm = true) (hN : X.N.Nodup) (hzi : Z i = false := by rfl) (hzj : Z j = false := by rfl) (hi : X.N[i]? = some x := by rfl) (hj : X.N[j]? = some y := by rfl) (hij : i ≠ j := by decide)
    (hx : X.env.scope.names.lookup x = some .local := by rfl) (hy : X.env.scope.names.lookup y = some .local := by rfl)
    (hw : swappedStores [.Tuple [.Name x px, .Name y py] kt pt] (.Tuple [a, b] k2 pt2) X.env = pure (some [x, y]) := by rfl)
    (hs : swapsWithSole [.Tuple [.Name x px, .Name y py] kt pt] (.Tuple [a, b] k2 pt2) pos.line X.env = pure false := by rfl) :
    PS X (.Assign [.Tuple [.Name x px, .Name y py] kt pt] (.Tuple [a, b] k2 pt2) pos) (tM X.K W Z (mPar i j ns)) := PS.mono (ps_par hc hN hi hj hij hx hy ha hw hs) fun D σ H ⟨e, F, r, nd, h⟩ => by
  refine ⟨e, F, r, nd, ?_⟩
  unfold mPar at h
  cases q : ns e with
  | bad => rw [q] at h; exact h
  | exc y e1 => rw [q] at h; exact fun c dx H' F' x p => h c dx σ H' F' x (.refl _ _) p
  | ok ds e1 =>
    rw [q] at h
    simp only at h
    intro vs H' G F' x
    cases ds with
    | nil => exact h.elim
    | cons a ds =>
      cases ds with
      | nil => exact h.elim
      | cons b ds =>
        cases ds with
        | cons _ _ => exact h.elim
        | nil =>
          by_cases hi : imm a = true ∧ imm b = true
          · simp only [hi, and_self, if_true] at h
            obtain ⟨ev, ps, hd, n1, nw⟩ := x
            cases ps with | cons pa ps => ?_
            cases ps with | cons pb ps => ?_
            cases ps
            obtain ⟨F3, y1⟩ := (ev.consImm pa hi.1).put i
            obtain ⟨F4, y2⟩ := (y1.consImm pb hi.2).put j
            exact ⟨_, _, rfl, h _ H' F4 y2 ((Fz.set hzi).trans (.set hzj))⟩
          · simp only [hi, if_false] at h
end

/-! ### loops -/
def mLoop (g : MG) (b : MS) : List D → E → SR
  | [], e => .nx e
  | d :: ds, e => match g d e with
    | some e1 => (match b e1 with
      | .nx e2 => mLoop g b ds e2
      | .ct e2 => mLoop g b ds e2
      | .bk e2 => .nx e2
      | r => r)
    | none => .bad
def mWhile (t : MT) (b : MS) : Nat → E → SR
  | 0, _ => .bad
  | n + 1, e => match t e with
    | .ok c e1 => if c = true then (match b e1 with
      | .nx e2 => mWhile t b n e2
      | .ct e2 => mWhile t b n e2
      | .bk e2 => .nx e2
      | r => r) else .nx e1
    | .exc x e1 => .exc x e1
    | .bad => .bad
/-- what is walked -/
structure Src (K : PySem.W.Frag) (J : It) (items : List D) (P : Hp → Prop) (A : List Addr) : Prop where
  go : ∀ i H, P H → i < items.length → J.go i H
  yld : ∀ i H x H', P H → (h : i < items.length) → J.yld i H x H' → Keeps [] H H' ∧ Rp K H' x items[i] []
  stop : ∀ H, P H → J.stop items.length H
  st : ∀ S H H', (∀ a ∈ A, a ∉ S) → Keeps S H H' → P H → P H'
section
variable {K : PySem.W.Frag} {W : WX} {Z : Zs}
/-- the post of a statement, from (σ, H, F) -/
def Post (K : PySem.W.Frag) (W : WX) (Z : Zs) (D : Ends) (F : List Addr) (σ : L2.St) (H : Hp) : SR → Prop
  | .nx e' => ∀ σ' H' F', Ev K F H σ' H' e' F' → Fz Z σ σ' → D.nx σ' H'
  | .rt d e' => ∀ v σ' H' F', Ev K F H (some v :: σ') H' (some d :: e') F' → Fz Z σ σ' → D.rt v H'
  | .bk e' => ∀ σ' H' F', Ev K F H σ' H' e' F' → Fz Z σ σ' → D.bk σ' H'
  | .ct e' => ∀ σ' H' F', Ev K F H σ' H' e' F' → Fz Z σ σ' → D.ct σ' H'
  | .exc x e' => ∀ c dx σ' H' F', Ev K F H σ' H' e' F' → Fz Z σ σ' → RpX K H' c dx x → W c dx σ' H'
  | .bad => False
theorem Post.tM {D : Ends} {m : MS} {σ σ1 : L2.St} {H H1 : Hp} {e1 : E} {F F1 : List Addr} (x : Ev K F H σ1 H1 e1 F1) (z : Fz Z σ σ1) (h : Post K W Z D F σ H (m e1)) : tM K W Z m D σ1 H1 := tM_next x z h
theorem tM.post {D : Ends} {m : MS} {σ : L2.St} {H : Hp} (h : tM K W Z m D σ H) : ∃ e F, RelS K H σ e F ∧ F.Nodup ∧ Post K W Z D F σ H (m e) := h
/-- the post with what the walked thing is -/
def PostP (K : PySem.W.Frag) (W : WX) (Z : Zs) (P : Hp → Prop) (A : List Addr) (D : Ends) (F : List Addr) (σ : L2.St) (H : Hp) : SR → Prop
  | .nx e' => ∀ σ' H' F', Ev K F H σ' H' e' F' → Fz Z σ σ' → P H' → (∀ a ∈ A, a ∉ F') → D.nx σ' H'
  | .rt d e' => ∀ v σ' H' F', Ev K F H (some v :: σ') H' (some d :: e') F' → Fz Z σ σ' → P H' → (∀ a ∈ A, a ∉ F') → D.rt v H'
  | .bk e' => ∀ σ' H' F', Ev K F H σ' H' e' F' → Fz Z σ σ' → P H' → (∀ a ∈ A, a ∉ F') → D.bk σ' H'
  | .ct e' => ∀ σ' H' F', Ev K F H σ' H' e' F' → Fz Z σ σ' → P H' → (∀ a ∈ A, a ∉ F') → D.ct σ' H'
  | .exc x e' => ∀ c dx σ' H' F', Ev K F H σ' H' e' F' → Fz Z σ σ' → P H' → (∀ a ∈ A, a ∉ F') → RpX K H' c dx x → W c dx σ' H'
  | .bad => False
theorem Post.toP {P : Hp → Prop} {A : List Addr} {D : Ends} {F : List Addr} {σ : L2.St} {H : Hp} {s : SR} (h : Post K W Z D F σ H s) : PostP K W Z P A D F σ H s := by
  cases s with
  | nx e' => exact fun σ' H' F' x z _ _ => h σ' H' F' x z
  | rt d e' => exact fun v σ' H' F' x z _ _ => h v σ' H' F' x z
  | bk e' => exact fun σ' H' F' x z _ _ => h σ' H' F' x z
  | ct e' => exact fun σ' H' F' x z _ _ => h σ' H' F' x z
  | exc y e' => exact fun c dx σ' H' F' x z _ _ p => h c dx σ' H' F' x z p
  | bad => exact h
theorem loop_okP {J : It} {items : List D} {P : Hp → Prop} {A : List Addr} (src : Src K J items P A) {g : MG} {b : MS} {D : Ends} {σ σ0 : L2.St} {H H0 : Hp} {e : E} {F F0 : List Addr} (x0 : Ev K F0 H0 σ H e F) (z0 : Fz Z σ0 σ) (hA : ∀ a ∈ A, a ∉ F ∧ H a ≠ none) (hp : P H)
    (h : PostP K W Z P A D F0 σ0 H0 (mLoop g b items e)) :
    ∃ V : Nat → Nat → L2.St → Hp → Prop, (∃ m, V 0 m σ H) ∧ ∀ i m σ' H', V i m σ' H' → (J.stop i H' ∧ D.nx σ' H') ∨ (J.go i H' ∧ ∃ N : L2.St → Hp → Prop, (∀ σ2 H2, N σ2 H2 → ∃ m', m' < m ∧ V (i + 1) m' σ2 H2) ∧
      ∀ y H2, J.yld i H' y H2 → tG K Z g y σ' H2 fun σ3 H3 => tM K W Z b { D with nx := N, ct := N, bk := D.nx } σ3 H3) := by
  refine ⟨fun i m σ' H' => i + m = items.length ∧ P H' ∧ ∃ e' F', Ev K F H σ' H' e' F' ∧ Fz Z σ σ' ∧ mLoop g b (items.drop i) e' = mLoop g b items e, ⟨items.length, by omega, hp, e, F, .refl x0.r x0.nd, .refl _ _, by rw [List.drop_zero]⟩, fun i m σ' H' hV => ?_⟩
  obtain ⟨him, hp', e', F', ev, fz, hl⟩ := hV
  have hA' : ∀ a ∈ A, a ∉ F' := fun a m z => (ev.new a z).elim (hA a m).1 (hA a m).2
  by_cases hi : i < items.length
  · refine .inr ⟨src.go i H' hp' hi, fun σ2 H2 => P H2 ∧ ∃ e2 F2, Ev K F H σ2 H2 e2 F2 ∧ Fz Z σ σ2 ∧ mLoop g b (items.drop (i + 1)) e2 = mLoop g b items e, fun σ2 H2 hN => ?_, fun y H2 hy => ?_⟩
    · obtain ⟨q1, e2, F2, q2, q3, q4⟩ := hN
      exact ⟨m - 1, by omega, by omega, q1, e2, F2, q2, q3, q4⟩
    · obtain ⟨ky, py⟩ := src.yld i H' y H2 hp' hi hy
      rw [List.drop_eq_getElem_cons hi, mLoop] at hl
      cases qg : g items[i] e' with
      | none => rw [qg] at hl; rw [← hl] at h; exact h.elim
      | some e1 =>
        rw [qg] at hl
        simp only at hl
        refine ⟨items[i], e', F', e1, py, ev.r.same ky, ev.nd, qg, fun σ3 H3 F3 ev3 fz3 => ?_⟩
        have evA : Ev K F H σ3 H3 e1 F3 := (ev.grow ky).trans ev3
        refine ⟨e1, F3, evA.r, evA.nd, ?_⟩
        have P3 : P H3 := src.st F' H2 H3 hA' ev3.k (src.st [] H' H2 (fun _ _ m => by cases m) ky hp')
        have hA3 : ∀ a ∈ A, a ∉ F3 := fun a m z => (evA.new a z).elim (hA a m).1 (hA a m).2
        have nin : ∀ {σ4 : L2.St} {H4 : Hp} {e4 : E} {F4 : List Addr}, Ev K F3 H3 σ4 H4 e4 F4 → ∀ a ∈ A, a ∉ F4 := fun ev4 a m z => ((evA.trans ev4).new a z).elim (hA a m).1 (hA a m).2
        cases qb : b e1 with
        | nx e2 =>
          rw [qb] at hl
          exact fun σ4 H4 F4 ev4 fz4 => ⟨src.st F3 H3 H4 hA3 ev4.k P3, e2, F4, evA.trans ev4, fz.trans (fz3.trans fz4), hl⟩
        | ct e2 =>
          rw [qb] at hl
          exact fun σ4 H4 F4 ev4 fz4 => ⟨src.st F3 H3 H4 hA3 ev4.k P3, e2, F4, evA.trans ev4, fz.trans (fz3.trans fz4), hl⟩
        | bk e2 =>
          rw [qb] at hl
          rw [← hl] at h
          exact fun σ4 H4 F4 ev4 fz4 => h σ4 H4 F4 (x0.trans (evA.trans ev4)) (z0.trans (fz.trans (fz3.trans fz4))) (src.st F3 H3 H4 hA3 ev4.k P3) (nin ev4)
        | rt d e2 =>
          rw [qb] at hl
          rw [← hl] at h
          exact fun v σ4 H4 F4 ev4 fz4 => h v σ4 H4 F4 (x0.trans (evA.trans ev4)) (z0.trans (fz.trans (fz3.trans fz4))) (src.st F3 H3 H4 hA3 ev4.k P3) (nin ev4)
        | exc w e2 =>
          rw [qb] at hl
          rw [← hl] at h
          exact fun c dx σ4 H4 F4 ev4 fz4 p => h c dx σ4 H4 F4 (x0.trans (evA.trans ev4)) (z0.trans (fz.trans (fz3.trans fz4))) (src.st F3 H3 H4 hA3 ev4.k P3) (nin ev4) p
        | bad =>
          rw [qb] at hl
          rw [← hl] at h
          exact h.elim
  · have ei : i = items.length := by omega
    subst ei
    rw [List.drop_length, mLoop] at hl
    rw [← hl] at h
    exact .inl ⟨src.stop H' hp', h σ' H' F' (x0.trans ev) (z0.trans fz) hp' hA'⟩
theorem loop_ok {J : It} {items : List D} {P : Hp → Prop} {A : List Addr} (src : Src K J items P A) {g : MG} {b : MS} {D : Ends} {σ σ0 : L2.St} {H H0 : Hp} {e : E} {F F0 : List Addr} (x0 : Ev K F0 H0 σ H e F) (z0 : Fz Z σ0 σ) (hA : ∀ a ∈ A, a ∉ F ∧ H a ≠ none) (hp : P H)
    (h : Post K W Z D F0 σ0 H0 (mLoop g b items e)) :
    ∃ V : Nat → Nat → L2.St → Hp → Prop, (∃ m, V 0 m σ H) ∧ ∀ i m σ' H', V i m σ' H' → (J.stop i H' ∧ D.nx σ' H') ∨ (J.go i H' ∧ ∃ N : L2.St → Hp → Prop, (∀ σ2 H2, N σ2 H2 → ∃ m', m' < m ∧ V (i + 1) m' σ2 H2) ∧
      ∀ y H2, J.yld i H' y H2 → tG K Z g y σ' H2 fun σ3 H3 => tM K W Z b { D with nx := N, ct := N, bk := D.nx } σ3 H3) := loop_okP src x0 z0 hA hp h.toP
def fuel : Nat := 1000000000
def mWh (t : MT) (b : MS) : MS := fun e => mWhile t b fuel e
theorem tWhile_of {t : MT} {b : MS} {D : Ends} {σ : L2.St} {H : Hp} (h : tM K W Z (mWh t b) D σ H) : tWhile (tT K W t) (tM K W Z b) D σ H := by
  obtain ⟨e, F, r, nd, h⟩ := tM.post h
  unfold mWh at h
  refine ⟨fun m σ' H' => ∃ e' F', Ev K F H σ' H' e' F' ∧ Fz Z σ σ' ∧ mWhile t b m e' = mWhile t b fuel e, ⟨fuel, e, F, .refl r nd, .refl _ _, rfl⟩, fun m σ' H' hV => ?_⟩
  obtain ⟨e', F', ev, fz, hl⟩ := hV
  refine ⟨e', F', ev.r, ev.nd, ?_⟩
  cases m with
  | zero => rw [mWhile] at hl; rw [← hl] at h; exact h.elim
  | succ m =>
    rw [mWhile] at hl
    cases qt : t e' with
    | bad => rw [qt] at hl; rw [← hl] at h; exact h.elim
    | exc y e1 => rw [qt] at hl; rw [← hl] at h; exact fun c dx H2 F2 ev2 p => h c dx σ' H2 F2 (ev.trans ev2) fz p
    | ok c e1 =>
      rw [qt] at hl
      simp only at hl
      intro H2 F2 ev2
      have evA : Ev K F H σ' H2 e1 F2 := ev.trans ev2
      cases c with
      | false =>
        simp only [Bool.false_eq_true, if_false] at hl ⊢
        rw [← hl] at h
        exact h σ' H2 F2 evA fz
      | true =>
        simp only [if_true] at hl ⊢
        refine ⟨fun σ2 H2 => ∃ e2 F2, Ev K F H σ2 H2 e2 F2 ∧ Fz Z σ σ2 ∧ mWhile t b m e2 = mWhile t b fuel e, fun σ2 H2 hN => ⟨m, Nat.lt_succ_self m, hN⟩, e1, F2, evA.r, evA.nd, ?_⟩
        cases qb : b e1 with
        | nx e2 =>
          rw [qb] at hl
          exact fun σ4 H4 F4 ev4 fz4 => ⟨e2, F4, evA.trans ev4, fz.trans fz4, hl⟩
        | ct e2 =>
          rw [qb] at hl
          exact fun σ4 H4 F4 ev4 fz4 => ⟨e2, F4, evA.trans ev4, fz.trans fz4, hl⟩
        | bk e2 =>
          rw [qb] at hl
          rw [← hl] at h
          exact fun σ4 H4 F4 ev4 fz4 => h σ4 H4 F4 (evA.trans ev4) (fz.trans fz4)
        | rt d e2 =>
          rw [qb] at hl
          rw [← hl] at h
          exact fun v σ4 H4 F4 ev4 fz4 => h v σ4 H4 F4 (evA.trans ev4) (fz.trans fz4)
        | exc w e2 =>
          rw [qb] at hl
          rw [← hl] at h
          exact fun c dx σ4 H4 F4 ev4 fz4 p => h c dx σ4 H4 F4 (evA.trans ev4) (fz.trans fz4) p
        | bad =>
          rw [qb] at hl
          rw [← hl] at h
          exact h.elim
end
theorem m_while {X : Cx} {W : WX} {Z : Zs} {c : Expr} {t : MT} {body : List Stmt} {b : MS} {pos : Pos} (hc : PT X c (tT X.K W t)) (hb : PSs X body (tM X.K W Z b)) (hp : PassesOwn (model X.prog X.w) X.A X.env X.xe) : PS X (.While c body [] pos) (tM X.K W Z (mWh t b)) :=
  PS.mono (ps_while hp hc hb) fun D σ H h => tWhile_of h
end Mir

namespace Mir
open PySem PySem.Spec L2

/-! ### what is walked -/
abbrev MW := E → Re (List D)
def tW (K : PySem.W.Frag) (W : WX) (m : MW) : TI := fun σ H R => ∃ e F, RelS K H σ e F ∧ F.Nodup ∧ match m e with
  | .ok items e1 => ∀ J H1 F1 A P, Src K J items P A → P H1 → Ev K F H σ H1 e1 F1 → (∀ a ∈ A, a ∉ F1 ∧ H1 a ≠ none) → R J H1
  | .exc x e1 => ∀ c dx H' F', Ev K F H σ H' e1 F' → RpX K H' c dx x → W c dx σ H'
  | .bad => False
theorem PI.mono {X : Cx} {tg e : Expr} {t t' : TI} (p : PI X tg e t) (h : ∀ σ H R, t' σ H R → t σ H R) : PI X tg e t' := ⟨fun pins s σ H Q I q => p.run pins s σ H Q I (h _ _ _ q)⟩
def itemsOf : D → Option (List D)
  | .tup ds => if imms ds = true then some ds else none
  | .lst ds => if imms ds = true then some ds else none
  | .rol ds => if imms ds = true then some ds else none
  | .str s => some (s.map fun c => .str [c])
  | _ => none
section
variable {K : PySem.W.Frag} {H : Hp}
theorem src_lst {a : Addr} {vs : List V} {ds : List D} : Src K (Itl K a) ds (fun H => H a = some (.lst vs) ∧ Rps K H vs ds []) [a] where
  go := fun i H hp hi => by
    obtain ⟨v, G, h1, h2, _⟩ := hp.2.get (List.getElem?_eq_getElem hi)
    exact ⟨_, v, .of hp.1, h1⟩
  yld := fun i H x H' hp hi hy => by
    obtain ⟨rfl, hx⟩ := hy
    obtain ⟨v, G, h1, h2, h3⟩ := hp.2.get (List.getElem?_eq_getElem hi)
    have e1 := hx _ (SqL.of hp.1)
    rw [h1] at e1; cases e1
    cases G with
    | nil => exact ⟨.refl _ _, h2⟩
    | cons b G => exact absurd (h3 b List.mem_cons_self) (fun m => by cases m)
  stop := fun H hp => ⟨_, .of hp.1, by rw [hp.2.length]; exact Nat.le_refl _⟩
  st := fun S H H' hA k hp => ⟨k _ _ hp.1 (.inr (hA a List.mem_cons_self)), hp.2.keep k fun _ m => by cases m⟩
theorem src_rol {a : Addr} {vs : List V} {ds : List D} : Src K (Itl K a) ds (fun H => RoL K H a vs ∧ Rps K H vs ds []) [] where
  go := fun i H hp hi => by
    obtain ⟨v, G, h1, h2, _⟩ := hp.2.get (List.getElem?_eq_getElem hi)
    exact ⟨_, v, hp.1.sq, h1⟩
  yld := fun i H x H' hp hi hy => by
    obtain ⟨rfl, hx⟩ := hy
    obtain ⟨v, G, h1, h2, h3⟩ := hp.2.get (List.getElem?_eq_getElem hi)
    have e1 := hx _ (hp.1.sq)
    rw [h1] at e1; cases e1
    cases G with
    | nil => exact ⟨.refl _ _, h2⟩
    | cons b G => exact absurd (h3 b List.mem_cons_self) (fun m => by cases m)
  stop := fun H hp => ⟨_, hp.1.sq, by rw [hp.2.length]; exact Nat.le_refl _⟩
  st := fun S H H' hA k hp => ⟨RoL.keep k hp.1, hp.2.keep k fun _ m => by cases m⟩
theorem src_tup {a : Addr} {vs : List V} {ds : List D} : Src K (Itt K a) ds (fun H => TqT K H a vs ∧ Rps K H vs ds []) [] where
  go := fun i H hp hi => by
    obtain ⟨v, G, h1, h2, _⟩ := hp.2.get (List.getElem?_eq_getElem hi)
    exact ⟨_, v, hp.1.sq, h1⟩
  yld := fun i H x H' hp hi hy => by
    obtain ⟨rfl, hx⟩ := hy
    obtain ⟨v, G, h1, h2, h3⟩ := hp.2.get (List.getElem?_eq_getElem hi)
    have e1 := hx _ hp.1.sq
    rw [h1] at e1; cases e1
    cases G with
    | nil => exact ⟨.refl _ _, h2⟩
    | cons b G => exact absurd (h3 b List.mem_cons_self) (fun m => by cases m)
  stop := fun H hp => ⟨_, hp.1.sq, by rw [hp.2.length]; exact Nat.le_refl _⟩
  st := fun S H H' hA k hp => ⟨hp.1.keep k, hp.2.keep k fun _ m => by cases m⟩
theorem src_str {x : Str} (h : x.cps.all (· < 0x110000) = true) : Src K (Its x) (x.cps.toList.map fun c => .str [c]) (fun _ => True) [] where
  go := fun i H hp hi => by show i < x.cps.size; simpa using hi
  yld := fun i H v H' hp hi hy => by
    obtain ⟨rfl, c, hc, rfl⟩ := hy
    have hm : c ∈ x.cps.toList := by
      have := Array.mem_of_getElem? hc
      simpa using this
    have e1 : (x.cps.toList.map fun c => D.str [c])[i] = .str [c] := by
      rw [List.getElem_map]
      congr 2
      have : x.cps.toList[i]? = some c := by simpa using hc
      rw [List.getElem?_eq_getElem (by simpa using hi)] at this
      exact Option.some.inj this
    rw [e1]
    exact ⟨.refl _ _, rp_str (okC_of fun z m => by rw [List.mem_singleton.mp m]; exact okC_mem h c hm) rfl⟩
  stop := fun H hp => by show x.cps.size ≤ _; simp
  st := fun _ _ _ _ _ _ => trivial
/-- lo, lo + 1, .. -/
def rangeD (lo : Int) (n : Nat) : List D := (List.range n).map fun k => .int (lo + (k : Nat))
theorem src_rng {lo : Int} {n : Nat} : Src K (Itr lo n) (rangeD lo n) (fun _ => True) [] where
  go := fun i H hp hi => by show i < n; simpa [rangeD] using hi
  yld := fun i H v H' hp hi hy => by
    obtain ⟨rfl, rfl⟩ := hy
    have e1 : (rangeD lo n)[i] = .int (lo + (i : Nat)) := by simp [rangeD]
    rw [e1]
    exact ⟨.refl _ _, .int⟩
  stop := fun H hp => by show n ≤ _; simp [rangeD]
  st := fun _ _ _ _ _ _ => trivial
end
def wV (n : ME) : MW := fun e => match n e with
  | .ok d e1 => (match itemsOf d with
    | some ds => .ok ds e1
    | none => .bad)
  | .exc x e1 => .exc x e1
  | .bad => .bad
def small62 (j : Int) : Bool := decide (-(2 ^ 62) ≤ j ∧ j < 2 ^ 62)
def wR (ns : MAE) : MW := fun e => match ns e with
  | .ok ds e1 => (match ds with
    | [.int j] => if small62 j = true then .ok (rangeD 0 j.toNat) e1 else .bad
    | [.int i, .int j] => if small62 i = true ∧ small62 j = true then .ok (rangeD i (j - i).toNat) e1 else .bad
    | _ => .bad)
  | .exc x e1 => .exc x e1
  | .bad => .bad
section
variable {X : Cx} {W : WX} {Z : Zs} {tg : Expr} {pos : Pos}
theorem w_val {it : Expr} {n : ME} (p : PE X it (tE X.K W n)) : PI X tg it (tW X.K W (wV n)) := PI.mono (PI.or (pi_list p) (PI.or (pi_tup p) (pi_str p))) fun σ H R ⟨e, F, r, nd, h⟩ => by
  unfold wV at h
  cases q : n e with
  | bad => rw [q] at h; exact h.elim
  | exc y e1 => rw [q] at h; exact .inl ⟨e, F, r, nd, by rw [q]; exact h⟩
  | ok d e1 =>
    rw [q] at h
    simp only at h
    cases qi : itemsOf d with
    | none => rw [qi] at h; exact h.elim
    | some ds =>
      rw [qi] at h
      simp only at h
      unfold itemsOf at qi
      split at qi
      · split at qi
        · rename_i hi
          cases qi
          refine .inr (.inl ⟨e, F, r, nd, ?_⟩)
          rw [q]
          intro v H' F' x
          obtain ⟨G, F0, eF, p, x', hd, n1, nw⟩ := x.head
          cases p with | tup ht rp => ?_
          have e0 := rp.fpImm hi
          subst e0
          exact ⟨_, rfl, ⟨_, ht.sq⟩, h _ H' F0 [] _ src_tup ⟨ht, rp⟩ x' fun _ m => by cases m⟩
        · cases qi
      · split at qi
        · rename_i hi
          cases qi
          refine .inl ⟨e, F, r, nd, ?_⟩
          rw [q]
          intro v H' F' x
          obtain ⟨G, F0, eF, p, x', hd, n1, nw⟩ := x.head
          cases p with | lst ht rp => ?_
          have e0 := rp.fpImm hi
          subst e0
          exact ⟨_, rfl, ⟨_, .of ht⟩, h _ H' F0 [_] _ src_lst ⟨ht, rp⟩ x' fun a m => ⟨hd a m, by rw [List.mem_singleton.mp m, ht]; exact fun z => by cases z⟩⟩
        · cases qi
      · split at qi
        · rename_i hi
          cases qi
          refine .inl ⟨e, F, r, nd, ?_⟩
          rw [q]
          intro v H' F' x
          obtain ⟨G, F0, eF, p, x', hd, n1, nw⟩ := x.head
          cases p with | rol ht rp => ?_
          exact ⟨_, rfl, ⟨_, ht.sq⟩, h _ H' F0 [] _ src_rol ⟨ht, rp⟩ x' fun _ m => by cases m⟩
        · cases qi
      · cases qi
        refine .inr (.inr ⟨e, F, r, nd, ?_⟩)
        rw [q]
        intro v H' F' x
        obtain ⟨G, F0, eF, p, x', hd, n1, nw⟩ := x.head
        cases p with | str hx => ?_
        exact ⟨_, rfl, h _ H' F0 [] _ (src_str hx) trivial x' fun _ m => by cases m⟩
      · cases qi
theorem w_rng1 {a : Expr} {ns : MAE} {p : Pos} (hg : Gl X "range") (hm : X.mg "range" = none) (ha : PA X [a] (tAE X.K W ns)) (h1 : ∀ e ds e1, ns e = .ok ds e1 → ds.length = 1) (hs : starEach [a] X.env = [(false, eval a X.env)] := by rfl) : PI X tg (.Call (.Name "range" p) [a] [] pos) (tW X.K W (wR ns)) :=
  PI.mono (pi_range1 hg hm ha hs) fun σ H R ⟨e, F, r, nd, h⟩ => by
    refine ⟨e, F, r, nd, ?_⟩
    unfold wR at h
    cases q : ns e with
    | bad => rw [q] at h; exact h
    | exc y e1 => rw [q] at h; exact h
    | ok ds e1 =>
      rw [q] at h
      have hl := h1 e ds e1 q
      intro vs H' G F' x
      obtain ⟨ev, ps, hd, n1, nw⟩ := x
      cases ds with
      | nil => cases hl
      | cons d ds =>
        cases ds with
        | cons _ _ => cases hl
        | nil =>
          cases d with
          | int j =>
            simp only at h
            by_cases hj : small62 j = true
            · simp only [hj, if_true] at h
              cases ps with | cons p1 p2 => ?_
              cases p2; cases p1
              have hb : -(2 ^ 62) ≤ j ∧ j < 2 ^ 62 := of_decide_eq_true hj
              exact ⟨j, rfl, hb.1, hb.2, h _ H' F' [] _ src_rng trivial ev fun _ m => by cases m⟩
            · simp only [hj] at h
              exact h.elim
          | _ => exact h.elim
theorem w_rng2 {a b : Expr} {ns : MAE} {p : Pos} (ha : PA X [a, b] (tAE X.K W ns)) (h1 : ∀ e ds e1, ns e = .ok ds e1 → ds.length = 2) (q : PI X tg (.Call (.Name "range" p) [a, b] [] pos) (iRng2 (tAE X.K W ns))) : PI X tg (.Call (.Name "range" p) [a, b] [] pos) (tW X.K W (wR ns)) :=
  PI.mono q fun σ H R ⟨e, F, r, nd, h⟩ => by
    refine ⟨e, F, r, nd, ?_⟩
    unfold wR at h
    cases q : ns e with
    | bad => rw [q] at h; exact h
    | exc y e1 => rw [q] at h; exact h
    | ok ds e1 =>
      rw [q] at h
      have hl := h1 e ds e1 q
      intro vs H' G F' x
      obtain ⟨ev, ps, hd, n1, nw⟩ := x
      cases ds with
      | nil => cases hl
      | cons d ds =>
        cases ds with
        | nil => cases hl
        | cons d2 ds =>
          cases ds with
          | cons _ _ => cases hl
          | nil =>
            cases d with
            | int i =>
              cases d2 with
              | int j =>
                simp only at h
                by_cases hj : small62 i = true ∧ small62 j = true
                · simp only [hj, and_self, if_true] at h
                  cases ps with | cons p1 p2 => ?_
                  cases p2 with | cons p2 p3 => ?_
                  cases p3; cases p1; cases p2
                  have hb : -(2 ^ 62) ≤ i ∧ i < 2 ^ 62 := of_decide_eq_true hj.1
                  have hb2 : -(2 ^ 62) ≤ j ∧ j < 2 ^ 62 := of_decide_eq_true hj.2
                  exact ⟨i, j, rfl, ⟨hb.1, hb.2, hb2.1, hb2.2⟩, h _ H' F' [] _ src_rng trivial ev fun _ m => by cases m⟩
                · simp only [hj, if_false] at h
              | _ => exact h.elim
            | _ => exact h.elim
/-- for -/
def mFor (w : MW) (g : MG) (b : MS) : MS := fun e => match w e with
  | .ok items e1 => mLoop g b items e1
  | .exc x e1 => .exc x e1
  | .bad => .bad
theorem m_for {it : Expr} {w : MW} {g : MG} {b : MS} {body : List Stmt} (hw : PI X tg it (tW X.K W w)) (hg : PG X tg (tG X.K Z g)) (hb : PSs X body (tM X.K W Z b)) (hp : PassesOwn (model X.prog X.w) X.A X.env X.xe) (hc : X.calm = true) (hs : ∀ x, foldedSetIterable it X.env x = pure x := by intro _; rfl) : PS X (.For tg it body [] pos) (tM X.K W Z (mFor w g b)) :=
  PS.mono (ps_for hp hc hw hg hb hs) fun D σ H h => by
    obtain ⟨e, F, r, nd, h⟩ := tM.post h
    refine ⟨e, F, r, nd, ?_⟩
    unfold mFor at h
    cases q : w e with
    | bad => rw [q] at h; exact h
    | exc y e1 => rw [q] at h; exact fun c dx H' F' x p => h c dx σ H' F' x (.refl _ _) p
    | ok items e1 =>
      rw [q] at h
      exact fun J H1 F1 A P src hP x hA => loop_ok src x (.refl _ _) hA hP h
/-- an outcome with the slot i filled again -/
def SR.fill (i : Nat) (d : D) : SR → SR
  | .nx e => .nx (e.set i (some d))
  | .rt x e => .rt x (e.set i (some d))
  | .bk e => .bk (e.set i (some d))
  | .ct e => .ct (e.set i (some d))
  | .exc x e => .exc x (e.set i (some d))
  | .bad => .bad
/-- for over a name's thing, which the body leaves alone -/
def mForV (i : Nat) (g : MG) (b : MS) : MS := fun e => match e[i]? with
  | some (some d) => (match itemsOf d with
    | some items => if imm d = true then mLoop g b items e else (mLoop g b items (e.set i none)).fill i d
    | none => .bad)
  | _ => .bad
theorem m_forV {i : Nat} {x : Str} {px : Pos} {g : MG} {b : MS} {body : List Stmt} (hg : PG X tg (tG X.K (zc i Z) g)) (hb : PSs X body (tM X.K W (zc i Z) b)) (hp : PassesOwn (model X.prog X.w) X.A X.env X.xe) (hc : X.calm = true) (hN : X.N[i]? = some x := by rfl) (hv : Vis X.env.scope x := by first | exact Or.inl rfl | exact Or.inr (Or.inl rfl) | exact Or.inr (Or.inr rfl)) (hd : (x == ("__debug__" : Str)) = false := by decide)
    (hcd : (x == ("__classdict__" : Str)) = false := by decide) : PS X (.For tg (.Name x px) body [] pos) (tM X.K W Z (mForV i g b)) :=
  PS.mono (ps_for hp hc (PI.or (pi_list (pe_var hN hv hd hcd)) (PI.or (pi_tup (pe_var hN hv hd hcd)) (pi_str (pe_var hN hv hd hcd)))) hg hb) fun D σ H h => by
    obtain ⟨e, F, r, nd, h⟩ := tM.post h
    have zi : zc i Z i = true := by simp [zc]
    have sub : ∀ j, Z j = true → zc i Z j = true := fun j m => by simp [zc, m]
    have weak : ∀ {s : SR}, Post X.K W Z D F σ H s → Post X.K W (zc i Z) D F σ H s := by
      intro s h
      cases s with
      | nx e' => exact fun σ' H' F' x z => h σ' H' F' x (z.sub sub)
      | rt d e' => exact fun v σ' H' F' x z => h v σ' H' F' x (z.sub sub)
      | bk e' => exact fun σ' H' F' x z => h σ' H' F' x (z.sub sub)
      | ct e' => exact fun σ' H' F' x z => h σ' H' F' x (z.sub sub)
      | exc y e' => exact fun c dx σ' H' F' x z p => h c dx σ' H' F' x (z.sub sub) p
      | bad => exact h
    unfold mForV at h
    cases q : e[i]? with
    | none => rw [q] at h; exact h.elim
    | some oo =>
      rw [q] at h
      cases oo with
      | none => exact h.elim
      | some d =>
        simp only at h
        cases qi : itemsOf d with
        | none => rw [qi] at h; exact h.elim
        | some items =>
          rw [qi] at h
          simp only at h
          obtain ⟨v, G, hs, p, hGF⟩ := r.get q
          have x0 : Ev X.K F H σ H e F := .refl r nd
          unfold itemsOf at qi
          split at qi
          · split at qi
            · rename_i hi
              cases qi
              cases p with | tup ht rp => ?_
              have e0 := rp.fpImm hi
              subst e0
              rw [if_pos (show imm (.tup _) = true by simpa [imm] using hi)] at h
              exact .inr (.inl ⟨_, hs, _, rfl, ⟨_, ht.sq⟩, loop_ok src_tup x0 (.refl _ _) (fun _ m => by cases m) ⟨ht, rp⟩ (weak h)⟩)
            · cases qi
          · split at qi
            · rename_i ds hi
              cases qi
              rw [if_neg (show ¬ imm (.lst _) = true by simp [imm])] at h
              obtain ⟨v', F3, hs', y⟩ := x0.move q
              rw [hs] at hs'; cases hs'
              obtain ⟨G1, F0, eF, p1, y', hd1, n1, nw1⟩ := y.head
              cases p with | lst ht rp => ?_
              cases p1 with | lst ht1 rp1 => ?_
              rw [ht] at ht1; cases ht1
              have e0 := rp1.fpImm hi
              subst e0
              have e1 := rp.fpImm hi
              subst e1
              rename_i a vs
              have hA : ∀ b ∈ [a], b ∉ F0 ∧ H b ≠ none := fun b m => ⟨hd1 b m, by rw [List.mem_singleton.mp m, ht]; exact fun z => by cases z⟩
              have back : ∀ {σ' : L2.St} {H' : Hp} {e' : E} {F' : List Addr}, Ev X.K F H σ' H' e' F' → Fz (zc i Z) σ σ' → (H' a = some (.lst vs) ∧ Rps X.K H' vs items []) → (∀ b ∈ [a], b ∉ F') → ∃ F2, Ev X.K F H σ' H' (e'.set i (some (.lst items))) F2 := by
                intro σ' H' e' F' x z hP ha
                refine (x.cons (v := .ref a) (d := .lst items) (G := [a]) (.lst hP.1 hP.2) ha (by simp) (fun b m => .inl (by rw [List.mem_singleton.mp m]; exact hGF a List.mem_cons_self))).back ?_
                rw [z.2 i zi]
                exact hs
              have backR : ∀ {v : V} {d : Mir.D} {σ' : L2.St} {H' : Hp} {e' : E} {F' : List Addr}, Ev X.K F H (some v :: σ') H' (some d :: e') F' → Fz (zc i Z) σ σ' → (H' a = some (.lst vs) ∧ Rps X.K H' vs items []) → (∀ b ∈ [a], b ∉ F') → ∃ F2, Ev X.K F H (some v :: σ') H' (some d :: e'.set i (some (.lst items))) F2 := by
                intro v d σ' H' e' F' x z hP ha
                have y := (x.cons (v := .ref a) (d := .lst items) (G := [a]) (.lst hP.1 hP.2) ha (by simp) (fun b m => .inl (by rw [List.mem_singleton.mp m]; exact hGF a List.mem_cons_self))).back (i := i + 1) (by
                  rw [List.getElem?_cons_succ, z.2 i zi]
                  exact hs)
                exact y
              refine .inl ⟨_, hs, a, rfl, ⟨_, .of ht⟩, loop_okP src_lst y' (.refl _ _) hA ⟨ht, rp1⟩ ?_⟩
              cases qs : mLoop g b items (e.set i none) with
              | nx e' =>
                rw [qs] at h
                intro σ' H' F' x z hP ha
                obtain ⟨F2, w⟩ := back x z hP ha
                exact h σ' H' F2 w (z.sub sub)
              | bk e' =>
                rw [qs] at h
                intro σ' H' F' x z hP ha
                obtain ⟨F2, w⟩ := back x z hP ha
                exact h σ' H' F2 w (z.sub sub)
              | ct e' =>
                rw [qs] at h
                intro σ' H' F' x z hP ha
                obtain ⟨F2, w⟩ := back x z hP ha
                exact h σ' H' F2 w (z.sub sub)
              | rt d e' =>
                rw [qs] at h
                intro v σ' H' F' x z hP ha
                obtain ⟨F2, w⟩ := backR x z hP ha
                exact h v σ' H' F2 w (z.sub sub)
              | exc y e' =>
                rw [qs] at h
                intro c dx σ' H' F' x z hP ha p
                obtain ⟨F2, w⟩ := back x z hP ha
                exact h c dx σ' H' F2 w (z.sub sub) p
              | bad => rw [qs] at h; exact h
            · cases qi
          · split at qi
            · rename_i hi
              cases qi
              cases p with | rol ht rp => ?_
              rw [if_pos (show imm (.rol _) = true by simpa [imm] using hi)] at h
              exact .inl ⟨_, hs, _, rfl, ⟨_, ht.sq⟩, loop_ok src_rol x0 (.refl _ _) (fun _ m => by cases m) ⟨ht, rp⟩ (weak h)⟩
            · cases qi
          · cases qi
            cases p with | str hx => ?_
            rw [if_pos (show imm (.str _) = true by rfl)] at h
            exact .inr (.inr ⟨_, hs, _, rfl, loop_ok (src_str hx) x0 (.refl _ _) (fun _ m => by cases m) trivial (weak h)⟩)
          · cases qi
end
end Mir

namespace Mir
open PySem PySem.Spec L2

/-! ### comprehensions -/
def wipeE (e : E) : List Nat → E
  | [] => e
  | v :: vs => (wipeE e vs).set v none
def mComp (g : MG) (tt : MT) (te : ME) (vs : List Nat) : List D → E → List D → Re (List D)
  | [], e, acc => .ok acc e
  | d :: ds, e, acc => match g d e with
    | some e1 => (match tt e1 with
      | .ok b e2 => if b = true then (match te e2 with
          | .ok y e3 => mComp g tt te vs ds (wipeE e3 vs) (acc ++ [y])
          | _ => .bad) else mComp g tt te vs ds (wipeE e2 vs) acc
      | _ => .bad)
    | none => .bad
/-- [te for g in w if tt] -/
def eComp (w : MW) (g : MG) (tt : MT) (te : ME) (vs : List Nat) : ME := fun e => match w e with
  | .ok items e1 => if fits items.length = true then (match mComp g tt te vs items (wipeE e1 vs) [] with
    | .ok acc e2 => .ok (.lst acc) e2
    | _ => .bad) else .bad
  | .exc x e1 => .exc x e1
  | .bad => .bad
def tY : MT := fun e => .ok true e
def wF : WX := fun _ _ _ _ => False
section
variable {K : PySem.W.Frag} {H : Hp}
theorem wipeE_len (e : E) : ∀ vs : List Nat, (wipeE e vs).length = e.length
  | [] => rfl
  | v :: vs => by rw [wipeE, List.length_set, wipeE_len e vs]
theorem wipeE_in {e : E} {i : Nat} {d : D} : ∀ {vs : List Nat}, (wipeE e vs)[i]? = some (some d) → i ∉ vs ∧ e[i]? = some (some d)
  | [], h => ⟨by simp, h⟩
  | v :: vs, h => by
    rw [wipeE] at h
    by_cases hv : v = i
    · subst hv
      by_cases hl : v < (wipeE e vs).length
      · rw [List.getElem?_set_self hl] at h; cases h
      · rw [List.getElem?_eq_none (by simpa using hl)] at h; cases h
    · rw [List.getElem?_set_ne hv] at h
      obtain ⟨h1, h2⟩ := wipeE_in h
      exact ⟨fun m => (List.mem_cons.mp m).elim (fun z => hv z.symm) h1, h2⟩
theorem RelS.wipe {σ : L2.St} {e : E} {F : List Addr} (r : RelS K H σ e F) (nd : F.Nodup) : ∀ vs : List Nat, ∃ F0, RelS K H σ (wipeE e vs) F0 ∧ F0.Nodup ∧ ∀ a ∈ F0, a ∈ F
  | [] => ⟨F, r, nd, fun _ m => m⟩
  | v :: vs => by
    obtain ⟨F0, h1, h2, h3⟩ := RelS.wipe r nd vs
    obtain ⟨F1, G, q1, q2⟩ := h1.drop v
    exact ⟨F1, q1, (List.nodup_append.mp (q2.nodup_iff.mp h2)).2.1, fun a m => h3 a (q2.mem_iff.mpr (List.mem_append_right _ m))⟩
theorem RelS.agree {σ σ' : L2.St} {e : E} {F : List Addr} (r : RelS K H σ e F) (hl : σ'.length = σ.length) (h : ∀ (i : Nat) (d : D), e[i]? = some (some d) → σ'[i]? = σ[i]?) : RelS K H σ' e F := by
  induction r generalizing σ' with
  | nil =>
    have : σ' = [] := List.length_eq_zero_iff.mp hl
    subst this
    exact .nil
  | no r ih =>
    cases σ' with
    | nil => simp at hl
    | cons x σ' => exact .no (ih (by simpa using hl) fun i d q => by simpa using h (i + 1) d (by simpa using q))
  | so p r ih =>
    cases σ' with
    | nil => simp at hl
    | cons x σ' =>
      have e0 := h 0 _ rfl
      simp only [List.getElem?_cons_zero, Option.some.injEq] at e0
      subst e0
      exact .so p (ih (by simpa using hl) fun i d q => by simpa using h (i + 1) d (by simpa using q))
theorem wipe_at {σ : L2.St} {i : Nat} : ∀ {vs : List Nat}, i ∈ vs → (L2.wipe σ vs)[i]? = if i < σ.length then some none else none
  | [], m => by cases m
  | v :: vs, m => by
    rw [L2.wipe]
    by_cases hv : v = i
    · subst hv
      by_cases hl : v < σ.length
      · rw [List.getElem?_set_self (by rw [L2.wipe_length]; exact hl), if_pos hl]
      · rw [List.getElem?_eq_none (by rw [List.length_set, L2.wipe_length]; omega), if_neg hl]
    · rw [List.getElem?_set_ne hv]
      exact wipe_at ((List.mem_cons.mp m).elim (fun z => absurd z.symm hv) id)
theorem wipe_same {σ σ2 : L2.St} {vs : List Nat} (hl : σ2.length = σ.length) (h : ∀ i, i ∉ vs → σ2[i]? = σ[i]?) : L2.wipe σ2 vs = L2.wipe σ vs := by
  refine List.ext_getElem? fun i => ?_
  by_cases m : i ∈ vs
  · rw [wipe_at m, wipe_at m, hl]
  · rw [wipe_out m, wipe_out m, h i m]
theorem wipe_agree {σ : L2.St} {e : E} {F : List Addr} {vs : List Nat} (r : RelS K H σ e F) (hw : ∀ i d, e[i]? = some (some d) → i ∉ vs) : RelS K H (L2.wipe σ vs) e F :=
  r.agree (L2.wipe_length _ _) fun i d q => wipe_out (hw i d q)
end
/-- the list so far, at L -/
structure Acc (K : PySem.W.Frag) (F : List Addr) (H H' : Hp) (L : Addr) (acc : List D) (F' : List Addr) : Prop where
  ex : ∃ vs G, H' L = some (.lst vs) ∧ Rps K H' vs acc G ∧ (∀ a ∈ G, a ∉ F') ∧ L ∉ G ∧ G.Nodup ∧ ∀ a ∈ G, a ∈ F ∨ H a = none
  nin : L ∉ F'
  new : L ∈ F ∨ H L = none
section
variable {K : PySem.W.Frag}
theorem Acc.keep {F F' F2 : List Addr} {H H' H2 : Hp} {L : Addr} {acc : List D} {σ2 : L2.St} {e2 : E} (a : Acc K F H H' L acc F') (y : Ev K F' H' σ2 H2 e2 F2) : Acc K F H H2 L acc F2 := by
  obtain ⟨⟨vs, G, h1, h2, h3, h4, h5, h6⟩, n1, n2⟩ := a
  refine ⟨⟨vs, G, y.k _ _ h1 (.inr n1), h2.keep y.k h3, fun b m m' => ?_, h4, h5, h6⟩, fun m => ?_, n2⟩
  · exact (y.new b m').elim (h3 b m) (h2.there m)
  · exact (y.new L m).elim n1 (by rw [h1]; exact fun z => by cases z)
theorem Acc.less {F F' F2 : List Addr} {H H' : Hp} {L : Addr} {acc : List D} (a : Acc K F H H' L acc F') (h : ∀ b ∈ F2, b ∈ F') : Acc K F H H' L acc F2 := by
  obtain ⟨⟨vs, G, h1, h2, h3, h4, h5, h6⟩, n1, n2⟩ := a
  exact ⟨⟨vs, G, h1, h2, fun b m m' => h3 b m (h b m'), h4, h5, h6⟩, fun m => n1 (h L m), n2⟩
end
theorem comp_ok {K : PySem.W.Frag} {J : It} {items : List D} {P : Hp → Prop} {A : List Addr} (src : Src K J items P A) {g : MG} {tt : MT} {te : ME} {vs : List Nat} {σ : L2.St} {H0 H1 : Hp} {F0 F1 : List Addr} {e1 : E} {Q : VK}
    (x0 : Ev K F0 H0 σ H1 e1 F1) (hA : ∀ a ∈ A, a ∉ F1 ∧ H1 a ≠ none) (hp : P H1) (hfit : fits items.length = true) (hw0 : ∀ i d, e1[i]? = some (some d) → i ∉ vs)
    (h : match mComp g tt te vs items e1 [] with
      | .ok acc e2 => ∀ v H' F', Ev K F0 H0 (some v :: σ) H' (some (.lst acc) :: e2) F' → Q v H'
      | _ => False) (L : Addr) (hL : H1 L = none) :
    ∃ V : Nat → Nat → Hp → Prop, (∃ m, V 0 m (upd H1 L (.lst []))) ∧ ∀ i m H, V i m H → (J.stop i H ∧ Q (.ref L) H) ∨ (J.go i H ∧ ∃ Nx : Hp → Prop, (∀ H', Nx H' → ∃ m', m' < m ∧ V (i + 1) m' H') ∧ ∀ x H', J.yld i H x H' →
      tG K (zw vs) g x (L2.wipe σ vs) H' fun σ2 H2 => L2.wipe σ2 vs = L2.wipe σ vs ∧ tT K wF tt σ2 H2 fun b H3 =>
        if b = true then tE K wF te σ2 H3 fun y H4 => ∃ acc, H4 L = some (.lst acc) ∧ acc.length < sizeLine ∧ Nx (upd H4 L (.lst (acc ++ [y]))) else Nx H3) := by
  have k0 : Keeps [] H1 (upd H1 L (.lst [])) := .new hL []
  have x1 : Ev K F0 H0 σ (upd H1 L (.lst [])) e1 F1 := x0.grow k0
  have LA : L ∉ A := fun m => (hA L m).2 hL
  have newL : L ∈ F0 ∨ H0 L = none := by
    by_cases z : L ∈ F0
    · exact .inl z
    · exact .inr (x0.k.none hL z)
  have a0 : Acc K F0 H0 (upd H1 L (.lst [])) L [] F1 := ⟨⟨[], [], upd_same, .nil, (fun _ m => by cases m), (fun m => by cases m), .nil, fun _ m => by cases m⟩, fun m => x0.r.there m hL, newL⟩
  have hA1 : ∀ a ∈ A, a ∉ F1 ∧ (upd H1 L (.lst [])) a ≠ none := fun a m => ⟨(hA a m).1, by rw [upd_ne (fun z => LA (by rw [← z]; exact m))]; exact (hA a m).2⟩
  refine ⟨fun i m H' => i + m = items.length ∧ P H' ∧ ∃ e' F' acc, Ev K F0 H0 σ H' e' F' ∧ Acc K F0 H0 H' L acc F' ∧ (∀ a ∈ A, a ∉ F' ∧ H' a ≠ none) ∧ (∀ j d, e'[j]? = some (some d) → j ∉ vs) ∧ acc.length ≤ i ∧ mComp g tt te vs (items.drop i) e' acc = mComp g tt te vs items e1 [],
    ⟨items.length, by omega, src.st [] _ _ (fun _ _ m => by cases m) k0 hp, e1, F1, [], x1, a0, hA1, hw0, Nat.le_refl _, by rw [List.drop_zero]⟩, fun i m H' hV => ?_⟩
  obtain ⟨him, hp', e', F', acc, ev, ac, hA', hw, hlen, hl⟩ := hV
  by_cases hi : i < items.length
  · refine .inr ⟨src.go i H' hp' hi, fun H2 => P H2 ∧ ∃ e2 F2 acc, Ev K F0 H0 σ H2 e2 F2 ∧ Acc K F0 H0 H2 L acc F2 ∧ (∀ a ∈ A, a ∉ F2 ∧ H2 a ≠ none) ∧ (∀ j d, e2[j]? = some (some d) → j ∉ vs) ∧ acc.length ≤ i + 1 ∧ mComp g tt te vs (items.drop (i + 1)) e2 acc = mComp g tt te vs items e1 [],
      fun H2 hN => ?_, fun y H2 hy => ?_⟩
    · obtain ⟨q1, e2, F2, acc2, q2, q3, q4, q5, q6, q7⟩ := hN
      exact ⟨m - 1, by omega, by omega, q1, e2, F2, acc2, q2, q3, q4, q5, q6, q7⟩
    · obtain ⟨ky, py⟩ := src.yld i H' y H2 hp' hi hy
      rw [List.drop_eq_getElem_cons hi, mComp] at hl
      cases qg : g items[i] e' with
      | none => rw [qg] at hl; rw [← hl] at h; exact h.elim
      | some e2 =>
        rw [qg] at hl
        simp only at hl
        have evy : Ev K F0 H0 σ H2 e' F' := ev.grow ky
        have acy : Acc K F0 H0 H2 L acc F' := ac.keep ⟨ky.mono (fun _ m => by cases m), ev.r.same ky, ev.nd, fun a m => .inl m⟩
        have py' : P H2 := src.st [] _ _ (fun _ _ m => by cases m) ky hp'
        have there : ∀ {S : List Addr} {Ha Hb : Hp}, (∀ a ∈ A, a ∉ S) → Keeps S Ha Hb → (∀ a ∈ A, Ha a ≠ none) → ∀ a ∈ A, Hb a ≠ none := fun {S Ha Hb} hs k ht a m z => by
          cases q : Ha a with
          | none => exact ht a m q
          | some o => rw [k a o q (.inr (hs a m))] at z; cases z
        refine ⟨items[i], e', F', e2, py, wipe_agree evy.r hw, evy.nd, qg, fun σ2 H3 F3 ev3 fz3 => ⟨?_, ?_⟩⟩
        · have w1 : L2.wipe (L2.wipe σ vs) vs = L2.wipe σ vs := wipe_same (L2.wipe_length _ _) fun i m => wipe_out m
          rw [wipe_same fz3.1 fun i m => fz3.2 i (by simp [zw, m]), w1]
        · have P3 : P H3 := src.st F' H2 H3 (fun a m => (hA' a m).1) ev3.k py'
          have ac3 := acy.keep ev3
          have at2 : ∀ a ∈ A, H2 a ≠ none := there (S := []) (fun _ _ m => by cases m) ky fun a m => (hA' a m).2
          have at3 : ∀ a ∈ A, a ∉ F3 ∧ H3 a ≠ none := fun a m => ⟨fun z => (ev3.new a z).elim (hA' a m).1 (at2 a m), there (fun a m => (hA' a m).1) ev3.k at2 a m⟩
          -- the outer slots again
          have outer : ∀ {σ4 : L2.St} {H4 : Hp} {e4 : E} {F4 : List Addr}, Ev K F' H2 σ4 H4 e4 F4 → Fz (zw vs) (L2.wipe σ vs) σ4 → ∃ F5, Ev K F0 H0 σ H4 (wipeE e4 vs) F5 ∧ ∀ a ∈ F5, a ∈ F4 := by
            intro σ4 H4 e4 F4 ev4 fz4
            obtain ⟨F5, r5, n5, s5⟩ := ev4.r.wipe ev4.nd vs
            refine ⟨F5, ⟨evy.k.trans ev4.k evy.new, r5.agree (by rw [fz4.1, L2.wipe_length]) fun j d q => ?_, n5, fun a m => ?_⟩, s5⟩
            · obtain ⟨m1, _⟩ := wipeE_in q
              rw [fz4.2 j (by simp [zw, m1]), wipe_out m1]
            · rcases ev4.new a (s5 a m) with z | z
              · exact evy.new a z
              · by_cases zz : a ∈ F0
                · exact .inl zz
                · exact .inr (evy.k.none z zz)
          refine ⟨e2, F3, ev3.r, ev3.nd, ?_⟩
          cases qt : tt e2 with
          | bad => rw [qt] at hl; rw [← hl] at h; exact h.elim
          | exc z e3 => rw [qt] at hl; rw [← hl] at h; exact h.elim
          | ok b e3 =>
            rw [qt] at hl
            simp only at hl
            intro H4 F4 ev4
            have evB := ev3.trans ev4
            have ac4 := ac3.keep ev4
            have P4 : P H4 := src.st F3 H3 H4 (fun a m => (at3 a m).1) ev4.k P3
            have at4 : ∀ a ∈ A, a ∉ F4 ∧ H4 a ≠ none := fun a m => ⟨fun z => (ev4.new a z).elim (at3 a m).1 (at3 a m).2, there (fun a m => (at3 a m).1) ev4.k (fun a m => (at3 a m).2) a m⟩
            cases b with
            | false =>
              simp only [Bool.false_eq_true, if_false] at hl ⊢
              obtain ⟨F5, ev5, s5⟩ := outer evB fz3
              exact ⟨P4, _, F5, acc, ev5, ac4.less s5, fun a m => ⟨fun z => (at4 a m).1 (s5 a z), (at4 a m).2⟩, fun j d q => (wipeE_in q).1, by omega, hl⟩
            | true =>
              simp only [if_true] at hl ⊢
              refine ⟨e3, F4, ev4.r, ev4.nd, ?_⟩
              cases qe : te e3 with
              | bad => rw [qe] at hl; rw [← hl] at h; exact h.elim
              | exc z e4 => rw [qe] at hl; rw [← hl] at h; exact h.elim
              | ok d e4 =>
                rw [qe] at hl
                simp only at hl
                intro v H5 F5 ev5
                obtain ⟨Gv, F6, eF, pv, ev6, hd6, n6, nw6⟩ := ev5.head
                obtain ⟨⟨ws, G, g1, g2, g3, h4, h5, h6⟩, n4, nL2⟩ := ac4
                have L4 : H4 L ≠ none := by rw [g1]; exact fun z => by cases z
                have h1 := ev6.k _ _ g1 (.inr n4)
                have h2 := g2.keep ev6.k g3
                have h3 : ∀ a ∈ G, a ∉ F6 := fun a m m' => (ev6.new a m').elim (g3 a m) (g2.there m)
                have nL : L ∉ F6 := fun m => (ev6.new L m).elim n4 L4
                have P5 : P H5 := src.st F4 H4 H5 (fun a m => (at4 a m).1) ev6.k P4
                have at5 : ∀ a ∈ A, a ∉ F6 ∧ H5 a ≠ none := fun a m => ⟨fun z => (ev6.new a z).elim (at4 a m).1 (at4 a m).2, there (fun a m => (at4 a m).1) ev6.k (fun a m => (at4 a m).2) a m⟩
                have lw : ws.length < sizeLine := by
                  rw [h2.length]
                  have := fits_le hfit
                  omega
                refine ⟨ws, h1, lw, ?_⟩
                have LGv : L ∉ Gv := fun m => (nw6 L m).elim n4 L4
                have dGv : ∀ a ∈ Gv, a ∉ G := fun a m m' => (nw6 a m).elim (g3 a m') (g2.there m')
                have kL : Keeps [L] H5 (upd H5 L (.lst (ws ++ [v]))) := .upd h1 rfl List.mem_cons_self
                obtain ⟨F7, ev7, s7⟩ := outer (evB.trans ev6) fz3
                have L7 : L ∉ F7 := fun m => nL (s7 L m)
                have kF : Keeps F0 H0 (upd H5 L (.lst (ws ++ [v]))) := fun a o q z => by
                  by_cases y : a = L
                  · subst y
                    rcases nL2 with n | n
                    · rcases z with z | z
                      · have := ev7.k a o q (.inl z)
                        rw [h1] at this; cases this; cases z
                      · exact absurd n z
                    · rw [n] at q; cases q
                  · rw [upd_ne y]; exact ev7.k a o q z
                have ev8 : Ev K F0 H0 σ (upd H5 L (.lst (ws ++ [v]))) (wipeE e4 vs) F7 := ⟨kF, ev7.r.keep kL fun a m z => L7 (by rw [← List.mem_singleton.mp z]; exact m), ev7.nd, ev7.new⟩
                refine ⟨src.st [L] _ _ (fun a m z => LA (by rw [← List.mem_singleton.mp z]; exact m)) kL P5, _, F7, acc ++ [d], ev8, ⟨⟨ws ++ [v], G ++ (Gv ++ []), upd_same, (h2.keep kL fun a m z => h4 (by rw [← List.mem_singleton.mp z]; exact m)).append (.cons (pv.keep kL fun a m z => LGv (by rw [← List.mem_singleton.mp z]; exact m)) .nil), fun a m m' => ?_, fun m => ?_, ?_, fun a m => ?_⟩, L7, nL2⟩,
                  fun a m => ⟨fun z => (at5 a m).1 (s7 a z), by rw [upd_ne (fun z => LA (by rw [← z]; exact m))]; exact (at5 a m).2⟩, fun j d q => (wipeE_in q).1, by rw [List.length_append, List.length_singleton]; omega, hl⟩
                · rw [List.append_nil] at m
                  rcases List.mem_append.mp m with m | m
                  · exact h3 a m (s7 a m')
                  · exact hd6 a m (s7 a m')
                · rw [List.append_nil] at m
                  exact (List.mem_append.mp m).elim h4 LGv
                · rw [List.append_nil]
                  exact List.nodup_append.mpr ⟨h5, n6, fun a m b m' z => by subst z; exact dGv a m' m⟩
                · rw [List.append_nil] at m
                  rcases List.mem_append.mp m with m | m
                  · exact h6 a m
                  · rcases nw6 a m with z | z
                    · rcases evB.new a z with z | z
                      · exact evy.new a z
                      · by_cases zz : a ∈ F0
                        · exact .inl zz
                        · exact .inr (evy.k.none z zz)
                    · by_cases zz : a ∈ F0
                      · exact .inl zz
                      · exact .inr ((evy.k.trans evB.k evy.new).none z zz)
  · have ei : i = items.length := by omega
    subst ei
    rw [List.drop_length, mComp] at hl
    rw [← hl] at h
    obtain ⟨⟨ws, G, h1, h2, h3, h4, h5, h6⟩, nL, nL2⟩ := ac
    refine .inl ⟨src.stop H' hp', h (.ref L) H' _ (ev.cons (.lst h1 h2) (fun a m => ?_) (List.nodup_cons.mpr ⟨h4, h5⟩) fun a m => ?_)⟩
    · rcases List.mem_cons.mp m with z | m
      · subst z; exact nL
      · exact h3 a m
    · rcases List.mem_cons.mp m with z | m
      · subst z; exact nL2
      · exact h6 a m

theorem PTs.mono {X : Cx} {e : List Expr} {t t' : TT} (p : PTs X e t) (h : ∀ σ H Q, t' σ H Q → t σ H Q) : PTs X e t' := ⟨fun pins s σ H Q I q => p.run pins s σ H Q I (h _ _ _ q)⟩
section
variable {K : PySem.W.Frag} {W : WX} {σ : L2.St} {H : Hp} {Q : VK} {w : MW} {g : MG} {tt : MT} {te : ME} {vs : List Nat}
theorem lc_of (h : tE K W (eComp w g tt te vs) σ H Q) : tLc (tW K W w) (tG K (zw vs) g) (tT K wF tt) (tE K wF te) vs σ H Q := by
  obtain ⟨e, F, r, nd, h⟩ := h
  refine ⟨e, F, r, nd, ?_⟩
  unfold eComp at h
  cases q : w e with
  | bad => rw [q] at h; exact h
  | exc y e1 => rw [q] at h; exact h
  | ok items e1 =>
    rw [q] at h
    simp only at h
    by_cases hf : fits items.length = true
    · rw [if_pos hf] at h
      intro J H1 F1 A P src hp x hA L hL
      obtain ⟨F2, r2, n2, s2⟩ := x.r.wipe x.nd vs
      have x2 : Ev K F H σ H1 (wipeE e1 vs) F2 := ⟨x.k, r2, n2, fun a m => x.new a (s2 a m)⟩
      refine comp_ok src x2 (fun a m => ⟨fun z => (hA a m).1 (s2 a z), (hA a m).2⟩) hp hf (fun i d q => (wipeE_in q).1) ?_ L hL
      cases qc : mComp g tt te vs items (wipeE e1 vs) [] with
      | ok acc e2 => rw [qc] at h; exact h
      | exc y e2 => rw [qc] at h; exact h
      | bad => rw [qc] at h; exact h
    · rw [if_neg hf] at h; exact h.elim
end
section
variable {X : Cx} {W : WX} {Z : Zs} {w : MW} {g : MG} {tt : MT} {te : ME}
theorem ts_nil : PTs X [] (tT X.K wF tY) := PTs.mono pts_nil fun σ H Q ⟨e, F, r, nd, h⟩ => h H F (.refl r nd)
theorem ts_one {c : Expr} {t : MT} (h : PT X c (tT X.K wF t)) : PTs X [c] (tT X.K wF t) := pts_one h
theorem e_comp {elt tg iter : Expr} {ifs : List Expr} {scope : Scope} {own : List (Str × Nat)} {pos : Pos} (hi : PI X tg iter (tW X.K W w)) (hc : X.calm = true) (hN : X.N.Nodup) (ok : BlkOk X.N X.env.scope scope own)
    (hg : ∀ (s : Shared) (H : Hp) (C : Addr) (cl : List (Str × Addr)) (fp : List Addr), PG (X.blk s H scope (compEnvC scope cl C X.env) fp) tg (tG X.K (zw (own.map (·.2))) g)) (ht : ∀ (s : Shared) (H : Hp) (C : Addr) (cl : List (Str × Addr)) (fp : List Addr), PTs (X.blk s H scope (compEnvC scope cl C X.env) fp) ifs (tT X.K wF tt))
    (he : ∀ (s : Shared) (H : Hp) (C : Addr) (cl : List (Str × Addr)) (fp : List Addr), PE (X.blk s H scope (compEnvC scope cl C X.env) fp) elt (tE X.K wF te)) (hs : ∀ x, foldedSetIterable iter X.env x = pure x := by intro _; rfl) :
    PE X (.ListComp elt [⟨tg, iter, ifs, 0⟩] scope pos) (tE X.K W (eComp w g tt te (own.map (·.2)))) := PE.mono (pe_lc hc hN hi ok hg ht he hs) fun _ _ _ h => lc_of h
theorem m_setLc {i : Nat} {y : Str} {py : Pos} {elt tg iter : Expr} {ifs : List Expr} {scope : Scope} {own : List (Str × Nat)} {pos spos : Pos} (hi : PI X tg iter (tW X.K W w)) (hc : X.calm = true) (hN : X.N.Nodup)
    (hsw : swapsWith (.ListComp elt [⟨tg, iter, ifs, 0⟩] scope pos) (some (.Name y py)) spos.line X.env = pure true) (ok : BlkOk X.N X.env.scope scope own)
    (hg : ∀ (s : Shared) (H : Hp) (C : Addr) (cl : List (Str × Addr)) (fp : List Addr), PG (X.blk s H scope (compEnvC scope cl C X.env) fp) tg (tG X.K (zw (own.map (·.2))) g)) (ht : ∀ (s : Shared) (H : Hp) (C : Addr) (cl : List (Str × Addr)) (fp : List Addr), PTs (X.blk s H scope (compEnvC scope cl C X.env) fp) ifs (tT X.K wF tt))
    (he : ∀ (s : Shared) (H : Hp) (C : Addr) (cl : List (Str × Addr)) (fp : List Addr), PE (X.blk s H scope (compEnvC scope cl C X.env) fp) elt (tE X.K wF te)) (hz : Z i = false := by rfl) (hy : X.N[i]? = some y := by rfl) (hyl : X.env.scope.names.lookup y = some .local := by rfl) (hs : ∀ x, foldedSetIterable iter X.env x = pure x := by intro _; rfl) :
    PS X (.Assign [.Name y py] (.ListComp elt [⟨tg, iter, ifs, 0⟩] scope pos) spos) (tM X.K W Z (mSet i (eComp w g tt te (own.map (·.2))))) := PS.mono (ps_setLc hc hN hy hyl hsw hi ok hg ht he hs) fun D σ H h => by
  obtain ⟨e, F, r, nd, h⟩ := h
  refine lc_of (Q := fun x H1 => gName i x σ H1 D.nx) (W := W) ⟨e, F, r, nd, ?_⟩
  unfold mSet at h
  cases q : eComp w g tt te (own.map (·.2)) e with
  | bad => rw [q] at h; exact h
  | exc y e1 => rw [q] at h; exact fun c dx H' F' x p => h c dx σ H' F' x (.refl _ _) p
  | ok d e1 =>
    rw [q] at h
    intro v H' F' x
    obtain ⟨F3, y⟩ := x.put i
    exact h _ H' F3 y (.set hz)
end
end Mir

namespace Mir
open PySem PySem.Spec L2

/-! ### defs whose arguments can't change -/
abbrev MD := List D → Rs D
def spN (K : PySem.W.Frag) (n : Nat) (m : MD) : Sp := fun vs H Q E => vs.length = n ∧ ∃ ds, Rps K H vs ds [] ∧ match m ds with
  | .ok d => ∀ v H' G, Keeps [] H H' → Rp K H' v d G → G.Nodup → (∀ a ∈ G, H a = none) → Q v H'
  | .exc x => ∀ c dx H', Keeps [] H H' → RpX K H' c dx x → E c dx H'
  | .bad => False
def mRes : SR → Rs D
  | .rt d _ => .ok d
  | .nx _ => .ok .non
  | .exc x _ => .exc x
  | _ => .bad
def mDef (k : Nat) (mb : MS) : MD := fun ds => if imms ds = true then mRes (mb (ds.map some ++ List.replicate k none)) else .bad
theorem RelS.nones {K : PySem.W.Frag} {H : Hp} : ∀ k : Nat, RelS K H (List.replicate k none) (List.replicate k none) []
  | 0 => .nil
  | k + 1 => .no (RelS.nones k)
theorem RelS.start {K : PySem.W.Frag} {H : Hp} {k : Nat} : ∀ {vs : List V} {ds : List D} {F : List Addr}, Rps K H vs ds F → RelS K H (vs.map some ++ List.replicate k none) (ds.map some ++ List.replicate k none) F
  | _, _, _, .nil => RelS.nones k
  | _, _, _, .cons p r => .so p (RelS.start r)
section
variable {P : Program} {w : World} {K : PySem.W.Frag} {mg : Str → Option Value} {base : Heap}
theorem body_ok {W : WX} {mb : MS} {N : List Str} {vs : List V} {ds : List D} {H : Hp} {Q : VK} {E : XK} {n : Nat} (hN : N.length - vs.length = n) (hW : ∀ c dx σ H', E c dx H' → W c dx σ H')
    (r : Rps K H vs ds []) (h : match mDef n mb ds with
      | .ok d => ∀ v H' G, Keeps [] H H' → Rp K H' v d G → G.Nodup → (∀ a ∈ G, H a = none) → Q v H'
      | .exc x => ∀ c dx H', Keeps [] H H' → RpX K H' c dx x → E c dx H'
      | .bad => False) : tM K W z0 mb { nx := fun _ H' => Q .non H', rt := Q } (L2.start N vs) H := by
  unfold mDef at h
  by_cases hi : imms ds = true
  · rw [if_pos hi] at h
    unfold L2.start
    rw [hN]
    refine ⟨_, _, RelS.start r, .nil, ?_⟩
    cases q : mb (ds.map some ++ List.replicate n none) with
    | nx e' => rw [q] at h; exact fun σ' H' F' x _ => h .non H' [] x.k .non .nil fun _ m => by cases m
    | rt d e' =>
      rw [q] at h
      intro v σ' H' F' x _
      obtain ⟨G, F0, eF, p, x', hd, n1, nw⟩ := x.head
      exact h v H' G x.k p n1 fun a m => (nw a m).elim (fun z => by cases z) id
    | exc y e' =>
      rw [q] at h
      exact fun c dx σ' H' F' x _ p => hW c dx σ' H' (h c dx H' x.k p)
    | bk e' => rw [q] at h; exact h.elim
    | ct e' => rw [q] at h; exact h.elim
    | bad => rw [q] at h; exact h.elim
  · rw [if_neg hi] at h; exact h.elim
/-- a def that lets nothing out -/
theorem ok_def {x qual : Str} {st : Stmt} {f : Addr} {fd : FuncData} {N ps : List Str} {k : Nat} {mb : MS} (F : Fun K x qual st f fd) (S : FnScope N ps (defScope st)) {n q : Nat} (hn : ps.length = n) (hq : N.length - n = q)
    (hb : ∀ (cdv : Value) (A : Around) (outer : List Env) (s : Shared) (H : Hp) (E : XK), Room k (A.deeper (PyProof.Rows.envOfC qual (defScope st) s.heap.objs.size f cdv)) →
      PSs (cxOf CX0 P w K mg base N qual (defScope st) f cdv A outer s H E).nox (defBody st) (tM K wF z0 mb))
    (hx : ∀ ds x, mDef q mb ds ≠ .exc x) : FnOk P w K mg base CX0 (k + 1) f fd ps (spN K n (mDef q mb)) :=
  F.ok S (fun vs H Q E h => h.1.trans hn.symm) fun cdv A outer s H vs Q E hr h => ⟨_, hb cdv A outer s H E hr, by
    obtain ⟨hl, ds, r, h⟩ := h
    refine body_ok (n := q) (E := fun _ _ _ => False) (by rw [hl]; exact hq) (fun _ _ _ _ z => z.elim) r ?_
    cases e : mDef q mb ds with
    | ok d => rw [e] at h; exact h
    | exc x => exact absurd e (hx ds x)
    | bad => rw [e] at h; exact h⟩
/-- a def that may raise -/
theorem ok_defX {x qual : Str} {st : Stmt} {f : Addr} {fd : FuncData} {N ps : List Str} {k : Nat} {mb : MS} (F : Fun K x qual st f fd) (S : FnScope N ps (defScope st)) {n q : Nat} (hn : ps.length = n) (hq : N.length - n = q)
    (hb : ∀ (cdv : Value) (A : Around) (outer : List Env) (s : Shared) (H : Hp) (E : XK), Room k (A.deeper (PyProof.Rows.envOfC qual (defScope st) s.heap.objs.size f cdv)) →
      PSs (cxOf (L2.CX P w) P w K mg base N qual (defScope st) f cdv A outer s H E) (defBody st) (tM K (fun c dx _ H' => E c dx H') z0 mb)) : FnOk P w K mg base (L2.CX P w) (k + 1) f fd ps (spN K n (mDef q mb)) :=
  F.okX S (fun vs H Q E h => h.1.trans hn.symm) fun cdv A outer s H vs Q E hr h => ⟨_, hb cdv A outer s H E hr, by
    obtain ⟨hl, ds, r, h⟩ := h
    exact body_ok (n := q) (by rw [hl]; exact hq) (fun _ _ _ _ z => z) r h⟩
end
/-! ### their calls -/
def cN (m : MD) (ms : MA) : MB := fun e => (ms e).bind fun ds => if imms ds = true then m ds else .bad
def cE (m : MD) (ns : MAE) : ME := fun e => (ns e).bind fun ds e1 => if imms ds = true then (m ds).at e1 else .bad
section
variable {K : PySem.W.Frag} {W : WX} {σ : L2.St} {H : Hp} {Q : VK} {n : Nat} {m : MD} {ms : MA} {ns : MAE} {E : St → XK}
theorem def_b (hl : ∀ e ds, ms e = .ok ds → ds.length = n) (hE : ∀ c dx H', W c dx σ H' → E σ c dx H') (h : tN K W (cN m ms) σ H Q) : tAB K W ms σ H fun vs H1 => spN K n m vs H1 Q (E σ) := by
  obtain ⟨e, F, r, h⟩ := h
  refine ⟨e, F, r, ?_⟩
  unfold cN at h
  cases q : ms e with
  | bad => rw [q] at h; exact h
  | exc y => rw [q] at h; exact h
  | ok ds =>
    simp only [q, Rs.bind] at h
    intro vs H1 G k p
    by_cases hi : imms ds = true
    · rw [if_pos hi] at h
      have e0 := p.fpImm hi
      subst e0
      refine ⟨p.length.trans (hl e ds q), ds, p, ?_⟩
      cases qm : m ds with
      | ok d => rw [qm] at h; exact fun v H' G k' p' n1 n2 => h v H' G (k.trans k' fun _ m => by cases m) p' n1 fun z m => k.none (n2 z m) fun m => by cases m
      | exc y => rw [qm] at h; exact fun c dx H' k' p' => hE _ _ _ (h c dx H' (k.trans k' fun _ m => by cases m) p')
      | bad => rw [qm] at h; exact h
    · rw [if_neg hi] at h; exact h.elim
theorem def_e (hl : ∀ e ds e1, ns e = .ok ds e1 → ds.length = n) (hE : ∀ c dx H', W c dx σ H' → E σ c dx H') (h : tE K W (cE m ns) σ H Q) : tAE K W ns σ H fun vs H1 => spN K n m vs H1 Q (E σ) := by
  obtain ⟨e, F, r, nd, h⟩ := h
  refine ⟨e, F, r, nd, ?_⟩
  unfold cE at h
  cases q : ns e with
  | bad => rw [q] at h; exact h
  | exc y e1 => rw [q] at h; exact h
  | ok ds e1 =>
    simp only [q, Re.bind] at h
    intro vs H1 G F1 x
    by_cases hi : imms ds = true
    · rw [if_pos hi] at h
      have e0 := x.ps.fpImm hi
      subst e0
      refine ⟨x.ps.length.trans (hl e ds e1 q), ds, x.ps, ?_⟩
      cases qm : m ds with
      | ok d => rw [qm] at h; exact fun v H' G k' p' n1 n2 => h v H' _ (x.ev.consNew k' p' n1 n2)
      | exc y => rw [qm] at h; exact fun c dx H' k' p' => hE _ _ _ (h c dx H' F1 (x.ev.grow k') p')
      | bad => rw [qm] at h; exact h
    · rw [if_neg hi] at h; exact h.elim
variable {X : Cx} {k : Nat} {f : Addr} {fd : FuncData} {ps : List Str} {x : Str} {p pos : Pos} {e : Expr} {es : List Expr}
/-- a call of a def that lets nothing out -/
theorem x_def (F : FnOk X.prog X.w X.K X.mg X.base CX0 k f fd ps (spN X.K n m)) (hr : Room k X.A) (hm : X.mg x = some (.ref f)) (hk : PySem.W.keepIn X.K (.ref f) = true) (hb : Binds X.K fd ps []) (hg : Gl X x) (hl : ∀ e ds, ms e = .ok ds → ds.length = n) (hx : ∀ ds y, m ds ≠ .exc y)
    (ha : PA X (e :: es) (tAB X.K W ms)) (q : PE X (.Call (.Name x p) (e :: es) [] pos) (tCall (spN X.K n m) [] E0 (tAB X.K W ms))) : PE X (.Call (.Name x p) (e :: es) [] pos) (tN X.K W (cN m ms)) := PE.mono q fun σ H Q ⟨e, F, r, h⟩ => by
  refine ⟨e, F, r, ?_⟩
  unfold cN at h
  cases q : ms e with
  | bad => rw [q] at h; exact h
  | exc y => rw [q] at h; exact h
  | ok ds =>
    simp only [q, Rs.bind] at h
    intro vs H1 G k p
    by_cases hi : imms ds = true
    · rw [if_pos hi] at h
      have e0 := p.fpImm hi
      subst e0
      rw [List.append_nil]
      refine ⟨p.length.trans (hl e ds q), ds, p, ?_⟩
      cases qm : m ds with
      | ok d => rw [qm] at h; exact fun v H' G k' p' n1 n2 => h v H' G (k.trans k' fun _ m => by cases m) p' n1 fun z m => k.none (n2 z m) fun m => by cases m
      | exc y => exact absurd qm (hx ds y)
      | bad => rw [qm] at h; exact h
    · rw [if_neg hi] at h; exact h.elim
theorem e_def (hl : ∀ e ds e1, ns e = .ok ds e1 → ds.length = n) (hx : ∀ ds y, m ds ≠ .exc y)
    (q : PE X (.Call (.Name x p) (e :: es) [] pos) (tCall (spN X.K n m) [] E0 (tAE X.K W ns))) : PE X (.Call (.Name x p) (e :: es) [] pos) (tE X.K W (cE m ns)) := PE.mono q fun σ H Q ⟨e, F, r, nd, h⟩ => by
  refine ⟨e, F, r, nd, ?_⟩
  unfold cE at h
  cases q : ns e with
  | bad => rw [q] at h; exact h
  | exc y e1 => rw [q] at h; exact h
  | ok ds e1 =>
    simp only [q, Re.bind] at h
    intro vs H1 G F1 x
    by_cases hi : imms ds = true
    · rw [if_pos hi] at h
      have e0 := x.ps.fpImm hi
      subst e0
      rw [List.append_nil]
      refine ⟨x.ps.length.trans (hl e ds e1 q), ds, x.ps, ?_⟩
      cases qm : m ds with
      | ok d => rw [qm] at h; exact fun v H' G k' p' n1 n2 => h v H' _ (x.ev.consNew k' p' n1 n2)
      | exc y => exact absurd qm (hx ds y)
      | bad => rw [qm] at h; exact h
    · rw [if_neg hi] at h; exact h.elim
/-- a call of a def that may raise -/
theorem x_defX (hl : ∀ e ds, ms e = .ok ds → ds.length = n) (q : PE X (.Call (.Name x p) (e :: es) [] pos) (tCallS (spN X.K n m) (WE W) (tAB X.K W ms))) : PE X (.Call (.Name x p) (e :: es) [] pos) (tN X.K W (cN m ms)) :=
  PE.mono q fun σ H Q h => def_b hl (fun _ _ _ z => z) h
theorem e_defX (hl : ∀ e ds e1, ns e = .ok ds e1 → ds.length = n) (q : PE X (.Call (.Name x p) (e :: es) [] pos) (tCallS (spN X.K n m) (WE W) (tAE X.K W ns))) : PE X (.Call (.Name x p) (e :: es) [] pos) (tE X.K W (cE m ns)) :=
  PE.mono q fun σ H Q h => def_e hl (fun _ _ _ z => z) h
end

/-! ### defs that change what they are handed -/
inductive DR where | rt (d : D) (os : List D) | exc (x : Ex) (os : List D) | bad
abbrev MI := List D → DR
def spI (K : PySem.W.Frag) (n : Nat) (m : MI) : Sp := fun vs H Q E => vs.length = n ∧ ∃ ds F, Rps K H vs ds F ∧ F.Nodup ∧ match m ds with
  | .rt d os => ∀ v H' G F', Keeps F H H' → Rps K H' vs os F' → Rp K H' v d G → F'.Nodup → G.Nodup → (∀ a ∈ G, a ∉ F') → (∀ a ∈ F', a ∈ F ∨ H a = none) → (∀ a ∈ G, a ∈ F ∨ H a = none) → Q v H'
  | .exc x os => ∀ c dx H' F', Keeps F H H' → Rps K H' vs os F' → F'.Nodup → (∀ a ∈ F', a ∈ F ∨ H a = none) → RpX K H' c dx x → E c dx H'
  | .bad => False
/-- what the changed arguments are at the end -/
def outsOf (Z : Zs) : Nat → List D → E → Option (List D)
  | _, [], _ => some []
  | j, d :: ds, e => if Z j = true then (match e[j]? with
      | some (some d') => (outsOf Z (j + 1) ds (e.set j none)).map (d' :: ·)
      | _ => none) else if imm d = true then (outsOf Z (j + 1) ds e).map (d :: ·) else none
def mResI (Z : Zs) (ds : List D) : SR → DR
  | .rt d e => match outsOf Z 0 ds e with
    | some os => .rt d os
    | none => .bad
  | .nx e => match outsOf Z 0 ds e with
    | some os => .rt .non os
    | none => .bad
  | .exc x e => match outsOf Z 0 ds e with
    | some os => .exc x os
    | none => .bad
  | _ => .bad
def mDefI (k : Nat) (Z : Zs) (mb : MS) : MI := fun ds => mResI Z ds (mb (ds.map some ++ List.replicate k none))
theorem outs_ok {K : PySem.W.Frag} {H H' : Hp} {Z : Zs} {σ' : L2.St} {S : List Addr} (k : Keeps S H H') : ∀ {vs : List V} {ds os : List D} {F F' : List Addr} {e' : E} (j : Nat), Rps K H vs ds F → RelS K H' σ' e' F' → F'.Nodup →
    (∀ i v, vs[i]? = some v → Z (j + i) = true → σ'[j + i]? = some (some v)) → outsOf Z j ds e' = some os → ∃ Fo, Rps K H' vs os Fo ∧ Fo.Nodup ∧ ∀ a ∈ Fo, a ∈ F'
  | _, _, os, _, F', e', j, .nil, r, nd, hs, h => by
    cases h
    exact ⟨[], .nil, .nil, fun _ m => by cases m⟩
  | _, _, os, _, F', e', j, .cons (v := v) (d := d) (vs := vs) (ds := ds) (F := F1) (G := G1) p rs, r, nd, hs, h => by
    unfold outsOf at h
    by_cases hz : Z j = true
    · rw [if_pos hz] at h
      cases q : e'[j]? with
      | none => rw [q] at h; cases h
      | some oo =>
        rw [q] at h
        cases oo with
        | none => cases h
        | some d' =>
          obtain ⟨os', h1, h2⟩ := Option.map_eq_some_iff.mp h
          subst h2
          obtain ⟨v', G, F0, q1, q2, q3, q4⟩ := r.take q
          have e0 := hs 0 v rfl (by rw [Nat.add_zero]; exact hz)
          rw [Nat.add_zero, q1] at e0
          injection e0 with e0
          injection e0 with e0
          subst e0
          have n0 := q4.nodup_iff.mp nd
          obtain ⟨n1, n2, n3⟩ := List.nodup_append.mp n0
          obtain ⟨Fo, r1, r2, r3⟩ := outs_ok k (j + 1) rs q3 n2 (fun i w hw hz' => by
            have := hs (i + 1) w (by simpa using hw) (by rw [show j + (i + 1) = j + 1 + i by omega]; exact hz')
            rw [show j + (i + 1) = j + 1 + i by omega] at this
            exact this) h1
          refine ⟨G ++ Fo, .cons q2 r1, List.nodup_append.mpr ⟨n1, r2, fun a m b m' z => by subst z; exact n3 a m a (r3 a m') rfl⟩, fun a m => q4.mem_iff.mpr ?_⟩
          rcases List.mem_append.mp m with m | m
          · exact List.mem_append_left _ m
          · exact List.mem_append_right _ (r3 a m)
    · rw [if_neg hz] at h
      by_cases hi : imm d = true
      · rw [if_pos hi] at h
        obtain ⟨os', h1, h2⟩ := Option.map_eq_some_iff.mp h
        subst h2
        have e0 := p.fpImm hi
        subst e0
        obtain ⟨Fo, r1, r2, r3⟩ := outs_ok k (j + 1) rs r nd (fun i w hw hz' => by
          have := hs (i + 1) w (by simpa using hw) (by rw [show j + (i + 1) = j + 1 + i by omega]; exact hz')
          rw [show j + (i + 1) = j + 1 + i by omega] at this
          exact this) h1
        exact ⟨[] ++ Fo, .cons (p.keep k fun _ m => by cases m) r1, r2, r3⟩
      · rw [if_neg hi] at h; cases h
section
variable {P : Program} {w : World} {K : PySem.W.Frag} {mg : Str → Option Value} {base : Heap}
theorem start_at {N : List Str} {vs : List V} {i : Nat} {v : V} (h : vs[i]? = some v) : (L2.start N vs)[i]? = some (some v) := by
  unfold L2.start
  obtain ⟨hi, _⟩ := List.getElem?_eq_some_iff.mp h
  rw [List.getElem?_append_left (by simpa using hi), List.getElem?_map, h]
  rfl
theorem bodyI_ok {W : WX} {mb : MS} {N : List Str} {Z : Zs} {vs : List V} {ds : List D} {F : List Addr} {H : Hp} {Q : VK} {E : XK} {n : Nat} (hN : N.length - vs.length = n) (hW : ∀ c dx σ H', E c dx H' → W c dx σ H')
    (r : Rps K H vs ds F) (nd : F.Nodup) (h : match mDefI n Z mb ds with
      | .rt d os => ∀ v H' G F', Keeps F H H' → Rps K H' vs os F' → Rp K H' v d G → F'.Nodup → G.Nodup → (∀ a ∈ G, a ∉ F') → (∀ a ∈ F', a ∈ F ∨ H a = none) → (∀ a ∈ G, a ∈ F ∨ H a = none) → Q v H'
      | .exc x os => ∀ c dx H' F', Keeps F H H' → Rps K H' vs os F' → F'.Nodup → (∀ a ∈ F', a ∈ F ∨ H a = none) → RpX K H' c dx x → E c dx H'
      | .bad => False) : tM K W Z mb { nx := fun _ H' => Q .non H', rt := Q } (L2.start N vs) H := by
  unfold mDefI at h
  have r0 : RelS K H (L2.start N vs) (ds.map some ++ List.replicate n none) F := by
    unfold L2.start
    rw [hN]
    exact RelS.start r
  have at_ : ∀ {σ' : L2.St}, Fz Z (L2.start N vs) σ' → ∀ i v, vs[i]? = some v → Z (0 + i) = true → σ'[0 + i]? = some (some v) := fun fz i v hv hz => by
    rw [Nat.zero_add] at hz ⊢
    rw [fz.2 i hz]
    exact start_at hv
  refine ⟨_, F, r0, nd, ?_⟩
  cases q : mb (ds.map some ++ List.replicate n none) with
  | nx e' =>
    rw [q] at h
    intro σ' H' F' x fz
    simp only [mResI] at h
    cases qo : outsOf Z 0 ds e' with
    | none => simp only [qo] at h
    | some os =>
      simp only [qo] at h
      obtain ⟨Fo, r1, r2, r3⟩ := outs_ok x.k 0 r x.r x.nd (at_ fz) qo
      exact h .non H' [] Fo x.k r1 .non r2 .nil (fun _ m => by cases m) (fun a m => x.new a (r3 a m)) fun _ m => by cases m
  | rt d e' =>
    rw [q] at h
    intro v σ' H' F' x fz
    obtain ⟨G, F0, eF, p, x', hd, n1, nw⟩ := x.head
    simp only [mResI] at h
    cases qo : outsOf Z 0 ds e' with
    | none => simp only [qo] at h
    | some os =>
      simp only [qo] at h
      obtain ⟨Fo, r1, r2, r3⟩ := outs_ok x'.k 0 r x'.r x'.nd (at_ fz) qo
      exact h v H' G Fo x'.k r1 p r2 n1 (fun a m m' => hd a m (r3 a m')) (fun a m => x'.new a (r3 a m)) nw
  | exc y e' =>
    rw [q] at h
    intro c dx σ' H' F' x fz p
    simp only [mResI] at h
    cases qo : outsOf Z 0 ds e' with
    | none => simp only [qo] at h
    | some os =>
      simp only [qo] at h
      obtain ⟨Fo, r1, r2, r3⟩ := outs_ok x.k 0 r x.r x.nd (at_ fz) qo
      exact hW c dx σ' H' (h c dx H' Fo x.k r1 r2 (fun a m => x.new a (r3 a m)) p)
  | bk e' => rw [q] at h; exact h.elim
  | ct e' => rw [q] at h; exact h.elim
  | bad => rw [q] at h; exact h.elim
theorem ok_defI {x qual : Str} {st : Stmt} {f : Addr} {fd : FuncData} {N ps : List Str} {k : Nat} {Z : Zs} {mb : MS} (F : Fun K x qual st f fd) (S : FnScope N ps (defScope st)) {n q : Nat} (hn : ps.length = n) (hq : N.length - n = q)
    (hb : ∀ (cdv : Value) (A : Around) (outer : List Env) (s : Shared) (H : Hp) (E : XK), Room k (A.deeper (PyProof.Rows.envOfC qual (defScope st) s.heap.objs.size f cdv)) →
      PSs (cxOf CX0 P w K mg base N qual (defScope st) f cdv A outer s H E).nox (defBody st) (tM K wF Z mb))
    (hx : ∀ ds x os, mDefI q Z mb ds ≠ .exc x os) : FnOk P w K mg base CX0 (k + 1) f fd ps (spI K n (mDefI q Z mb)) :=
  F.ok S (fun vs H Q E h => h.1.trans hn.symm) fun cdv A outer s H vs Q E hr h => ⟨_, hb cdv A outer s H E hr, by
    obtain ⟨hl, ds, F, r, nd, h⟩ := h
    refine bodyI_ok (n := q) (E := fun _ _ _ => False) (by rw [hl]; exact hq) (fun _ _ _ _ z => z.elim) r nd ?_
    cases e : mDefI q Z mb ds with
    | rt d os => rw [e] at h; exact h
    | exc x os => exact absurd e (hx ds x os)
    | bad => rw [e] at h; exact h⟩
theorem ok_defIX {x qual : Str} {st : Stmt} {f : Addr} {fd : FuncData} {N ps : List Str} {k : Nat} {Z : Zs} {mb : MS} (F : Fun K x qual st f fd) (S : FnScope N ps (defScope st)) {n q : Nat} (hn : ps.length = n) (hq : N.length - n = q)
    (hb : ∀ (cdv : Value) (A : Around) (outer : List Env) (s : Shared) (H : Hp) (E : XK), Room k (A.deeper (PyProof.Rows.envOfC qual (defScope st) s.heap.objs.size f cdv)) →
      PSs (cxOf (L2.CX P w) P w K mg base N qual (defScope st) f cdv A outer s H E) (defBody st) (tM K (fun c dx _ H' => E c dx H') Z mb)) : FnOk P w K mg base (L2.CX P w) (k + 1) f fd ps (spI K n (mDefI q Z mb)) :=
  F.okX S (fun vs H Q E h => h.1.trans hn.symm) fun cdv A outer s H vs Q E hr h => ⟨_, hb cdv A outer s H E hr, by
    obtain ⟨hl, ds, F, r, nd, h⟩ := h
    exact bodyI_ok (n := q) (by rw [hl]; exact hq) (fun _ _ _ _ z => z) r nd h⟩
end
end Mir

namespace Mir
open PySem PySem.Spec L2

/-! ### names handed on, to be changed -/
def slotV (σ : L2.St) (i : Nat) : V := match σ[i]? with
  | some (some v) => v
  | _ => .non
def tVars : List Nat → TA → TA
  | [], t => t
  | k :: ks, t => tCons (tVar k) (tVars ks t)
def there : List Nat → E → Bool
  | [], _ => true
  | k :: ks, e => match e[k]? with
    | some (some _) => there ks e
    | _ => false
def takeS : List Nat → E → Option (List D × E)
  | [], e => some ([], e)
  | k :: ks, e => match e[k]? with
    | some (some d) => (takeS ks (e.set k none)).map fun p => (d :: p.1, p.2)
    | _ => none
def putS : List Nat → List D → E → Option E
  | [], _, e => some e
  | k :: ks, d :: os, e => putS ks os (e.set k (some d))
  | _ :: _, [], _ => none
section
variable {K : PySem.W.Frag} {W : WX} {σ : L2.St} {H : Hp} {e : E} {F : List Addr}
theorem there_at (r : RelS K H σ e F) : ∀ {ks : List Nat}, there ks e = true → ∀ k ∈ ks, σ[k]? = some (some (slotV σ k))
  | [], _, k, m => by cases m
  | j :: ks, h, k, m => by
    unfold there at h
    cases q : e[j]? with
    | none => rw [q] at h; cases h
    | some oo =>
      rw [q] at h
      cases oo with
      | none => cases h
      | some d =>
        rcases List.mem_cons.mp m with z | m
        · subst z
          obtain ⟨v, G, h1, _, _⟩ := r.get q
          unfold slotV
          rw [h1]
        · exact there_at r h k m
theorem tVars_of {t : TA} : ∀ {ks : List Nat} {Q : List V → Hp → Prop}, (∀ k ∈ ks, σ[k]? = some (some (slotV σ k))) → t σ H (fun vs H1 => Q (ks.map (slotV σ) ++ vs) H1) → tVars ks t σ H Q
  | [], Q, _, h => h
  | k :: ks, Q, hk, h => ⟨slotV σ k, hk k List.mem_cons_self, tVars_of (fun j m => hk j (List.mem_cons_of_mem _ m)) h⟩
theorem takeS_ok : ∀ {ks : List Nat} {e e2 : E} {dk : List D} {F : List Addr}, RelS K H σ e F → takeS ks e = some (dk, e2) →
    ∃ Gk F2, Rps K H (ks.map (slotV σ)) dk Gk ∧ RelS K H σ e2 F2 ∧ F.Perm (Gk ++ F2) ∧ ∀ k ∈ ks, e2[k]? = some none
  | [], e, e2, dk, F, r, h => by
    cases h
    exact ⟨[], F, .nil, r, .refl _, fun _ m => by cases m⟩
  | k :: ks, e, e2, dk, F, r, h => by
    unfold takeS at h
    cases q : e[k]? with
    | none => rw [q] at h; cases h
    | some oo =>
      rw [q] at h
      cases oo with
      | none => cases h
      | some d =>
        obtain ⟨p, h1, h2⟩ := Option.map_eq_some_iff.mp h
        obtain ⟨ds, e3⟩ := p
        cases h2
        obtain ⟨v, G, F0, q1, q2, q3, q4⟩ := r.take q
        obtain ⟨Gk, F2, r1, r2, r3, r4⟩ := takeS_ok q3 h1
        have ev : slotV σ k = v := by unfold slotV; rw [q1]
        refine ⟨G ++ Gk, F2, ?_, r2, ?_, fun j m => ?_⟩
        · rw [List.map_cons, ev]
          exact .cons q2 r1
        · rw [List.append_assoc]
          exact q4.trans (List.Perm.append_left G r3)
        · rcases List.mem_cons.mp m with z | m
          · subst z
            have kl : j < e.length := (List.getElem?_eq_some_iff.mp q).1
            have keepn : ∀ {ks : List Nat} {e e2 : E} {dk : List D}, takeS ks e = some (dk, e2) → e[j]? = some none → e2[j]? = some none := by
              intro ks
              induction ks with
              | nil => intro e e2 dk h hn; cases h; exact hn
              | cons k ks ih =>
                intro e e2 dk h hn
                unfold takeS at h
                cases qq : e[k]? with
                | none => rw [qq] at h; cases h
                | some oo =>
                  rw [qq] at h
                  cases oo with
                  | none => cases h
                  | some d =>
                    obtain ⟨p, h1, h2⟩ := Option.map_eq_some_iff.mp h
                    obtain ⟨ds, e3⟩ := p
                    cases h2
                    refine ih h1 ?_
                    by_cases z : k = j
                    · subst z; rw [hn] at qq; cases qq
                    · rw [List.getElem?_set_ne z]; exact hn
            exact keepn h1 (by rw [List.getElem?_set_self kl])
          · exact r4 j m
theorem putS_ok : ∀ {ks : List Nat} {e e3 : E} {vr : List V} {os : List D} {F Fo : List Addr}, ks.Nodup → RelS K H σ e F → (∀ k ∈ ks, e[k]? = some none) → (∀ k ∈ ks, σ[k]? = some (some (slotV σ k))) → Rps K H (ks.map (slotV σ) ++ vr) os Fo → putS ks os e = some e3 →
    ∃ F3 Fr, RelS K H σ e3 F3 ∧ (F3 ++ Fr).Perm (Fo ++ F)
  | [], e, e3, vr, os, F, Fo, _, r, _, _, ro, h => by
    cases h
    exact ⟨F, Fo, r, List.perm_append_comm⟩
  | k :: ks, e, e3, vr, os, F, Fo, nd, r, hn, hs, ro, h => by
    obtain ⟨nk, nd'⟩ := List.nodup_cons.mp nd
    cases ro with | cons p ro => ?_
    rename_i d ds F1 G1
    unfold putS at h
    obtain ⟨F2, r2, pm⟩ := r.put (hn k List.mem_cons_self) p
    rw [set_self (hs k List.mem_cons_self)] at r2
    obtain ⟨F3, Fr, r3, pm3⟩ := putS_ok nd' r2 (fun j m => by
      have hne : k ≠ j := fun z => nk (z ▸ m)
      rw [List.getElem?_set_ne hne]
      exact hn j (List.mem_cons_of_mem _ m)) (fun j m => hs j (List.mem_cons_of_mem _ m)) ro h
    refine ⟨F3, Fr, r3, pm3.trans ((List.Perm.append_left _ pm).trans ?_)⟩
    rw [← List.append_assoc]
    exact List.Perm.append_right _ List.perm_append_comm
end
/-- f(x, .., e, ..): the first arguments are names -/
def eIO (ks : List Nat) (m : MI) (ns : MAE) : ME := fun e => if there ks e = true then (ns e).bind fun ds e1 => match takeS ks e1 with
  | some (dk, e2) => (match m (dk ++ ds) with
    | .rt d os => (match putS ks os e2 with
      | some e3 => .ok d e3
      | none => .bad)
    | .exc x os => (match putS ks os e2 with
      | some e3 => .exc x e3
      | none => .bad)
    | .bad => .bad)
  | none => .bad else .bad
section
variable {K : PySem.W.Frag} {W : WX} {σ : L2.St} {H : Hp} {Q : VK} {n : Nat} {m : MI} {ns : MAE} {E : XK} {ks : List Nat}
theorem io_of (nk : ks.Nodup) (hl : ∀ e ds e1, ns e = .ok ds e1 → ks.length + ds.length = n) (hE : ∀ c dx H', W c dx σ H' → E c dx H') (h : tE K W (eIO ks m ns) σ H Q) : tVars ks (tAE K W ns) σ H fun vs H1 => spI K n m vs H1 Q E := by
  obtain ⟨e, F, r, nd, h⟩ := h
  unfold eIO at h
  by_cases ht : there ks e = true
  · rw [if_pos ht] at h
    have hs := there_at r ht
    refine tVars_of hs ⟨e, F, r, nd, ?_⟩
    cases q : ns e with
    | bad => rw [q] at h; exact h
    | exc y e1 => rw [q] at h; exact h
    | ok ds e1 =>
      simp only [q, Re.bind] at h
      intro vs H1 G F1 x
      cases qt : takeS ks e1 with
      | none => rw [qt] at h; exact h.elim
      | some pr =>
        obtain ⟨dk, e2⟩ := pr
        rw [qt] at h
        simp only at h
        obtain ⟨Gk, F2, t1, t2, t3, t4⟩ := takeS_ok x.ev.r qt
        obtain ⟨n1, n2, n3⟩ := List.nodup_append.mp (t3.nodup_iff.mp x.ev.nd)
        have inF1 : ∀ a ∈ Gk, a ∈ F1 := fun a m => t3.mem_iff.mpr (List.mem_append_left _ m)
        have inF2 : ∀ a ∈ F2, a ∈ F1 := fun a m => t3.mem_iff.mpr (List.mem_append_right _ m)
        refine ⟨?_, dk ++ ds, Gk ++ G, t1.append x.ps, List.nodup_append.mpr ⟨n1, x.nd, fun a m b m' z => by subst z; exact x.hd a m' (inF1 a m)⟩, ?_⟩
        · rw [List.length_append, List.length_map, x.ps.length]; exact hl e ds e1 q
        · have dj2 : ∀ a ∈ F2, a ∉ Gk ++ G := fun a m m' => by
            rcases List.mem_append.mp m' with m' | m'
            · exact n3 a m' a m rfl
            · exact x.hd a m' (inF2 a m)
          have newS : ∀ a ∈ Gk ++ G, a ∈ F ∨ H a = none := fun a m => by
            rcases List.mem_append.mp m with m | m
            · exact x.ev.new a (inF1 a m)
            · exact x.new a m
          -- the state behind the call
          have fin : ∀ {H' : Hp} {F' : List Addr} {os : List D} {e3 : List (Option D)}, Keeps (Gk ++ G) H1 H' → Rps K H' (ks.map (slotV σ) ++ vs) os F' → F'.Nodup → (∀ a ∈ F', a ∈ Gk ++ G ∨ H1 a = none) → putS ks os e2 = some e3 → ∃ F3, Ev K F H σ H' e3 F3 ∧ ∀ a ∈ F3, a ∈ F' ∨ a ∈ F2 := by
            intro H' F' os e3 k ro no new hp
            have r2 := t2.keep k dj2
            obtain ⟨F3, Fr, r3, pm⟩ := putS_ok nk r2 t4 hs ro hp
            have nF : (F' ++ F2).Nodup := List.nodup_append.mpr ⟨no, n2, fun a m b m' z => by
              subst z
              rcases new a m with z | z
              · exact dj2 a m' z
              · exact t2.there m' z⟩
            have sub : ∀ a ∈ F3, a ∈ F' ∨ a ∈ F2 := fun a m => List.mem_append.mp (pm.mem_iff.mp (List.mem_append_left _ m))
            refine ⟨F3, ⟨x.ev.k.trans k newS, r3, (List.nodup_append.mp (pm.nodup_iff.mpr nF)).1, fun a m => ?_⟩, sub⟩
            rcases sub a m with m | m
            · rcases new a m with z | z
              · exact newS a z
              · by_cases zz : a ∈ F
                · exact .inl zz
                · exact .inr (x.ev.k.none z zz)
            · exact x.ev.new a (inF2 a m)
          cases qm : m (dk ++ ds) with
          | bad => rw [qm] at h; exact h.elim
          | exc y os =>
            rw [qm] at h
            simp only at h
            intro c dx H' F' k ro no new px
            cases qp : putS ks os e2 with
            | none => rw [qp] at h; exact h.elim
            | some e3 =>
              rw [qp] at h
              obtain ⟨F3, w, _⟩ := fin k ro no new qp
              exact hE c dx H' (h c dx H' F3 w px)
          | rt d os =>
            rw [qm] at h
            simp only at h
            intro v H' Gv F' k ro p no nv hd new nw
            cases qp : putS ks os e2 with
            | none => rw [qp] at h; exact h.elim
            | some e3 =>
              rw [qp] at h
              obtain ⟨F3, w, sub⟩ := fin k ro no new qp
              refine h v H' _ (w.cons p (fun a m m' => ?_) nv fun a m => ?_)
              · rcases sub a m' with z | z
                · exact hd a m z
                · rcases nw a m with y | y
                  · exact dj2 a z y
                  · exact t2.there z y
              · rcases nw a m with z | z
                · exact newS a z
                · by_cases zz : a ∈ F
                  · exact .inl zz
                  · exact .inr (x.ev.k.none z zz)
  · rw [if_neg ht] at h; exact h.elim
variable {X : Cx} {x : Str} {p pos px : Pos} {e : Expr} {es : List Expr} {t : TA}
theorem av_cons {i : Nat} {y : Str} (q : PA X es (tVars ks t)) (hN : X.N[i]? = some y := by rfl) (hv : Vis X.env.scope y := by first | exact Or.inl rfl | exact Or.inr (Or.inl rfl) | exact Or.inr (Or.inr rfl)) (hd : (y == ("__debug__" : Str)) = false := by decide)
    (hcd : (y == ("__classdict__" : Str)) = false := by decide) (hs : starEach (.Name y px :: es) X.env = (false, eval (.Name y px) X.env) :: starEach es X.env := by rfl) : PA X (.Name y px :: es) (tVars (i :: ks) t) := pa_cons (pe_var hN hv hd hcd) q hs
theorem av_nil (q : PA X es t) : PA X es (tVars [] t) := q
theorem e_io (nk : ks.Nodup) (hl : ∀ e ds e1, ns e = .ok ds e1 → ks.length + ds.length = n) (hx : ∀ ds y os, m ds ≠ .exc y os)
    (q : PE X (.Call (.Name x p) (e :: es) [] pos) (tCall (spI X.K n m) [] E0 (tVars ks (tAE X.K W ns)))) : PE X (.Call (.Name x p) (e :: es) [] pos) (tE X.K W (eIO ks m ns)) := PE.mono q fun σ H Q h => by
  have h2 := io_of (K := X.K) (W := W) (E := fun _ _ _ => True) nk hl (fun _ _ _ _ => trivial) h
  have mono : ∀ (ks : List Nat) {Q Q' : List V → Hp → Prop} {σ H}, (∀ vs H, Q vs H → Q' vs H) → tVars ks (tAE X.K W ns) σ H Q → tVars ks (tAE X.K W ns) σ H Q' := by
    intro ks
    induction ks with
    | nil =>
      intro Q Q' σ H hq ⟨e, F, r, nd, h⟩
      refine ⟨e, F, r, nd, ?_⟩
      cases q : ns e with
      | ok ds e1 => rw [q] at h; exact fun vs H' G F' x => hq _ _ (h vs H' G F' x)
      | exc y e1 => rw [q] at h; exact h
      | bad => rw [q] at h; exact h
    | cons k ks ih =>
      intro Q Q' σ H hq ⟨v, h1, h⟩
      exact ⟨v, h1, ih (fun vs H => hq (v :: vs) H) h⟩
  refine mono ks (fun vs H1 h => ?_) h2
  rw [List.append_nil]
  obtain ⟨hv, ds, F, r, nd, h⟩ := h
  refine ⟨hv, ds, F, r, nd, ?_⟩
  cases qm : m ds with
  | rt d os => rw [qm] at h; exact h
  | exc y os => exact absurd qm (hx ds y os)
  | bad => rw [qm] at h; exact h
theorem e_ioX (nk : ks.Nodup) (hl : ∀ e ds e1, ns e = .ok ds e1 → ks.length + ds.length = n)
    (q : PE X (.Call (.Name x p) (e :: es) [] pos) (tCallS (spI X.K n m) (WE W) (tVars ks (tAE X.K W ns)))) : PE X (.Call (.Name x p) (e :: es) [] pos) (tE X.K W (eIO ks m ns)) := PE.mono q fun σ H Q h => io_of nk hl (fun _ _ _ z => z) h
end

/-! ### methods that change a name's thing -/
def MutM (K : PySem.W.Frag) (T : String) (r : V → List V → Hp → VK → Prop) (f : D → List D → Option (D × D)) : Prop := ∀ {H : Hp} {v : V} {vs : List V} {d : D} {as : List D} {G Ga : List Addr} {res d' : D} {Q : VK},
  Rp K H v d G → Rps K H vs as Ga → G.Nodup → Ga.Nodup → (∀ a ∈ Ga, a ∉ G) → f d as = some (res, d') →
  (∀ u H' G' Gr, Keeps G H H' → Rp K H' v d' G' → Rp K H' u res Gr → G'.Nodup → Gr.Nodup → (∀ a ∈ Gr, a ∉ G') → (∀ a ∈ G', a ∈ G ∨ a ∈ Ga ∨ H a = none) → (∀ a ∈ Gr, a ∈ G ∨ a ∈ Ga ∨ H a = none) → Q u H') → r v vs H Q
def isLst : D → Bool
  | .lst _ => true
  | _ => false
/-- x.m(e, ..), x the list in the slot i -/
def eMut (i : Nat) (f : D → List D → Option (D × D)) (ns : MAE) : ME := fun e => match e[i]? with
  | some (some d0) => if isLst d0 = true then (ns e).bind fun as e1 => match e1[i]? with
    | some (some d) => (match f d as with
      | some p => .ok p.1 (e1.set i (some p.2))
      | none => .bad)
    | _ => .bad else .bad
  | _ => .bad
section
variable {K : PySem.W.Frag} {W : WX} {σ : L2.St} {H : Hp} {Q : VK} {i : Nat} {f : D → List D → Option (D × D)} {ns : MAE} {r : V → List V → Hp → VK → Prop}
theorem Ev.update2 {H1 : Hp} {e1 : E} {F F1 : List Addr} {d : D} (x : Ev K F H σ H1 e1 F1) (h : e1[i]? = some (some d)) :
    ∃ v G, σ[i]? = some (some v) ∧ Rp K H1 v d G ∧ (∀ a ∈ G, a ∈ F1) ∧ G.Nodup ∧ ∀ H2 d' G' u res Gr, Keeps G H1 H2 → Rp K H2 v d' G' → Rp K H2 u res Gr → G'.Nodup → Gr.Nodup → (∀ a ∈ Gr, a ∉ G') →
      (∀ a ∈ G', a ∈ G ∨ ((a ∈ F ∨ H a = none) ∧ a ∉ F1)) → (∀ a ∈ Gr, a ∈ G ∨ ((a ∈ F ∨ H a = none) ∧ a ∉ F1)) → ∃ F', Ev K F H (some u :: σ) H2 (some res :: e1.set i (some d')) F' := by
  obtain ⟨v, G, F0, h1, h2, h3, h4⟩ := x.r.take h
  obtain ⟨n1, n2, n3⟩ := List.nodup_append.mp (h4.nodup_iff.mp x.nd)
  have sub : ∀ a ∈ G, a ∈ F1 := fun a m => h4.mem_iff.mpr (List.mem_append_left _ m)
  have sub0 : ∀ a ∈ F0, a ∈ F1 := fun a m => h4.mem_iff.mpr (List.mem_append_right _ m)
  refine ⟨v, G, h1, h2, sub, n1, fun H2 d' G' u res Gr k p pr nd nr dj hG hR => ?_⟩
  have dj0 : ∀ a ∈ F0, a ∉ G := fun a m m' => n3 a m' a m rfl
  have r0 := h3.keep k dj0
  have hi : i < e1.length := (List.getElem?_eq_some_iff.mp h).1
  obtain ⟨F', r1, pm⟩ := r0.put (i := i) (by rw [List.getElem?_set_self hi]) p
  rw [List.set_set, set_self h1] at r1
  have out : ∀ a, a ∈ G ∨ ((a ∈ F ∨ H a = none) ∧ a ∉ F1) → a ∉ F0 := fun a z m => z.elim (dj0 a m) fun z => z.2 (sub0 a m)
  have nw : ∀ a, a ∈ G ∨ ((a ∈ F ∨ H a = none) ∧ a ∉ F1) → a ∈ F ∨ H a = none := fun a z => z.elim (fun z => x.new a (sub a z)) fun z => z.1
  have w : Ev K F H σ H2 (e1.set i (some d')) F' := ⟨x.k.trans k fun a m => x.new a (sub a m), r1, pm.nodup_iff.mpr (List.nodup_append.mpr ⟨nd, n2, fun a m b m' z => by subst z; exact out a (hG a m) m'⟩), fun a m => by
    rcases List.mem_append.mp (pm.mem_iff.mp m) with m | m
    · exact nw a (hG a m)
    · exact x.new a (sub0 a m)⟩
  exact ⟨_, w.cons pr (fun a m m' => by
    rcases List.mem_append.mp (pm.mem_iff.mp m') with m' | m'
    · exact dj a m m'
    · exact out a (hR a m) m') nr fun a m => nw a (hR a m)⟩
theorem tyV_lst {v : V} {d : D} {G : List Addr} (p : Rp K H v d G) (h : isLst d = true) : tyV K "list" v H := by
  cases p with
  | lst ha ra => exact .inl ⟨rfl, _, .of ha⟩
  | _ => cases h
theorem mut_of (o : MutM K "list" r f) (h : tE K W (eMut i f ns) σ H Q) : tVar i σ H fun x H1 => tyV K "list" x H1 ∧ tAE K W ns σ H1 fun xs H2 => r x xs H2 Q := by
  obtain ⟨e, F, rl, nd, h⟩ := h
  unfold eMut at h
  cases q : e[i]? with
  | none => rw [q] at h; exact h.elim
  | some oo =>
    rw [q] at h
    cases oo with
    | none => exact h.elim
    | some d0 =>
      simp only at h
      by_cases hl : isLst d0 = true
      · rw [if_pos hl] at h
        obtain ⟨v, G0, hs, p0, _⟩ := rl.get q
        refine ⟨v, hs, tyV_lst p0 hl, e, F, rl, nd, ?_⟩
        cases qn : ns e with
        | bad => rw [qn] at h; exact h
        | exc y e1 => rw [qn] at h; exact h
        | ok as e1 =>
          simp only [qn, Re.bind] at h
          intro vs H1 Ga F1 x
          cases q1 : e1[i]? with
          | none => rw [q1] at h; exact h.elim
          | some oo =>
            rw [q1] at h
            cases oo with
            | none => exact h.elim
            | some d =>
              simp only at h
              cases qf : f d as with
              | none => rw [qf] at h; exact h.elim
              | some pr =>
                obtain ⟨res, d'⟩ := pr
                rw [qf] at h
                simp only at h
                obtain ⟨v2, G2, k1, k2, k3, k4, k5⟩ := x.ev.update2 q1
                rw [hs] at k1; cases k1
                refine o k2 x.ps k4 x.nd (fun a m m' => x.hd a m (k3 a m')) qf fun u H' G' Gr k p' pr ng ngr hdr hG hR => ?_
                have inF : ∀ a, a ∈ G2 ∨ a ∈ Ga ∨ H1 a = none → a ∈ G2 ∨ ((a ∈ F ∨ H a = none) ∧ a ∉ F1) := fun a z => by
                  rcases z with z | z | z
                  · exact .inl z
                  · exact .inr ⟨x.new a z, x.hd a z⟩
                  · refine .inr ⟨?_, fun m => x.ev.r.there m z⟩
                    by_cases zz : a ∈ F
                    · exact .inl zz
                    · exact .inr (x.ev.k.none z zz)
                obtain ⟨F', w⟩ := k5 H' d' G' u res Gr k p' pr ng ngr hdr (fun a m => inF a (hG a m)) fun a m => inF a (hR a m)
                exact h u H' F' w
      · rw [if_neg hl] at h; exact h.elim
end
end Mir

namespace Mir
open PySem PySem.Spec L2

def fAppend : D → List D → Option (D × D)
  | .lst ds, [d] => if ds.length < sizeLine then some (.non, .lst (ds ++ [d])) else none
  | _, _ => none
def fExtend : D → List D → Option (D × D)
  | .lst ds, [.lst es] => if imms es = true ∧ fits (ds.length + es.length) = true then some (.non, .lst (ds ++ es)) else none
  | _, _ => none
def fPop : D → List D → Option (D × D)
  | .lst ds, [] => if imms ds = true then (ds[ds.length - 1]?).map fun d => (d, .lst ds.dropLast) else none
  | _, _ => none
section
variable {K : PySem.W.Frag}
theorem n_append : MutM K "list" rAppend fAppend := by
  intro H v vs d as G Ga res d' Q p ps n1 n2 dj e h
  unfold fAppend at e
  split at e
  · split at e
    · rename_i ds x hlt
      cases e
      cases p with | lst ha ra => ?_
      cases ps with | cons px pn => ?_
      cases pn
      rename_i a ws F1 v0 F0
      obtain ⟨m1, m2⟩ := List.nodup_cons.mp n1
      refine ⟨a, ws, v0, rfl, rfl, ha, by rw [ra.length]; exact hlt, ?_⟩
      have k : Keeps (a :: F1) H (upd H a (.lst (ws ++ [v0]))) := .upd ha rfl List.mem_cons_self
      have k1 : Keeps [a] H (upd H a (.lst (ws ++ [v0]))) := .upd ha rfl List.mem_cons_self
      rw [List.append_nil] at dj n2
      refine h .non _ (a :: (F1 ++ (F0 ++ []))) [] k (.lst upd_same ((ra.keep k1 fun b m z => m1 (by rw [← List.mem_singleton.mp z]; exact m)).append (.cons (px.keep k1 fun b m z => dj b m (by rw [List.mem_singleton.mp z]; exact List.mem_cons_self)) .nil))) .non ?_ .nil (fun _ m => by cases m) (fun b m => ?_) fun _ m => by cases m
      · rw [List.append_nil]
        refine List.nodup_cons.mpr ⟨fun m => ?_, List.nodup_append.mpr ⟨m2, n2, fun b m c m' z => by subst z; exact dj b m' (List.mem_cons_of_mem _ m)⟩⟩
        rcases List.mem_append.mp m with m | m
        · exact m1 m
        · exact dj a m List.mem_cons_self
      · rw [List.append_nil] at m
        rcases List.mem_cons.mp m with z | m
        · exact .inl (z ▸ List.mem_cons_self)
        · rcases List.mem_append.mp m with m | m
          · exact .inl (List.mem_cons_of_mem _ m)
          · exact .inr (.inl (by rw [List.append_nil]; exact m))
    · cases e
  · cases e
theorem n_extend : MutM K "list" rExtend fExtend := by
  intro H v vs d as G Ga res d' Q p ps n1 n2 dj e h
  unfold fExtend at e
  split at e
  · split at e
    · rename_i ds es hf
      cases e
      cases p with | lst ha ra => ?_
      cases ps with | cons px pn => ?_
      cases pn
      cases px with | lst hb rb => ?_
      have e0 := rb.fpImm hf.1
      subst e0
      rename_i a ws F1 b zs
      obtain ⟨m1, m2⟩ := List.nodup_cons.mp n1
      refine ⟨a, b, ws, zs, rfl, rfl, ha, hb, by rw [ra.length, rb.length]; exact fits_le hf.2, ?_⟩
      have k : Keeps (a :: F1) H (upd H a (.lst (ws ++ zs))) := .upd ha rfl List.mem_cons_self
      have k1 : Keeps [a] H (upd H a (.lst (ws ++ zs))) := .upd ha rfl List.mem_cons_self
      refine h .non _ (a :: (F1 ++ [])) [] k (.lst upd_same ((ra.keep k1 fun b m z => m1 (by rw [← List.mem_singleton.mp z]; exact m)).append (rb.keep k1 fun _ m => by cases m))) .non (by rw [List.append_nil]; exact n1) .nil (fun _ m => by cases m) (fun c m => .inl (by rw [List.append_nil] at m; exact m)) fun _ m => by cases m
    · cases e
  · cases e
theorem Rps.dropLast {H : Hp} {vs : List V} {ds : List D} (r : Rps K H vs ds []) : Rps K H vs.dropLast ds.dropLast [] := by
  rw [List.dropLast_eq_take, List.dropLast_eq_take, r.length]
  exact (r.takeD _).1
theorem n_pop : MutM K "list" rPop fPop := by
  intro H v vs d as G Ga res d' Q p ps n1 n2 dj e h
  unfold fPop at e
  split at e
  · split at e
    · rename_i ds hi
      obtain ⟨x, e1, e2⟩ := Option.map_eq_some_iff.mp e
      cases e2
      cases p with | lst ha ra => ?_
      cases ps
      have e0 := ra.fpImm hi
      subst e0
      obtain ⟨y, Gy, h1, h2, h3⟩ := ra.get e1
      have e3 : Gy = [] := by
        cases Gy with
        | nil => rfl
        | cons b Gy => exact absurd (h3 b List.mem_cons_self) (fun m => by cases m)
      subst e3
      rename_i a ws
      rw [← ra.length] at h1
      refine ⟨a, ws, y, rfl, rfl, ha, h1, ?_⟩
      have k1 : Keeps [a] H (upd H a (.lst ws.dropLast)) := .upd ha rfl List.mem_cons_self
      exact h y _ [a] [] k1 (.lst upd_same (ra.dropLast.keep k1 fun _ m => by cases m)) (h2.keep k1 fun _ m => by cases m) (by simp) .nil (fun _ m => by cases m) (fun c m => .inl m) fun _ m => by cases m
    · cases e
  · cases e
end
section
variable {X : Cx} {W : WX} {i : Nat} {x : Str} {p apos cpos : Pos} {e : Expr} {es : List Expr} {ns : MAE}
theorem e_append (q : PE X (.Call (.Attribute (.Name x p) "append" apos) (e :: es) [] cpos) (tBM X.K "list" rAppend (tVar i) (tAE X.K W ns))) : PE X (.Call (.Attribute (.Name x p) "append" apos) (e :: es) [] cpos) (tE X.K W (eMut i fAppend ns)) := PE.mono q fun _ _ _ h => mut_of n_append h
theorem e_extend (q : PE X (.Call (.Attribute (.Name x p) "extend" apos) (e :: es) [] cpos) (tBM X.K "list" rExtend (tVar i) (tAE X.K W ns))) : PE X (.Call (.Attribute (.Name x p) "extend" apos) (e :: es) [] cpos) (tE X.K W (eMut i fExtend ns)) := PE.mono q fun _ _ _ h => mut_of n_extend h
theorem e_pop (q : PE X (.Call (.Attribute (.Name x p) "pop" apos) [] [] cpos) (tBM0 X.K "list" rPop (tVar i))) : PE X (.Call (.Attribute (.Name x p) "pop" apos) [] [] cpos) (tE X.K W (eMut i fPop anil)) := PE.mono q fun σ H Q h => by
  obtain ⟨v, h1, h2, e, F, r, nd, h⟩ := mut_of n_pop h
  exact ⟨v, h1, h2, h [] H [] F ⟨.refl r nd, .nil, (fun _ m => by cases m), .nil, fun _ m => by cases m⟩⟩
end
/-- x[k] = e, x a list of things that can't change -/
def mSetIx (i : Nat) (mk : MB) (n : ME) : MS := fun e => match n e with
  | .ok y e1 => if imm y = true then (match e1[i]? with
    | some (some (.lst ds)) => if imms ds = true then (match mk e1 with
      | .ok (.int k) => (match ixN ds.length k with
        | some j => .nx (e1.set i (some (.lst (ds.set j y))))
        | none => .bad)
      | .exc x => .exc x e1
      | _ => .bad) else .bad
    | _ => .bad) else .bad
  | .exc x e1 => .exc x e1
  | .bad => .bad
theorem Rps.setI {K : PySem.W.Frag} {H : Hp} : ∀ {vs : List V} {ds : List D} {v : V} {d : D} (j : Nat), Rps K H vs ds [] → Rp K H v d [] → Rps K H (vs.set j v) (ds.set j d) []
  | vs, ds, v, d, j, r, p => by
    generalize hF : ([] : List Addr) = F at r
    induction ds generalizing vs j F with
    | nil => cases r; exact .nil
    | cons x ds ih =>
      cases r with | cons q r => ?_
      obtain ⟨e1, e2⟩ := List.append_eq_nil_iff.mp hF.symm
      subst e1 e2
      cases j with
      | zero => exact Rps.cons p r
      | succ j => exact Rps.cons q (ih _ j _ rfl r)
theorem m_setIx {X : Cx} {W : WX} {Z : Zs} {i : Nat} {x : Str} {px pos tpos : Pos} {k e : Expr} {mk : MB} {n : ME} (he : PE X e (tE X.K W n)) (hk : PE X k (tB X.K W mk)) (hN : X.N[i]? = some x := by rfl) (hv : Vis X.env.scope x := by first | exact Or.inl rfl | exact Or.inr (Or.inl rfl) | exact Or.inr (Or.inr rfl)) (hd : (x == ("__debug__" : Str)) = false := by decide)
    (hcd : (x == ("__classdict__" : Str)) = false := by decide) (ha : ∀ v, assign (.Subscript (.Name x px) k tpos) X.env v = (do
      let ov ← holding [v] (eval (.Name x px) X.env)
      let iv ← holding [v, ov] (eval k X.env)
      standAt tpos
      holding [v, ov, iv] (setItem ov iv v)
      release [v, ov, iv] []) := by intro _; rfl) (hs : swapsWithSole [.Subscript (.Name x px) k tpos] e pos.line X.env = pure false := by rfl) (hw : swappedStores [.Subscript (.Name x px) k tpos] e X.env = pure none := by rfl)
    (h1 : (assignEach [.Subscript (.Name x px) k tpos] X.env).map (·.2) = [assign (.Subscript (.Name x px) k tpos) X.env] := by rfl) :
    PS X (.Assign [.Subscript (.Name x px) k tpos] e pos) (tM X.K W Z (mSetIx i mk n)) := PS.mono (ps_asg he (pg_sub (pe_var hN hv hd hcd) hk set_list ha) hs hw h1) fun D σ H ⟨e, F, r, nd, h⟩ => by
  refine ⟨e, F, r, nd, ?_⟩
  unfold mSetIx at h
  cases q : n e with
  | bad => rw [q] at h; exact h
  | exc y e1 => rw [q] at h; exact fun c dx H' F' x p => h c dx σ H' F' x (.refl _ _) p
  | ok y e1 =>
    rw [q] at h
    simp only at h
    by_cases hi : imm y = true
    · rw [if_pos hi] at h
      intro v H1 F1 x0
      obtain ⟨G, F0, eF, p, x', hdj, n1, nw⟩ := x0.head
      have e0 := p.fpImm hi
      subst e0
      cases q1 : e1[i]? with
      | none => rw [q1] at h; exact h.elim
      | some oo =>
        rw [q1] at h
        cases oo with
        | none => exact h.elim
        | some d =>
          cases d with
          | lst ds =>
            simp only at h
            by_cases hds : imms ds = true
            · rw [if_pos hds] at h
              obtain ⟨w, G2, k1, k2, k3, k4, k5⟩ := x'.update q1
              cases k2 with | lst ha2 ra => ?_
              have e1' := ra.fpImm hds
              subst e1'
              rename_i a ws
              refine ⟨.ref a, k1, e1, F0, x'.r, ?_⟩
              cases qk : mk e1 with
              | bad => rw [qk] at h; exact h.elim
              | exc z => rw [qk] at h; exact fun c dx H' k px => h c dx σ H' F0 (x'.grow k) (.refl _ _) px
              | ok dk =>
                rw [qk] at h
                intro vk H2 Gk kk pk
                cases dk with
                | int j =>
                  cases pk
                  simp only at h
                  cases qj : ixN ds.length j with
                  | none => rw [qj] at h; exact h.elim
                  | some j' =>
                    rw [qj] at h
                    simp only at h
                    have hb : H2 a = some (.lst ws) := kk _ _ ha2 (.inr fun m => by cases m)
                    refine ⟨a, ws, j, j', rfl, rfl, hb, by rw [ra.length]; exact qj, ?_⟩
                    have kU : Keeps [a] H2 (upd H2 a (.lst (ws.set j' v))) := .upd hb rfl List.mem_cons_self
                    have kA : Keeps [a] H1 (upd H2 a (.lst (ws.set j' v))) := (kk.mono (fun _ m => by cases m)).trans kU fun b m => .inl m
                    obtain ⟨F9, w9⟩ := k5 _ (.lst (ds.set j' y)) [a] kA (.lst upd_same ((Rps.setI j' (ra.same kk) (p.same kk)).keep kU fun _ m => by cases m)) (by simp) fun b m => .inl m
                    exact h σ _ F9 w9 (.refl _ _)
                | _ => exact h.elim
            · rw [if_neg hds] at h; exact h.elim
          | _ => exact h.elim
    · rw [if_neg hi] at h; exact h.elim
end Mir

namespace Mir
open PySem PySem.Spec L2

/-! ### a thing that is never changed again -/
def frz (n : ME) : ME := fun e => match n e with
  | .ok d e1 => (match d with
    | .lst ds => if imms ds = true then .ok (.rol ds) e1 else .bad
    | _ => .bad)
  | .exc x e1 => .exc x e1
  | .bad => .bad
theorem e_frz {X : Cx} {W : WX} {x : Expr} {n : ME} (p : PE X x (tE X.K W n)) : PE X x (tE X.K W (frz n)) := by
  refine ⟨fun pins s σ H Q I ⟨e, F, r, nd, h⟩ => ?_⟩
  unfold frz at h
  cases q : n e with
  | bad => rw [q] at h; exact h.elim
  | exc y e1 =>
    rw [q] at h
    exact p.run pins s σ H Q I ⟨e, F, r, nd, by rw [q]; exact h⟩
  | ok d e1 =>
    rw [q] at h
    cases d with
    | lst ds =>
      simp only at h
      by_cases hi : imms ds = true
      · rw [if_pos hi] at h
        refine thn (p.run pins s σ H (fun v H' => ∃ F', Ev X.K F H (some v :: σ) H' (some (.lst ds) :: e1) F') I ⟨e, F, r, nd, by rw [q]; exact fun v H' F' x => ⟨F', x⟩⟩) fun u s1 hq => ?_
        obtain ⟨v, H1, I1, rv, F', x⟩ := hq
        obtain ⟨G, F0, eF, pv, x', hd, n1, nw⟩ := x.head
        cases pv with | lst ha ra => ?_
        have e0 := ra.fpImm hi
        subst e0
        rename_i a vs
        obtain ⟨od, I2⟩ := I1.lock ha trivial
        refine ⟨.ref a, _, I2, rv, ?_⟩
        have na : a ∉ F0 := hd a List.mem_cons_self
        have k : Keeps [a] H1 (upd H1 a (.frz od (.lst vs))) := .upd ha rfl List.mem_cons_self
        have kF : Keeps F H (upd H1 a (.frz od (.lst vs))) := fun b o hb z => by
          by_cases y : b = a
          · subst y
            rcases nw b List.mem_cons_self with n | n
            · rcases z with z | z
              · have := x'.k b o hb (.inl z)
                rw [ha] at this; cases this; cases z
              · exact absurd n z
            · rw [n] at hb; cases hb
          · rw [upd_ne y]; exact x'.k b o hb z
        have w : Ev X.K F H σ (upd H1 a (.frz od (.lst vs))) e1 F0 := ⟨kF, x'.r.keep k fun b m z => na (by rw [← List.mem_singleton.mp z]; exact m), x'.nd, x'.new⟩
        exact h (.ref a) _ F0 (w.consImm (.rol (.inl ⟨_, upd_same⟩) (ra.keep k fun _ m => by cases m)) (by simpa [imm] using hi))
      · rw [if_neg hi] at h; exact h.elim
    | _ => exact h.elim

/-! ### the text's defs, as they stand -/
structure DefAt (K : PySem.W.Frag) (mg : Str → Option Value) (x qual : Str) (st : Stmt) (ps : List Str) (f : Addr) (fd : FuncData) : Prop where
  F : Fun K x qual st f fd
  b : Binds K fd ps []
  g : mg x = some (.ref f)
/-- a def keeps a promise, by at most k levels -/
def Okd (P : Program) (w : World) (K : PySem.W.Frag) (mg : Str → Option Value) (base : Heap) (CX : CXT) (k : Nat) (x : Str) (sp : Sp) : Prop :=
  ∃ (f : Addr) (fd : FuncData) (ps : List Str), FnOk P w K mg base CX k f fd ps sp ∧ PySem.W.keepIn K (.ref f) = true ∧ Binds K fd ps [] ∧ mg x = some (.ref f)
def noX {α : Type} : Rs α → Rs α
  | .exc _ => .bad
  | r => r
def noI : DR → DR
  | .exc _ _ => .bad
  | r => r
theorem noX_ne {α : Type} {r : Rs α} {y : Ex} : noX r ≠ .exc y := by cases r <;> simp [noX]
theorem noI_ne {r : DR} {y : Ex} {os : List D} : noI r ≠ .exc y os := by cases r <;> simp [noI]
def mDef0 (k : Nat) (mb : MS) : MD := fun ds => noX (mDef k mb ds)
def mDefI0 (k : Nat) (Z : Zs) (mb : MS) : MI := fun ds => noI (mDefI k Z mb ds)
section
variable {P : Program} {w : World} {K : PySem.W.Frag} {mg : Str → Option Value} {base : Heap}
theorem okd {x qual : Str} {st : Stmt} {N ps : List Str} {k : Nat} {mb : MS} {n q : Nat} (D : ∃ f fd, DefAt K mg x qual st ps f fd) (S : FnScope N ps (defScope st)) (hn : ps.length = n) (hq : N.length - n = q)
    (hb : ∀ (f : Addr) (cdv : Value) (A : Around) (outer : List Env) (s : Shared) (H : Hp) (E : XK), Room k (A.deeper (PyProof.Rows.envOfC qual (defScope st) s.heap.objs.size f cdv)) →
      PSs (cxOf CX0 P w K mg base N qual (defScope st) f cdv A outer s H E).nox (defBody st) (tM K wF z0 mb)) : Okd P w K mg base CX0 (k + 1) x (spN K n (mDef0 q mb)) := by
  obtain ⟨f, fd, D⟩ := D
  refine ⟨f, fd, ps, D.F.ok S (fun vs H Q E h => h.1.trans hn.symm) fun cdv A outer s H vs Q E hr h => ⟨_, hb f cdv A outer s H E hr, ?_⟩, D.F.kp, D.b, D.g⟩
  obtain ⟨hl, ds, r, h⟩ := h
  refine body_ok (n := q) (E := fun _ _ _ => False) (by rw [hl]; exact hq) (fun _ _ _ _ z => z.elim) r ?_
  unfold mDef0 at h
  cases e : mDef q mb ds with
  | ok d => rw [e] at h; exact h
  | exc x => rw [e] at h; exact h.elim
  | bad => rw [e] at h; exact h
theorem okdI {x qual : Str} {st : Stmt} {N ps : List Str} {k : Nat} {Z : Zs} {mb : MS} {n q : Nat} (D : ∃ f fd, DefAt K mg x qual st ps f fd) (S : FnScope N ps (defScope st)) (hn : ps.length = n) (hq : N.length - n = q)
    (hb : ∀ (f : Addr) (cdv : Value) (A : Around) (outer : List Env) (s : Shared) (H : Hp) (E : XK), Room k (A.deeper (PyProof.Rows.envOfC qual (defScope st) s.heap.objs.size f cdv)) →
      PSs (cxOf CX0 P w K mg base N qual (defScope st) f cdv A outer s H E).nox (defBody st) (tM K wF Z mb)) : Okd P w K mg base CX0 (k + 1) x (spI K n (mDefI0 q Z mb)) := by
  obtain ⟨f, fd, D⟩ := D
  refine ⟨f, fd, ps, D.F.ok S (fun vs H Q E h => h.1.trans hn.symm) fun cdv A outer s H vs Q E hr h => ⟨_, hb f cdv A outer s H E hr, ?_⟩, D.F.kp, D.b, D.g⟩
  obtain ⟨hl, ds, F, r, nd, h⟩ := h
  refine bodyI_ok (n := q) (E := fun _ _ _ => False) (by rw [hl]; exact hq) (fun _ _ _ _ z => z.elim) r nd ?_
  unfold mDefI0 at h
  cases e : mDefI q Z mb ds with
  | rt d os => rw [e] at h; exact h
  | exc x os => rw [e] at h; exact h.elim
  | bad => rw [e] at h; exact h
/-- a def may raise -/
theorem okdX {x qual : Str} {st : Stmt} {N ps : List Str} {k : Nat} {mb : MS} {n q : Nat} (D : ∃ f fd, DefAt K mg x qual st ps f fd) (S : FnScope N ps (defScope st)) (hn : ps.length = n) (hq : N.length - n = q)
    (hb : ∀ (f : Addr) (cdv : Value) (A : Around) (outer : List Env) (s : Shared) (H : Hp) (E : XK), Room k (A.deeper (PyProof.Rows.envOfC qual (defScope st) s.heap.objs.size f cdv)) →
      PSs (cxOf (L2.CX P w) P w K mg base N qual (defScope st) f cdv A outer s H E) (defBody st) (tM K (fun c dx _ H' => E c dx H') z0 mb)) : Okd P w K mg base (L2.CX P w) (k + 1) x (spN K n (mDef q mb)) := by
  obtain ⟨f, fd, D⟩ := D
  exact ⟨f, fd, ps, ok_defX D.F S hn hq fun cdv A outer s H E hr => hb f cdv A outer s H E hr, D.F.kp, D.b, D.g⟩
theorem okdIX {x qual : Str} {st : Stmt} {N ps : List Str} {k : Nat} {Z : Zs} {mb : MS} {n q : Nat} (D : ∃ f fd, DefAt K mg x qual st ps f fd) (S : FnScope N ps (defScope st)) (hn : ps.length = n) (hq : N.length - n = q)
    (hb : ∀ (f : Addr) (cdv : Value) (A : Around) (outer : List Env) (s : Shared) (H : Hp) (E : XK), Room k (A.deeper (PyProof.Rows.envOfC qual (defScope st) s.heap.objs.size f cdv)) →
      PSs (cxOf (L2.CX P w) P w K mg base N qual (defScope st) f cdv A outer s H E) (defBody st) (tM K (fun c dx _ H' => E c dx H') Z mb)) : Okd P w K mg base (L2.CX P w) (k + 1) x (spI K n (mDefI q Z mb)) := by
  obtain ⟨f, fd, D⟩ := D
  exact ⟨f, fd, ps, ok_defIX D.F S hn hq fun cdv A outer s H E hr => hb f cdv A outer s H E hr, D.F.kp, D.b, D.g⟩
/-- no turn left -/
theorem okd0 {x qual : Str} {st : Stmt} {ps : List Str} {k n : Nat} {CX : CXT} (D : ∃ f fd, DefAt K mg x qual st ps f fd) (hn : ps.length = n) : Okd P w K mg base CX k x (spN K n fun _ => .bad) := by
  obtain ⟨f, fd, D⟩ := D
  refine ⟨f, fd, ps, ⟨fun vs H Q E h => h.1.trans hn.symm, fun A outer s H args us vs Q E _ _ _ _ h => ?_⟩, D.F.kp, D.b, D.g⟩
  obtain ⟨_, ds, _, h⟩ := h
  exact h.elim
theorem okdI0 {x qual : Str} {st : Stmt} {ps : List Str} {k n : Nat} {CX : CXT} (D : ∃ f fd, DefAt K mg x qual st ps f fd) (hn : ps.length = n) : Okd P w K mg base CX k x (spI K n fun _ => .bad) := by
  obtain ⟨f, fd, D⟩ := D
  refine ⟨f, fd, ps, ⟨fun vs H Q E h => h.1.trans hn.symm, fun A outer s H args us vs Q E _ _ _ _ h => ?_⟩, D.F.kp, D.b, D.g⟩
  obtain ⟨_, ds, F, _, _, h⟩ := h
  exact h.elim
theorem Okd.mono {CX : CXT} {j k : Nat} {x : Str} {sp : Sp} (o : Okd P w K mg base CX j x sp) (h : j ≤ k) : Okd P w K mg base CX k x sp := by
  obtain ⟨f, fd, ps, F, r⟩ := o
  exact ⟨f, fd, ps, F.mono h, r⟩
end
/-! ### calls by name -/
theorem ln {e : E} {ds : List D} (h : aNil e = .ok ds) : ds.length = 0 := by cases h; rfl
theorem lc {m : MB} {ms : MA} {n : Nat} (h : ∀ e ds, ms e = .ok ds → ds.length = n) : ∀ e ds, aCons m ms e = .ok ds → ds.length = n + 1 := fun e ds q => by
  unfold aCons at q
  cases q1 : m e with
  | ok d =>
    simp only [q1, Rs.bind] at q
    cases q2 : ms e with
    | ok ds2 => simp only [q2] at q; cases q; rw [List.length_cons, h e ds2 q2]
    | exc y => simp only [q2] at q; cases q
    | bad => simp only [q2] at q; cases q
  | exc y => simp only [q1, Rs.bind] at q; cases q
  | bad => simp only [q1, Rs.bind] at q; cases q
theorem len0 : ∀ e ds e1, anil e = .ok ds e1 → ds.length = 0 := fun e ds e1 h => by cases h; rfl
theorem lec {m : ME} {ms : MAE} {n : Nat} (h : ∀ e ds e1, ms e = .ok ds e1 → ds.length = n) : ∀ e ds e1, acons m ms e = .ok ds e1 → ds.length = n + 1 := fun e ds e1 q => by
  unfold acons at q
  cases q1 : m e with
  | ok d e2 =>
    simp only [q1, Re.bind] at q
    cases q2 : ms e2 with
    | ok ds2 e3 => simp only [q2] at q; cases q; rw [List.length_cons, h e2 ds2 _ q2]
    | exc y e3 => simp only [q2] at q; cases q
    | bad => simp only [q2] at q; cases q
  | exc y e2 => simp only [q1, Re.bind] at q; cases q
  | bad => simp only [q1, Re.bind] at q; cases q
section
variable {X : Cx} {W : WX} {k j n : Nat} {x : Str} {p pos : Pos} {e : Expr} {es : List Expr} {m : MD} {mi : MI} {ms : MA} {ns : MAE} {ks : List Nat}
theorem xd (o : Okd X.prog X.w X.K X.mg X.base CX0 k x (spN X.K n m)) (hr : Room j X.A) (hl : ∀ e ds, ms e = .ok ds → ds.length = n) (hx : ∀ ds y, m ds ≠ .exc y) (ha : PA X (e :: es) (tAB X.K W ms)) (hk : k ≤ j := by first | decide | omega | (simp only [Nat.add_eq]; omega)) (hg : Gl X x := by rfl) (hdb : (x == ("__debug__" : Str)) = false := by decide)
    (he : starEach (e :: es) X.env = (false, eval e X.env) :: starEach es X.env := by rfl) (hpl : (backTo pos (starEach es X.env)).any (·.1) = false := by rfl) : PE X (.Call (.Name x p) (e :: es) [] pos) (tN X.K W (cN m ms)) := by
  obtain ⟨f, fd, ps, F, hkp, b, g⟩ := o
  exact x_def F (hr.mono hk) g hkp b hg hl hx ha (pe_call F (hr.mono hk) hg g hkp b .nil pass0 ha hdb he hpl)
theorem ed (o : Okd X.prog X.w X.K X.mg X.base CX0 k x (spN X.K n m)) (hr : Room j X.A) (hl : ∀ e ds e1, ns e = .ok ds e1 → ds.length = n) (hx : ∀ ds y, m ds ≠ .exc y) (ha : PA X (e :: es) (tAE X.K W ns)) (hk : k ≤ j := by first | decide | omega | (simp only [Nat.add_eq]; omega)) (hg : Gl X x := by rfl) (hdb : (x == ("__debug__" : Str)) = false := by decide)
    (he : starEach (e :: es) X.env = (false, eval e X.env) :: starEach es X.env := by rfl) (hpl : (backTo pos (starEach es X.env)).any (·.1) = false := by rfl) : PE X (.Call (.Name x p) (e :: es) [] pos) (tE X.K W (cE m ns)) := by
  obtain ⟨f, fd, ps, F, hkp, b, g⟩ := o
  exact e_def hl hx (pe_call F (hr.mono hk) hg g hkp b .nil pass0 ha hdb he hpl)
theorem ei (o : Okd X.prog X.w X.K X.mg X.base CX0 k x (spI X.K n mi)) (hr : Room j X.A) (nk : ks.Nodup) (hl : ∀ e ds e1, ns e = .ok ds e1 → ks.length + ds.length = n) (hx : ∀ ds y os, mi ds ≠ .exc y os) (ha : PA X (e :: es) (tVars ks (tAE X.K W ns))) (hk : k ≤ j := by first | decide | omega | (simp only [Nat.add_eq]; omega)) (hg : Gl X x := by rfl) (hdb : (x == ("__debug__" : Str)) = false := by decide)
    (he : starEach (e :: es) X.env = (false, eval e X.env) :: starEach es X.env := by rfl) (hpl : (backTo pos (starEach es X.env)).any (·.1) = false := by rfl) : PE X (.Call (.Name x p) (e :: es) [] pos) (tE X.K W (eIO ks mi ns)) := by
  obtain ⟨f, fd, ps, F, hkp, b, g⟩ := o
  exact e_io nk hl hx (pe_call F (hr.mono hk) hg g hkp b .nil pass0 ha hdb he hpl)
theorem xdX (o : Okd X.prog X.w X.K X.mg X.base (L2.CX X.prog X.w) k x (spN X.K n m)) (hr : Room j X.A) (tk : Takes X W) (hl : ∀ e ds, ms e = .ok ds → ds.length = n) (ha : PA X (e :: es) (tAB X.K W ms)) (hk : k ≤ j := by first | decide | omega | (simp only [Nat.add_eq]; omega)) (hg : Gl X x := by rfl) (hdb : (x == ("__debug__" : Str)) = false := by decide)
    (he : starEach (e :: es) X.env = (false, eval e X.env) :: starEach es X.env := by rfl) (hpl : (backTo pos (starEach es X.env)).any (·.1) = false := by rfl) : PE X (.Call (.Name x p) (e :: es) [] pos) (tN X.K W (cN m ms)) := by
  obtain ⟨f, fd, ps, F, hkp, b, g⟩ := o
  exact x_defX hl (pe_callS F (hr.mono hk) hg g hkp b (fun σ => passAt tk σ) ha hdb he hpl)
theorem edX (o : Okd X.prog X.w X.K X.mg X.base (L2.CX X.prog X.w) k x (spN X.K n m)) (hr : Room j X.A) (tk : Takes X W) (hl : ∀ e ds e1, ns e = .ok ds e1 → ds.length = n) (ha : PA X (e :: es) (tAE X.K W ns)) (hk : k ≤ j := by first | decide | omega | (simp only [Nat.add_eq]; omega)) (hg : Gl X x := by rfl) (hdb : (x == ("__debug__" : Str)) = false := by decide)
    (he : starEach (e :: es) X.env = (false, eval e X.env) :: starEach es X.env := by rfl) (hpl : (backTo pos (starEach es X.env)).any (·.1) = false := by rfl) : PE X (.Call (.Name x p) (e :: es) [] pos) (tE X.K W (cE m ns)) := by
  obtain ⟨f, fd, ps, F, hkp, b, g⟩ := o
  exact e_defX hl (pe_callS F (hr.mono hk) hg g hkp b (fun σ => passAt tk σ) ha hdb he hpl)
theorem eiX (o : Okd X.prog X.w X.K X.mg X.base (L2.CX X.prog X.w) k x (spI X.K n mi)) (hr : Room j X.A) (tk : Takes X W) (nk : ks.Nodup) (hl : ∀ e ds e1, ns e = .ok ds e1 → ks.length + ds.length = n) (ha : PA X (e :: es) (tVars ks (tAE X.K W ns))) (hk : k ≤ j := by first | decide | omega | (simp only [Nat.add_eq]; omega)) (hg : Gl X x := by rfl) (hdb : (x == ("__debug__" : Str)) = false := by decide)
    (he : starEach (e :: es) X.env = (false, eval e X.env) :: starEach es X.env := by rfl) (hpl : (backTo pos (starEach es X.env)).any (·.1) = false := by rfl) : PE X (.Call (.Name x p) (e :: es) [] pos) (tE X.K W (eIO ks mi ns)) := by
  obtain ⟨f, fd, ps, F, hkp, b, g⟩ := o
  exact e_ioX nk hl (pe_callS F (hr.mono hk) hg g hkp b (fun σ => passAt tk σ) ha hdb he hpl)
/-- a module's constant -/
def ConAt (K : PySem.W.Frag) (mg : Str → Option Value) (x : Str) (d : D) : Prop := ∃ v u, mg x = some u ∧ RelV v u ∧ ∀ H, Rp K H v d []
theorem xc {d : D} (c : ConAt X.K X.mg x d) (hg : Gl X x := by rfl) (hd : (x == ("__debug__" : Str)) = false := by decide) : PE X (.Name x pos) (tN X.K W (bC d)) := by
  obtain ⟨v, u, h1, h2, h3⟩ := c
  exact x_glob hg h1 h2 h3 hd
end
theorem bb_len : bootBuiltins "len" = some (.builtin "len") := by decide +kernel
theorem bb_isinstance : bootBuiltins "isinstance" = some (.builtin "isinstance") := by decide +kernel
theorem bb_min : bootBuiltins "min" = some (.builtin "min") := by decide +kernel
theorem bb_max : bootBuiltins "max" = some (.builtin "max") := by decide +kernel
theorem bb_abs : bootBuiltins "abs" = some (.builtin "abs") := by decide +kernel
theorem bb_ord : bootBuiltins "ord" = some (.builtin "ord") := by decide +kernel
theorem bb_divmod : bootBuiltins "divmod" = some (.builtin "divmod") := by decide +kernel
theorem bb_int : bootBuiltins "int" = some (.type "int") := by decide +kernel
theorem bb_str : bootBuiltins "str" = some (.type "str") := by decide +kernel
theorem bb_bool : bootBuiltins "bool" = some (.type "bool") := by decide +kernel
theorem bb_tuple : bootBuiltins "tuple" = some (.type "tuple") := by decide +kernel
theorem bb_list : bootBuiltins "list" = some (.type "list") := by decide +kernel
theorem bb_dict : bootBuiltins "dict" = some (.type "dict") := by decide +kernel
end Mir

namespace Mir
open PySem PySem.Spec L2

/-! ### calls of no arguments -/
section
variable {X : Cx} {W : WX} {k j : Nat} {x : Str} {p pos : Pos} {m : MD}
theorem xd0 (o : Okd X.prog X.w X.K X.mg X.base CX0 k x (spN X.K 0 m)) (hr : Room j X.A) (hx : ∀ ds y, m ds ≠ .exc y) (hk : k ≤ j := by first | decide | omega | (simp only [Nat.add_eq]; omega)) (hg : Gl X x := by rfl) (hdb : (x == ("__debug__" : Str)) = false := by decide) : PE X (.Call (.Name x p) [] [] pos) (tN X.K W (cN m aNil)) := by
  obtain ⟨f, fd, ps, F, hkp, b, g⟩ := o
  refine PE.mono (pe_call0 F (hr.mono hk) hg g hkp b .nil (pass0 (X := X)) hdb) fun σ H Q ⟨e, F, r, h⟩ => ?_
  unfold cN at h
  have e1 : aNil e = .ok [] := rfl
  rw [e1] at h
  simp only [Rs.bind, imms, if_true] at h
  refine ⟨rfl, [], .nil, ?_⟩
  cases qm : m [] with
  | ok d => rw [qm] at h; exact h
  | exc y => exact absurd qm (hx [] y)
  | bad => rw [qm] at h; exact h
end

/-! ### a slice of a step's value -/
def cutE (n : ME) (lo hi : Option MB) : ME := fun e => (n e).bind fun d e1 => ((cutP lo e1).bind fun l => (cutP hi e1).bind fun u => .of (fCut d l u)).at e1
section
variable {X : Cx} {W : WX} {e a : Expr} {lo hi : Option Expr} {pos p2 : Pos} {n : ME} {ml mh : Option MB}
theorem e_cut (pa : PE X a (tE X.K W n)) (pl : PO X lo (tPo X.K W ml)) (ph : PO X hi (tPo X.K W mh)) : PE X (.Subscript a (.Slice lo hi none p2) pos) (tE X.K W (cutE n ml mh)) :=
  PE.mono (pe_slice sl_all pa pl ph) fun σ H Q ⟨e, F, r, nd, h⟩ => by
    unfold cutE at h
    refine ⟨e, F, r, nd, ?_⟩
    cases qa : n e with
    | bad => simp only [qa, Re.bind] at h
    | exc y e1 => simp only [qa, Re.bind] at h; exact h
    | ok d e1 =>
      simp only [qa, Re.bind] at h
      intro v H1 F1 x
      obtain ⟨G, F0, eF, p, x', hd, n1, nw⟩ := x.head
      refine ⟨e1, F0, x'.r, ?_⟩
      cases ql : cutP ml e1 with
      | bad => simp only [ql, Rs.bind, Rs.at] at h
      | exc y => simp only [ql, Rs.bind, Rs.at] at h; exact fun c dx H' k p => h c dx H' F0 (x'.grow k) p
      | ok l =>
        simp only [ql, Rs.bind] at h
        intro H2 k2
        refine ⟨e1, F0, x'.r.same k2, ?_⟩
        cases qh : cutP mh e1 with
        | bad => simp only [qh, Rs.at] at h
        | exc y => simp only [qh, Rs.at] at h; exact fun c dx H' k p => h c dx H' F0 ((x'.grow k2).grow k) p
        | ok u =>
          simp only [qh] at h
          intro H3 k3
          cases qf : fCut d l u with
          | none => simp only [qf, Rs.of, Rs.at] at h
          | some d' =>
            simp only [qf, Rs.of, Rs.at] at h
            exact fCut_ok ((p.same k2).same k3) qf fun v H' G' k p' n1' n2' => h v H' _ (((x'.grow k2).grow k3).consNew k p' n1' n2')
end
end Mir

namespace Mir
open PySem PySem.Spec L2

/-! ### the law's own end -/
section
variable {P : Program} {w : World} {K : PySem.W.Frag} {mg : Str → Option Value} {base : Heap}
/-- the law's def, by its own function object -/
theorem okdF {x qual : Str} {st : Stmt} {N ps : List Str} {k : Nat} {mb : MS} {n q : Nat} {f : Addr} {fd : FuncData} (D : DefAt K mg x qual st ps f fd) (S : FnScope N ps (defScope st)) (hn : ps.length = n) (hq : N.length - n = q)
    (hb : ∀ (f : Addr) (cdv : Value) (A : Around) (outer : List Env) (s : Shared) (H : Hp) (E : XK), Room k (A.deeper (PyProof.Rows.envOfC qual (defScope st) s.heap.objs.size f cdv)) →
      PSs (cxOf CX0 P w K mg base N qual (defScope st) f cdv A outer s H E).nox (defBody st) (tM K wF z0 mb)) : FnOk P w K mg base CX0 (k + 1) f fd ps (spN K n (mDef0 q mb)) :=
  D.F.ok S (fun vs H Q E h => h.1.trans hn.symm) fun cdv A outer s H vs Q E hr h => ⟨_, hb f cdv A outer s H E hr, by
    obtain ⟨hl, ds, r, h⟩ := h
    refine body_ok (n := q) (E := fun _ _ _ => False) (by rw [hl]; exact hq) (fun _ _ _ _ z => z.elim) r ?_
    unfold mDef0 at h
    cases e : mDef q mb ds with
    | ok d => rw [e] at h; exact h
    | exc x => rw [e] at h; exact h.elim
    | bad => rw [e] at h; exact h⟩
theorem rps_ints {K : PySem.W.Frag} {H : Hp} : ∀ {ns : List Int}, Rps K H (ns.map V.int) (ns.map D.int) []
  | [] => .nil
  | n :: ns => .cons .int rps_ints
theorem rol_start {K : PySem.W.Frag} {H : Hp} {a : Addr} {ns : List Int} (ho : Only H) (hS : SqL K H a (ns.map V.int)) : Rp K H (.ref a) (.rol (ns.map D.int)) [] := by
  refine .rol ?_ rps_ints
  rcases hS with (h | ⟨o, h⟩) | h
  · rcases ho a with z | ⟨o, xs, z⟩ <;> (rw [h] at z; cases z)
  · exact .inl ⟨o, h⟩
  · exact .inr h
theorem law_start {K : PySem.W.Frag} {H : Hp} {a : Addr} {ns : List Int} {m : MD} {E : XK} (ho : Only H) (hS : SqL K H a (ns.map V.int)) (hm : m [.rol (ns.map D.int)] = .ok (.bl true)) :
    spN K 1 m [.ref a] H (fun v _ => v = .bl true) E := by
  refine ⟨rfl, [.rol (ns.map D.int)], .cons (rol_start ho hS) .nil, ?_⟩
  rw [hm]
  intro v H' G _ p _ _
  cases p
  rfl
end
/-! ### facts of the top -/
theorem defAt {K : PySem.W.Frag} {mg : Str → Option Value} {h : Heap} {x : Str} {st : Stmt} {ps : List Str} {f : Addr} {fd : FuncData} (X : K.In h) (G : h.Ns mainGlobals mg) (F : Fun K x x st f fd) (b : Binds K fd ps []) (a : PySem.W.nsIn K mainGlobals x = some (some (.ref f))) : DefAt K mg x x st ps f fd := ⟨F, b, PySem.W.mg_of X G a⟩
theorem conInt {K : PySem.W.Frag} {mg : Str → Option Value} {h : Heap} {x : Str} {i : Int} {t : Tok} (X : K.In h) (G : h.Ns mainGlobals mg) (a : PySem.W.nsIn K mainGlobals x = some (some (.int i t))) : ConAt K mg x (.int i) := ⟨.int i, .int i t, PySem.W.mg_of X G a, ⟨t, rfl⟩, fun _ => .int⟩
theorem conStr {K : PySem.W.Frag} {mg : Str → Option Value} {h : Heap} {x : Str} {s : String} {t : Tok} (X : K.In h) (G : h.Ns mainGlobals mg) (a : PySem.W.nsIn K mainGlobals x = some (some (.str (Str.ofString s) t))) : ConAt K mg x (.str (lit s)) := ⟨.str (Str.ofString s), .str (Str.ofString s) t, PySem.W.mg_of X G a, ⟨t, rfl⟩, fun _ => .str (lit_ok s)⟩
/-- a value of the written part shows a datum -/
def RpK (K : PySem.W.Frag) (u : Value) (d : D) : Prop := ∃ v, RelV v u ∧ ∀ H, Rp K H v d []
theorem kInt {K : PySem.W.Frag} {i : Int} {t : Tok} : RpK K (.int i t) (.int i) := ⟨.int i, ⟨t, rfl⟩, fun _ => .int⟩
theorem kStr {K : PySem.W.Frag} {s : String} {t : Tok} : RpK K (.str (Str.ofString s) t) (.str (lit s)) := ⟨.str (Str.ofString s), ⟨t, rfl⟩, fun _ => .str (lit_ok s)⟩
theorem kNon {K : PySem.W.Frag} : RpK K .none .non := ⟨.non, rfl, fun _ => .non⟩
theorem kBl {K : PySem.W.Frag} {b : Bool} : RpK K (.bool b) (.bl b) := ⟨.bl b, rfl, fun _ => .bl⟩
def RpKs (K : PySem.W.Frag) (us : List Value) (ds : List D) : Prop := ∃ vs, Vals vs us ∧ ∀ H, Rps K H vs ds []
theorem kNil {K : PySem.W.Frag} : RpKs K [] [] := ⟨[], .nil, fun _ => .nil⟩
theorem kCons {K : PySem.W.Frag} {u : Value} {d : D} {us : List Value} {ds : List D} (p : RpK K u d) (q : RpKs K us ds) : RpKs K (u :: us) (d :: ds) := by
  obtain ⟨v, h1, h2⟩ := p
  obtain ⟨vs, h3, h4⟩ := q
  exact ⟨v :: vs, .cons h1 h3, fun H => .cons (h2 H) (h4 H)⟩
theorem kTup {K : PySem.W.Frag} {a : Addr} {us : List Value} {ds : List D} {od : Option Addr} {n : Nat} {sl : Array (Option Value)} (l : K.lookup a = some ⟨.type "tuple", od, .seq us.toArray n, sl⟩) (p : RpKs K us ds) (hl : us.length ≤ 1000 := by exact Nat.le_of_ble_eq_true rfl) : RpK K (.ref a) (.tup ds) := by
  obtain ⟨vs, h3, h4⟩ := p
  exact ⟨.ref a, rfl, fun H => .tup (.inr ⟨_, us.toArray, n, l, rfl, rfl, Nat.le_trans (by simpa using hl) (by decide), by simpa using h3⟩) (h4 H)⟩
theorem kLst {K : PySem.W.Frag} {a : Addr} {us : List Value} {ds : List D} {n : Nat} {sl : Array (Option Value)} (l : K.lookup a = some ⟨.type "list", none, .seq us.toArray n, sl⟩) (p : RpKs K us ds) (hl : us.length ≤ 1000 := by exact Nat.le_of_ble_eq_true rfl) : RpK K (.ref a) (.rol ds) := by
  obtain ⟨vs, h3, h4⟩ := p
  exact ⟨.ref a, rfl, fun H => .rol (.inr ⟨_, us.toArray, n, l, rfl, rfl, rfl, Nat.le_trans (by simpa using hl) (by decide), by simpa using h3⟩) (h4 H)⟩
theorem conOf {K : PySem.W.Frag} {mg : Str → Option Value} {h : Heap} {x : Str} {u : Value} {d : D} (X : K.In h) (G : h.Ns mainGlobals mg) (a : PySem.W.nsIn K mainGlobals x = some (some u)) (p : RpK K u d) : ConAt K mg x d := by
  obtain ⟨v, h1, h2⟩ := p
  exact ⟨v, u, PySem.W.mg_of X G a, h1, h2⟩
end Mir

namespace Mir
open PySem PySem.Spec L2

/-! ### what comes out of a mirror -/
inductive w0 {α : Type} : Option α → (α → Prop) → Prop
  | mk {a : α} {Q : α → Prop} : Q a → w0 (some a) Q
inductive w1 {α : Type} : Rs α → (α → Prop) → Prop
  | mk {a : α} {Q : α → Prop} : Q a → w1 (.ok a) Q
inductive w2 {α : Type} : Re α → (α → E → Prop) → Prop
  | mk {a : α} {e : E} {Q : α → E → Prop} : Q a e → w2 (.ok a e) Q
inductive wD : DR → (D → List D → Prop) → Prop
  | mk {d : D} {os : List D} {Q : D → List D → Prop} : Q d os → wD (.rt d os) Q
/-- N the rest, R return, B break, C continue -/
inductive wS : SR → (E → Prop) → (D → E → Prop) → (E → Prop) → (E → Prop) → Prop
  | nx {e : E} {N B C : E → Prop} {R : D → E → Prop} : N e → wS (.nx e) N R B C
  | rt {d : D} {e : E} {N B C : E → Prop} {R : D → E → Prop} : R d e → wS (.rt d e) N R B C
  | bk {e : E} {N B C : E → Prop} {R : D → E → Prop} : B e → wS (.bk e) N R B C
  | ct {e : E} {N B C : E → Prop} {R : D → E → Prop} : C e → wS (.ct e) N R B C
/-- a word that the steps leave alone -/
def Hold (p : Prop) : Prop := p
section
variable {α β : Type} {e e1 : E} {d : D}
theorem w0_of {o : Option α} {a : α} {Q : α → Prop} (h : o = some a) (q : Q a) : w0 o Q := by rw [h]; exact .mk q
theorem w0_mono {o : Option α} {P Q : α → Prop} (h : w0 o P) (q : ∀ a, P a → Q a) : w0 o Q := by cases h with | mk h => exact .mk (q _ h)
theorem w1_mono {r : Rs α} {P Q : α → Prop} (h : w1 r P) (q : ∀ a, P a → Q a) : w1 r Q := by cases h with | mk h => exact .mk (q _ h)
theorem w2_mono {r : Re α} {P Q : α → E → Prop} (h : w2 r P) (q : ∀ a e, P a e → Q a e) : w2 r Q := by cases h with | mk h => exact .mk (q _ _ h)
theorem wD_mono {r : DR} {P Q : D → List D → Prop} (h : wD r P) (q : ∀ a e, P a e → Q a e) : wD r Q := by cases h with | mk h => exact .mk (q _ _ h)
theorem wS_mono {s : SR} {N N' B B' C C' : E → Prop} {R R' : D → E → Prop} (h : wS s N R B C) (n : ∀ e, N e → N' e) (r : ∀ d e, R d e → R' d e) (b : ∀ e, B e → B' e) (c : ∀ e, C e → C' e) : wS s N' R' B' C' := by
  cases h with
  | nx h => exact .nx (n _ h)
  | rt h => exact .rt (r _ _ h)
  | bk h => exact .bk (b _ h)
  | ct h => exact .ct (c _ h)
theorem w1_ok {a : α} {Q : α → Prop} (q : Q a) : w1 (.ok a) Q := .mk q
theorem w1_eq {r : Rs α} {a : α} {Q : α → Prop} (h : r = .ok a) (q : Q a) : w1 r Q := by rw [h]; exact .mk q
theorem w1_is {r : Rs α} {a : α} (h : w1 r (· = a)) : r = .ok a := by
  cases h with
  | mk h => rw [h]
theorem w1_bind {r : Rs α} {f : α → Rs β} {Q : β → Prop} (h : w1 r fun a => w1 (f a) Q) : w1 (r.bind f) Q := by cases h with | mk h => exact h
theorem w1_of {o : Option α} {Q : α → Prop} (h : w0 o Q) : w1 (.of o) Q := by cases h with | mk h => exact .mk h
theorem w2_bind {r : Re α} {f : α → E → Re β} {Q : β → E → Prop} (h : w2 r fun a e => w2 (f a e) Q) : w2 (r.bind f) Q := by cases h with | mk h => exact h
theorem w2_at {r : Rs α} {Q : α → E → Prop} (h : w1 r fun a => Q a e) : w2 (r.at e) Q := by cases h with | mk h => exact .mk h
/-! reads -/
variable {Q : D → Prop} {Q2 : D → E → Prop} {ma mb mc : MB} {na n2 : ME} {f g : D → D → Option D}
theorem w1_var {i : Nat} (h : e[i]? = some (some d)) (q : Q d) : w1 (bVar i e) Q := by unfold bVar; rw [h]; exact .mk q
theorem w1_C (q : Q d) : w1 (bC d e) Q := .mk q
theorem w1_bin (h : w1 (ma e) fun a => w1 (mb e) fun b => w0 (f a b) Q) : w1 (bin f ma mb e) Q := w1_bind (w1_mono h fun _ h => w1_bind (w1_mono h fun _ h => w1_of h))
theorem w1_un {f : D → Option D} (h : w1 (ma e) fun a => w0 (f a) Q) : w1 (un f ma e) Q := w1_bind (w1_mono h fun _ h => w1_of h)
theorem w1_bl1 {k : Bool → Rs α} {Q : α → Prop} {b : Bool} (h : w1 (k b) Q) : w1 (bl1 (.bl b) k) Q := h
theorem w1_ch (h : w1 (ma e) fun a => w1 (mb e) fun b => w0 (f a b) fun z => ∃ k, z = .bl k ∧ (k = true → w1 (mc e) fun c => w0 (g b c) fun y => ∃ q, y = .bl q ∧ Q (.bl q)) ∧ (k = false → Q (.bl false))) : w1 (chB f g ma mb mc e) Q := by
  refine w1_bind (w1_mono h fun a h => w1_bind (w1_mono h fun b h => w1_bind (w1_of (w0_mono h fun z ⟨k, e1, h1, h2⟩ => ?_))))
  subst e1
  refine w1_bl1 ?_
  cases k with
  | true =>
    rw [if_pos rfl]
    refine w1_bind (w1_mono (h1 rfl) fun c h => w1_bind (w1_of (w0_mono h fun y ⟨q, e2, h⟩ => ?_)))
    subst e2
    exact .mk h
  | false => exact .mk (h2 rfl)
theorem w1_and (h : w1 (ma e) fun a => ∃ k, a = .bl k ∧ (k = true → w1 (mb e) fun b => ∃ c, b = .bl c ∧ Q (.bl c)) ∧ (k = false → Q (.bl false))) : w1 (andB ma mb e) Q := by
  refine w1_bind (w1_mono h fun a ⟨k, e1, h1, h2⟩ => ?_)
  subst e1
  refine w1_bl1 ?_
  cases k with
  | true =>
    rw [if_pos rfl]
    refine w1_bind (w1_mono (h1 rfl) fun b ⟨c, e2, h⟩ => ?_)
    subst e2
    exact .mk h
  | false => exact .mk (h2 rfl)
theorem w1_or (h : w1 (ma e) fun a => ∃ k, a = .bl k ∧ (k = true → Q (.bl true)) ∧ (k = false → w1 (mb e) fun b => ∃ c, b = .bl c ∧ Q (.bl c))) : w1 (orB ma mb e) Q := by
  refine w1_bind (w1_mono h fun a ⟨k, e1, h1, h2⟩ => ?_)
  subst e1
  refine w1_bl1 ?_
  cases k with
  | true => exact .mk (h1 rfl)
  | false =>
    rw [if_neg (by decide)]
    refine w1_bind (w1_mono (h2 rfl) fun b ⟨c, e2, h⟩ => ?_)
    subst e2
    exact .mk h
theorem w1_not (h : w1 (ma e) fun a => ∃ k, a = .bl k ∧ Q (.bl (!k))) : w1 (notB ma e) Q := by
  refine w1_bind (w1_mono h fun a ⟨k, e1, h1⟩ => ?_)
  subst e1
  exact .mk h1
theorem w1_nil {Q : List D → Prop} (q : Q []) : w1 (aNil e) Q := .mk q
theorem w1_cons {ms : MA} {Q : List D → Prop} (h : w1 (ma e) fun d => w1 (ms e) fun ds => Q (d :: ds)) : w1 (aCons ma ms e) Q := w1_bind (w1_mono h fun _ h => w1_bind (w1_mono h fun _ h => .mk h))
theorem w1_tup {ms : MA} (h : w1 (ms e) fun ds => imms ds = true ∧ fits ds.length = true ∧ Q (.tup ds)) : w1 (dTup ms e) Q := w1_bind (w1_mono h fun ds h => by rw [if_pos ⟨h.1, h.2.1⟩]; exact .mk h.2.2)
theorem w1_lst {ms : MA} (h : w1 (ms e) fun ds => imms ds = true ∧ fits ds.length = true ∧ Q (.lst ds)) : w1 (dLst ms e) Q := w1_bind (w1_mono h fun ds h => by rw [if_pos ⟨h.1, h.2.1⟩]; exact .mk h.2.2)
theorem w1_cal {f : List D → Option D} {ms : MA} (h : w1 (ms e) fun ds => w0 (f ds) Q) : w1 (cal f ms e) Q := w1_bind (w1_mono h fun _ h => w1_of h)
theorem w1_call {m : MD} {ms : MA} (h : w1 (ms e) fun ds => imms ds = true ∧ w1 (m ds) Q) : w1 (cN m ms e) Q := w1_bind (w1_mono h fun ds h => by rw [if_pos h.1]; exact h.2)
theorem w1_cp0 {Q : Option Int → Prop} (q : Q none) : w1 (cutP none e) Q := .mk q
theorem w1_cp {Q : Option Int → Prop} (h : w1 (ma e) fun d => ∃ i, d = .int i ∧ Q (some i)) : w1 (cutP (some ma) e) Q := w1_bind (w1_mono h fun d ⟨i, e1, q⟩ => by subst e1; exact .mk q)
theorem w1_cut {l u : Option MB} (h : w1 (ma e) fun d => w1 (cutP l e) fun a => w1 (cutP u e) fun b => w0 (fCut d a b) Q) : w1 (cut ma l u e) Q := w1_bind (w1_mono h fun _ h => w1_bind (w1_mono h fun _ h => w1_bind (w1_mono h fun _ h => w1_of h)))
/-! steps -/
theorem w2_ofN (h : w1 (ma e) fun d => Q2 d e) : w2 (ofN ma e) Q2 := w2_at h
theorem w2_own (h : w1 (ma e) fun d => imm d = true ∧ Q2 d e) : w2 (own ma e) Q2 := w2_at (w1_bind (w1_mono h fun d h => by rw [if_pos h.1]; exact .mk h.2))
theorem w2_mv {i : Nat} (h : e[i]? = some (some d)) (q : Q2 d (e.set i none)) : w2 (eMv i e) Q2 := by unfold eMv; rw [h]; exact .mk q
theorem w2_bin (h : w2 (na e) fun a e1 => w2 (n2 e1) fun b e2 => w0 (f a b) fun d => Q2 d e2) : w2 (binE f na n2 e) Q2 := w2_bind (w2_mono h fun _ _ h => w2_bind (w2_mono h fun _ _ h => w2_at (w1_of h)))
theorem w2_binV {i : Nat} {d0 : D} (h0 : e[i]? = some (some d0)) (h : w2 (n2 e) fun b e2 => ∃ a, e2[i]? = some (some a) ∧ w0 (f a b) fun d => Q2 d e2) : w2 (binV f i n2 e) Q2 := by
  unfold binV
  rw [h0]
  refine w2_bind (w2_mono h fun b e2 ⟨a, h1, h⟩ => ?_)
  rw [h1]
  exact w2_at (w1_of h)
theorem w2_un {f : D → Option D} (h : w2 (na e) fun a e1 => w0 (f a) fun d => Q2 d e1) : w2 (unE f na e) Q2 := w2_bind (w2_mono h fun _ _ h => w2_at (w1_of h))
theorem w2_nil {Q : List D → E → Prop} (q : Q [] e) : w2 (anil e) Q := .mk q
theorem w2_cons {ms : MAE} {Q : List D → E → Prop} (h : w2 (na e) fun d e1 => w2 (ms e1) fun ds e2 => Q (d :: ds) e2) : w2 (acons na ms e) Q := w2_bind (w2_mono h fun _ _ h => w2_bind (w2_mono h fun _ _ h => .mk h))
theorem w2_tup {ms : MAE} (h : w2 (ms e) fun ds e1 => fits ds.length = true ∧ Q2 (.tup ds) e1) : w2 (dTupE ms e) Q2 := w2_bind (w2_mono h fun ds e1 h => by rw [if_pos h.1]; exact .mk h.2)
theorem w2_lst {ms : MAE} (h : w2 (ms e) fun ds e1 => fits ds.length = true ∧ Q2 (.lst ds) e1) : w2 (dLstE ms e) Q2 := w2_bind (w2_mono h fun ds e1 h => by rw [if_pos h.1]; exact .mk h.2)
theorem w2_cal {f : List D → Option D} {ms : MAE} (h : w2 (ms e) fun ds e1 => w0 (f ds) fun d => Q2 d e1) : w2 (calE f ms e) Q2 := w2_bind (w2_mono h fun _ _ h => w2_at (w1_of h))
theorem w2_call {m : MD} {ms : MAE} (h : w2 (ms e) fun ds e1 => imms ds = true ∧ w1 (m ds) fun d => Q2 d e1) : w2 (cE m ms e) Q2 := w2_bind (w2_mono h fun ds e1 h => by rw [if_pos h.1]; exact w2_at h.2)
theorem w2_frz (h : w2 (na e) fun d e1 => ∃ ds, d = .lst ds ∧ imms ds = true ∧ Q2 (.rol ds) e1) : w2 (frz na e) Q2 := by
  unfold frz
  generalize na e = r at h ⊢
  cases h with
  | mk h =>
    obtain ⟨ds, h1, h2, h3⟩ := h
    subst h1
    show w2 (if imms ds = true then _ else _) Q2
    rw [if_pos h2]
    exact .mk h3
theorem w2_cut {l u : Option MB} (h : w2 (na e) fun d e1 => w1 (cutP l e1) fun a => w1 (cutP u e1) fun b => w0 (fCut d a b) fun d => Q2 d e1) : w2 (cutE na l u e) Q2 := w2_bind (w2_mono h fun _ _ h => w2_at (w1_bind (w1_mono h fun _ h => w1_bind (w1_mono h fun _ h => w1_of h))))
theorem w2_mut {i : Nat} {f : D → List D → Option (D × D)} {ms : MAE} {d0 : List D} (h0 : e[i]? = some (some (.lst d0))) (h : w2 (ms e) fun as e1 => ∃ d, e1[i]? = some (some d) ∧ w0 (f d as) fun p => Q2 p.1 (e1.set i (some p.2))) : w2 (eMut i f ms e) Q2 := by
  unfold eMut
  rw [h0]
  simp only [isLst, if_true]
  refine w2_bind (w2_mono h fun as e1 ⟨d, h1, h⟩ => ?_)
  rw [h1]
  simp only
  generalize f d as = r at h ⊢
  cases h with
  | mk h => exact .mk h
/-- a call that changes the thing in one slot -/
theorem w2_io {i : Nat} {m : MI} {ms : MAE} {d0 : D} (h0 : e[i]? = some (some d0)) (h : w2 (ms e) fun ds e1 => ∃ d1, e1[i]? = some (some d1) ∧ wD (m (d1 :: ds)) fun d os => ∃ o r, os = o :: r ∧ Q2 d ((e1.set i none).set i (some o))) : w2 (eIO [i] m ms e) Q2 := by
  unfold eIO
  have e0 : there [i] e = true := by simp only [there, h0]
  rw [if_pos e0]
  refine w2_bind (w2_mono h fun ds e1 ⟨d1, h1, h⟩ => ?_)
  simp only [takeS, h1, Option.map_some, List.cons_append, List.nil_append]
  generalize m (d1 :: ds) = r at h ⊢
  cases h with
  | mk h =>
    obtain ⟨o, r, rfl, h⟩ := h
    exact .mk h
/-! tests -/
variable {QT : Bool → E → Prop} {t u : MT}
theorem w2_tst (h : w2 (na e) fun d e1 => ∃ b, d = .bl b ∧ QT b e1) : w2 (tst na e) QT := w2_bind (w2_mono h fun d e1 ⟨b, e2, q⟩ => by subst e2; exact .mk q)
theorem w2_and (h : w2 (t e) fun c e1 => (c = true → w2 (u e1) QT) ∧ (c = false → QT false e1)) : w2 (andT t u e) QT := w2_bind (w2_mono h fun c e1 h => by cases c with | true => exact h.1 rfl | false => exact .mk (h.2 rfl))
theorem w2_or (h : w2 (t e) fun c e1 => (c = true → QT true e1) ∧ (c = false → w2 (u e1) QT)) : w2 (orT t u e) QT := w2_bind (w2_mono h fun c e1 h => by cases c with | true => exact .mk (h.1 rfl) | false => exact h.2 rfl)
theorem w2_not (h : w2 (t e) fun c e1 => QT (!c) e1) : w2 (notT t e) QT := w2_bind (w2_mono h fun c e1 h => .mk h)
theorem w2_tY (h : QT true e) : w2 (tY e) QT := .mk h
/-! statements -/
variable {N B C : E → Prop} {R : D → E → Prop} {a b : MS}
theorem wS_nil (h : N e) : wS (mNil e) N R B C := .nx h
theorem wS_seq (h : wS (a e) (fun e1 => wS (b e1) N R B C) R B C) : wS (mSeq a b e) N R B C := by
  unfold mSeq
  generalize a e = r at h ⊢
  cases h with
  | nx h => exact h
  | rt h => exact .rt h
  | bk h => exact .bk h
  | ct h => exact .ct h
theorem wS_set {i : Nat} (h : w2 (na e) fun d e1 => N (e1.set i (some d))) : wS (mSet i na e) N R B C := by
  unfold mSet
  generalize na e = r at h ⊢
  cases h with
  | mk h => exact .nx h
theorem wS_expr (h : w2 (na e) fun _ e1 => N e1) : wS (mExpr na e) N R B C := by
  unfold mExpr
  generalize na e = r at h ⊢
  cases h with
  | mk h => exact .nx h
theorem wS_if (h : w2 (t e) fun c e1 => (c = true → wS (a e1) N R B C) ∧ (c = false → wS (b e1) N R B C)) : wS (mIf t a b e) N R B C := by
  unfold mIf
  generalize t e = r at h ⊢
  cases h with
  | @mk c e1 _ h =>
    cases c with
    | true => exact h.1 rfl
    | false => exact h.2 rfl
theorem wS_ret (h : w2 (na e) fun d e1 => R d e1) : wS (mRet na e) N R B C := by
  unfold mRet
  generalize na e = r at h ⊢
  cases h with
  | mk h => exact .rt h
theorem wS_retN (h : R .non e) : wS (mRetN e) N R B C := .rt h
theorem wS_brk (h : B e) : wS (mBreak e) N R B C := .bk h
theorem wS_cnt (h : C e) : wS (mCont e) N R B C := .ct h
theorem wS_aug {i : Nat} {d0 : D} (h0 : e[i]? = some (some d0)) (hi : imm d0 = true) (h : w2 (na e) fun d e1 => w0 (f d0 d) fun d => N (e1.set i (some d))) : wS (mAug i f na e) N R B C := by
  unfold mAug
  rw [h0]
  simp only [hi, if_true]
  generalize na e = r at h ⊢
  cases h with
  | @mk d e1 _ h =>
    simp only
    generalize f d0 d = r at h ⊢
    cases h with
    | mk h => exact .nx h
theorem wS_asg {g : MG} (h : w2 (na e) fun d e1 => imm d = true ∧ w0 (g d e1) N) : wS (mAsg g na e) N R B C := by
  unfold mAsg
  generalize na e = r at h ⊢
  cases h with
  | @mk d e1 _ h =>
    obtain ⟨h1, h2⟩ := h
    simp only [h1, if_true]
    generalize g d e1 = r at h2 ⊢
    cases h2 with
    | mk h => exact .nx h
theorem wS_par {i j : Nat} {ns : MAE} (h : w2 (ns e) fun ds e1 => ∃ a b, ds = [a, b] ∧ (imm a = true ∧ imm b = true) ∧ N ((e1.set i (some a)).set j (some b))) : wS (mPar i j ns e) N R B C := by
  unfold mPar
  generalize ns e = r at h ⊢
  cases h with
  | mk h =>
    obtain ⟨a, b, rfl, h1, h2⟩ := h
    simp only [h1, and_self, if_true]
    exact .nx h2
theorem wS_setIx {i : Nat} (h : w2 (na e) fun y e1 => imm y = true ∧ ∃ ds, e1[i]? = some (some (.lst ds)) ∧ imms ds = true ∧ w1 (ma e1) fun k => ∃ z, k = .int z ∧ ∃ j, ixN ds.length z = some j ∧ N (e1.set i (some (.lst (ds.set j y))))) : wS (mSetIx i ma na e) N R B C := by
  unfold mSetIx
  generalize na e = r at h ⊢
  cases h with
  | @mk y e1 _ h =>
    obtain ⟨h1, ds, h2, h3, h4⟩ := h
    simp only [h1, if_true, h2, h3]
    generalize ma e1 = r at h4 ⊢
    cases h4 with
    | mk h4 =>
      obtain ⟨z, rfl, j, h5, h6⟩ := h4
      simp only [h5]
      exact .nx h6
/-! operations on ints -/
theorem w0_mulI {i j : Int} {Q : D → Prop} (h : big64 i = true ∨ big64 j = true) (q : Q (.int (i * j))) : w0 (fMul (.int i) (.int j)) Q := by
  show w0 (if (big64 i || big64 j) = true then some (D.int (i * j)) else none) Q
  rw [if_pos (by rcases h with h | h <;> simp [h])]
  exact .mk q
theorem fits_of {n : Nat} (h : n ≤ 16777216) : fits n = true := decide_eq_true h
theorem big64_of {i : Int} (h : -18446744073709551616 < i ∧ i < 18446744073709551616) : big64 i = true := decide_eq_true h
theorem w0_modI {i j : Int} {Q : D → Prop} (h : 0 < j) (q : Q (.int (i % j))) : w0 (fMod (.int i) (.int j)) Q := by
  show w0 (if 0 < j then some (D.int (i % j)) else none) Q
  rw [if_pos h]
  exact .mk q
theorem w0_divI {i j : Int} {Q : D → Prop} (h : 0 < j ∧ j < 1073741824) (q : Q (.int (i / j))) : w0 (fDiv (.int i) (.int j)) Q := by
  show w0 (if 0 < j ∧ j < 1073741824 then some (D.int (i / j)) else none) Q
  rw [if_pos h]
  exact .mk q
theorem w0_powI {i j : Int} {Q : D → Prop} (h : 0 ≤ j ∧ j ≤ 1000000 ∧ i.natAbs < 2 ^ 64) (q : Q (.int (i ^ j.toNat))) : w0 (fPow (.int i) (.int j)) Q := by
  show w0 (if 0 ≤ j ∧ j ≤ 1000000 ∧ i.natAbs < 2 ^ 64 then some (D.int (i ^ j.toNat)) else none) Q
  rw [if_pos h]
  exact .mk q
theorem atI_in {α : Type} {ds : List α} {i : Int} (h : 0 ≤ i) (h1 : i < ds.length) : ∃ d, atI ds i = some d ∧ ds[i.toNat]? = some d := by
  have e : i.toNat < ds.length := by omega
  refine ⟨ds[i.toNat], ?_, List.getElem?_eq_getElem e⟩
  unfold atI ixN
  rw [if_pos h, if_pos h1]
  exact List.getElem?_eq_getElem e
theorem w0_ixR {ds : List D} {i : Int} {Q : D → Prop} (h : 0 ≤ i) (h1 : i < ds.length) (q : ∀ d, ds[i.toNat]? = some d → Q d) : w0 (fIx (.rol ds) (.int i)) Q := by
  obtain ⟨d, e1, e2⟩ := atI_in h h1
  exact w0_of (show fIx (.rol ds) (.int i) = some d from e1) (q d e2)
theorem w0_ixL {ds : List D} {i : Int} {Q : D → Prop} (h : 0 ≤ i) (h1 : i < ds.length) (q : ∀ d, ds[i.toNat]? = some d → Q d) : w0 (fIx (.lst ds) (.int i)) Q := by
  obtain ⟨d, e1, e2⟩ := atI_in h h1
  exact w0_of (show fIx (.lst ds) (.int i) = some d from e1) (q d e2)
theorem w0_ixT {ds : List D} {i : Int} {Q : D → Prop} (h : 0 ≤ i) (h1 : i < ds.length) (q : ∀ d, ds[i.toNat]? = some d → Q d) : w0 (fIx (.tup ds) (.int i)) Q := by
  obtain ⟨d, e1, e2⟩ := atI_in h h1
  exact w0_of (show fIx (.tup ds) (.int i) = some d from e1) (q d e2)
theorem w0_ixS {s : List Nat} {i : Int} {Q : D → Prop} (hf : fits s.length = true) (h : 0 ≤ i) (h1 : i < s.length) (q : ∀ c, s[i.toNat]? = some c → Q (.str [c])) : w0 (fIx (.str s) (.int i)) Q := by
  obtain ⟨c, e1, e2⟩ := atI_in h h1
  refine w0_of (show (if fits s.length = true then (atI s i).map fun c => D.str [c] else none) = some (.str [c]) from ?_) (q c e2)
  rw [if_pos hf, e1]
  rfl
theorem w0_addS {s t : List Nat} {Q : D → Prop} (h : s.length + t.length ≤ 16777216) (q : Q (.str (s ++ t))) : w0 (fAdd (.str s) (.str t)) Q :=
  w0_of (show (if fits (s.length + t.length) = true then some (D.str (s ++ t)) else none) = _ by rw [if_pos (fits_of h)]) q
theorem w0_lenS {s : List Nat} {Q : D → Prop} (h : s.length ≤ 16777216) (q : Q (.int s.length)) : w0 (fLen [.str s]) Q :=
  w0_of (show ((if fits s.length = true then some s.length else none).map fun (n : Nat) => D.int (n : Int)) = _ by rw [if_pos (fits_of h)]; rfl) q
theorem w0_mulS {s : List Nat} {n : Int} {Q : D → Prop} (h : 0 ≤ n ∧ n ≤ 16777216) (h1 : s.length * n.toNat ≤ 16777216) (q : Q (.str (List.replicate n.toNat s).flatten)) : w0 (fMul (.str s) (.int n)) Q :=
  w0_of (show (if 0 ≤ n ∧ n ≤ 16777216 ∧ fits (s.length * n.toNat) = true then some (D.str (List.replicate n.toNat s).flatten) else none) = _ by rw [if_pos ⟨h.1, h.2, fits_of h1⟩]) q
theorem w0_cutS {s : List Nat} {lo hi : Option Int} {Q : D → Prop} (h : s.length ≤ 16777216) (q : Q (.str (cutL s lo hi))) : w0 (fCut (.str s) lo hi) Q :=
  w0_of (show (if fits s.length = true then some (D.str (cutL s lo hi)) else none) = _ by rw [if_pos (fits_of h)]) q
theorem w0_cutT {ds : List D} {lo hi : Option Int} {Q : D → Prop} (h : imms ds = true) (q : Q (.tup (cutL ds lo hi))) : w0 (fCut (.tup ds) lo hi) Q :=
  w0_of (show (if imms ds = true then some (D.tup (cutL ds lo hi)) else none) = _ by rw [if_pos h]) q
theorem cutL_to {α : Type} {s : List α} {k : Int} (h : 0 ≤ k) : cutL s none (some k) = s.take k.toNat := by
  obtain ⟨n, rfl⟩ := Int.eq_ofNat_of_zero_le h
  unfold cutL
  rw [HT.sIx_none, HT.sIx_nat, List.drop_zero, Nat.sub_zero, Int.toNat_natCast]
  rcases Nat.le_total n s.length with z | z
  · rw [Nat.min_eq_left z]
  · rw [Nat.min_eq_right z, List.take_of_length_le (Nat.le_refl _), List.take_of_length_le z]
theorem cutL_from {α : Type} {s : List α} {k : Int} (h : 0 ≤ k) : cutL s (some k) none = s.drop k.toNat := by
  obtain ⟨n, rfl⟩ := Int.eq_ofNat_of_zero_le h
  unfold cutL
  rw [HT.sIx_none, HT.sIx_nat, Int.toNat_natCast]
  rcases Nat.le_total n s.length with z | z
  · rw [Nat.min_eq_left z, List.take_of_length_le (by rw [List.length_drop]; exact Nat.le_refl _)]
  · rw [Nat.min_eq_right z, Nat.sub_self, List.take_zero, List.drop_of_length_le z]
/-- an element of a short list by a drawn number -/
theorem w0_imm {f : D → D → Option D} {a b : D} {Q : D → Prop} (h : w0 (f a b) fun d => imm d = true ∧ Q d) : w0 (immF f a b) Q := by
  unfold immF
  generalize f a b = r at h ⊢
  cases h with
  | mk h =>
    obtain ⟨h1, h2⟩ := h
    simp only [Option.bind_some, h1, if_true]
    exact .mk h2
theorem imms_ints {ns : List Int} : imms (ns.map D.int) = true := by
  rw [imms_all, List.all_map]
  exact List.all_eq_true.mpr fun _ _ => rfl
theorem mem_get {α : Type} {l : List α} {i : Nat} {a : α} (h : l[i]? = some a) : a ∈ l := List.mem_of_getElem? h
theorem get_ints {ns : List Int} {i : Nat} {d : D} (h : (ns.map D.int)[i]? = some d) : ∃ n ∈ ns, d = .int n := by
  rw [List.getElem?_map] at h
  obtain ⟨n, h1, h2⟩ := Option.map_eq_some_iff.mp h
  exact ⟨n, mem_get h1, h2.symm⟩
/-! loops -/
variable {gg : MG}
theorem wS_loop {b : MS} (I : Nat → E → Prop) : ∀ (ds : List D) (j : Nat) {e : E}, I j e → (∀ i d e, ds[i]? = some d → I (j + i) e → w0 (gg d e) fun e1 => wS (b e1) (I (j + i + 1)) R N (I (j + i + 1))) → (∀ e, I (j + ds.length) e → N e) → wS (mLoop gg b ds e) N R B C
  | [], j, e, h, _, hN => .nx (hN e h)
  | d :: ds, j, e, h, hs, hN => by
    have h1 := hs 0 d e rfl h
    unfold mLoop
    generalize gg d e = r at h1 ⊢
    cases h1 with
    | @mk e1 _ h1 =>
      simp only
      have rec_ : ∀ e2, I (j + 0 + 1) e2 → wS (mLoop gg b ds e2) N R B C := fun e2 h2 => wS_loop I ds (j + 1) h2 (fun i d e hd hI => by
        have := hs (i + 1) d e (by simpa using hd) (by rw [show j + (i + 1) = j + 1 + i by omega]; exact hI)
        rw [show j + (i + 1) = j + 1 + i by omega] at this
        exact this) fun e he => hN e (by rw [List.length_cons, show j + (ds.length + 1) = j + 1 + ds.length by omega]; exact he)
      generalize b e1 = r at h1 ⊢
      cases h1 with
      | nx h1 => exact rec_ _ h1
      | ct h1 => exact rec_ _ h1
      | bk h1 => exact .nx h1
      | rt h1 => exact .rt h1
theorem wS_loop0 {b : MS} (I : Nat → E → Prop) (ds : List D) {e : E} (h : I 0 e) (hs : ∀ i d e, ds[i]? = some d → I i e → w0 (gg d e) fun e1 => wS (b e1) (I (i + 1)) R N (I (i + 1))) (hN : ∀ e, I ds.length e → N e) : wS (mLoop gg b ds e) N R B C :=
  wS_loop I ds 0 h (fun i d e hd hI => by rw [Nat.zero_add] at hI ⊢; exact hs i d e hd hI) fun e hI => by rw [Nat.zero_add] at hI; exact hN e hI
/-- an invariant with no count -/
theorem wS_inv {b : MS} (I : E → Prop) (ds : List D) {e : E} (h : I e) (hs : ∀ d e, d ∈ ds → I e → w0 (gg d e) fun e1 => wS (b e1) I R N I) (hN : ∀ e, I e → N e) : wS (mLoop gg b ds e) N R B C :=
  wS_loop0 (fun _ => I) ds h (fun i d e hd hI => hs d e (mem_get hd) hI) hN
theorem wS_for {w : MW} {b : MS} (h : w2 (w e) fun ds e1 => wS (mLoop gg b ds e1) N R B C) : wS (mFor w gg b e) N R B C := by
  unfold mFor
  generalize w e = r at h ⊢
  cases h with
  | mk h => exact h
theorem wS_fill {s : SR} {i : Nat} {d : D} (h : wS s (fun e => N (e.set i (some d))) (fun x e => R x (e.set i (some d))) (fun e => B (e.set i (some d))) (fun e => C (e.set i (some d)))) : wS (s.fill i d) N R B C := by
  cases h with
  | nx h => exact .nx h
  | rt h => exact .rt h
  | bk h => exact .bk h
  | ct h => exact .ct h
theorem wS_forV {i : Nat} {b : MS} {ds : List D} (h0 : e[i]? = some (some d)) (hd : itemsOf d = some ds) (hi : imm d = true) (h : wS (mLoop gg b ds e) N R B C) : wS (mForV i gg b e) N R B C := by
  unfold mForV
  rw [h0]
  simp only [hd, hi, if_true]
  exact h
/-- over a list that stays as it is -/
theorem wS_forL {i : Nat} {b : MS} {ds : List D} (h0 : e[i]? = some (some (.lst ds))) (hi : imms ds = true) (h : wS (mLoop gg b ds (e.set i none)) (fun e => N (e.set i (some (.lst ds)))) (fun x e => R x (e.set i (some (.lst ds)))) (fun e => B (e.set i (some (.lst ds)))) (fun e => C (e.set i (some (.lst ds))))) : wS (mForV i gg b e) N R B C := by
  unfold mForV
  rw [h0]
  simp only [itemsOf, hi, if_true, imm, Bool.false_eq_true, if_false]
  exact wS_fill h
theorem wS_while {b : MS} (I : Nat → E → Prop) (hs : ∀ n e, I n e → w2 (t e) fun c e1 => (c = true → wS (b e1) (fun e2 => ∃ m, m < n ∧ I m e2) R N (fun e2 => ∃ m, m < n ∧ I m e2)) ∧ (c = false → N e1)) : ∀ (k n : Nat) (e : E), n < k → I n e → wS (mWhile t b k e) N R B C
  | 0, n, e, hk, _ => by omega
  | k + 1, n, e, hk, h => by
    have h1 := hs n e h
    unfold mWhile
    generalize t e = r at h1 ⊢
    cases h1 with
    | @mk c e1 _ h1 =>
      cases c with
      | false => exact .nx (h1.2 rfl)
      | true =>
        have h2 := h1.1 rfl
        simp only [if_true]
        generalize b e1 = r at h2 ⊢
        cases h2 with
        | nx h2 => obtain ⟨m, hm, hI⟩ := h2; exact wS_while I hs k m _ (by omega) hI
        | ct h2 => obtain ⟨m, hm, hI⟩ := h2; exact wS_while I hs k m _ (by omega) hI
        | bk h2 => exact .nx h2
        | rt h2 => exact .rt h2
theorem wS_wh {b : MS} (I : Nat → E → Prop) (n : Nat) (hn : n < fuel) (h0 : I n e) (hs : ∀ n e, I n e → w2 (t e) fun c e1 => (c = true → wS (b e1) (fun e2 => ∃ m, m < n ∧ I m e2) R N (fun e2 => ∃ m, m < n ∧ I m e2)) ∧ (c = false → N e1)) : wS (mWh t b e) N R B C := wS_while I hs fuel n e hn h0
theorem w2_wV {QL : List D → E → Prop} (h : w2 (na e) fun d e1 => ∃ ds, itemsOf d = some ds ∧ QL ds e1) : w2 (wV na e) QL := by
  unfold wV
  generalize na e = r at h ⊢
  cases h with
  | mk h => obtain ⟨ds, h1, h2⟩ := h; simp only [h1]; exact .mk h2
theorem w2_wR {ns : MAE} {QL : List D → E → Prop} (h : w2 (ns e) fun ds e1 => (∃ j, ds = [.int j] ∧ small62 j = true ∧ QL (rangeD 0 j.toNat) e1) ∨ ∃ i j, ds = [.int i, .int j] ∧ (small62 i = true ∧ small62 j = true) ∧ QL (rangeD i (j - i).toNat) e1) : w2 (wR ns e) QL := by
  unfold wR
  generalize ns e = r at h ⊢
  cases h with
  | mk h =>
    rcases h with ⟨j, rfl, h1, h2⟩ | ⟨i, j, rfl, h1, h2⟩
    · simp only [h1, if_true]; exact .mk h2
    · simp only [h1, and_self, if_true]; exact .mk h2
theorem small62_of {j : Int} (h : -4611686018427387904 ≤ j ∧ j < 4611686018427387904) : small62 j = true := decide_eq_true h
theorem w2_wR1 {QL : List D → E → Prop} (h : w2 (na e) fun d e1 => ∃ j, d = .int j ∧ small62 j = true ∧ QL (rangeD 0 j.toNat) e1) : w2 (wR (acons na anil) e) QL :=
  w2_wR (w2_cons (w2_mono h fun d e1 ⟨j, h1, h2⟩ => w2_nil (.inl ⟨j, by rw [h1], h2⟩)))
theorem w2_wR2 {QL : List D → E → Prop} (h : w2 (na e) fun d e1 => ∃ i, d = .int i ∧ small62 i = true ∧ w2 (n2 e1) fun d e1 => ∃ j, d = .int j ∧ small62 j = true ∧ QL (rangeD i (j - i).toNat) e1) : w2 (wR (acons na (acons n2 anil)) e) QL :=
  w2_wR (w2_cons (w2_mono h fun d e1 ⟨i, h1, h2, h3⟩ => w2_cons (w2_mono h3 fun d e1 ⟨j, h4, h5, h6⟩ => w2_nil (.inr ⟨i, j, by rw [h1, h4], ⟨h2, h5⟩, h6⟩))))
theorem range_at {lo : Int} {n i : Nat} {d : D} (h : (rangeD lo n)[i]? = some d) : i < n ∧ d = .int (lo + i) := by
  unfold rangeD at h
  rw [List.getElem?_map] at h
  obtain ⟨k, h1, h2⟩ := Option.map_eq_some_iff.mp h
  obtain ⟨h3, h4⟩ := List.getElem?_eq_some_iff.mp h1
  rw [List.getElem_range] at h4
  subst h4
  exact ⟨by simpa using h3, h2.symm⟩
theorem range_len {lo : Int} {n : Nat} : (rangeD lo n).length = n := by simp [rangeD]
/-! defs -/
theorem w1_def {k : Nat} {mb : MS} {ds : List D} {Q : D → Prop} (hi : imms ds = true) (h : wS (mb (ds.map some ++ List.replicate k none)) (fun _ => Q .non) (fun d _ => Q d) (fun _ => False) (fun _ => False)) : w1 (mDef0 k mb ds) Q := by
  unfold mDef0 mDef
  rw [if_pos hi]
  generalize mb (ds.map some ++ List.replicate k none) = r at h ⊢
  cases h with
  | nx h => exact .mk h
  | rt h => exact .mk h
  | bk h => exact h.elim
  | ct h => exact h.elim
theorem wD_def {k : Nat} {Z : Zs} {mb : MS} {ds : List D} {Q : D → List D → Prop} (h : wS (mb (ds.map some ++ List.replicate k none)) (fun e => w0 (outsOf Z 0 ds e) (Q .non)) (fun d e => w0 (outsOf Z 0 ds e) (Q d)) (fun _ => False) (fun _ => False)) : wD (mDefI0 k Z mb ds) Q := by
  unfold mDefI0 mDefI
  generalize mb (ds.map some ++ List.replicate k none) = r at h ⊢
  cases h with
  | @nx e _ _ _ _ h =>
    simp only [mResI]
    generalize outsOf Z 0 ds e = r at h ⊢
    cases h with
    | mk h => exact .mk h
  | @rt d e _ _ _ _ h =>
    simp only [mResI]
    generalize outsOf Z 0 ds e = r at h ⊢
    cases h with
    | mk h => exact .mk h
  | bk h => exact h.elim
  | ct h => exact h.elim
end
end Mir

namespace Mir
open PySem PySem.Spec L2

/-! ### == of data -/
theorem str_beq (s t : List Nat) : ((⟨s.toArray⟩ : Str) == ⟨t.toArray⟩) = decide (s = t) := by
  by_cases h : s = t
  · subst h; simp
  · rw [decide_eq_false h]
    refine beq_eq_false_iff_ne.mpr fun z => h ?_
    have := congrArg (fun x : Str => x.cps.toList) z
    simpa using this
@[simp] theorem eqv_str (s t : List Nat) : D.eqv (.str s) (.str t) = decide (s = t) := by
  simp only [D.eqv, D.py, PyData.eqv]; exact str_beq s t
@[simp] theorem eqv_int (i j : Int) : D.eqv (.int i) (.int j) = decide (i = j) := by simp only [D.eqv, D.py, PyData.eqv]; rfl
@[simp] theorem eqv_bl (a b : Bool) : D.eqv (.bl a) (.bl b) = (a == b) := by simp only [D.eqv, D.py, PyData.eqv]
@[simp] theorem eqv_non : D.eqv .non .non = true := by simp only [D.eqv, D.py, PyData.eqv]
@[simp] theorem eqv_intbl (i : Int) (b : Bool) : D.eqv (.int i) (.bl b) = (i == (if b then 1 else 0)) := by simp only [D.eqv, D.py, PyData.eqv]
@[simp] theorem eqv_blint (i : Int) (b : Bool) : D.eqv (.bl b) (.int i) = ((if b then 1 else 0) == i) := by simp only [D.eqv, D.py, PyData.eqv]
@[simp] theorem eqv_strint (s : List Nat) (i : Int) : D.eqv (.str s) (.int i) = false := by simp only [D.eqv, D.py, PyData.eqv]
@[simp] theorem eqv_intstr (s : List Nat) (i : Int) : D.eqv (.int i) (.str s) = false := by simp only [D.eqv, D.py, PyData.eqv]
@[simp] theorem eqv_strbl (s : List Nat) (i : Bool) : D.eqv (.str s) (.bl i) = false := by simp only [D.eqv, D.py, PyData.eqv]
@[simp] theorem eqv_blstr (s : List Nat) (i : Bool) : D.eqv (.bl i) (.str s) = false := by simp only [D.eqv, D.py, PyData.eqv]
@[simp] theorem eqv_nonint (i : Int) : D.eqv .non (.int i) = false := by simp only [D.eqv, D.py, PyData.eqv]
@[simp] theorem eqv_intnon (i : Int) : D.eqv (.int i) .non = false := by simp only [D.eqv, D.py, PyData.eqv]
@[simp] theorem eqv_nonstr (i : List Nat) : D.eqv .non (.str i) = false := by simp only [D.eqv, D.py, PyData.eqv]
@[simp] theorem eqv_strnon (i : List Nat) : D.eqv (.str i) .non = false := by simp only [D.eqv, D.py, PyData.eqv]
@[simp] theorem eqv_nonbl (i : Bool) : D.eqv .non (.bl i) = false := by simp only [D.eqv, D.py, PyData.eqv]
@[simp] theorem eqv_blnon (i : Bool) : D.eqv (.bl i) .non = false := by simp only [D.eqv, D.py, PyData.eqv]
@[simp] theorem eqv_tupstr (ds : List D) (s : List Nat) : D.eqv (.tup ds) (.str s) = false := by simp only [D.eqv, D.py, PyData.eqv]
@[simp] theorem eqv_strtup (ds : List D) (s : List Nat) : D.eqv (.str s) (.tup ds) = false := by simp only [D.eqv, D.py, PyData.eqv]
@[simp] theorem eqv_rolstr (ds : List D) (s : List Nat) : D.eqv (.rol ds) (.str s) = false := by simp only [D.eqv, D.py, PyData.eqv]
@[simp] theorem eqv_strrol (ds : List D) (s : List Nat) : D.eqv (.str s) (.rol ds) = false := by simp only [D.eqv, D.py, PyData.eqv]
@[simp] theorem eqv_rolint (ds : List D) (s : Int) : D.eqv (.rol ds) (.int s) = false := by simp only [D.eqv, D.py, PyData.eqv]
@[simp] theorem eqv_introl (ds : List D) (s : Int) : D.eqv (.int s) (.rol ds) = false := by simp only [D.eqv, D.py, PyData.eqv]
@[simp] theorem eqv_rolbl (ds : List D) (s : Bool) : D.eqv (.rol ds) (.bl s) = false := by simp only [D.eqv, D.py, PyData.eqv]
@[simp] theorem eqv_blrol (ds : List D) (s : Bool) : D.eqv (.bl s) (.rol ds) = false := by simp only [D.eqv, D.py, PyData.eqv]
@[simp] theorem eqv_rolnon (ds : List D) : D.eqv (.rol ds) .non = false := by simp only [D.eqv, D.py, PyData.eqv]
@[simp] theorem eqv_nonrol (ds : List D) : D.eqv .non (.rol ds) = false := by simp only [D.eqv, D.py, PyData.eqv]
@[simp] theorem eqv_tupint (ds : List D) (s : Int) : D.eqv (.tup ds) (.int s) = false := by simp only [D.eqv, D.py, PyData.eqv]
@[simp] theorem eqv_inttup (ds : List D) (s : Int) : D.eqv (.int s) (.tup ds) = false := by simp only [D.eqv, D.py, PyData.eqv]
@[simp] theorem eqv_tupbl (ds : List D) (s : Bool) : D.eqv (.tup ds) (.bl s) = false := by simp only [D.eqv, D.py, PyData.eqv]
@[simp] theorem eqv_bltup (ds : List D) (s : Bool) : D.eqv (.bl s) (.tup ds) = false := by simp only [D.eqv, D.py, PyData.eqv]
@[simp] theorem eqv_tupnon (ds : List D) : D.eqv (.tup ds) .non = false := by simp only [D.eqv, D.py, PyData.eqv]
@[simp] theorem eqv_nontup (ds : List D) : D.eqv .non (.tup ds) = false := by simp only [D.eqv, D.py, PyData.eqv]
@[simp] theorem eqv_tuprol (ds es : List D) : D.eqv (.tup ds) (.rol es) = false := by simp only [D.eqv, D.py, PyData.eqv]
@[simp] theorem eqv_roltup (ds es : List D) : D.eqv (.rol es) (.tup ds) = false := by simp only [D.eqv, D.py, PyData.eqv]
def eqvs (as bs : List D) : Bool := PyData.eqvAll (D.pys as) (D.pys bs)
@[simp] theorem eqvs_nil : eqvs [] [] = true := rfl
@[simp] theorem eqvs_cons (a b : D) (as bs : List D) : eqvs (a :: as) (b :: bs) = (D.eqv a b && eqvs as bs) := by simp only [eqvs, D.pys, PyData.eqvAll, D.eqv]
@[simp] theorem eqvs_nc (b : D) (bs : List D) : eqvs [] (b :: bs) = false := by simp only [eqvs, D.pys, PyData.eqvAll]
@[simp] theorem eqvs_cn (b : D) (bs : List D) : eqvs (b :: bs) [] = false := by simp only [eqvs, D.pys, PyData.eqvAll]
@[simp] theorem eqv_tup (as bs : List D) : D.eqv (.tup as) (.tup bs) = eqvs as bs := by simp only [eqvs, D.eqv, D.py, PyData.eqv]
@[simp] theorem eqv_rol (as bs : List D) : D.eqv (.rol as) (.rol bs) = eqvs as bs := by simp only [eqvs, D.eqv, D.py, PyData.eqv]
@[simp] theorem eqv_lst (as bs : List D) : D.eqv (.lst as) (.lst bs) = eqvs as bs := by simp only [eqvs, D.eqv, D.py, PyData.eqv]
/-- texts written out -/
theorem toNat_inj {a b : Char} (h : a.toNat = b.toNat) : a = b := by
  apply Char.ext
  exact UInt32.toNat_inj.mp h
@[simp] theorem lit_inj (s t : String) : (lit s = lit t) ↔ s = t := by
  constructor
  · intro h
    rw [lit_eq, lit_eq] at h
    have : s.toList = t.toList := by
      generalize s.toList = a at h ⊢
      generalize t.toList = b at h ⊢
      induction a generalizing b with
      | nil => cases b with
        | nil => rfl
        | cons y b => simp at h
      | cons x a ih => cases b with
        | nil => simp at h
        | cons y b =>
          simp only [List.map_cons, List.cons.injEq] at h
          rw [toNat_inj h.1, ih _ h.2]
    exact String.toList_inj.mp this
  · intro h; rw [h]
/-! ### isinstance -/
def isTup : D → Bool
  | .tup _ => true
  | _ => false
theorem w0_isTup {d : D} {Q : D → Prop} (h : (tyName d).isSome = true) (q : Q (.bl (isTup d))) : w0 (fIsi [d, .raw (.ty "tuple")]) Q := by
  refine w0_of ?_ q
  cases d <;> first | rfl | (exact nomatch h)
def isLstD : D → Bool
  | .lst _ => true
  | .rol _ => true
  | _ => false
theorem w0_isLstD {d : D} {Q : D → Prop} (h : (tyName d).isSome = true) (q : Q (.bl (isLstD d))) : w0 (fIsi [d, .raw (.ty "list")]) Q := by
  refine w0_of ?_ q
  cases d <;> first | rfl | (exact nomatch h)
def isBl : D → Bool
  | .bl _ => true
  | _ => false
theorem w0_isBl {d : D} {Q : D → Prop} (h : (tyName d).isSome = true) (q : Q (.bl (isBl d))) : w0 (fIsi [d, .raw (.ty "bool")]) Q := by
  refine w0_of ?_ q
  cases d <;> first | rfl | (exact nomatch h)
def isStr : D → Bool
  | .str _ => true
  | _ => false
theorem w0_isStr {d : D} {Q : D → Prop} (h : (tyName d).isSome = true) (q : Q (.bl (isStr d))) : w0 (fIsi [d, .raw (.ty "str")]) Q := by
  refine w0_of ?_ q
  cases d <;> first | rfl | (exact nomatch h)
def isInt : D → Bool
  | .int _ => true
  | .bl _ => true
  | _ => false
theorem w0_isInt {d : D} {Q : D → Prop} (h : (tyName d).isSome = true) (q : Q (.bl (isInt d))) : w0 (fIsi [d, .raw (.ty "int")]) Q := by
  refine w0_of ?_ q
  cases d <;> first | rfl | (exact nomatch h)
/-! ### plain trees: None, truth values, ints, texts, tuples of these -/
def pt : Nat → D → Bool
  | 0, d => match d with
    | .non => true
    | .bl _ => true
    | .int _ => true
    | .str _ => true
    | _ => false
  | n + 1, d => match d with
    | .non => true
    | .bl _ => true
    | .int _ => true
    | .str _ => true
    | .tup ds => decide (ds.length ≤ 1000) && ds.all (pt n)
    | _ => false
@[simp] theorem pt_non (n : Nat) : pt n .non = true := by cases n <;> rfl
@[simp] theorem pt_bl (n : Nat) (b : Bool) : pt n (.bl b) = true := by cases n <;> rfl
@[simp] theorem pt_int (n : Nat) (i : Int) : pt n (.int i) = true := by cases n <;> rfl
@[simp] theorem pt_str (n : Nat) (s : List Nat) : pt n (.str s) = true := by cases n <;> rfl
@[simp] theorem pt_tup (n : Nat) (ds : List D) : pt (n + 1) (.tup ds) = (decide (ds.length ≤ 1000) && ds.all (pt n)) := rfl
theorem pt_tup_iff {n : Nat} {ds : List D} : pt (n + 1) (.tup ds) = true ↔ ds.length ≤ 1000 ∧ ∀ x ∈ ds, pt n x = true := by
  rw [pt_tup, Bool.and_eq_true, decide_eq_true_iff, List.all_eq_true]
@[simp] theorem pt_tup0 (ds : List D) : pt 0 (.tup ds) = false := rfl
@[simp] theorem pt_lst (n : Nat) (ds : List D) : pt n (.lst ds) = false := by cases n <;> rfl
@[simp] theorem pt_rol (n : Nat) (ds : List D) : pt n (.rol ds) = false := by cases n <;> rfl
@[simp] theorem pt_dct (n : Nat) (ds : List (D × D)) : pt n (.dct ds) = false := by cases n <;> rfl
@[simp] theorem pt_rdc (n : Nat) (ds : List (D × D)) : pt n (.rdc ds) = false := by cases n <;> rfl
@[simp] theorem pt_ins (n : Nat) (c : Str) (ds : List (Str × D)) : pt n (.ins c ds) = false := by cases n <;> rfl
@[simp] theorem pt_raw (n : Nat) (v : V) : pt n (.raw v) = false := by cases n <;> rfl
theorem pt_up : ∀ {n m : Nat} {d : D}, pt n d = true → n ≤ m → pt m d = true
  | 0, m, d, h, _ => by cases d <;> simp_all
  | n + 1, 0, d, h, hl => by omega
  | n + 1, m + 1, d, h, hl => by
    cases d with
    | tup ds =>
      have h' := pt_tup_iff.mp h
      exact pt_tup_iff.mpr ⟨h'.1, fun x hx => pt_up (h'.2 x hx) (by omega)⟩
    | _ => simp_all
theorem pt_imm : ∀ {n : Nat} {d : D}, pt n d = true → imm d = true
  | 0, d, h => by cases d <;> simp_all [imm]
  | n + 1, d, h => by
    cases d with
    | tup ds =>
      simp only [imm, imms_all]
      exact List.all_eq_true.mpr fun x hx => pt_imm (n := n) ((pt_tup_iff.mp h).2 x hx)
    | _ => simp_all [imm]
theorem pt_sh : ∀ {n : Nat} {d : D}, pt n d = true → sh n d = true
  | 0, d, h => by cases d <;> simp_all
  | n + 1, d, h => by
    cases d with
    | tup ds => exact List.all_eq_true.mpr fun x hx => pt_sh (n := n) ((pt_tup_iff.mp h).2 x hx)
    | _ => simp_all
theorem sh_up : ∀ {n m : Nat} {d : D}, sh n d = true → n ≤ m → sh m d = true := fun {n m d} h hl => by
  obtain ⟨k, rfl⟩ := Nat.le.dest hl
  clear hl
  induction k with
  | zero => exact h
  | succ k ih => exact sh_mono ih
/-! ### digits -/
theorem lit_len (s : String) : (lit s).length = s.length := by rw [lit_eq, List.length_map, String.length_toList]
theorem lit_app (s t : String) : lit (s ++ t) = lit s ++ lit t := by rw [lit_eq, lit_eq, lit_eq, String.toList_append, List.map_append]
theorem toStr_nat (m : Nat) : toString (Int.ofNat m) = m.repr := rfl
theorem toStr_neg (m : Nat) : toString (Int.negSucc m) = "-" ++ (m + 1).repr := rfl
theorem toStr_len {n : Int} (h : n.natAbs < 10 ^ 20) : (lit (toString n)).length ≤ 21 := by
  rw [lit_len]
  cases n with
  | ofNat m =>
    rw [toStr_nat]
    have := (Nat.length_repr_le_iff (n := m) (k := 20) (by decide)).mpr h
    omega
  | negSucc m =>
    rw [toStr_neg, String.length_append]
    have := (Nat.length_repr_le_iff (n := m + 1) (k := 20) (by decide)).mpr h
    have : ("-" : String).length = 1 := rfl
    omega
theorem toStr_minus {n : Int} (h : n < 0) : lit "-" ++ lit (toString (-n)) = lit (toString n) := by
  cases n with
  | ofNat m => exact absurd h (by simp)
  | negSucc m => rw [toStr_neg, lit_app]; rfl
theorem w0_strI {n : Int} {Q : D → Prop} (h : -18446744073709551616 < n ∧ n < 18446744073709551616) (q : Q (.str (lit (toString n)))) : w0 (fStr [.int n]) Q :=
  w0_of (show (if big64 n = true then some (D.str (lit (toString n))) else none) = _ by rw [if_pos (big64_of h)]) q
theorem w0_eqD {a b : D} {Q : D → Prop} (h : sh 40 a = true) (h1 : sh 40 b = true) (q : Q (.bl (D.eqv a b))) : w0 (fEq a b) Q :=
  w0_of (show (if sh 40 a = true ∧ sh 40 b = true then some (D.bl (D.eqv a b)) else none) = _ by rw [if_pos ⟨h, h1⟩]) q
theorem w0_neD {a b : D} {Q : D → Prop} (h : sh 40 a = true) (h1 : sh 40 b = true) (q : Q (.bl (!D.eqv a b))) : w0 (fNe a b) Q :=
  w0_of (show (if sh 40 a = true ∧ sh 40 b = true then some (D.bl (!D.eqv a b)) else none) = _ by rw [if_pos ⟨h, h1⟩]) q
end Mir

namespace Mir
open PySem PySem.Spec L2
/-! ### the changed arguments -/
theorem w0_outs1 {d0 a : D} {e : E} {j : D} {Q : List D → Prop} (h : e[0]? = some (some j)) (hi : imm a = true) (q : Q [j, a]) : w0 (outsOf (fun i => i == 0) 0 [d0, a] e) Q := by
  refine w0_of ?_ q
  have h1 : ∀ e', outsOf (fun i => i == 0) 1 [a] e' = some [a] := fun e' => by
    show (if false = true then _ else if imm a = true then (outsOf (fun i => i == 0) 2 [] e').map (a :: ·) else none) = _
    rw [if_neg (by decide), if_pos hi]
    rfl
  show (if true = true then (match e[0]? with
    | some (some d') => (outsOf (fun i => i == 0) 1 [a] (e.set 0 none)).map (d' :: ·)
    | _ => none) else _) = _
  rw [if_pos rfl, h]
  simp only [h1, Option.map_some]
end Mir

namespace Mir
open PySem PySem.Spec L2

/-! ### errors of the program's own classes, without fields -/
abbrev veBase : List Value := [.type "ValueError", .type "Exception", .type "BaseException", .type "object"]
/-- what is known of such a class -/
structure ExcAt (K : PySem.W.Frag) (mg : Str → Option Value) (x : Str) : Prop where
  gm : mg x = some (.ref (He.ga K x))
  kp : PySem.W.keepIn K (.ref (He.ga K x)) = true
  ex : PySem.W.excIn K (He.ga K x) veBase "ValueError.__new__" = true
  sb : PySem.W.subIn K (.ref (He.ga K x)) (.type "BaseException") = some true
  ty : PySem.W.typeIn K (.ref (He.ga K x)) = some (.type "type")
  ec : ExcC K (He.ga K x)
/-- a class that is asked for -/
structure ClsAt (K : PySem.W.Frag) (mg : Str → Option Value) (t : Str) (c : Value) : Prop where
  at_ : (mg t = some c ∧ ∃ A, c = .ref A) ∨ (mg t = none ∧ ∃ n, c = .type n ∧ bootBuiltins t = some (.type n))
def mRaise (c : Str) : MS := fun e => .exc ⟨c, []⟩ e
section
variable {X : Cx} {W : WX} {Z : Zs}
theorem m_raise {x m : Str} {j : Nat} {p p2 p3 pos : Pos} (h : ExcAt X.K X.mg x) (hc : X.calm = true) (tk : Takes X W) (hg : Gl X x := by rfl) (hdb : (x == ("__debug__" : Str)) = false := by decide) :
    PS X (.Raise (some (.Call (.Name x p) [.Constant (.str m) j p2] [] p3)) none pos) (tM X.K W Z (mRaise x)) :=
  PS.mono (ps_raise hc tk (pmk_own PySem.F.excBase_ValueError h.ex h.gm h.kp (raises_own h.sb h.ty) hg hdb)) fun D σ H ⟨e, F, r, nd, q⟩ =>
    q _ none σ H F (Ev.refl r nd) (Fz.refl _ _) ⟨rfl, .inl ⟨rfl, rfl⟩⟩
end
/-! ### try .. except X as n -/
open Classical in
noncomputable def pick (f : Addr → SR) : SR := if h : ∃ r, ∀ a, f a = r then h.choose else .bad
theorem pick_eq {f : Addr → SR} {r : SR} (h : ∀ a, f a = r) : pick f = r := by
  unfold pick
  rw [dif_pos ⟨r, h⟩]
  exact ((Exists.choose_spec (p := fun r => ∀ a, f a = r) ⟨r, h⟩) 0).symm.trans (h 0)
def clr (i : Nat) : SR → SR
  | .nx e => .nx (e.set i none)
  | .rt d e => .rt d (e.set i none)
  | .bk e => .bk (e.set i none)
  | .ct e => .ct (e.set i none)
  | _ => .bad
noncomputable def mTryAs (cat : Str → Option Bool) (i : Nat) (b : MS) (s : Str → Addr → MS) : MS := fun e => match b e with
  | .exc x e1 => if x.fs = [] then (match cat x.cls with
      | some true => pick fun a => clr i (s x.cls a (e1.set i (some (.raw (.ref a)))))
      | some false => .exc x e1
      | none => .bad) else .bad
  | r => r
theorem RelS.setN {K : PySem.W.Frag} {H : Hp} {σ : L2.St} {e : E} {F : List Addr} (r : RelS K H σ e F) : ∀ (i : Nat) (y : Option V), e[i]? = some none ∨ e[i]? = none → RelS K H (σ.set i y) e F := by
  induction r with
  | nil => intro i y h; exact .nil
  | no r ih =>
    intro i y h
    cases i with
    | zero => exact .no r
    | succ i => exact .no (ih i y (by simpa using h))
  | so p r ih =>
    intro i y h
    cases i with
    | zero => simp at h
    | succ i => exact .so p (ih i y (by simpa using h))
theorem Ev.clear {K : PySem.W.Frag} {H H1 : Hp} {σ1 : L2.St} {e1 : E} {F F1 : List Addr} (x : Ev K F H σ1 H1 e1 F1) (i : Nat) : ∃ F2, Ev K F H (σ1.set i none) H1 (e1.set i none) F2 := by
  obtain ⟨F0, G, r0, pm⟩ := x.r.drop i
  have nd := pm.nodup_iff.mp x.nd
  have r1 := r0.setN i none (by
    by_cases z : i < e1.length
    · exact .inl (by simp [List.getElem?_set, z])
    · exact .inr (by simp; omega))
  exact ⟨F0, x.k, r1, (List.nodup_append.mp nd).2.1, fun a m => x.new a (pm.mem_iff.mpr (List.mem_append_right _ m))⟩
theorem Ev.clear1 {K : PySem.W.Frag} {H H1 : Hp} {σ1 : L2.St} {e1 : E} {v : V} {d : D} {F F1 : List Addr} (x : Ev K F H (some v :: σ1) H1 (some d :: e1) F1) (i : Nat) : ∃ F2, Ev K F H (some v :: σ1.set i none) H1 (some d :: e1.set i none) F2 := x.clear (i + 1)
section
variable {X : Cx} {W : WX} {Z : Zs}
theorem m_tryAs {x n : Str} {c : Value} {i : Nat} {body suite : List Stmt} {b₀ : Stmt} {np pos pos' : Pos} {cat : Str → Option Bool} {mb : MS} {ms : Str → Addr → MS}
    (hs : X.stack = X.env :: X.outer) (hf : X.env.frame = some X.env.locals) (hN : X.N.Nodup) (hc : Names X x c) (tk : Takes X W)
    (hcat : ∀ y b, cat y = some b → PySem.W.exmOne X.K (.ref (He.ga X.K y)) c = some b)
    (hb : ∀ (W : WX) (pn : List (Addr × Obj)) (xe : Value → Shared → Prop), Takes (X.tr pn xe) W → PassesOwn (model X.prog X.w) X.A X.env xe → PSs (X.tr pn xe) body (tM X.K W Z mb))
    (hsu : ∀ (a : Addr) (oe : Obj) (y : Str) (pn : List (Addr × Obj)), cat y = some true → Zc (.ref (He.ga X.K y)) none oe → (∃ vs, oe.data = .fields vs) → PSs (X.suite a ((a, oe) :: pn)) (b₀ :: suite) (tM X.K wF Z (ms y a)))
    (hz : Z i = false := by rfl) (hi : X.N[i]? = some n := by rfl) (hln : X.env.kindOf n = some .local := by rfl) :
    PS X (.Try body [.ExceptHandler (some (.Name x np)) (some n) (b₀ :: suite) pos'] [] [] pos) (tM X.K W Z (mTryAs cat i mb ms)) := by
  refine PS.mono (ps_try_as (i := i) (tb := fun W => tM X.K W Z mb) (ts := fun a cls d D σ H => ∃ y : Str, cat y = some true ∧ cls = .ref (He.ga X.K y) ∧ d = none ∧ tM X.K wF Z (ms y a) D σ H) hs hf hN hi hln hc tk hb (fun a oe cls d pn z1 z2 => ?_)) fun D σ H ⟨e, F, r, nd, h⟩ => ?_
  · refine ⟨fun pins s σ H D I ⟨y, e0, e1, e2, q⟩ => ?_⟩
    subst e1 e2
    exact (hsu a oe y pn e0 z1 z2).run pins s σ H D I q
  · refine ⟨e, F, r, nd, ?_⟩
    unfold mTryAs at h
    cases qb : mb e with
    | nx e1 => rw [qb] at h; exact h
    | rt d e1 => rw [qb] at h; exact h
    | bk e1 => rw [qb] at h; exact h
    | ct e1 => rw [qb] at h; exact h
    | bad => rw [qb] at h; exact h
    | exc y e1 =>
      rw [qb] at h
      simp only at h
      by_cases hy : y.fs = []
      · rw [if_pos hy] at h
        intro c' dx σ' H' F' ev fz rp
        have hd : dx = none := by
          rcases rp.fs with ⟨_, z⟩ | ⟨d, vs, z, _⟩
          · exact z
          · exact absurd hy z
        cases qc : cat y.cls with
        | none => rw [qc] at h; exact h.elim
        | some b =>
          rw [qc] at h
          refine ⟨b, by rw [rp.cls]; exact hcat _ _ qc, fun hb1 a ha => ⟨y.cls, by rw [qc, hb1], rp.cls, hd, ?_⟩, fun hb0 => ?_⟩
          · subst hb1
            simp only at h
            obtain ⟨F3, ev3⟩ := (ev.cons (v := .ref a) (d := .raw (.ref a)) (G := []) .raw (fun _ m => by cases m) .nil (fun _ m => by cases m)).put i
            have hl : σ'.length = σ.length := fz.1
            refine tM_next ev3 (fz.trans ⟨List.length_set, fun j m => List.getElem?_set_ne (fun z => by rw [z] at hz; rw [hz] at m; cases m)⟩) ?_
            by_cases hp : ∃ r, ∀ a, clr i (ms y.cls a (e1.set i (some (.raw (.ref a))))) = r
            · obtain ⟨r, hr⟩ := hp
              rw [pick_eq hr, ← hr a] at h
              have fzN : ∀ {σ' : L2.St}, Fz Z σ σ' → Fz Z σ (σ'.set i none) := fun z => z.trans ⟨List.length_set, fun j m => List.getElem?_set_ne (fun z => by rw [z] at hz; rw [hz] at m; cases m)⟩
              cases qs : ms y.cls a (e1.set i (some (.raw (.ref a)))) with
              | nx e2 => rw [qs] at h; exact fun σ2 H2 F2 x z => by obtain ⟨F4, x'⟩ := x.clear i; exact h _ _ _ x' (fzN z)
              | rt d e2 => rw [qs] at h; exact fun v σ2 H2 F2 x z => by obtain ⟨F4, x'⟩ := x.clear1 i; exact h _ _ _ _ x' (fzN z)
              | bk e2 => rw [qs] at h; exact fun σ2 H2 F2 x z => by obtain ⟨F4, x'⟩ := x.clear i; exact h _ _ _ x' (fzN z)
              | ct e2 => rw [qs] at h; exact fun σ2 H2 F2 x z => by obtain ⟨F4, x'⟩ := x.clear i; exact h _ _ _ x' (fzN z)
              | exc z e2 => rw [qs] at h; exact h.elim
              | bad => rw [qs] at h; exact h.elim
            · unfold pick at h
              rw [dif_neg hp] at h
              exact h.elim
          · subst hb0
            simp only at h
            exact h c' dx σ' H' F' ev fz rp
      · rw [if_neg hy] at h; exact h.elim
end
/-- isinstance(e, T), e the error that the suite holds -/
def isX (i : Nat) (a : Addr) (b : Option Bool) : MB := fun e => match e[i]?, b with
  | some (some (.raw (.ref a'))), some b => if a' = a then .ok (.bl b) else .bad
  | _, _ => .bad
theorem isX_B {K : PySem.W.Frag} {W : WX} {i : Nat} {a : Addr} {c : V} {cv : Value} {b : Option Bool} {D : Addr} (hcv : ∀ u, RelV c u → u = cv) (hk : ∀ k, b = some k → PySem.W.kitOne K (.ref D) cv = some k) {σ : L2.St} {H : Hp} {Q : VK}
    (h : tN K W (isX i a b) σ H Q) : tCB (rIsE K D a) (tCons (tVar i) (tCons (tC c) tNil)) σ H Q := by
  obtain ⟨e, F, r, h⟩ := h
  cases b with
  | none =>
    have q : isX i a none e = .bad := by unfold isX; split <;> first | rfl | (rename_i z; cases z)
    rw [q] at h; exact h.elim
  | some k =>
    by_cases he : e[i]? = some (some (.raw (.ref a)))
    · have q : isX i a (some k) e = .ok (.bl k) := by unfold isX; rw [he]; exact if_pos rfl
      rw [q] at h
      obtain ⟨v, G, h1, h2, _⟩ := r.get he
      cases h2
      exact ⟨_, h1, c, cv, k, rfl, hcv, hk k rfl, h _ _ [] (.refl _ _) .bl .nil (fun _ m => by cases m)⟩
    · have q : isX i a (some k) e = .bad := by
        unfold isX
        split
        · rename_i a' k' he' hb'
          rw [if_neg]
          intro z
          subst z
          exact he he'
        · rfl
      rw [q] at h; exact h.elim
section
variable {X : Cx} {W : WX} {a D : Addr} {oe : Obj} {pn : List (Addr × Obj)} {n t : Str} {p p1 p2 pos : Pos} {i : Nat} {b : Option Bool}
theorem x_isX {A : Addr} (C : ExcC X.K D) (hz : Zc (.ref D) none oe) (hf : ∃ vs, oe.data = .fields vs) (hmI : X.mg "isinstance" = none) (hm : X.mg t = some (.ref A)) (hk : ∀ k, b = some k → PySem.W.kitOne X.K (.ref D) (.ref A) = some k)
    (hgI : Gl (X.suite a ((a, oe) :: pn)) "isinstance" := by rfl) (hg : Gl (X.suite a ((a, oe) :: pn)) t := by rfl) (hN : (X.suite a ((a, oe) :: pn)).N[i]? = some n := by rfl) (hv : Vis (X.suite a ((a, oe) :: pn)).env.scope n := by first | exact Or.inl rfl | exact Or.inr (Or.inl rfl) | exact Or.inr (Or.inr rfl))
    (hd : (n == ("__debug__" : Str)) = false := by decide) (hdt : (t == ("__debug__" : Str)) = false := by decide) (hcd : (n == ("__classdict__" : Str)) = false := by decide) :
    PE (X.suite a ((a, oe) :: pn)) (.Call (.Name "isinstance" p) [.Name n p1, .Name t p2] [] pos) (tN X.K W (isX i a b)) :=
  PE.mono (pe_callB (call_isE C hz hf) hgI hmI bb_isinstance (pa_cons (pv i hN hv hd hcd) (pa_cons (pe_glob (v := .ref A) hg hm rfl hdt) pa_nil)) (by decide) (by decide) (by rfl) (by rfl)) fun _ _ _ => isX_B (c := .ref A) (cv := .ref A) (fun u r => r) hk
theorem x_isXb {m : String} (C : ExcC X.K D) (hz : Zc (.ref D) none oe) (hf : ∃ vs, oe.data = .fields vs) (hmI : X.mg "isinstance" = none) (hm : X.mg t = none) (hb : bootBuiltins t = some (.type m)) (hk : ∀ k, b = some k → PySem.W.kitOne X.K (.ref D) (.type m) = some k)
    (hgI : Gl (X.suite a ((a, oe) :: pn)) "isinstance" := by rfl) (hg : Gl (X.suite a ((a, oe) :: pn)) t := by rfl) (hN : (X.suite a ((a, oe) :: pn)).N[i]? = some n := by rfl) (hv : Vis (X.suite a ((a, oe) :: pn)).env.scope n := by first | exact Or.inl rfl | exact Or.inr (Or.inl rfl) | exact Or.inr (Or.inr rfl))
    (hd : (n == ("__debug__" : Str)) = false := by decide) (hdt : (t == ("__debug__" : Str)) = false := by decide) (hcd : (n == ("__classdict__" : Str)) = false := by decide) (hnn : t ≠ "__name__" := by decide) :
    PE (X.suite a ((a, oe) :: pn)) (.Call (.Name "isinstance" p) [.Name n p1, .Name t p2] [] pos) (tN X.K W (isX i a b)) :=
  PE.mono (pe_callB (call_isE C hz hf) hgI hmI bb_isinstance (pa_cons (pv i hN hv hd hcd) (pa_cons (pe_bltn (v := .ty m) hg hm hb rfl hnn hdt) pa_nil)) (by decide) (by decide) (by rfl) (by rfl)) fun _ _ _ => isX_B (c := .ty m) (cv := .type m) (fun u r => r) hk
end
end Mir

namespace Mir
open PySem PySem.Spec L2

/-! ### dicts whose keys are texts or numbers; their values can't change -/
def keyEq : D → D → Bool
  | .int i, .int j => decide (i = j)
  | .str s, .str t => decide (s = t)
  | _, _ => false
def isKey : D → Bool
  | .int _ => true
  | .str _ => true
  | _ => false
def dgetD (ds : List (D × D)) (k : D) : Option D := (ds.find? fun p => keyEq p.1 k).map (·.2)
theorem str_eq {x y : Str} (h : x.cps.toList = y.cps.toList) : x = y := by
  cases x; cases y
  simpa using h
theorem keyEq_kD (a b : Key) : keyEq (kD a) (kD b) = decide (a = b) := by
  cases a <;> cases b
  · simp [kD, keyEq]
  · simp [kD, keyEq]
  · simp [kD, keyEq]
  · rename_i x y
    simp only [kD, keyEq]
    by_cases z : x = y
    · subst z; simp
    · rw [decide_eq_false (fun w => z (str_eq w)), decide_eq_false (fun w => z (Sum.inr.inj w))]
theorem dget_ok {K : PySem.W.Frag} {H : Hp} (key : Key) : ∀ {kvs : List (Key × V)} {ds : List (D × D)}, kvs.map (fun p => kD p.1) = ds.map (·.1) → Rps K H (kvs.map (·.2)) (ds.map (·.2)) [] →
    (∃ v d, valV kvs key = some v ∧ dgetD ds (kD key) = some d ∧ Rp K H v d []) ∨ (valV kvs key = none ∧ dgetD ds (kD key) = none)
  | [], [], _, _ => .inr ⟨rfl, rfl⟩
  | [], _ :: _, h, _ => by simp at h
  | _ :: _, [], h, _ => by simp at h
  | kv :: kvs, d :: ds, h, r => by
    simp only [List.map_cons, List.cons.injEq] at h r
    generalize hF : ([] : List Addr) = F at r
    cases r with
    | cons p r =>
      obtain ⟨e1, e2⟩ := List.append_eq_nil_iff.mp hF.symm
      subst e1 e2
      by_cases z : kv.1 = key
      · refine .inl ⟨kv.2, d.2, valV_pos z, ?_, p⟩
        unfold dgetD
        rw [List.find?_cons, ← h.1, z, keyEq_kD, decide_eq_true rfl] <;> rfl
      · have e : dgetD (d :: ds) (kD key) = dgetD ds (kD key) := by
          unfold dgetD
          rw [List.find?_cons, ← h.1, keyEq_kD, decide_eq_false z]
        rw [valV_neg z, e]
        exact dget_ok key h.2 r
def fDIn : D → D → Option D
  | k, .dct ds => if isKey k = true then some (.bl (dgetD ds k).isSome) else none
  | k, .rdc ds => if isKey k = true then some (.bl (dgetD ds k).isSome) else none
  | _, _ => none
def fDNotIn : D → D → Option D
  | k, .dct ds => if isKey k = true then some (.bl (!(dgetD ds k).isSome)) else none
  | k, .rdc ds => if isKey k = true then some (.bl (!(dgetD ds k).isSome)) else none
  | _, _ => none
def fDGet : D → D → Option D
  | .dct ds, k => if isKey k = true then dgetD ds k else none
  | .rdc ds, k => if isKey k = true then dgetD ds k else none
  | _, _ => none
theorem key_of {K : PySem.W.Frag} {H : Hp} {v : V} {k : D} {G : List Addr} (p : Rp K H v k G) (h : isKey k = true) : ∃ key : Key, v = kV key ∧ k = kD key := by
  cases p with
  | int => exact ⟨.inl _, rfl, rfl⟩
  | str h => exact ⟨.inr _, rfl, rfl⟩
  | _ => simp [isKey] at h
theorem DGet.rk {H : Hp} {a : Addr} {kvs : List (Key × V)} {k : Key} (e : ∃ o, H a = some (.frz o (.dK kvs))) : DGet H a (kV k) (valV kvs k) := .inl ⟨kvs, k, .inr e, rfl, rfl⟩
abbrev rDIn : R2 := fun y x H Q => ∃ a o, x = .ref a ∧ DGet H a y o ∧ Q (.bl o.isSome) H
abbrev rDNotIn : R2 := fun y x H Q => ∃ a o, x = .ref a ∧ DGet H a y o ∧ Q (.bl (!o.isSome)) H
abbrev rDGet : R2 := fun x y H Q => ∃ a v, x = .ref a ∧ DGet H a y (some v) ∧ Q v H
theorem n_din {K : PySem.W.Frag} : OpN K rDIn fDIn := by
  intro H v1 v2 d1 d2 G1 G2 d Q p1 p2 e h
  unfold fDIn at e
  split at e
  · split at e
    · rename_i hk
      cases e
      cases p2 with
      | dct ha hc hr =>
        obtain ⟨key, ev, ek⟩ := key_of p1 hk
        subst ev ek
        refine ⟨_, _, rfl, DGet.k ha, ?_⟩
        rcases dget_ok key hc hr with ⟨v, d, e1, e2, p⟩ | ⟨e1, e2⟩
        · rw [e1]; rw [e2] at h; exact h _ _ [] (.refl _ _) .bl .nil fun _ m => by cases m
        · rw [e1]; rw [e2] at h; exact h _ _ [] (.refl _ _) .bl .nil fun _ m => by cases m
    · cases e
  · split at e
    · rename_i hk
      cases e
      cases p2 with
      | rdc ha hc hr =>
        obtain ⟨key, ev, ek⟩ := key_of p1 hk
        subst ev ek
        refine ⟨_, _, rfl, DGet.rk ha, ?_⟩
        rcases dget_ok key hc hr with ⟨v, d, e1, e2, p⟩ | ⟨e1, e2⟩
        · rw [e1]; rw [e2] at h; exact h _ _ [] (.refl _ _) .bl .nil fun _ m => by cases m
        · rw [e1]; rw [e2] at h; exact h _ _ [] (.refl _ _) .bl .nil fun _ m => by cases m
    · cases e
  · cases e
theorem n_dnotin {K : PySem.W.Frag} : OpN K rDNotIn fDNotIn := by
  intro H v1 v2 d1 d2 G1 G2 d Q p1 p2 e h
  unfold fDNotIn at e
  split at e
  · split at e
    · rename_i hk
      cases e
      cases p2 with
      | dct ha hc hr =>
        obtain ⟨key, ev, ek⟩ := key_of p1 hk
        subst ev ek
        refine ⟨_, _, rfl, DGet.k ha, ?_⟩
        rcases dget_ok key hc hr with ⟨v, d, e1, e2, p⟩ | ⟨e1, e2⟩
        · rw [e1]; rw [e2] at h; exact h _ _ [] (.refl _ _) .bl .nil fun _ m => by cases m
        · rw [e1]; rw [e2] at h; exact h _ _ [] (.refl _ _) .bl .nil fun _ m => by cases m
    · cases e
  · split at e
    · rename_i hk
      cases e
      cases p2 with
      | rdc ha hc hr =>
        obtain ⟨key, ev, ek⟩ := key_of p1 hk
        subst ev ek
        refine ⟨_, _, rfl, DGet.rk ha, ?_⟩
        rcases dget_ok key hc hr with ⟨v, d, e1, e2, p⟩ | ⟨e1, e2⟩
        · rw [e1]; rw [e2] at h; exact h _ _ [] (.refl _ _) .bl .nil fun _ m => by cases m
        · rw [e1]; rw [e2] at h; exact h _ _ [] (.refl _ _) .bl .nil fun _ m => by cases m
    · cases e
  · cases e
theorem n_dget {K : PySem.W.Frag} : OpN K rDGet fDGet := by
  intro H v1 v2 d1 d2 G1 G2 d Q p1 p2 e h
  unfold fDGet at e
  split at e
  · split at e
    · rename_i hk
      cases p1 with
      | dct ha hc hr =>
        obtain ⟨key, ev, ek⟩ := key_of p2 hk
        subst ev ek
        rcases dget_ok key hc hr with ⟨v, d', e1, e2, p⟩ | ⟨e1, e2⟩
        · rw [e2] at e; cases e
          exact ⟨_, v, rfl, by rw [← e1]; exact DGet.k ha, h _ _ [] (.refl _ _) p .nil fun _ m => by cases m⟩
        · rw [e2] at e; cases e
    · cases e
  · split at e
    · rename_i hk
      cases p1 with
      | rdc ha hc hr =>
        obtain ⟨key, ev, ek⟩ := key_of p2 hk
        subst ev ek
        rcases dget_ok key hc hr with ⟨v, d', e1, e2, p⟩ | ⟨e1, e2⟩
        · rw [e2] at e; cases e
          exact ⟨_, v, rfl, by rw [← e1]; exact DGet.rk ha, h _ _ [] (.refl _ _) p .nil fun _ m => by cases m⟩
        · rw [e2] at e; cases e
    · cases e
  · cases e
section
variable {X : Cx} {W : WX} {a b : Expr} {ma mb : MB} {pos : Pos}
theorem x_din (hu : X.A.units + 1 < cLine) (pa : PE X a (tB X.K W ma)) (pb : PE X b (tB X.K W mb)) (h1 : behindInMarks .In b = false := by rfl) :
    PE X (.Compare a [.In] [b] pos) (tN X.K W (bin fDIn ma mb)) := PE.mono (pe_cmp (pc_din hu pa pb) h1) fun _ _ _ h => op_bb n_din h
theorem x_dnotin (hu : X.A.units + 1 < cLine) (pa : PE X a (tB X.K W ma)) (pb : PE X b (tB X.K W mb)) (h1 : behindInMarks .NotIn b = false := by rfl) :
    PE X (.Compare a [.NotIn] [b] pos) (tN X.K W (bin fDNotIn ma mb)) := PE.mono (pe_cmp (pc_dnotin hu pa pb) h1) fun _ _ _ h => op_bb n_dnotin h
theorem t_din (hu : X.A.units + 1 < cLine) (pa : PE X a (tB X.K W ma)) (pb : PE X b (tB X.K W mb)) (h1 : behindInMarks .In b = false := by rfl) :
    PT X (.Compare a [.In] [b] pos) (tT X.K W (tst (ofN (bin fDIn ma mb)))) := PT.mono (pt_cmp (pc_din hu pa pb) h1) fun _ _ _ h => op_bb n_din (ofN_N (tst_of h))
theorem t_dnotin (hu : X.A.units + 1 < cLine) (pa : PE X a (tB X.K W ma)) (pb : PE X b (tB X.K W mb)) (h1 : behindInMarks .NotIn b = false := by rfl) :
    PT X (.Compare a [.NotIn] [b] pos) (tT X.K W (tst (ofN (bin fDNotIn ma mb)))) := PT.mono (pt_cmp (pc_dnotin hu pa pb) h1) fun _ _ _ h => op_bb n_dnotin (ofN_N (tst_of h))
theorem x_dget (hu : X.A.units + 1 < cLine) (pa : PE X a (tB X.K W ma)) (pb : PE X b (tB X.K W mb)) (hs : NoSl b := by exact fun _ _ => rfl) :
    PE X (.Subscript a b pos) (tN X.K W (bin fDGet ma mb)) := PE.mono (pe_dget hu pa pb hs) fun _ _ _ h => op_bb n_dget h
end
/-! a written dict -/
theorem merge_nd : ∀ (more kvs : List (Key × V)), ((kvs ++ more).map (·.1)).Nodup → mergeK kvs more = kvs ++ more
  | [], kvs, _ => by simp [mergeK]
  | p :: r, kvs, h => by
    have e : putK kvs p.1 p.2 = kvs ++ [p] := by
      unfold putK
      rw [if_neg]
      intro z
      obtain ⟨q, hq, e⟩ := List.any_eq_true.mp z
      have e := of_decide_eq_true e
      rw [List.map_append, List.map_cons] at h
      exact (List.nodup_append.mp h).2.2 q.1 (List.mem_map.mpr ⟨q, hq, rfl⟩) p.1 List.mem_cons_self e
    show mergeK (putK kvs p.1 p.2) r = _
    rw [e, merge_nd r (kvs ++ [p]) (by simpa using h), List.append_assoc] <;> rfl
def mDisp (ds : List (D × D)) : MB := fun _ => .ok (.dct ds)
theorem x_disp {X : Cx} {W : WX} {pos : Pos} {keys : List (Option Expr)} {values : List Expr} {trs : List (TE × TE)} {kvs : List (Key × V)} {ds : List (D × D)} (q : PE X (.Dict keys values pos) (tDisp trs))
    (ht : ∀ σ H Q, Q (kvs.map fun kv => (kV kv.1, kv.2)) H → tPairs trs σ H Q) (nd : (kvs.map (·.1)).Nodup) (hl : kvs.length ≤ 15) (hk : kvs.map (fun p => kD p.1) = ds.map (·.1)) (hv : ∀ H, Rps X.K H (kvs.map (·.2)) (ds.map (·.2)) []) :
    PE X (.Dict keys values pos) (tN X.K W (mDisp ds)) := PE.mono q fun σ H Q ⟨e, F, r, h⟩ => by
  intro p hp
  refine ht _ _ _ ⟨upd_same, kvs, rfl, hl, ?_⟩
  have e1 : mergeK [] kvs = kvs := merge_nd kvs [] (by simpa using nd)
  rw [e1]
  refine h _ _ [p] (fun a o ha _ => ?_) (.dct upd_same hk (hv _)) (by simp) (fun a m => by rw [List.mem_singleton.mp m]; exact hp)
  have : a ≠ p := fun z => by subst z; rw [hp] at ha; cases ha
  rw [upd_ne this, upd_ne this]; exact ha
/-! ### methods of a text with one text -/
def smB (f : D → D → Option D) (ma mb : MB) : MB := fun e => (ma e).bind fun a => match mb e with
  | .ok b => .of (f a b)
  | _ => .bad
theorem op_m1 {K : PySem.W.Frag} {W : WX} {r : V → List V → Hp → VK → Prop} {f : D → D → Option D} {ma mb : MB} {σ : L2.St} {H : Hp} {Q : VK} (o : OpN K (fun x y H Q => (∃ a, x = .str a) ∧ r x [y] H Q) f)
    (hs : ∀ a b d, f a b = some d → ∃ s, a = .str s) (h : tN K W (smB f ma mb) σ H Q) : tM1 r (tB K W ma) (tB K W mb) σ H Q := by
  obtain ⟨e, F, rl, h⟩ := h
  unfold smB at h
  refine ⟨e, F, rl, ?_⟩
  cases qa : ma e with
  | bad => rw [qa] at h; exact h
  | exc y => rw [qa] at h; exact h
  | ok a =>
    rw [qa] at h
    intro v1 H1 G1 k1 p1
    simp only [Rs.bind] at h
    cases qb : mb e with
    | bad => rw [qb] at h; exact h.elim
    | exc y => rw [qb] at h; exact h.elim
    | ok b =>
      rw [qb] at h
      simp only at h
      cases qf : f a b with
      | none => rw [qf] at h; exact h.elim
      | some d =>
        rw [qf] at h
        obtain ⟨s, rfl⟩ := hs _ _ _ qf
        cases p1 with
        | str hx =>
        refine ⟨⟨_, rfl⟩, e, F, rl.same k1, ?_⟩
        rw [qb]
        intro v2 H2 G2 k2 p2
        have k12 : Keeps [] H H2 := k1.trans k2 fun _ m => by cases m
        exact (o (.str hx) p2 qf fun v H' G k p n1 n2 => h v H' G (k12.trans k fun _ m => by cases m) p n1 fun z m => k12.none (n2 z m) fun m => by cases m).2
def sOf (s : List Nat) : Str := ⟨s.toArray⟩
theorem sOf_cps {x : Str} : sOf x.cps.toList = x := by cases x; simp [sOf]
def fStartswith : D → D → Option D
  | .str s, .str t => some (.bl (Txt.startswith (sOf s) (sOf t)))
  | _, _ => none
def fIndex : D → D → Option D
  | .str s, .str t => match Builtin.Str.occurrences (sOf s) (sOf t) 0 (sOf s).length 1 with
    | i :: _ => some (.int (i : Nat))
    | [] => none
  | _, _ => none
theorem n_startswith {K : PySem.W.Frag} : OpN K (fun x y H Q => (∃ a, x = .str a) ∧ (∃ a b, x = .str a ∧ [y] = [V.str b] ∧ Q (.bl (Txt.startswith a b)) H)) fStartswith := by
  intro H v1 v2 d1 d2 G1 G2 d Q p1 p2 e h
  unfold fStartswith at e
  split at e
  · cases e
    cases p1; cases p2
    rw [sOf_cps, sOf_cps] at h
    exact ⟨⟨_, rfl⟩, _, _, rfl, rfl, h _ _ [] (.refl _ _) .bl .nil fun _ m => by cases m⟩
  · cases e
theorem n_index {K : PySem.W.Frag} : OpN K (fun x y H Q => (∃ a, x = .str a) ∧ (∃ a b i rest, x = .str a ∧ [y] = [V.str b] ∧ Builtin.Str.occurrences a b 0 a.length 1 = i :: rest ∧ Q (.int (i : Nat)) H)) fIndex := by
  intro H v1 v2 d1 d2 G1 G2 d Q p1 p2 e h
  unfold fIndex at e
  split at e
  · cases p1; cases p2
    rw [sOf_cps, sOf_cps] at e
    split at e
    · rename_i i rest ho
      cases e
      exact ⟨⟨_, rfl⟩, _, _, i, rest, rfl, rfl, ho, h _ _ [] (.refl _ _) .int .nil fun _ m => by cases m⟩
    · cases e
  · cases e
section
variable {X : Cx} {W : WX} {a b : Expr} {ma mb : MB} {apos pos : Pos}
theorem xs_startswith (pa : PE X a (tB X.K W ma)) (pb : PE X b (tB X.K W mb)) (hs : starEach [b] X.env = [(false, eval b X.env)] := by rfl) (hbase : attributeBase a "startswith" X.env (eval a X.env) = eval a X.env := by rfl) (hline : (apos.endLine == pos.line) = true := by rfl) :
    PE X (.Call (.Attribute a "startswith" apos) [b] [] pos) (tN X.K W (smB fStartswith ma mb)) :=
  PE.mono (pe_m1 PySem.F.slot_str_startswith PySem.F.type_str_startswith mt_startswith pa pb hs hbase hline) fun _ _ _ h => op_m1 n_startswith (fun a b d e => by unfold fStartswith at e; split at e; exact ⟨_, rfl⟩; cases e) h
theorem xs_index (pa : PE X a (tB X.K W ma)) (pb : PE X b (tB X.K W mb)) (hs : starEach [b] X.env = [(false, eval b X.env)] := by rfl) (hbase : attributeBase a "index" X.env (eval a X.env) = eval a X.env := by rfl) (hline : (apos.endLine == pos.line) = true := by rfl) :
    PE X (.Call (.Attribute a "index" apos) [b] [] pos) (tN X.K W (smB fIndex ma mb)) :=
  PE.mono (pe_m1 PySem.F.slot_str_index PySem.F.type_str_index mt_sindex pa pb hs hbase hline) fun _ _ _ h => op_m1 n_index (fun a b d e => by unfold fIndex at e; split at e; exact ⟨_, rfl⟩; cases e) h
end
/-! ### what comes out of these -/
section
variable {e : E} {Q : D → Prop} {ma mb : MB} {f : D → D → Option D} {N B C : E → Prop} {R : D → E → Prop}
theorem w1_sm (h : w1 (ma e) fun a => w1 (mb e) fun b => w0 (f a b) Q) : w1 (smB f ma mb e) Q := by
  refine w1_bind (w1_mono h fun a h => ?_)
  generalize mb e = r at h ⊢
  cases h with
  | mk h => exact w1_of h
theorem w1_disp {ds : List (D × D)} (q : Q (.dct ds)) : w1 (mDisp ds e) Q := .mk q
theorem w1_defX {k : Nat} {mb : MS} {ds : List D} {Q : D → Prop} (hi : imms ds = true) (h : wS (mb (ds.map some ++ List.replicate k none)) (fun _ => Q .non) (fun d _ => Q d) (fun _ => False) (fun _ => False)) : w1 (mDef k mb ds) Q := by
  unfold mDef
  rw [if_pos hi]
  generalize mb (ds.map some ++ List.replicate k none) = r at h ⊢
  cases h with
  | nx h => exact .mk h
  | rt h => exact .mk h
  | bk h => exact h.elim
  | ct h => exact h.elim
end

theorem w1_isX {i : Nat} {a : Addr} {b : Option Bool} {k : Bool} {e : E} {Q : D → Prop} (h : e[i]? = some (some (.raw (.ref a)))) (hb : b = some k) (q : Q (.bl k)) : w1 (isX i a b e) Q := by
  subst hb
  have : isX i a (some k) e = .ok (.bl k) := by unfold isX; rw [h]; exact if_pos rfl
  rw [this]; exact .mk q
section
variable {e e1 : E} {N B C : E → Prop} {R : D → E → Prop} {cat : Str → Option Bool} {i : Nat} {b : MS} {s : Str → Addr → MS}
/-- nothing is raised -/
theorem wS_tryN (h : wS (b e) N R B C) : wS (mTryAs cat i b s e) N R B C := by
  unfold mTryAs
  generalize b e = r at h ⊢
  cases h with
  | nx h => exact .nx h
  | rt h => exact .rt h
  | bk h => exact .bk h
  | ct h => exact .ct h
/-- an error is caught -/
theorem wS_tryX {c : Str} {r : SR} (h : b e = .exc ⟨c, []⟩ e1) (hc : cat c = some true) (hr : ∀ a, clr i (s c a (e1.set i (some (.raw (.ref a))))) = r) (q : wS r N R B C) : wS (mTryAs cat i b s e) N R B C := by
  unfold mTryAs
  rw [h]
  simp only [if_true, hc]
  rw [pick_eq hr]
  exact q
end
/-! ### the facts of the classes -/
theorem takes_no {X : Cx} : Takes X wF := fun _ _ ⟨_, _, _, _, _, _, _, _, _, _, _, _, _, _, _, _, w⟩ => w.elim
theorem ga_of {K : PySem.W.Frag} {x : Str} {a : Addr} (h : PySem.W.nsIn K mainGlobals x = some (some (.ref a))) : He.ga K x = a := by
  unfold He.ga
  rw [h]
theorem bb_ValueError : bootBuiltins "ValueError" = some (.type "ValueError") := by decide +kernel
theorem kit_ref {K : PySem.W.Frag} {D A : Addr} {b : Bool} (hd : PySem.W.hasDictIn K A = true) (ht : PySem.W.typeIn K (.ref A) = some (.type "type")) (h : PySem.W.subIn K (.ref D) (.ref A) = some b) (hs : PySem.W.subIn K (.ref D) (.ref D) = some true) : PySem.W.kitOne K (.ref D) (.ref A) = some b := by
  obtain ⟨cd, hc, _⟩ := PySem.W.any_some hd
  unfold PySem.W.kitOne
  by_cases z : D = A
  · subst z
    rw [hs] at h; cases h
    rw [if_pos (by simp)]
  · rw [if_neg (by simpa using z)]
    show (if ((PySem.W.clsIn K A).isSome && PySem.W.typeIn K (.ref A) == some (.type "type")) = true then PySem.W.subIn K (.ref D) (.ref A) else none) = _
    rw [if_pos (by rw [hc, ht] <;> rfl)]
    exact h
theorem kit_val {K : PySem.W.Frag} {D : Addr} {b : Bool} (h : PySem.W.subIn K (.ref D) (.type "ValueError") = some b) : PySem.W.kitOne K (.ref D) (.type "ValueError") = some b := by
  unfold PySem.W.kitOne
  rw [if_neg (by simp)]
  show (if PySem.W.kitMeta "ValueError" = true then PySem.W.subIn K (.ref D) (.type "ValueError") else none) = _
  rw [if_pos (by decide +kernel)]
  exact h

section
open TL
theorem w0_augS {s t : List Nat} {Q : D → Prop} (h : s.length + t.length ≤ 16777216) (q : Q (.str (s ++ t))) : w0 (fAug (.str s) (.str t)) Q := w0_of (by
  show (if _ then _ else _) = _
  rw [if_pos (fits_of h)]) q
theorem tl_sOf (s : List Nat) : tl (sOf s) = s := by show (sOf s).cps.toList = s; simp [sOf]
theorem len_sOf (s : List Nat) : (sOf s).length = s.length := by rw [len_tl, tl_sOf]
theorem pre_eq (g s : List Nat) : pre g s = g.isPrefixOf s := by
  have : pre g s = (s.take g.length == g) := rfl
  rw [this]
  by_cases h : g.isPrefixOf s = true
  · rw [h]
    obtain ⟨r, rfl⟩ := List.isPrefixOf_iff_prefix.mp h
    simp
  · rw [Bool.eq_false_iff.mpr h]
    refine beq_eq_false_iff_ne.mpr fun z => h ?_
    rw [List.isPrefixOf_iff_prefix]
    have e := List.take_append_drop g.length s
    rw [z] at e
    exact ⟨_, e⟩
theorem starts_eq {s g : List Nat} (hg : g ≠ []) : Txt.startswith (sOf s) (sOf g) = g.isPrefixOf s := by
  have h := at_iff (x := sOf s) (y := sOf g) (by rw [tl_sOf]; exact hg) 0
  rw [tl_sOf, tl_sOf, List.drop_zero, pre_eq] at h
  unfold Txt.startswith
  cases q : g.isPrefixOf s with
  | true =>
    rw [q] at h
    have := h.mpr rfl
    rw [Bool.and_eq_true, decide_eq_true_iff]
    exact ⟨this.1, this.2⟩
  | false =>
    rw [q] at h
    refine Bool.eq_false_iff.mpr fun z => ?_
    rw [Bool.and_eq_true, decide_eq_true_iff] at z
    exact absurd (h.mp ⟨z.1, z.2⟩) (by decide)
theorem w0_starts {s g : List Nat} {Q : D → Prop} (hg : g ≠ []) (q : Q (.bl (g.isPrefixOf s))) : w0 (fStartswith (.str s) (.str g)) Q := w0_of (by
  show some (D.bl (Txt.startswith (sOf s) (sOf g))) = _
  rw [starts_eq hg]) q
end
end Mir

namespace Mir
open PySem PySem.Spec L2
/-! ### int of a text of digits -/
def alldg (s : List Nat) : Bool := s.all fun c => decide (48 ≤ c ∧ c ≤ 57)
def iOf (s : List Nat) : Int := (PySem.NumText.digitsVal s : Nat)
theorem int_digits {s : List Nat} (h : alldg s = true) (h1 : s ≠ []) (h2 : s.length ≤ 640) : PySem.intText? (sOf s) = some (iOf s) := by
  have := PySem.intText_digits (x := sOf s) (by
    show PySem.NumText.AllDigits (sOf s).cps.toList
    rw [show (sOf s).cps.toList = s by simp [sOf]]
    intro c hc
    exact of_decide_eq_true (List.all_eq_true.mp h c hc)) (by rw [show (sOf s).cps.toList = s by simp [sOf]]; exact h1) (by rw [len_sOf]; omega)
  rw [this, show (sOf s).cps.toList = s by simp [sOf]]
  rfl
theorem w0_intS {s : List Nat} {Q : D → Prop} (h : alldg s = true) (h1 : s ≠ []) (h2 : s.length ≤ 640) (q : Q (.int (iOf s))) : w0 (fInt [.str s]) Q := by
  refine w0_of ?_ q
  show (if s.length ≤ 640 then (PySem.intText? (sOf s)).map D.int else none) = _
  rw [if_pos h2, int_digits h h1 h2]
  rfl
theorem iOf_str {n : Nat} (h : n < 10 ^ 10) (hd : alldg (lit (toString (n : Int))) = true) (hn : lit (toString (n : Int)) ≠ []) (hl : (lit (toString (n : Int))).length ≤ 640) : iOf (lit (toString (n : Int))) = n := by
  have h1 := int_digits hd hn hl
  have h2 := PySem.W.KIN.num_reads (n := (n : Int)) (by omega) (by exact_mod_cast h)
  have e : sOf (lit (toString (n : Int))) = PySem.Str.ofString (toString (n : Int)) := sOf_cps
  rw [e, h2] at h1
  exact (Option.some.inj h1).symm
end Mir

namespace Mir
open PySem PySem.Spec L2
/-! ### split, rstrip -/
def fSplit : D → D → Option D
  | .str s, .str t => if t ≠ [] ∧ t.all (· < 256) = true ∧ s.length ≤ 1000000 then some (.lst ((TL.spl t 0 [] s).map .str)) else none
  | _, _ => none
def fRstrip : D → D → Option D
  | .str s, .str t => if s.length ≤ 1000000 then some (.str (Txt.rstripChars (sOf s) (sOf t)).cps.toList) else none
  | _, _ => none
theorem okL_of {l : List Nat} (h : ∀ c ∈ l, c < 0x110000) : (sOf l).cps.all (· < 0x110000) = true := by
  rw [← Array.all_toList]
  exact List.all_eq_true.mpr fun c hc => decide_eq_true (h c (by simpa [sOf] using hc))
theorem okL_mem {x : Str} (h : x.cps.all (· < 0x110000) = true) : ∀ c ∈ x.cps.toList, c < 0x110000 := by
  rw [← Array.all_toList] at h
  exact fun c hc => of_decide_eq_true (List.all_eq_true.mp h c hc)
theorem spl_sub (S : List Nat) : ∀ (l : List Nat) (k : Nat) (acc : List Nat), ∀ w ∈ TL.spl S k acc l, ∀ c ∈ w, c ∈ acc ∨ c ∈ l
  | [], k, acc, w, hw, c, hc => by
    rw [TL.spl_nil, List.mem_singleton] at hw
    subst hw; exact .inl hc
  | a :: l, 0, acc, w, hw, c, hc => by
    rw [TL.spl] at hw
    split at hw
    · rcases List.mem_cons.mp hw with rfl | hw
      · exact .inl hc
      · rcases spl_sub S l _ [] w hw c hc with z | z
        · cases z
        · exact .inr (List.mem_cons_of_mem _ z)
    · rcases spl_sub S l 0 (acc ++ [a]) w hw c hc with z | z
      · rcases List.mem_append.mp z with z | z
        · exact .inl z
        · exact .inr (by rw [List.mem_singleton.mp z]; exact List.mem_cons_self)
      · exact .inr (List.mem_cons_of_mem _ z)
  | a :: l, k + 1, acc, w, hw, c, hc => by
    rw [TL.spl] at hw
    rcases spl_sub S l k acc w hw c hc with z | z
    · exact .inl z
    · exact .inr (List.mem_cons_of_mem _ z)
theorem spl_len (S : List Nat) : ∀ (l : List Nat) (k : Nat) (acc : List Nat), (TL.spl S k acc l).length ≤ l.length + 1 ∧ ∀ w ∈ TL.spl S k acc l, w.length ≤ acc.length + l.length
  | [], k, acc => by
    rw [TL.spl_nil]
    exact ⟨by simp, fun w hw => by rw [List.mem_singleton.mp hw]; simp⟩
  | a :: l, 0, acc => by
    rw [TL.spl]
    split
    · have := spl_len S l (S.length - 1) []
      refine ⟨by simp; omega, fun w hw => ?_⟩
      rcases List.mem_cons.mp hw with rfl | hw
      · simp
      · have := this.2 w hw; simp at this ⊢; omega
    · have := spl_len S l 0 (acc ++ [a])
      refine ⟨by simp; omega, fun w hw => ?_⟩
      have := this.2 w hw; simp at this ⊢; omega
  | a :: l, k + 1, acc => by
    rw [TL.spl]
    have := spl_len S l k acc
    exact ⟨by simp; omega, fun w hw => by have := this.2 w hw; simp; omega⟩
theorem rps_strs {K : PySem.W.Frag} {H : Hp} : ∀ {ls : List (List Nat)}, (∀ w ∈ ls, ∀ c ∈ w, c < 0x110000) → Rps K H (ls.map fun l => V.str (sOf l)) (ls.map D.str) []
  | [], _ => .nil
  | l :: ls, h => by
    have e : (sOf l).cps.toList = l := by simp [sOf]
    have p : Rp K H (.str (sOf l)) (.str l) [] := by
      have := Rp.str (K := K) (H := H) (okL_of (h l List.mem_cons_self))
      rwa [e] at this
    exact .cons p (rps_strs fun w hw => h w (List.mem_cons_of_mem _ hw))
theorem n_split {K : PySem.W.Frag} : OpN K (fun x y H Q => (∃ a, x = .str a) ∧ (∃ a b, x = .str a ∧ [y] = [V.str b] ∧ (b.length == 0) = false ∧ a.length + 2 ≤ sizeLine ∧ rNewStrs (Txt.split a b) H Q)) fSplit := by
  intro H v1 v2 d1 d2 G1 G2 d Q p1 p2 e h
  unfold fSplit at e
  split at e
  · split at e
    · rename_i hc
      cases e
      cases p1 with
      | str hx =>
      cases p2 with
      | str hy =>
      rename_i x y
      refine ⟨⟨_, rfl⟩, x, y, rfl, rfl, ?_, ?_, fun p hp => ?_⟩
      · refine beq_eq_false_iff_ne.mpr fun z => hc.1 ?_
        rw [TL.len_tl] at z
        exact List.length_eq_zero_iff.mp z
      · have : sizeLine = 16777216 := rfl
        rw [TL.len_tl]
        have : (TL.tl x).length ≤ 1000000 := hc.2.2
        omega
      · have e1 : Txt.split x y = (TL.spl y.cps.toList 0 [] x.cps.toList).map sOf := by
          have := SX.split_S (a := x.cps.toList) (b := y.cps.toList) hc.1 hc.2.1
          have ex : (⟨x.cps.toList.toArray⟩ : Str) = x := by cases x; simp
          have ey : (⟨y.cps.toList.toArray⟩ : Str) = y := by cases y; simp
          have h1 : SX.S x.cps.toList = x := ex
          have h2 : SX.S y.cps.toList = y := ey
          rw [h1, h2] at this
          exact this
        rw [e1]
        refine h _ _ [p] (.new hp _) ?_ (by simp) (fun a m => by rw [List.mem_singleton.mp m]; exact hp)
        refine .lst upd_same ?_
        rw [List.map_map]
        exact rps_strs fun w hw c hcw => by
          rcases spl_sub _ _ _ _ w hw c hcw with z | z
          · cases z
          · exact okL_mem hx c z
    · cases e
  · cases e
theorem n_rstrip {K : PySem.W.Frag} : OpN K (fun x y H Q => (∃ a, x = .str a) ∧ (∃ a b, x = .str a ∧ [y] = [V.str b] ∧ a.length ≤ sizeLine ∧ Q (.str (Txt.rstripChars a b)) H)) fRstrip := by
  intro H v1 v2 d1 d2 G1 G2 d Q p1 p2 e h
  unfold fRstrip at e
  split at e
  · split at e
    · rename_i hc
      cases e
      cases p1 with
      | str hx =>
      cases p2 with
      | str hy =>
      rename_i x y
      rw [sOf_cps, sOf_cps] at h
      refine ⟨⟨_, rfl⟩, x, y, rfl, rfl, ?_, h _ _ [] (.refl _ _) (.str ?_) .nil fun _ m => by cases m⟩
      · have : sizeLine = 16777216 := rfl
        rw [TL.len_tl]
        have : (TL.tl x).length ≤ 1000000 := hc
        omega
      · obtain ⟨j, _, e1⟩ := PyProof.Rows.stripBy_right y.cps.contains x
        rw [← Array.all_toList]
        refine List.all_eq_true.mpr fun c m => decide_eq_true (okL_mem hx c ?_)
        have e3 : (Txt.rstripChars x y).cps.toList = (x.cps.toList.drop 0).take (j - 0) := by
          have e2 := congrArg (fun z : Str => z.cps.toList) e1
          exact e2.trans (TL.tl_strSub x 0 j)
        rw [e3] at m
        exact List.mem_of_mem_take m
    · cases e
  · cases e
section
variable {X : Cx} {W : WX} {a b : Expr} {ma mb : MB} {apos pos : Pos}
theorem xs_split (pa : PE X a (tB X.K W ma)) (pb : PE X b (tB X.K W mb)) (hs : starEach [b] X.env = [(false, eval b X.env)] := by rfl) (hbase : attributeBase a "split" X.env (eval a X.env) = eval a X.env := by rfl) (hline : (apos.endLine == pos.line) = true := by rfl) :
    PE X (.Call (.Attribute a "split" apos) [b] [] pos) (tN X.K W (smB fSplit ma mb)) :=
  PE.mono (pe_m1 PySem.F.slot_str_split PySem.F.type_str_split mt_split pa pb hs hbase hline) fun _ _ _ h => op_m1 n_split (fun a b d e => by unfold fSplit at e; split at e; exact ⟨_, rfl⟩; cases e) h
theorem xs_rstrip (pa : PE X a (tB X.K W ma)) (pb : PE X b (tB X.K W mb)) (hs : starEach [b] X.env = [(false, eval b X.env)] := by rfl) (hbase : attributeBase a "rstrip" X.env (eval a X.env) = eval a X.env := by rfl) (hline : (apos.endLine == pos.line) = true := by rfl) :
    PE X (.Call (.Attribute a "rstrip" apos) [b] [] pos) (tN X.K W (smB fRstrip ma mb)) :=
  PE.mono (pe_m1 PySem.F.slot_str_rstrip PySem.F.type_str_rstrip mt_rstripChars pa pb hs hbase hline) fun _ _ _ h => op_m1 n_rstrip (fun a b d e => by unfold fRstrip at e; split at e; exact ⟨_, rfl⟩; cases e) h
end
theorem w0_split {s t : List Nat} {Q : D → Prop} (h : t ≠ []) (h1 : t.all (· < 256) = true) (h2 : s.length ≤ 1000000) (q : Q (.lst ((TL.spl t 0 [] s).map .str))) : w0 (fSplit (.str s) (.str t)) Q :=
  w0_of (show (if _ then _ else _) = _ by rw [if_pos ⟨h, h1, h2⟩]) q
theorem w0_rstrip {s t : List Nat} {Q : D → Prop} (h : s.length ≤ 1000000) (q : ∀ u : List Nat, u.length ≤ s.length → Q (.str u)) : w0 (fRstrip (.str s) (.str t)) Q := by
  refine w0_of (show (if s.length ≤ 1000000 then some (D.str (Txt.rstripChars (sOf s) (sOf t)).cps.toList) else none) = _ by rw [if_pos h]) (q _ ?_)
  have := PyProof.Rows.len_rstripChars (sOf s) (sOf t)
  rw [TL.len_tl, TL.len_tl] at this
  simpa [sOf] using this
end Mir

namespace Mir
open PySem PySem.Spec L2
/-! ### partition -/
def parD (s t : List Nat) : D := match TL.par t [] s with
  | some (p, q) => .tup [.str p, .str t, .str q]
  | none => .tup [.str s, .str [], .str []]
def fPartition : D → D → Option D
  | .str s, .str t => if t ≠ [] ∧ s.length ≤ 1000000 then some (parD s t) else none
  | _, _ => none
theorem par_sub (S : List Nat) : ∀ (l acc p q : List Nat), TL.par S acc l = some (p, q) → (∀ c ∈ p, c ∈ acc ∨ c ∈ l) ∧ ∀ c ∈ q, c ∈ l
  | [], acc, p, q, h => by unfold TL.par at h; cases h
  | a :: l, acc, p, q, h => by
    unfold TL.par at h
    split at h
    · cases h
      exact ⟨fun c hc => .inl hc, fun c hc => List.mem_of_mem_drop hc⟩
    · have := par_sub S l (acc ++ [a]) p q h
      refine ⟨fun c hc => ?_, fun c hc => List.mem_cons_of_mem _ (this.2 c hc)⟩
      rcases this.1 c hc with z | z
      · rcases List.mem_append.mp z with z | z
        · exact .inl z
        · exact .inr (by rw [List.mem_singleton.mp z]; exact List.mem_cons_self)
      · exact .inr (List.mem_cons_of_mem _ z)
theorem n_partition {K : PySem.W.Frag} : OpN K (fun x y H Q => (∃ a, x = .str a) ∧ (∃ a b, x = .str a ∧ [y] = [V.str b] ∧ (b.length == 0) = false ∧ a.length ≤ sizeLine ∧
    ∀ p, H p = none → Q (.ref p) (upd H p (.tup [.str (Txt.partition a b).1, .str (Txt.partition a b).2.1, .str (Txt.partition a b).2.2])))) fPartition := by
  intro H v1 v2 d1 d2 G1 G2 d Q p1 p2 e h
  unfold fPartition at e
  split at e
  · split at e
    · rename_i hc
      cases e
      cases p1 with
      | str hx =>
      cases p2 with
      | str hy =>
      rename_i x y
      refine ⟨⟨_, rfl⟩, x, y, rfl, rfl, ?_, ?_, fun p hp => ?_⟩
      · refine beq_eq_false_iff_ne.mpr fun z => hc.1 ?_
        rw [TL.len_tl] at z
        exact List.length_eq_zero_iff.mp z
      · have : sizeLine = 16777216 := rfl
        rw [TL.len_tl]
        have : (TL.tl x).length ≤ 1000000 := hc.2
        omega
      · have ex : SX.S x.cps.toList = x := SX.S_tl x
        have ey : SX.S y.cps.toList = y := SX.S_tl y
        have key : ∃ ls : List (List Nat), ([.str (Txt.partition x y).1, .str (Txt.partition x y).2.1, .str (Txt.partition x y).2.2] : List V) = ls.map (fun l => V.str (sOf l)) ∧ parD x.cps.toList y.cps.toList = .tup (ls.map D.str) ∧ ∀ w ∈ ls, ∀ c ∈ w, c < 0x110000 := by
          cases q : TL.par y.cps.toList [] x.cps.toList with
          | none =>
            have e1 := SX.partition_none hc.1 q
            rw [ex, ey] at e1
            rw [e1]
            refine ⟨[x.cps.toList, [], []], by rw [show x = sOf x.cps.toList from sOf_cps.symm]; rfl, by simp only [parD, q]; rfl, ?_⟩
            intro w hw
            simp only [List.mem_cons, List.not_mem_nil, or_false] at hw
            rcases hw with rfl | rfl | rfl
            · exact okL_mem hx
            · intro c hc; cases hc
            · intro c hc; cases hc
          | some pq =>
            obtain ⟨a, b⟩ := pq
            have e1 := SX.partition_some hc.1 q
            rw [ex, ey] at e1
            rw [e1]
            have := par_sub _ _ _ _ _ q
            refine ⟨[a, y.cps.toList, b], by rw [show y = sOf y.cps.toList from sOf_cps.symm]; rfl, by simp only [parD, q]; rfl, ?_⟩
            intro w hw
            simp only [List.mem_cons, List.not_mem_nil, or_false] at hw
            rcases hw with rfl | rfl | rfl
            · intro c hc
              rcases this.1 c hc with z | z
              · cases z
              · exact okL_mem hx c z
            · exact okL_mem hy
            · exact fun c hc => okL_mem hx c (this.2 c hc)
        obtain ⟨ls, k1, k2, k3⟩ := key
        rw [k1]
        rw [k2] at h
        exact h _ _ [] (.new hp _) (.tup (.of upd_same) (rps_strs k3)) .nil fun _ m => by cases m
    · cases e
  · cases e
section
variable {X : Cx} {W : WX} {a b : Expr} {ma mb : MB} {apos pos : Pos}
theorem xs_partition (pa : PE X a (tB X.K W ma)) (pb : PE X b (tB X.K W mb)) (hs : starEach [b] X.env = [(false, eval b X.env)] := by rfl) (hbase : attributeBase a "partition" X.env (eval a X.env) = eval a X.env := by rfl) (hline : (apos.endLine == pos.line) = true := by rfl) :
    PE X (.Call (.Attribute a "partition" apos) [b] [] pos) (tN X.K W (smB fPartition ma mb)) :=
  PE.mono (pe_m1 PySem.F.slot_str_partition PySem.F.type_str_partition mt_partition pa pb hs hbase hline) fun _ _ _ h => op_m1 n_partition (fun a b d e => by unfold fPartition at e; split at e; exact ⟨_, rfl⟩; cases e) h
end
theorem w0_partition {s t : List Nat} {Q : D → Prop} (h : t ≠ []) (h2 : s.length ≤ 1000000) (q : Q (parD s t)) : w0 (fPartition (.str s) (.str t)) Q :=
  w0_of (show (if _ then _ else _) = _ by rw [if_pos ⟨h, h2⟩]) q
end Mir

namespace Mir
open PySem PySem.Spec L2

/-! ### dicts that change: keys texts or numbers, values that can't change -/
def dputD (ds : List (D × D)) (k y : D) : List (D × D) :=
  if (ds.any fun p => keyEq p.1 k) = true then ds.map (fun p => if keyEq p.1 k = true then (p.1, y) else p) else ds ++ [(k, y)]
section
variable {K : PySem.W.Frag} {H : Hp}
theorem dany_ok (key : Key) : ∀ {kvs : List (Key × V)} {ds : List (D × D)}, kvs.map (fun p => kD p.1) = ds.map (·.1) → (kvs.any fun kv => decide (kv.1 = key)) = ds.any fun p => keyEq p.1 (kD key)
  | [], [], _ => rfl
  | [], _ :: _, h => by simp at h
  | _ :: _, [], h => by simp at h
  | kv :: kvs, d :: ds, h => by
    simp only [List.map_cons, List.cons.injEq] at h
    rw [List.any_cons, List.any_cons, ← h.1, keyEq_kD, dany_ok key h.2]
theorem dmap_ok (key : Key) {v : V} {y : D} (p : Rp K H v y []) : ∀ {kvs : List (Key × V)} {ds : List (D × D)}, kvs.map (fun p => kD p.1) = ds.map (·.1) → Rps K H (kvs.map (·.2)) (ds.map (·.2)) [] →
    (kvs.map fun kv => if kv.1 = key then (kv.1, v) else kv).map (fun p => kD p.1) = (ds.map fun p => if keyEq p.1 (kD key) = true then (p.1, y) else p).map (·.1) ∧
    Rps K H ((kvs.map fun kv => if kv.1 = key then (kv.1, v) else kv).map (·.2)) ((ds.map fun p => if keyEq p.1 (kD key) = true then (p.1, y) else p).map (·.2)) []
  | [], [], _, r => ⟨rfl, .nil⟩
  | [], _ :: _, h, _ => by simp at h
  | _ :: _, [], h, _ => by simp at h
  | kv :: kvs, d :: ds, h, r => by
    simp only [List.map_cons, List.cons.injEq] at h
    simp only [List.map_cons] at r
    generalize hF : ([] : List Addr) = F at r
    cases r with | cons q r => ?_
    obtain ⟨e1, e2⟩ := List.append_eq_nil_iff.mp hF.symm
    subst e1 e2
    obtain ⟨i1, i2⟩ := dmap_ok key p h.2 r
    simp only [List.map_cons]
    have e : keyEq d.1 (kD key) = decide (kv.1 = key) := by rw [← h.1, keyEq_kD]
    rw [e]
    by_cases z : kv.1 = key
    · rw [if_pos z, if_pos (decide_eq_true z)]
      exact ⟨by rw [i1]; simp [h.1], .cons (F := []) (G := []) p i2⟩
    · rw [if_neg z, if_neg (by simpa using z)]
      exact ⟨by rw [i1]; simp [h.1], .cons (F := []) (G := []) q i2⟩
theorem dput_ok (key : Key) {v : V} {y : D} (p : Rp K H v y []) {kvs : List (Key × V)} {ds : List (D × D)} (h : kvs.map (fun p => kD p.1) = ds.map (·.1)) (r : Rps K H (kvs.map (·.2)) (ds.map (·.2)) []) :
    (putK kvs key v).map (fun p => kD p.1) = (dputD ds (kD key) y).map (·.1) ∧ Rps K H ((putK kvs key v).map (·.2)) ((dputD ds (kD key) y).map (·.2)) [] := by
  unfold putK dputD
  rw [dany_ok key h]
  split
  · exact dmap_ok key p h r
  · refine ⟨by simp [h], ?_⟩
    rw [List.map_append, List.map_append]
    exact r.append (.cons (F := []) (G := []) p .nil)
theorem dlen_ok {kvs : List (Key × V)} {ds : List (D × D)} (h : kvs.map (fun p => kD p.1) = ds.map (·.1)) : kvs.length = ds.length := by
  have := congrArg List.length h
  simpa using this
end
/-- {} -/
def mNewD : MB := fun _ => .ok (.dct [])
theorem x_newD {X : Cx} {W : WX} {pos : Pos} : PE X (.Dict [] [] pos) (tN X.K W mNewD) := PE.mono pe_dnewK fun σ H Q ⟨e, F, r, h⟩ p hp =>
  h (.ref p) _ [p] (.new hp []) (.dct upd_same rfl .nil) (by simp) fun a m => by rw [List.mem_singleton.mp m]; exact hp
/-- {k: v, ..} -/
def pairsB : List (MB × MB) → E → Rs (List (D × D))
  | [], _ => .ok []
  | (mk, mv) :: r, e => (mk e).bind fun k => (mv e).bind fun v => (pairsB r e).bind fun ds => .ok ((k, v) :: ds)
def dmerge (ds : List (D × D)) : List (D × D) := ds.foldl (fun acc kv => dputD acc kv.1 kv.2) []
def mDispB (ps : List (MB × MB)) : MB := fun e => match pairsB ps e with
  | .ok ds => if ds.length ≤ 15 ∧ (ds.all fun p => isKey p.1 && imm p.2) = true then .ok (.dct (dmerge ds)) else .bad
  | _ => .bad
section
variable {K : PySem.W.Frag} {W : WX}
theorem merge_ok {H : Hp} : ∀ (more : List (Key × V)) (ds2 : List (D × D)) {kvs : List (Key × V)} {ds : List (D × D)}, more.map (fun p => kD p.1) = ds2.map (·.1) → Rps K H (more.map (·.2)) (ds2.map (·.2)) [] →
    kvs.map (fun p => kD p.1) = ds.map (·.1) → Rps K H (kvs.map (·.2)) (ds.map (·.2)) [] →
    (mergeK kvs more).map (fun p => kD p.1) = (ds2.foldl (fun acc kv => dputD acc kv.1 kv.2) ds).map (·.1) ∧ Rps K H ((mergeK kvs more).map (·.2)) ((ds2.foldl (fun acc kv => dputD acc kv.1 kv.2) ds).map (·.2)) []
  | [], [], _, _, _, _, h, r => ⟨h, r⟩
  | [], _ :: _, _, _, h, _, _, _ => by simp at h
  | _ :: _, [], _, _, h, _, _, _ => by simp at h
  | kv :: more, d :: ds2, kvs, ds, h1, r1, h, r => by
    simp only [List.map_cons, List.cons.injEq] at h1
    simp only [List.map_cons] at r1
    generalize hF : ([] : List Addr) = F at r1
    cases r1 with | cons q r1 => ?_
    obtain ⟨e1, e2⟩ := List.append_eq_nil_iff.mp hF.symm
    subst e1 e2
    obtain ⟨i1, i2⟩ := dput_ok kv.1 q h r
    rw [h1.1] at i1 i2
    exact merge_ok more ds2 h1.2 r1 i1 i2
theorem pairs_ok {σ : L2.St} : ∀ (ps : List (MB × MB)) {H0 H : Hp} {e : E} {F : List Addr} {ds : List (D × D)} {Q : List (V × V) → Hp → Prop}, RelS K H σ e F → Keeps [] H0 H → pairsB ps e = .ok ds → (ds.all fun p => isKey p.1 && imm p.2) = true →
    (∀ (kvs : List (Key × V)) H', Keeps [] H0 H' → kvs.map (fun (p : Key × V) => kD p.1) = ds.map (·.1) → Rps K H' (kvs.map (·.2)) (ds.map (·.2)) [] → Q (kvs.map fun kv => (kV kv.1, kv.2)) H') → tPairs (ps.map fun p => (tB K W p.1, tB K W p.2)) σ H Q
  | [], H0, H, e, F, ds, Q, r, k0, h, _, q => by
    cases h
    exact q [] H k0 rfl .nil
  | (mk, mv) :: ps, H0, H, e, F, ds, Q, r, k0, h, ha, q => by
    unfold pairsB at h
    cases qk : mk e with
    | bad => simp only [qk, Rs.bind] at h; cases h
    | exc y => simp only [qk, Rs.bind] at h; cases h
    | ok k =>
      simp only [qk, Rs.bind] at h
      refine ⟨e, F, r, ?_⟩
      simp only [qk]
      intro vk H1 Gk k1 pk
      cases qv : mv e with
      | bad => simp only [qv] at h; cases h
      | exc y => simp only [qv] at h; cases h
      | ok y =>
        simp only [qv] at h
        have r1 := r.same k1
        refine ⟨e, F, r1, ?_⟩
        simp only [qv]
        intro vv H2 Gv k2 pv
        cases qp : pairsB ps e with
        | bad => rw [qp] at h; cases h
        | exc y => rw [qp] at h; cases h
        | ok ds2 =>
          rw [qp] at h
          cases h
          obtain ⟨a1, a2⟩ := Bool.and_eq_true_iff.mp (show ((isKey k && imm y) && ds2.all fun p => isKey p.1 && imm p.2) = true from ha)
          obtain ⟨a3, a4⟩ := Bool.and_eq_true_iff.mp a1
          obtain ⟨key, ev, ek⟩ := key_of pk a3
          subst ev ek
          have e0 := pv.fpImm a4
          subst e0
          have k01 : Keeps [] H0 H1 := k0.trans k1 fun _ m => by cases m
          have k02 : Keeps [] H0 H2 := k01.trans k2 fun _ m => by cases m
          refine pairs_ok ps (H0 := H2) (r1.same k2) (.refl _ _) qp a2 fun kvs H' k' hk hr => ?_
          exact q ((key, vv) :: kvs) H' (k02.trans k' fun _ m => by cases m) (by simp [hk]) (.cons (F := []) (G := []) (pv.same k') hr)
end
theorem x_dispB {X : Cx} {W : WX} {pos : Pos} {keys : List (Option Expr)} {values : List Expr} {ps : List (MB × MB)} (q : PE X (.Dict keys values pos) (tDisp (ps.map fun p => (tB X.K W p.1, tB X.K W p.2)))) :
    PE X (.Dict keys values pos) (tN X.K W (mDispB ps)) := PE.mono q fun σ H Q ⟨e, F, r, h⟩ => by
  intro p hp
  unfold mDispB at h
  cases qp : pairsB ps e with
  | bad => rw [qp] at h; exact h.elim
  | exc y => rw [qp] at h; exact h.elim
  | ok ds =>
    rw [qp] at h
    simp only at h
    by_cases hc : ds.length ≤ 15 ∧ (ds.all fun p => isKey p.1 && imm p.2) = true
    · rw [if_pos hc] at h
      have kN : Keeps [] H (upd H p (.dK [])) := .new hp []
      refine pairs_ok ps (H0 := upd H p (.dK [])) (r.same kN) (.refl _ _) qp hc.2 fun kvs H' k' hk hr => ?_
      have hb : H' p = some (.dK []) := k' _ _ upd_same (.inr fun m => by cases m)
      refine ⟨hb, kvs, rfl, by rw [dlen_ok hk]; exact hc.1, ?_⟩
      have kU : Keeps [p] H' (upd H' p (.dK (mergeK [] kvs))) := .upd hb rfl List.mem_cons_self
      obtain ⟨m1, m2⟩ := merge_ok kvs ds (kvs := []) (ds := []) hk hr rfl .nil
      refine h (.ref p) _ [p] (fun a o ha z => ?_) (.dct upd_same m1 (m2.keep kU fun _ m => by cases m)) (by simp) fun a m => by rw [List.mem_singleton.mp m]; exact hp
      have : a ≠ p := fun z => by subst z; rw [hp] at ha; cases ha
      rw [upd_ne this]
      exact k' _ _ (by rw [upd_ne this]; exact ha) (.inr fun m => by cases m)
    · rw [if_neg hc] at h; exact h.elim
/-! d.get(k, x) -/
def fDGetOr : D → D → D → Option D
  | .dct ds, k, z => if isKey k = true then some ((dgetD ds k).getD z) else none
  | .rdc ds, k, z => if isKey k = true then some ((dgetD ds k).getD z) else none
  | _, _, _ => none
def getB (ma mk mz : MB) : MB := fun e => (ma e).bind fun a => if isDct a = true then (mk e).bind fun k => (mz e).bind fun z => .of (fDGetOr a k z) else .bad
where isDct : D → Bool
  | .dct _ => true
  | .rdc _ => true
  | _ => false
section
variable {X : Cx} {W : WX}
theorem x_get2 {o e f : Expr} {apos cpos : Pos} {ma mk mz : MB} (hu : X.A.units + 1 < cLine) (ho : PE X o (tB X.K W ma)) (he : PE X e (tB X.K W mk)) (hf : PE X f (tB X.K W mz)) (m : M2 X o "get" apos e f cpos) :
    PE X (.Call (.Attribute o "get" apos) [e, f] [] cpos) (tB X.K W (getB ma mk mz)) := PE.mono (pe_dget2 hu ho he hf m) fun σ H Q ⟨e, F, r, h⟩ => by
  refine ⟨e, F, r, ?_⟩
  unfold getB at h
  cases qa : ma e with
  | bad => simp only [qa, Rs.bind] at h
  | exc y => simp only [qa, Rs.bind] at h; exact h
  | ok a =>
    simp only [qa, Rs.bind] at h
    intro va H1 G1 k1 p1
    by_cases hd : getB.isDct a = true
    · rw [if_pos hd] at h
      have isd : ∃ b, va = .ref b ∧ ∀ H2, Keeps [] H1 H2 → IsD H2 b := by
        cases p1 with
        | dct ha _ _ => exact ⟨_, rfl, fun H2 k => .inl ⟨_, .inl (k _ _ ha (.inr fun m => by cases m))⟩⟩
        | rdc ha _ _ => obtain ⟨o, ha⟩ := ha; exact ⟨_, rfl, fun H2 k => .inl ⟨_, .inr ⟨o, k _ _ ha (.inr fun m => by cases m)⟩⟩⟩
        | _ => cases hd
      obtain ⟨b, eb, isd⟩ := isd
      subst eb
      refine ⟨b, rfl, isd H1 (.refl _ _), e, F, r.same k1, ?_⟩
      cases qk : mk e with
      | bad => simp only [qk] at h
      | exc y => simp only [qk] at h; exact fun c dx H' k p => h c dx H' (k1.trans k fun _ m => by cases m) p
      | ok kk =>
        simp only [qk] at h
        intro vk H2 G2 k2 p2
        have k12 : Keeps [] H H2 := k1.trans k2 fun _ m => by cases m
        refine ⟨e, F, (r.same k1).same k2, ?_⟩
        cases qz : mz e with
        | bad => simp only [qz] at h
        | exc y => simp only [qz] at h; exact fun c dx H' k p => h c dx H' (k12.trans k fun _ m => by cases m) p
        | ok zz =>
          simp only [qz] at h
          intro vz H3 G3 k3 p3
          have k13 : Keeps [] H H3 := k12.trans k3 fun _ m => by cases m
          have pa := (p1.same k2).same k3
          have pk := p2.same k3
          cases qf : fDGetOr a kk zz with
          | none => rw [qf] at h; exact h.elim
          | some dr =>
            rw [qf] at h
            simp only [Rs.of] at h
            unfold fDGetOr at qf
            split at qf
            · split at qf
              · rename_i hk
                cases qf
                obtain ⟨key, ev, ek⟩ := key_of pk hk
                subst ev ek
                cases pa with | dct ha hc hr => ?_
                refine ⟨_, DGet.k ha, ?_⟩
                rcases dget_ok key hc hr with ⟨v, d', e1, e2, p⟩ | ⟨e1, e2⟩
                · rw [e1]; rw [e2] at h; exact h _ _ _ k13 p
                · rw [e1]; rw [e2] at h; exact h _ _ _ k13 p3
              · cases qf
            · split at qf
              · rename_i hk
                cases qf
                obtain ⟨key, ev, ek⟩ := key_of pk hk
                subst ev ek
                cases pa with | rdc ha hc hr => ?_
                refine ⟨_, DGet.rk ha, ?_⟩
                rcases dget_ok key hc hr with ⟨v, d', e1, e2, p⟩ | ⟨e1, e2⟩
                · rw [e1]; rw [e2] at h; exact h _ _ _ k13 p
                · rw [e1]; rw [e2] at h; exact h _ _ _ k13 p3
              · cases qf
            · cases qf
    · rw [if_neg hd] at h; exact h.elim
end
/-! d[k] = e, d the dict in the slot i -/
def mDSet (i : Nat) (mk : MB) (n : ME) : MS := fun e => match n e with
  | .ok y e1 => if imm y = true then (match e1[i]? with
    | some (some (.dct ds)) => (match mk e1 with
      | .ok k => if isKey k = true ∧ ds.length < sizeLine then .nx (e1.set i (some (.dct (dputD ds k y)))) else .bad
      | .exc x => .exc x e1
      | .bad => .bad)
    | _ => .bad) else .bad
  | .exc x e1 => .exc x e1
  | .bad => .bad
theorem m_dset {X : Cx} {W : WX} {Z : Zs} {i : Nat} {x : Str} {px pos tpos : Pos} {k e : Expr} {mk : MB} {n : ME} (hu : X.A.units + 1 < cLine) (he : PE X e (tE X.K W n)) (hk : PE X k (tB X.K W mk)) (hN : X.N[i]? = some x := by rfl) (hv : Vis X.env.scope x := by first | exact Or.inl rfl | exact Or.inr (Or.inl rfl) | exact Or.inr (Or.inr rfl)) (hd : (x == ("__debug__" : Str)) = false := by decide)
    (hcd : (x == ("__classdict__" : Str)) = false := by decide) (hs : swapsWith e (some (.Subscript (.Name x px) k tpos)) pos.line X.env = pure false := by rfl) :
    PS X (.Assign [.Subscript (.Name x px) k tpos] e pos) (tM X.K W Z (mDSet i mk n)) := PS.mono (ps_dput hu (pe_var hN hv hd hcd) hk he hs) fun D σ H ⟨e, F, r, nd, h⟩ => by
  refine ⟨e, F, r, nd, ?_⟩
  unfold mDSet at h
  cases q : n e with
  | bad => rw [q] at h; exact h
  | exc y e1 => rw [q] at h; exact fun c dx H' F' x p => h c dx σ H' F' x (.refl _ _) p
  | ok y e1 =>
    rw [q] at h
    simp only at h
    by_cases hi : imm y = true
    · rw [if_pos hi] at h
      intro v H1 F1 x0
      obtain ⟨G, F0, eF, p, x', hdj, n1, nw⟩ := x0.head
      have e0 := p.fpImm hi
      subst e0
      cases q1 : e1[i]? with
      | none => rw [q1] at h; exact h.elim
      | some oo =>
        rw [q1] at h
        cases oo with
        | none => exact h.elim
        | some d =>
          cases d with
          | dct ds =>
            simp only at h
            obtain ⟨w, G2, k1, k2, k3, k4, k5⟩ := x'.update q1
            cases k2 with | dct ha2 hc2 ra => ?_
            rename_i a kvs
            refine ⟨.ref a, k1, e1, F0, x'.r, ?_⟩
            cases qk : mk e1 with
            | bad => rw [qk] at h; exact h.elim
            | exc z => rw [qk] at h; exact fun c dx H' k px => h c dx σ H' F0 (x'.grow k) (.refl _ _) px
            | ok dk =>
              rw [qk] at h
              simp only at h
              intro vk H2 Gk kk pk
              by_cases hc : isKey dk = true ∧ ds.length < sizeLine
              · rw [if_pos hc] at h
                obtain ⟨key, ev, ek⟩ := key_of pk hc.1
                subst ev ek
                have hb : H2 a = some (.dK kvs) := kk _ _ ha2 (.inr fun m => by cases m)
                refine ⟨a, _, rfl, DPut.k hb (by rw [dlen_ok hc2]; exact hc.2), ?_⟩
                have kU : Keeps [a] H2 (upd H2 a (.dK (putK kvs key v))) := .upd hb rfl List.mem_cons_self
                have kA : Keeps [a] H1 (upd H2 a (.dK (putK kvs key v))) := (kk.mono (fun _ m => by cases m)).trans kU fun b m => .inl m
                obtain ⟨m1, m2⟩ := dput_ok key (p.same kk) hc2 (ra.same kk)
                obtain ⟨F9, w9⟩ := k5 _ (.dct (dputD ds (kD key) y)) [a] kA (.dct upd_same m1 (m2.keep kU fun _ m => by cases m)) (by simp) fun b m => .inl m
                exact h σ _ F9 w9 (.refl _ _)
              · rw [if_neg hc] at h; exact h.elim
          | _ => exact h.elim
    · rw [if_neg hi] at h; exact h.elim
/-! a dict that is never changed again -/
def frzD (n : ME) : ME := fun e => match n e with
  | .ok (.dct ds) e1 => .ok (.rdc ds) e1
  | .ok _ _ => .bad
  | .exc x e1 => .exc x e1
  | .bad => .bad
theorem e_frzD {X : Cx} {W : WX} {x : Expr} {n : ME} (p : PE X x (tE X.K W n)) : PE X x (tE X.K W (frzD n)) := by
  refine ⟨fun pins s σ H Q I ⟨e, F, r, nd, h⟩ => ?_⟩
  unfold frzD at h
  cases q : n e with
  | bad => rw [q] at h; exact h.elim
  | exc y e1 =>
    rw [q] at h
    exact p.run pins s σ H Q I ⟨e, F, r, nd, by rw [q]; exact h⟩
  | ok d e1 =>
    rw [q] at h
    cases d with
    | dct ds =>
      simp only at h
      refine thn (p.run pins s σ H (fun v H' => ∃ F', Ev X.K F H (some v :: σ) H' (some (.dct ds) :: e1) F') I ⟨e, F, r, nd, by rw [q]; exact fun v H' F' x => ⟨F', x⟩⟩) fun u s1 hq => ?_
      obtain ⟨v, H1, I1, rv, F', x⟩ := hq
      obtain ⟨G, F0, eF, pv, x', hd, n1, nw⟩ := x.head
      cases pv with | dct ha hc ra => ?_
      rename_i a kvs
      obtain ⟨od, I2⟩ := I1.lock ha trivial
      refine ⟨.ref a, _, I2, rv, ?_⟩
      have na : a ∉ F0 := hd a List.mem_cons_self
      have k : Keeps [a] H1 (upd H1 a (.frz od (.dK kvs))) := .upd ha rfl List.mem_cons_self
      have kF : Keeps F H (upd H1 a (.frz od (.dK kvs))) := fun b o hb z => by
        by_cases y : b = a
        · subst y
          rcases nw b List.mem_cons_self with n | n
          · rcases z with z | z
            · have := x'.k b o hb (.inl z)
              rw [ha] at this; cases this; cases z
            · exact absurd n z
          · rw [n] at hb; cases hb
        · rw [upd_ne y]; exact x'.k b o hb z
      have w : Ev X.K F H σ (upd H1 a (.frz od (.dK kvs))) e1 F0 := ⟨kF, x'.r.keep k fun b m z => na (by rw [← List.mem_singleton.mp z]; exact m), x'.nd, x'.new⟩
      exact h (.ref a) _ F0 (w.consImm (.rdc ⟨_, upd_same⟩ hc (ra.keep k fun _ m => by cases m)) rfl)
    | _ => exact h.elim
/-! ### {k: v for g in w if tt} -/
def mDComp (g : MG) (tt : MT) (mk mv : MB) (vs : List Nat) : List D → E → List (D × D) → Re (List (D × D))
  | [], e, acc => .ok acc e
  | d :: ds, e, acc => match g d e with
    | some e1 => (match tt e1 with
      | .ok b e2 => if b = true then (match mk e2 with
          | .ok k => (match mv e2 with
            | .ok y => if isKey k = true ∧ imm y = true then mDComp g tt mk mv vs ds (wipeE e2 vs) (dputD acc k y) else .bad
            | _ => .bad)
          | _ => .bad) else mDComp g tt mk mv vs ds (wipeE e2 vs) acc
      | _ => .bad)
    | none => .bad
def eDComp (w : MW) (g : MG) (tt : MT) (mk mv : MB) (vs : List Nat) : ME := fun e => match w e with
  | .ok items e1 => if fits items.length = true then (match mDComp g tt mk mv vs items (wipeE e1 vs) [] with
    | .ok acc e2 => .ok (.dct acc) e2
    | _ => .bad) else .bad
  | .exc x e1 => .exc x e1
  | .bad => .bad
theorem dput_len (ds : List (D × D)) (k y : D) : (dputD ds k y).length ≤ ds.length + 1 := by
  unfold dputD
  split
  · simp
  · simp
structure AccD (K : PySem.W.Frag) (F : List Addr) (H H' : Hp) (L : Addr) (acc : List (D × D)) (F' : List Addr) : Prop where
  ex : ∃ kvs : List (Key × V), H' L = some (.dK kvs) ∧ kvs.map (fun (p : Key × V) => kD p.1) = acc.map (·.1) ∧ Rps K H' (kvs.map (·.2)) (acc.map (·.2)) []
  nin : L ∉ F'
  new : L ∈ F ∨ H L = none
section
variable {K : PySem.W.Frag}
theorem AccD.keep {F F' F2 : List Addr} {H H' H2 : Hp} {L : Addr} {acc : List (D × D)} {σ2 : L2.St} {e2 : E} (a : AccD K F H H' L acc F') (y : Ev K F' H' σ2 H2 e2 F2) : AccD K F H H2 L acc F2 := by
  obtain ⟨⟨kvs, h1, h2, h3⟩, n1, n2⟩ := a
  refine ⟨⟨kvs, y.k _ _ h1 (.inr n1), h2, h3.keep y.k fun _ m => by cases m⟩, fun m => ?_, n2⟩
  exact (y.new L m).elim n1 (by rw [h1]; exact fun z => by cases z)
theorem AccD.grow {F F' : List Addr} {H H' H2 : Hp} {L : Addr} {acc : List (D × D)} (a : AccD K F H H' L acc F') (k : Keeps [] H' H2) : AccD K F H H2 L acc F' := by
  obtain ⟨⟨kvs, h1, h2, h3⟩, n1, n2⟩ := a
  exact ⟨⟨kvs, k _ _ h1 (.inr fun m => by cases m), h2, h3.keep k fun _ m => by cases m⟩, n1, n2⟩
theorem AccD.less {F F' F2 : List Addr} {H H' : Hp} {L : Addr} {acc : List (D × D)} (a : AccD K F H H' L acc F') (h : ∀ b ∈ F2, b ∈ F') : AccD K F H H' L acc F2 :=
  ⟨a.ex, fun m => a.nin (h L m), a.new⟩
end
theorem dcomp_ok {K : PySem.W.Frag} {J : It} {items : List D} {P : Hp → Prop} {A : List Addr} (src : Src K J items P A) {g : MG} {tt : MT} {mk mv : MB} {vs : List Nat} {σ : L2.St} {H0 H1 : Hp} {F0 F1 : List Addr} {e1 : E} {Q : VK}
    (x0 : Ev K F0 H0 σ H1 e1 F1) (hA : ∀ a ∈ A, a ∉ F1 ∧ H1 a ≠ none) (hp : P H1) (hfit : fits items.length = true) (hw0 : ∀ i d, e1[i]? = some (some d) → i ∉ vs)
    (h : match mDComp g tt mk mv vs items e1 [] with
      | .ok acc e2 => ∀ v H' F', Ev K F0 H0 (some v :: σ) H' (some (.dct acc) :: e2) F' → Q v H'
      | _ => False) (L : Addr) (hL : H1 L = none) :
    ∃ V : Nat → Nat → Hp → Prop, (∃ m, V 0 m (upd H1 L (.dK []))) ∧ ∀ i m H, V i m H → (J.stop i H ∧ Q (.ref L) H) ∨ (J.go i H ∧ ∃ Nx : Hp → Prop, (∀ H', Nx H' → ∃ m', m' < m ∧ V (i + 1) m' H') ∧ ∀ x H', J.yld i H x H' →
      tG K (zw vs) g x (L2.wipe σ vs) H' fun σ2 H2 => L2.wipe σ2 vs = L2.wipe σ vs ∧ tT K wF tt σ2 H2 fun b H3 =>
        if b = true then tB K wF mk σ2 H3 fun y H4 => tB K wF mv σ2 H4 fun z H5 => ∃ kvs k, y = kV k ∧ H5 L = some (.dK kvs) ∧ kvs.length < sizeLine ∧ Nx (upd H5 L (.dK (putK kvs k z))) else Nx H3) := by
  have k0 : Keeps [] H1 (upd H1 L (.dK [])) := .new hL []
  have x1 : Ev K F0 H0 σ (upd H1 L (.dK [])) e1 F1 := x0.grow k0
  have LA : L ∉ A := fun m => (hA L m).2 hL
  have newL : L ∈ F0 ∨ H0 L = none := by
    by_cases z : L ∈ F0
    · exact .inl z
    · exact .inr (x0.k.none hL z)
  have a0 : AccD K F0 H0 (upd H1 L (.dK [])) L [] F1 := ⟨⟨[], upd_same, rfl, .nil⟩, fun m => x0.r.there m hL, newL⟩
  have hA1 : ∀ a ∈ A, a ∉ F1 ∧ (upd H1 L (.dK [])) a ≠ none := fun a m => ⟨(hA a m).1, by rw [upd_ne (fun z => LA (by rw [← z]; exact m))]; exact (hA a m).2⟩
  refine ⟨fun i m H' => i + m = items.length ∧ P H' ∧ ∃ e' F' acc, Ev K F0 H0 σ H' e' F' ∧ AccD K F0 H0 H' L acc F' ∧ (∀ a ∈ A, a ∉ F' ∧ H' a ≠ none) ∧ (∀ j d, e'[j]? = some (some d) → j ∉ vs) ∧ acc.length ≤ i ∧ mDComp g tt mk mv vs (items.drop i) e' acc = mDComp g tt mk mv vs items e1 [],
    ⟨items.length, by omega, src.st [] _ _ (fun _ _ m => by cases m) k0 hp, e1, F1, [], x1, a0, hA1, hw0, Nat.le_refl _, by rw [List.drop_zero]⟩, fun i m H' hV => ?_⟩
  obtain ⟨him, hp', e', F', acc, ev, ac, hA', hw, hlen, hl⟩ := hV
  by_cases hi : i < items.length
  · refine .inr ⟨src.go i H' hp' hi, fun H2 => P H2 ∧ ∃ e2 F2 acc, Ev K F0 H0 σ H2 e2 F2 ∧ AccD K F0 H0 H2 L acc F2 ∧ (∀ a ∈ A, a ∉ F2 ∧ H2 a ≠ none) ∧ (∀ j d, e2[j]? = some (some d) → j ∉ vs) ∧ acc.length ≤ i + 1 ∧ mDComp g tt mk mv vs (items.drop (i + 1)) e2 acc = mDComp g tt mk mv vs items e1 [],
      fun H2 hN => ?_, fun y H2 hy => ?_⟩
    · obtain ⟨q1, e2, F2, acc2, q2, q3, q4, q5, q6, q7⟩ := hN
      exact ⟨m - 1, by omega, by omega, q1, e2, F2, acc2, q2, q3, q4, q5, q6, q7⟩
    · obtain ⟨ky, py⟩ := src.yld i H' y H2 hp' hi hy
      rw [List.drop_eq_getElem_cons hi, mDComp] at hl
      cases qg : g items[i] e' with
      | none => rw [qg] at hl; rw [← hl] at h; exact h.elim
      | some e2 =>
        rw [qg] at hl
        simp only at hl
        have evy : Ev K F0 H0 σ H2 e' F' := ev.grow ky
        have acy : AccD K F0 H0 H2 L acc F' := ac.keep ⟨ky.mono (fun _ m => by cases m), ev.r.same ky, ev.nd, fun a m => .inl m⟩
        have py' : P H2 := src.st [] _ _ (fun _ _ m => by cases m) ky hp'
        have there : ∀ {S : List Addr} {Ha Hb : Hp}, (∀ a ∈ A, a ∉ S) → Keeps S Ha Hb → (∀ a ∈ A, Ha a ≠ none) → ∀ a ∈ A, Hb a ≠ none := fun {S Ha Hb} hs k ht a m z => by
          cases q : Ha a with
          | none => exact ht a m q
          | some o => rw [k a o q (.inr (hs a m))] at z; cases z
        refine ⟨items[i], e', F', e2, py, wipe_agree evy.r hw, evy.nd, qg, fun σ2 H3 F3 ev3 fz3 => ⟨?_, ?_⟩⟩
        · have w1 : L2.wipe (L2.wipe σ vs) vs = L2.wipe σ vs := wipe_same (L2.wipe_length _ _) fun i m => wipe_out m
          rw [wipe_same fz3.1 fun i m => fz3.2 i (by simp [zw, m]), w1]
        · have P3 : P H3 := src.st F' H2 H3 (fun a m => (hA' a m).1) ev3.k py'
          have ac3 := acy.keep ev3
          have at2 : ∀ a ∈ A, H2 a ≠ none := there (S := []) (fun _ _ m => by cases m) ky fun a m => (hA' a m).2
          have at3 : ∀ a ∈ A, a ∉ F3 ∧ H3 a ≠ none := fun a m => ⟨fun z => (ev3.new a z).elim (hA' a m).1 (at2 a m), there (fun a m => (hA' a m).1) ev3.k at2 a m⟩
          -- the outer slots again
          have outer : ∀ {σ4 : L2.St} {H4 : Hp} {e4 : E} {F4 : List Addr}, Ev K F' H2 σ4 H4 e4 F4 → Fz (zw vs) (L2.wipe σ vs) σ4 → ∃ F5, Ev K F0 H0 σ H4 (wipeE e4 vs) F5 ∧ ∀ a ∈ F5, a ∈ F4 := by
            intro σ4 H4 e4 F4 ev4 fz4
            obtain ⟨F5, r5, n5, s5⟩ := ev4.r.wipe ev4.nd vs
            refine ⟨F5, ⟨evy.k.trans ev4.k evy.new, r5.agree (by rw [fz4.1, L2.wipe_length]) fun j d q => ?_, n5, fun a m => ?_⟩, s5⟩
            · obtain ⟨m1, _⟩ := wipeE_in q
              rw [fz4.2 j (by simp [zw, m1]), wipe_out m1]
            · rcases ev4.new a (s5 a m) with z | z
              · exact evy.new a z
              · by_cases zz : a ∈ F0
                · exact .inl zz
                · exact .inr (evy.k.none z zz)
          refine ⟨e2, F3, ev3.r, ev3.nd, ?_⟩
          cases qt : tt e2 with
          | bad => rw [qt] at hl; rw [← hl] at h; exact h.elim
          | exc z e3 => rw [qt] at hl; rw [← hl] at h; exact h.elim
          | ok b e3 =>
            rw [qt] at hl
            simp only at hl
            intro H4 F4 ev4
            have evB := ev3.trans ev4
            have ac4 := ac3.keep ev4
            have P4 : P H4 := src.st F3 H3 H4 (fun a m => (at3 a m).1) ev4.k P3
            have at4 : ∀ a ∈ A, a ∉ F4 ∧ H4 a ≠ none := fun a m => ⟨fun z => (ev4.new a z).elim (at3 a m).1 (at3 a m).2, there (fun a m => (at3 a m).1) ev4.k (fun a m => (at3 a m).2) a m⟩
            cases b with
            | false =>
              simp only [Bool.false_eq_true, if_false] at hl ⊢
              obtain ⟨F5, ev5, s5⟩ := outer evB fz3
              exact ⟨P4, _, F5, acc, ev5, ac4.less s5, fun a m => ⟨fun z => (at4 a m).1 (s5 a z), (at4 a m).2⟩, fun j d q => (wipeE_in q).1, by omega, hl⟩
            | true =>
              simp only [if_true] at hl ⊢
              refine ⟨e3, F4, ev4.r, ?_⟩
              cases qk : mk e3 with
              | bad => rw [qk] at hl; rw [← hl] at h; exact h.elim
              | exc z => rw [qk] at hl; rw [← hl] at h; exact h.elim
              | ok dk =>
                rw [qk] at hl
                simp only at hl
                intro vk H5 G5 k5 p5
                refine ⟨e3, F4, ev4.r.same k5, ?_⟩
                cases qv : mv e3 with
                | bad => rw [qv] at hl; rw [← hl] at h; exact h.elim
                | exc z => rw [qv] at hl; rw [← hl] at h; exact h.elim
                | ok dy =>
                  rw [qv] at hl
                  simp only at hl
                  intro vy H6 G6 k6 p6
                  by_cases hc : isKey dk = true ∧ imm dy = true
                  · rw [if_pos hc] at hl
                    obtain ⟨key, ek, ed⟩ := key_of p5 hc.1
                    subst ek ed
                    have e0 := p6.fpImm hc.2
                    subst e0
                    have k46 : Keeps [] H4 H6 := k5.trans k6 fun _ m => by cases m
                    have evC : Ev K F' H2 σ2 H6 e3 F4 := evB.grow k46
                    obtain ⟨⟨kvs, g1, g2, g3⟩, n4, nL2⟩ := ac4.grow k46
                    refine ⟨kvs, key, rfl, g1, by rw [dlen_ok g2]; have := fits_le hfit; omega, ?_⟩
                    have kL : Keeps [L] H6 (upd H6 L (.dK (putK kvs key vy))) := .upd g1 rfl List.mem_cons_self
                    obtain ⟨F7, ev7, s7⟩ := outer evC fz3
                    have L7 : L ∉ F7 := fun m => n4 (s7 L m)
                    have P6 : P H6 := src.st [] H4 H6 (fun _ _ m => by cases m) k46 P4
                    have at6 : ∀ a ∈ A, a ∉ F4 ∧ H6 a ≠ none := fun a m => ⟨(at4 a m).1, there (S := []) (fun _ _ m => by cases m) k46 (fun a m => (at4 a m).2) a m⟩
                    have kF : Keeps F0 H0 (upd H6 L (.dK (putK kvs key vy))) := fun a o q z => by
                      by_cases y : a = L
                      · subst y
                        rcases nL2 with n | n
                        · rcases z with z | z
                          · have := ev7.k a o q (.inl z)
                            rw [g1] at this; cases this; cases z
                          · exact absurd n z
                        · rw [n] at q; cases q
                      · rw [upd_ne y]; exact ev7.k a o q z
                    have ev8 : Ev K F0 H0 σ (upd H6 L (.dK (putK kvs key vy))) (wipeE e3 vs) F7 := ⟨kF, ev7.r.keep kL fun a m z => L7 (by rw [← List.mem_singleton.mp z]; exact m), ev7.nd, ev7.new⟩
                    obtain ⟨m1, m2⟩ := dput_ok key p6 g2 g3
                    exact ⟨src.st [L] _ _ (fun a m z => LA (by rw [← List.mem_singleton.mp z]; exact m)) kL P6, _, F7, _, ev8, ⟨⟨_, upd_same, m1, m2.keep kL fun _ m => by cases m⟩, L7, nL2⟩,
                      fun a m => ⟨fun z => (at6 a m).1 (s7 a z), by rw [upd_ne (fun z => LA (by rw [← z]; exact m))]; exact (at6 a m).2⟩, fun j d q => (wipeE_in q).1, by have := dput_len acc (kD key) dy; omega, hl⟩
                  · rw [if_neg hc] at hl; rw [← hl] at h; exact h.elim
  · have ei : i = items.length := by omega
    subst ei
    rw [List.drop_length, mDComp] at hl
    rw [← hl] at h
    obtain ⟨⟨kvs, h1, h2, h3⟩, nL, nL2⟩ := ac
    refine .inl ⟨src.stop H' hp', h (.ref L) H' _ (ev.cons (.dct h1 h2 h3) (fun a m => ?_) (by simp) fun a m => ?_)⟩
    · rw [List.mem_singleton.mp m]; exact nL
    · rw [List.mem_singleton.mp m]; exact nL2
section
variable {K : PySem.W.Frag} {W : WX} {σ : L2.St} {H : Hp} {Q : VK} {w : MW} {g : MG} {tt : MT} {mk mv : MB} {vs : List Nat}
theorem dc_of (h : tE K W (eDComp w g tt mk mv vs) σ H Q) : tDc (tW K W w) (tG K (zw vs) g) (tT K wF tt) (tB K wF mk) (tB K wF mv) vs σ H Q := by
  obtain ⟨e, F, r, nd, h⟩ := h
  refine ⟨e, F, r, nd, ?_⟩
  unfold eDComp at h
  cases q : w e with
  | bad => rw [q] at h; exact h
  | exc y e1 => rw [q] at h; exact h
  | ok items e1 =>
    rw [q] at h
    simp only at h
    by_cases hf : fits items.length = true
    · rw [if_pos hf] at h
      intro J H1 F1 A P src hp x hA L hL
      obtain ⟨F2, r2, n2, s2⟩ := x.r.wipe x.nd vs
      have x2 : Ev K F H σ H1 (wipeE e1 vs) F2 := ⟨x.k, r2, n2, fun a m => x.new a (s2 a m)⟩
      refine dcomp_ok src x2 (fun a m => ⟨fun z => (hA a m).1 (s2 a z), (hA a m).2⟩) hp hf (fun i d q => (wipeE_in q).1) ?_ L hL
      cases qc : mDComp g tt mk mv vs items (wipeE e1 vs) [] with
      | ok acc e2 => rw [qc] at h; exact h
      | exc y e2 => rw [qc] at h; exact h
      | bad => rw [qc] at h; exact h
    · rw [if_neg hf] at h; exact h.elim
end
section
variable {X : Cx} {W : WX} {w : MW} {g : MG} {tt : MT} {mk mv : MB}
theorem e_dcomp {kx vx tg iter : Expr} {ifs : List Expr} {scope : Scope} {own : List (Str × Nat)} {pos : Pos} (hi : PI X tg iter (tW X.K W w)) (hc : X.calm = true) (hN : X.N.Nodup) (ok : BlkOk X.N X.env.scope scope own)
    (hg : ∀ (s : Shared) (H : Hp) (C : Addr) (cl : List (Str × Addr)) (fp : List Addr), PG (X.blk s H scope (compEnvC scope cl C X.env) fp) tg (tG X.K (zw (own.map (·.2))) g)) (ht : ∀ (s : Shared) (H : Hp) (C : Addr) (cl : List (Str × Addr)) (fp : List Addr), PTs (X.blk s H scope (compEnvC scope cl C X.env) fp) ifs (tT X.K wF tt))
    (hk : ∀ (s : Shared) (H : Hp) (C : Addr) (cl : List (Str × Addr)) (fp : List Addr), PE (X.blk s H scope (compEnvC scope cl C X.env) fp) kx (tB X.K wF mk))
    (he : ∀ (s : Shared) (H : Hp) (C : Addr) (cl : List (Str × Addr)) (fp : List Addr), PE (X.blk s H scope (compEnvC scope cl C X.env) fp) vx (tB X.K wF mv)) (hs : ∀ x, foldedSetIterable iter X.env x = pure x := by intro _; rfl) :
    PE X (.DictComp kx vx [⟨tg, iter, ifs, 0⟩] scope pos) (tE X.K W (eDComp w g tt mk mv (own.map (·.2)))) := PE.mono (pe_dc hc hN hi ok hg ht hk he hs) fun _ _ _ h => dc_of h
theorem ps_setDc {i : Nat} {y : Str} {py : Pos} {kx vx tg iter : Expr} {ifs : List Expr} {scope : Scope} {own : List (Str × Nat)} {pos spos : Pos} {wi : TI} {g : TG} {tt : TT} {tk tv : TE} (hc : X.calm = true) (hN : X.N.Nodup) (hy : X.N[i]? = some y) (hyl : X.env.scope.names.lookup y = some .local)
    (hsw : swapsWith (.DictComp kx vx [⟨tg, iter, ifs, 0⟩] scope pos) (some (.Name y py)) spos.line X.env = pure true) (hi : PI X tg iter wi) (ok : BlkOk X.N X.env.scope scope own)
    (hg : ∀ (s : Shared) (H : Hp) (C : Addr) (cl : List (Str × Addr)) (fp : List Addr), PG (X.blk s H scope (compEnvC scope cl C X.env) fp) tg g) (ht : ∀ (s : Shared) (H : Hp) (C : Addr) (cl : List (Str × Addr)) (fp : List Addr), PTs (X.blk s H scope (compEnvC scope cl C X.env) fp) ifs tt)
    (hk : ∀ (s : Shared) (H : Hp) (C : Addr) (cl : List (Str × Addr)) (fp : List Addr), PE (X.blk s H scope (compEnvC scope cl C X.env) fp) kx tk)
    (he : ∀ (s : Shared) (H : Hp) (C : Addr) (cl : List (Str × Addr)) (fp : List Addr), PE (X.blk s H scope (compEnvC scope cl C X.env) fp) vx tv) (hs : ∀ x, foldedSetIterable iter X.env x = pure x := by intro _; rfl) :
    PS X (.Assign [.Name y py] (.DictComp kx vx [⟨tg, iter, ifs, 0⟩] scope pos) spos) (tAsg (tDc wi g tt tk tv (own.map (·.2))) (gName i)) := by
  refine ⟨fun pins s σ H D I h => ?_⟩
  rw [exec_Assign_Name_used _ _ _ _ hsw]
  refine wpAny_bind (wpAny_standAt (wpAny_bind ?_))
  show wpAny _ X.A (do let _ ← comprehension (.DictComp kx vx [⟨tg, iter, ifs, 0⟩] scope pos) scope X.env (firstIterPos [⟨tg, iter, ifs, 0⟩] pos) newDict false (eval iter X.env) (some (assign (.Name y py) X.env))) _ _ s
  have h : tDc wi g tt tk tv (own.map (·.2)) σ H (fun x H1 => gName i x σ H1 D.nx) := h
  refine wpAny_bind (thn (dc_core (Qf := fun _ s' => SP X pins D .next s') hc hN I hi ok hg ht hk he hs h fun L C s' m H' I' q hn f => ?_) fun _ s' hq => wpAny_pure (wpAny_pure hq))
  show wpAny _ _ (assign (.Name y py) X.env (.ref L)) _ _ _
  refine wpAny_assign_Name (store_ok2 (v := V.ref L) I' hN hy (.inl hyl) rfl (fun s2 I2 ⟨a, sb, ha⟩ => ?_) (.inr hyl))
  obtain ⟨f0, f1, f2, f3, f4, f5⟩ := f
  have haC : C ≠ a := by
    rcases ha with z | z
    · rw [z]; exact f1
    · exact fun e => f4 y a z e.symm
  refine ⟨m, hn.sameBut sb haC, fun h3 sb3 => ?_⟩
  exact ⟨_, H', I2.turned (t' := s2.toks) (fun b o hb e => (sb3.2 b hb).trans e) f0 f1 f3 f4 f5, q⟩
theorem sw_trueD {kx vx : Expr} {gs : List Comprehension} {scope : Scope} {pos py : Pos} {y : Str} {l : Nat} {env : Env} (hk : env.scope.kind = .function) (hy : env.scope.names.lookup y = some .local) (hl : (py.line == pos.line) = true)
    (ha : (scope.names.any fun (n, k) => n == y && (k == .local || k == .cell)) = false) : swapsWith (.DictComp kx vx gs scope pos) (some (.Name y py)) l env = pure true := by
  have ky : env.kindOf y = some .local := hy
  have hb : env.blockKind = .function := by unfold Env.blockKind; rw [hk]; rfl
  unfold swapsWith
  simp only [hb, ky, ha, Expr.pos, hl]
  rfl
theorem m_setDc {Z : Zs} {i : Nat} {y : Str} {py : Pos} {kx vx tg iter : Expr} {ifs : List Expr} {scope : Scope} {own : List (Str × Nat)} {pos spos : Pos} (hi : PI X tg iter (tW X.K W w)) (hc : X.calm = true) (hN : X.N.Nodup)
    (hsw : swapsWith (.DictComp kx vx [⟨tg, iter, ifs, 0⟩] scope pos) (some (.Name y py)) spos.line X.env = pure true) (ok : BlkOk X.N X.env.scope scope own)
    (hg : ∀ (s : Shared) (H : Hp) (C : Addr) (cl : List (Str × Addr)) (fp : List Addr), PG (X.blk s H scope (compEnvC scope cl C X.env) fp) tg (tG X.K (zw (own.map (·.2))) g)) (ht : ∀ (s : Shared) (H : Hp) (C : Addr) (cl : List (Str × Addr)) (fp : List Addr), PTs (X.blk s H scope (compEnvC scope cl C X.env) fp) ifs (tT X.K wF tt))
    (hk : ∀ (s : Shared) (H : Hp) (C : Addr) (cl : List (Str × Addr)) (fp : List Addr), PE (X.blk s H scope (compEnvC scope cl C X.env) fp) kx (tB X.K wF mk))
    (he : ∀ (s : Shared) (H : Hp) (C : Addr) (cl : List (Str × Addr)) (fp : List Addr), PE (X.blk s H scope (compEnvC scope cl C X.env) fp) vx (tB X.K wF mv)) (hz : Z i = false := by rfl) (hy : X.N[i]? = some y := by rfl) (hyl : X.env.scope.names.lookup y = some .local := by rfl) (hs : ∀ x, foldedSetIterable iter X.env x = pure x := by intro _; rfl) :
    PS X (.Assign [.Name y py] (.DictComp kx vx [⟨tg, iter, ifs, 0⟩] scope pos) spos) (tM X.K W Z (mSet i (eDComp w g tt mk mv (own.map (·.2))))) := PS.mono (ps_setDc hc hN hy hyl hsw hi ok hg ht hk he hs) fun D σ H h => by
  obtain ⟨e, F, r, nd, h⟩ := h
  refine dc_of (Q := fun x H1 => gName i x σ H1 D.nx) (W := W) ⟨e, F, r, nd, ?_⟩
  unfold mSet at h
  cases q : eDComp w g tt mk mv (own.map (·.2)) e with
  | bad => rw [q] at h; exact h
  | exc y e1 => rw [q] at h; exact fun c dx H' F' x p => h c dx σ H' F' x (.refl _ _) p
  | ok d e1 =>
    rw [q] at h
    intro v H' F' x
    obtain ⟨F3, y⟩ := x.put i
    exact h _ H' F3 y (.set hz)
end
end Mir

namespace Mir
open PySem PySem.Spec L2

/-! ### comprehensions, targets -/
theorem mComp_map {g : MG} {tt : MT} {te : ME} {vs : List Nat} {E0 : E} {f : D → D} : ∀ (ds : List D) (acc : List D), (∀ d ∈ ds, w0 (g d E0) fun e2 => w2 (tt e2) fun b e3 => b = true ∧ w2 (te e3) fun y e4 => y = f d ∧ wipeE e4 vs = E0) → mComp g tt te vs ds E0 acc = .ok (acc ++ ds.map f) E0
  | [], acc, _ => by rw [mComp]; simp
  | d :: ds, acc, h => by
    have h1 := h d List.mem_cons_self
    rw [mComp]
    generalize g d E0 = r at h1 ⊢
    cases h1 with
    | @mk e2 _ h1 =>
      simp only
      generalize tt e2 = r at h1 ⊢
      cases h1 with
      | @mk b e3 _ h1 =>
        obtain ⟨rfl, h1⟩ := h1
        simp only [if_true]
        generalize te e3 = r at h1 ⊢
        cases h1 with
        | @mk y e4 _ h1 =>
          obtain ⟨rfl, h1⟩ := h1
          simp only
          rw [h1, mComp_map ds _ fun d hd => h d (List.mem_cons_of_mem _ hd)]
          simp
theorem w2_comp {w : MW} {g : MG} {tt : MT} {te : ME} {vs : List Nat} {e : E} {Q2 : D → E → Prop} (f : D → D) (h : w2 (w e) fun items e1 => fits items.length = true ∧ (∀ d ∈ items, w0 (g d (wipeE e1 vs)) fun e2 => w2 (tt e2) fun b e3 => b = true ∧ w2 (te e3) fun y e4 => y = f d ∧ wipeE e4 vs = wipeE e1 vs) ∧ Q2 (.lst (items.map f)) (wipeE e1 vs)) : w2 (eComp w g tt te vs e) Q2 := by
  unfold eComp
  generalize w e = r at h ⊢
  cases h with
  | @mk items e1 _ h =>
    obtain ⟨h1, h2, h3⟩ := h
    simp only [h1, if_true]
    rw [mComp_map items [] h2]
    simp only [List.nil_append]
    exact .mk h3
theorem w0_gT2 {i j : Nat} {a b : D} {e : E} {Q : E → Prop} (h : imms [a, b] = true) (q : Q ((e.set i (some a)).set j (some b))) : w0 (gT [i, j] (.tup [a, b]) e) Q :=
  w0_of (show (if imms [a, b] = true then gNs [i, j] [a, b] e else none) = _ by rw [if_pos h]; rfl) q
theorem w0_gT3 {i j k : Nat} {a b c : D} {e : E} {Q : E → Prop} (h : imms [a, b, c] = true) (q : Q (((e.set i (some a)).set j (some b)).set k (some c))) : w0 (gT [i, j, k] (.tup [a, b, c]) e) Q :=
  w0_of (show (if imms [a, b, c] = true then gNs [i, j, k] [a, b, c] e else none) = _ by rw [if_pos h]; rfl) q
theorem w0_gT4 {i j k l : Nat} {a b c d : D} {e : E} {Q : E → Prop} (h : imms [a, b, c, d] = true) (q : Q ((((e.set i (some a)).set j (some b)).set k (some c)).set l (some d))) : w0 (gT [i, j, k, l] (.tup [a, b, c, d]) e) Q :=
  w0_of (show (if imms [a, b, c, d] = true then gNs [i, j, k, l] [a, b, c, d] e else none) = _ by rw [if_pos h]; rfl) q
theorem w0_gT5 {i j k l m : Nat} {a b c d f : D} {e : E} {Q : E → Prop} (h : imms [a, b, c, d, f] = true) (q : Q (((((e.set i (some a)).set j (some b)).set k (some c)).set l (some d)).set m (some f))) : w0 (gT [i, j, k, l, m] (.tup [a, b, c, d, f]) e) Q :=
  w0_of (show (if imms [a, b, c, d, f] = true then gNs [i, j, k, l, m] [a, b, c, d, f] e else none) = _ by rw [if_pos h]; rfl) q
/-! ### dicts -/
section
variable {e : E} {Q : D → Prop} {Q2 : D → E → Prop} {na : ME} {ma mk mv mz : MB}
theorem w2_frzD (h : w2 (na e) fun d e1 => ∃ ds, d = .dct ds ∧ Q2 (.rdc ds) e1) : w2 (frzD na e) Q2 := by
  unfold frzD
  generalize na e = r at h ⊢
  cases h with
  | mk h => obtain ⟨ds, rfl, h⟩ := h; exact .mk h
theorem w1_newD (q : Q (.dct [])) : w1 (mNewD e) Q := .mk q
theorem w1_disp1 (h : w1 (mk e) fun k => w1 (mv e) fun v => isKey k = true ∧ imm v = true ∧ Q (.dct [(k, v)])) : w1 (mDispB [(mk, mv)] e) Q := by
  unfold mDispB pairsB
  generalize mk e = r at h ⊢
  cases h with
  | mk h =>
    simp only [Rs.bind]
    generalize mv e = r at h ⊢
    cases h with
    | mk h =>
      obtain ⟨h1, h2, h3⟩ := h
      simp only [Rs.bind, pairsB]
      rw [if_pos ⟨by simp, by simp [h1, h2]⟩]
      exact .mk h3
theorem w1_getB (h : w1 (ma e) fun a => getB.isDct a = true ∧ w1 (mk e) fun k => w1 (mz e) fun z => w0 (fDGetOr a k z) Q) : w1 (getB ma mk mz e) Q := by
  unfold getB
  refine w1_bind (w1_mono h fun a h => ?_)
  rw [if_pos h.1]
  exact w1_bind (w1_mono h.2 fun k h => w1_bind (w1_mono h fun z h => w1_of h))
theorem wS_dset {i : Nat} {N B C : E → Prop} {R : D → E → Prop} (h : w2 (na e) fun y e1 => imm y = true ∧ ∃ ds, e1[i]? = some (some (.dct ds)) ∧ w1 (mk e1) fun k => isKey k = true ∧ ds.length < sizeLine ∧ N (e1.set i (some (.dct (dputD ds k y))))) : wS (mDSet i mk na e) N R B C := by
  unfold mDSet
  generalize na e = r at h ⊢
  cases h with
  | @mk y e1 _ h =>
    obtain ⟨h1, ds, h2, h3⟩ := h
    simp only [h1, if_true, h2]
    generalize mk e1 = r at h3 ⊢
    cases h3 with
    | mk h3 =>
      obtain ⟨h4, h5, h6⟩ := h3
      simp only
      rw [if_pos ⟨h4, h5⟩]
      exact .nx h6
theorem mDComp_fold {g : MG} {tt : MT} {vs : List Nat} {E0 : E} {fk fv : D → D} : ∀ (ds : List D) (acc : List (D × D)), (∀ d ∈ ds, w0 (g d E0) fun e2 => w2 (tt e2) fun b e3 => b = true ∧ wipeE e3 vs = E0 ∧ w1 (mk e3) fun k => k = fk d ∧ isKey k = true ∧ w1 (mv e3) fun v => v = fv d ∧ imm v = true) →
    mDComp g tt mk mv vs ds E0 acc = .ok (ds.foldl (fun acc d => dputD acc (fk d) (fv d)) acc) E0
  | [], acc, _ => rfl
  | d :: ds, acc, h => by
    have h1 := h d List.mem_cons_self
    rw [mDComp]
    generalize g d E0 = r at h1 ⊢
    cases h1 with
    | @mk e2 _ h1 =>
      simp only
      generalize tt e2 = r at h1 ⊢
      cases h1 with
      | @mk b e3 _ h1 =>
        obtain ⟨rfl, h0, h1⟩ := h1
        simp only [if_true]
        generalize mk e3 = r at h1 ⊢
        cases h1 with
        | mk h1 =>
          obtain ⟨rfl, hk, h1⟩ := h1
          simp only
          generalize mv e3 = r at h1 ⊢
          cases h1 with
          | mk h1 =>
            obtain ⟨rfl, hv⟩ := h1
            simp only
            rw [if_pos ⟨hk, hv⟩, h0, mDComp_fold ds _ fun d hd => h d (List.mem_cons_of_mem _ hd)]
            rfl
theorem w2_dcomp {w : MW} {g : MG} {tt : MT} {vs : List Nat} (fk fv : D → D) (h : w2 (w e) fun items e1 => fits items.length = true ∧ (∀ d ∈ items, w0 (g d (wipeE e1 vs)) fun e2 => w2 (tt e2) fun b e3 => b = true ∧ wipeE e3 vs = wipeE e1 vs ∧ w1 (mk e3) fun k => k = fk d ∧ isKey k = true ∧ w1 (mv e3) fun v => v = fv d ∧ imm v = true) ∧
    Q2 (.dct (items.foldl (fun acc d => dputD acc (fk d) (fv d)) [])) (wipeE e1 vs)) : w2 (eDComp w g tt mk mv vs e) Q2 := by
  unfold eDComp
  generalize w e = r at h ⊢
  cases h with
  | @mk items e1 _ h =>
    obtain ⟨h1, h2, h3⟩ := h
    simp only [h1, if_true]
    rw [mDComp_fold items [] h2]
    exact .mk h3
end
/-! dicts whose keys are texts -/
abbrev SL := List (List Nat × D)
def strD (S : SL) : List (D × D) := S.map fun p => (.str p.1, p.2)
def lk (S : SL) (u : List Nat) : Option D := (S.find? fun p => decide (p.1 = u)).map (·.2)
def putL (S : SL) (u : List Nat) (y : D) : SL := if (S.any fun p => decide (p.1 = u)) = true then S.map (fun p => if p.1 = u then (p.1, y) else p) else S ++ [(u, y)]
theorem dget_str (S : SL) (u : List Nat) : dgetD (strD S) (.str u) = lk S u := by
  unfold dgetD strD lk
  induction S with
  | nil => rfl
  | cons p S ih =>
    rw [List.map_cons, List.find?_cons, List.find?_cons]
    have : keyEq (.str p.1) (.str u) = decide (p.1 = u) := rfl
    rw [this]
    cases decide (p.1 = u) with
    | true => rfl
    | false => exact ih
theorem dput_str (S : SL) (u : List Nat) (y : D) : dputD (strD S) (.str u) y = strD (putL S u y) := by
  unfold dputD putL
  have e1 : ((strD S).any fun p => keyEq p.1 (.str u)) = S.any fun p => decide (p.1 = u) := by
    unfold strD; rw [List.any_map]; rfl
  rw [e1]
  split
  · unfold strD
    rw [List.map_map, List.map_map]
    refine List.map_congr_left fun p _ => ?_
    show (if keyEq (.str p.1) (.str u) = true then (D.str p.1, y) else (.str p.1, p.2)) = (fun (p : List Nat × D) => (D.str p.1, p.2)) (if p.1 = u then (p.1, y) else p)
    have : keyEq (.str p.1) (.str u) = decide (p.1 = u) := rfl
    rw [this]
    by_cases h : p.1 = u
    · rw [if_pos (decide_eq_true h), if_pos h]
    · rw [if_neg (by simpa using h), if_neg h]
  · unfold strD; simp
theorem strD_len (S : SL) : (strD S).length = S.length := List.length_map _
theorem w0_dIn {S : SL} {u : List Nat} {Q : D → Prop} (q : Q (.bl (lk S u).isSome)) : w0 (fDIn (.str u) (.dct (strD S))) Q := w0_of (show some (D.bl (dgetD (strD S) (.str u)).isSome) = _ by rw [dget_str]) q
theorem w0_rIn {S : SL} {u : List Nat} {Q : D → Prop} (q : Q (.bl (lk S u).isSome)) : w0 (fDIn (.str u) (.rdc (strD S))) Q := w0_of (show some (D.bl (dgetD (strD S) (.str u)).isSome) = _ by rw [dget_str]) q
theorem w0_dNotIn {S : SL} {u : List Nat} {Q : D → Prop} (q : Q (.bl (!(lk S u).isSome))) : w0 (fDNotIn (.str u) (.dct (strD S))) Q := w0_of (show some (D.bl (!(dgetD (strD S) (.str u)).isSome)) = _ by rw [dget_str]) q
theorem w0_rNotIn {S : SL} {u : List Nat} {Q : D → Prop} (q : Q (.bl (!(lk S u).isSome))) : w0 (fDNotIn (.str u) (.rdc (strD S))) Q := w0_of (show some (D.bl (!(dgetD (strD S) (.str u)).isSome)) = _ by rw [dget_str]) q
theorem w0_dGet {S : SL} {u : List Nat} {d : D} {Q : D → Prop} (h : lk S u = some d) (q : Q d) : w0 (fDGet (.dct (strD S)) (.str u)) Q := w0_of (show dgetD (strD S) (.str u) = _ by rw [dget_str, h]) q
theorem w0_rGet {S : SL} {u : List Nat} {d : D} {Q : D → Prop} (h : lk S u = some d) (q : Q d) : w0 (fDGet (.rdc (strD S)) (.str u)) Q := w0_of (show dgetD (strD S) (.str u) = _ by rw [dget_str, h]) q
theorem w0_dGetOr {S : SL} {u : List Nat} {z : D} {Q : D → Prop} (q : Q ((lk S u).getD z)) : w0 (fDGetOr (.dct (strD S)) (.str u) z) Q := w0_of (show some ((dgetD (strD S) (.str u)).getD z) = _ by rw [dget_str]) q
theorem w0_rGetOr {S : SL} {u : List Nat} {z : D} {Q : D → Prop} (q : Q ((lk S u).getD z)) : w0 (fDGetOr (.rdc (strD S)) (.str u) z) Q := w0_of (show some ((dgetD (strD S) (.str u)).getD z) = _ by rw [dget_str]) q
/-! by a function over the keys -/
def fnS (names : List (List Nat)) (f : List Nat → D) : SL := names.map fun n => (n, f n)
theorem lk_fn {names : List (List Nat)} {f : List Nat → D} {u : List Nat} (h : u ∈ names) : lk (fnS names f) u = some (f u) := by
  unfold lk fnS
  induction names with
  | nil => cases h
  | cons n names ih =>
    rw [List.map_cons, List.find?_cons]
    by_cases e : n = u
    · subst e; simp
    · have : u ∈ names := (List.mem_cons.mp h).resolve_left fun z => e z.symm
      simp only [decide_eq_false e]
      exact ih this
theorem fn_any {names : List (List Nat)} {f : List Nat → D} {u : List Nat} : ((fnS names f).any fun p => decide (p.1 = u)) = decide (u ∈ names) := by
  unfold fnS
  rw [List.any_map, Bool.eq_iff_iff, List.any_eq_true, decide_eq_true_iff]
  constructor
  · rintro ⟨x, hx, h⟩
    have h := of_decide_eq_true h
    simp only at h
    rw [← h]; exact hx
  · intro h; exact ⟨u, h, decide_eq_true rfl⟩
theorem put_fn {names : List (List Nat)} {f : List Nat → D} {u : List Nat} {y : D} (h : u ∈ names) : putL (fnS names f) u y = fnS names fun v => if v = u then y else f v := by
  unfold putL
  rw [fn_any, if_pos (decide_eq_true h)]
  unfold fnS
  rw [List.map_map]
  refine List.map_congr_left fun n _ => ?_
  show (if n = u then (n, y) else (n, f n)) = (n, if n = u then y else f n)
  split <;> rfl
theorem put_new {names : List (List Nat)} {f : List Nat → D} {u : List Nat} {y : D} (h : u ∉ names) (hf : f u = y) : putL (fnS names f) u y = fnS (names ++ [u]) f := by
  unfold putL
  rw [fn_any, if_neg (by simpa using h)]
  unfold fnS
  simp [hf]
theorem fnS_len (names : List (List Nat)) (f : List Nat → D) : (fnS names f).length = names.length := List.length_map _
theorem wS_dsetS {e : E} {na : ME} {mk : MB} {i : Nat} {N B C : E → Prop} {R : D → E → Prop} (h : w2 (na e) fun y e1 => imm y = true ∧ ∃ S, e1[i]? = some (some (.dct (strD S))) ∧ S.length ≤ 1000000 ∧ w1 (mk e1) fun k => ∃ u, k = .str u ∧ N (e1.set i (some (.dct (strD (putL S u y)))))) : wS (mDSet i mk na e) N R B C :=
  wS_dset (w2_mono h fun y e1 ⟨h1, S, h2, h3, h4⟩ => ⟨h1, strD S, h2, w1_mono h4 fun k ⟨u, h5, h6⟩ => by
    subst h5
    refine ⟨rfl, by rw [strD_len]; have : sizeLine = 16777216 := rfl; omega, ?_⟩
    rw [dput_str]; exact h6⟩)
end Mir

namespace Mir
open PySem PySem.Spec L2

/-! ### xs[::-1] of a list -/
def fRev : D → Option D
  | .lst ds => if imms ds = true then some (.lst ds.reverse) else none
  | .rol ds => if imms ds = true then some (.lst ds.reverse) else none
  | _ => none
theorem Rps.rev {K : PySem.W.Frag} {H : Hp} {vs : List V} {ds : List D} (r : Rps K H vs ds []) : Rps K H vs.reverse ds.reverse [] := by
  induction ds generalizing vs with
  | nil => cases r; exact .nil
  | cons d ds ih =>
    generalize hF : ([] : List Addr) = F at r
    cases r with | cons p r => ?_
    obtain ⟨e1, e2⟩ := List.append_eq_nil_iff.mp hF.symm
    subst e1 e2
    rw [List.reverse_cons, List.reverse_cons]
    exact (ih r).append (.cons (F := []) (G := []) p .nil)
theorem x_rev {X : Cx} {W : WX} {e : Expr} {m : MB} {k : Nat} {p1 p2 p3 pos : Pos} (pe : PE X e (tB X.K W m)) : PE X (.Subscript e (.Slice none none (some (.UnaryOp .USub (.Constant (.int 1) k p1) p2)) p3) pos) (tN X.K W (un fRev m)) := PE.mono (pe_revL pe) fun σ H Q ⟨e, F, r, h⟩ => by
  refine ⟨e, F, r, ?_⟩
  unfold un at h
  cases qa : m e with
  | bad => rw [qa] at h; exact h
  | exc y => rw [qa] at h; exact h
  | ok d =>
    rw [qa] at h
    simp only [Rs.bind] at h
    intro v H1 G k1 p
    cases qf : fRev d with
    | none => rw [qf] at h; exact h.elim
    | some d' =>
      rw [qf] at h
      simp only [Rs.of] at h
      unfold fRev at qf
      split at qf
      · split at qf
        · rename_i ds hi
          cases qf
          cases p with | lst ha ra => ?_
          have e0 := ra.fpImm hi
          subst e0
          refine ⟨_, _, rfl, .of ha, fun q hq => ?_⟩
          have kq : ∀ o, Keeps [] H1 (upd H1 q o) := fun o => .new hq []
          exact h (.ref q) _ [q] (k1.trans (kq _) fun _ m => by cases m) (.lst upd_same ((ra.rev).same (kq _))) (by simp) fun a ma => by rw [List.mem_singleton.mp ma]; exact k1.none hq fun m => by cases m
        · cases qf
      · split at qf
        · rename_i ds hi
          cases qf
          cases p with | rol ha ra => ?_
          refine ⟨_, _, rfl, ha.sq, fun q hq => ?_⟩
          have kq : ∀ o, Keeps [] H1 (upd H1 q o) := fun o => .new hq []
          exact h (.ref q) _ [q] (k1.trans (kq _) fun _ m => by cases m) (.lst upd_same ((ra.rev).same (kq _))) (by simp) fun a ma => by rw [List.mem_singleton.mp ma]; exact k1.none hq fun m => by cases m
        · cases qf
      · cases qf
theorem w0_rev {ds : List D} {Q : D → Prop} (h : imms ds = true) (q : Q (.lst ds.reverse)) : w0 (fRev (.lst ds)) Q := w0_of (if_pos h) q
end Mir

namespace LK48
open PySem PySem.Spec L2 Mir
def topS (i : Nat) : Stmt := PySem.Challenge.pw_lectern_k48_places_exactly.main.body.getD i (.Pass ⟨0, 0, 0, 0⟩)
abbrev s_own_constraints : Stmt := topS 2
abbrev N_own_constraints : List PySem.Str := ["axis", "shapes", "shape"]
theorem sc_own_constraints : FnScope N_own_constraints ["axis", "shapes"] (defScope s_own_constraints) := ⟨rfl, rfl, rfl, by decide +kernel, rfl, by decide +kernel, by decide +kernel⟩
abbrev s_all_constraints : Stmt := topS 3
abbrev N_all_constraints : List PySem.Str := ["axis", "shapes", "constraints"]
theorem sc_all_constraints : FnScope N_all_constraints ["axis", "shapes", "constraints"] (defScope s_all_constraints) := ⟨rfl, rfl, rfl, by decide +kernel, rfl, by decide +kernel, by decide +kernel⟩
abbrev s_make_pass : Stmt := topS 4
abbrev N_make_pass : List PySem.Str := ["constraints", "places", "causes", "last", "constraint", "later", "least"]
theorem sc_make_pass : FnScope N_make_pass ["constraints", "places", "causes"] (defScope s_make_pass) := ⟨rfl, rfl, rfl, by decide +kernel, rfl, by decide +kernel, by decide +kernel⟩
abbrev s_chain_of : Stmt := topS 5
abbrev N_chain_of : List PySem.Str := ["causes", "shape", "chain", "at"]
theorem sc_chain_of : FnScope N_chain_of ["causes", "shape"] (defScope s_chain_of) := ⟨rfl, rfl, rfl, by decide +kernel, rfl, by decide +kernel, by decide +kernel⟩
abbrev s_cycle_of : Stmt := topS 6
abbrev N_cycle_of : List PySem.Str := ["causes", "start", "steps", "node", "_", "cycle", "at"]
theorem sc_cycle_of : FnScope N_cycle_of ["causes", "start", "steps"] (defScope s_cycle_of) := ⟨rfl, rfl, rfl, by decide +kernel, rfl, by decide +kernel, by decide +kernel⟩
abbrev s_place_axis : Stmt := topS 7
abbrev N_place_axis : List PySem.Str := ["axis", "shapes", "constraints", "places", "causes", "constraint", "every", "last", "passes", "chains", "shape"]
theorem sc_place_axis : FnScope N_place_axis ["axis", "shapes", "constraints"] (defScope s_place_axis) := ⟨rfl, rfl, rfl, by decide +kernel, rfl, by decide +kernel, by decide +kernel⟩
abbrev s_is_whole : Stmt := topS 9
abbrev N_is_whole : List PySem.Str := ["value"]
theorem sc_is_whole : FnScope N_is_whole ["value"] (defScope s_is_whole) := ⟨rfl, rfl, rfl, by decide +kernel, rfl, by decide +kernel, by decide +kernel⟩
abbrev s_is_among : Stmt := topS 10
abbrev N_is_among : List PySem.Str := ["value", "constraints"]
theorem sc_is_among : FnScope N_is_among ["value", "constraints"] (defScope s_is_among) := ⟨rfl, rfl, rfl, by decide +kernel, rfl, by decide +kernel, by decide +kernel⟩
abbrev s_are_among : Stmt := topS 11
abbrev N_are_among : List PySem.Str := ["values", "constraints", "value"]
theorem sc_are_among : FnScope N_are_among ["values", "constraints"] (defScope s_are_among) := ⟨rfl, rfl, rfl, by decide +kernel, rfl, by decide +kernel, by decide +kernel⟩
abbrev s_is_places : Stmt := topS 12
abbrev N_is_places : List PySem.Str := ["axis", "shapes", "constraints", "places", "known", "k", "_", "later", "earlier", "gap"]
theorem sc_is_places : FnScope N_is_places ["axis", "shapes", "constraints", "places"] (defScope s_is_places) := ⟨rfl, rfl, rfl, by decide +kernel, rfl, by decide +kernel, by decide +kernel⟩
abbrev s_is_chain : Stmt := topS 13
abbrev N_is_chain : List PySem.Str := ["axis", "shapes", "constraints", "shape", "place", "chain", "at", "total", "_", "later", "earlier", "gap"]
theorem sc_is_chain : FnScope N_is_chain ["axis", "shapes", "constraints", "shape", "place", "chain"] (defScope s_is_chain) := ⟨rfl, rfl, rfl, by decide +kernel, rfl, by decide +kernel, by decide +kernel⟩
abbrev s_is_cycle : Stmt := topS 14
abbrev N_is_cycle : List PySem.Str := ["axis", "shapes", "constraints", "cycle", "at", "total", "_", "later", "earlier", "gap"]
theorem sc_is_cycle : FnScope N_is_cycle ["axis", "shapes", "constraints", "cycle"] (defScope s_is_cycle) := ⟨rfl, rfl, rfl, by decide +kernel, rfl, by decide +kernel, by decide +kernel⟩
abbrev s__law_jar : Stmt := topS 16
abbrev N__law_jar : List PySem.Str := ["script", "rows", "k", "cell", "step", "mixed"]
theorem sc__law_jar : FnScope N__law_jar ["script"] (defScope s__law_jar) := ⟨rfl, rfl, rfl, by decide +kernel, rfl, by decide +kernel, by decide +kernel⟩
abbrev s__law_take : Stmt := topS 17
abbrev N__law_take : List PySem.Str := ["jar", "many", "at", "rows", "mixed"]
theorem sc__law_take : FnScope N__law_take ["jar", "many"] (defScope s__law_take) := ⟨rfl, rfl, rfl, by decide +kernel, rfl, by decide +kernel, by decide +kernel⟩
abbrev s__law_name : Stmt := topS 18
abbrev N__law_name : List PySem.Str := ["jar", "taken", "letters", "signs", "text", "k"]
theorem sc__law_name : FnScope N__law_name ["jar", "taken"] (defScope s__law_name) := ⟨rfl, rfl, rfl, by decide +kernel, rfl, by decide +kernel, by decide +kernel⟩
abbrev s__law_same : Stmt := topS 19
abbrev N__law_same : List PySem.Str := ["one", "two", "k"]
theorem sc__law_same : FnScope N__law_same ["one", "two"] (defScope s__law_same) := ⟨rfl, rfl, rfl, by decide +kernel, rfl, by decide +kernel, by decide +kernel⟩
abbrev s__law_constraints : Stmt := topS 20
abbrev N__law_constraints : List PySem.Str := ["jar", "axis", "shapes", "many", "found", "small", "k", "later", "earlier", "gap", "names", "constraint"]
theorem sc__law_constraints : FnScope N__law_constraints ["jar", "axis", "shapes", "many"] (defScope s__law_constraints) := ⟨rfl, rfl, rfl, by decide +kernel, rfl, by decide +kernel, by decide +kernel⟩
abbrev s__law_every : Stmt := topS 21
abbrev N__law_every : List PySem.Str := ["axis", "shapes", "constraints", "shape"]
theorem sc__law_every : FnScope N__law_every ["axis", "shapes", "constraints"] (defScope s__law_every) := ⟨rfl, rfl, rfl, by decide +kernel, rfl, by decide +kernel, by decide +kernel⟩
abbrev s__law_chain : Stmt := topS 22
abbrev N__law_chain : List PySem.Str := ["causes", "shape", "chain", "at", "step"]
theorem sc__law_chain : FnScope N__law_chain ["causes", "shape"] (defScope s__law_chain) := ⟨rfl, rfl, rfl, by decide +kernel, rfl, by decide +kernel, by decide +kernel⟩
abbrev s__law_due : Stmt := topS 23
abbrev N__law_due : List PySem.Str := ["axis", "shapes", "constraints", "places", "causes", "shape", "last", "turn", "constraint", "least", "chains", "node", "step", "cycle"]
theorem sc__law_due : FnScope N__law_due ["axis", "shapes", "constraints"] (defScope s__law_due) := ⟨rfl, rfl, rfl, by decide +kernel, rfl, by decide +kernel, by decide +kernel⟩
abbrev s__law_keeps : Stmt := topS 24
abbrev N__law_keeps : List PySem.Str := ["axis", "shapes", "constraints", "places", "known", "k", "constraint"]
theorem sc__law_keeps : FnScope N__law_keeps ["axis", "shapes", "constraints", "places"] (defScope s__law_keeps) := ⟨rfl, rfl, rfl, by decide +kernel, rfl, by decide +kernel, by decide +kernel⟩
abbrev s__law_walk : Stmt := topS 25
abbrev N__law_walk : List PySem.Str := ["axis", "shapes", "constraints", "path", "every", "total", "k"]
theorem sc__law_walk : FnScope N__law_walk ["axis", "shapes", "constraints", "path"] (defScope s__law_walk) := ⟨rfl, rfl, rfl, by decide +kernel, rfl, by decide +kernel, by decide +kernel⟩
abbrev s__law_near : Stmt := topS 26
abbrev N__law_near : List PySem.Str := ["jar", "axis", "shapes", "constraints", "path", "at", "every", "one", "later", "earlier", "gap", "line_id", "other", "changed", "pick"]
theorem sc__law_near : FnScope N__law_near ["jar", "axis", "shapes", "constraints", "path"] (defScope s__law_near) := ⟨rfl, rfl, rfl, by decide +kernel, rfl, by decide +kernel, by decide +kernel⟩
abbrev s__law_wrong : Stmt := topS 27
abbrev N__law_wrong : List PySem.Str := ["jar", "path", "at", "one", "later", "earlier", "gap", "line_id", "other", "wrong"]
theorem sc__law_wrong : FnScope N__law_wrong ["jar", "path"] (defScope s__law_wrong) := ⟨rfl, rfl, rfl, by decide +kernel, rfl, by decide +kernel, by decide +kernel⟩
abbrev s__law_judges_chain : Stmt := topS 28
abbrev N__law_judges_chain : List PySem.Str := ["jar", "axis", "shapes", "constraints", "shape", "place", "chain", "near", "due"]
theorem sc__law_judges_chain : FnScope N__law_judges_chain ["jar", "axis", "shapes", "constraints", "shape", "place", "chain"] (defScope s__law_judges_chain) := ⟨rfl, rfl, rfl, by decide +kernel, rfl, by decide +kernel, by decide +kernel⟩
abbrev s__law_judges_places : Stmt := topS 29
abbrev N__law_judges_places : List PySem.Str := ["jar", "axis", "shapes", "constraints", "places", "step", "at", "moved", "near", "due", "other", "wrong"]
theorem sc__law_judges_places : FnScope N__law_judges_places ["jar", "axis", "shapes", "constraints", "places"] (defScope s__law_judges_places) := ⟨rfl, rfl, rfl, by decide +kernel, rfl, by decide +kernel, by decide +kernel⟩
abbrev s__law_judges_cycle : Stmt := topS 30
abbrev N__law_judges_cycle : List PySem.Str := ["jar", "axis", "shapes", "constraints", "cycle", "found", "step", "near", "due", "zeros", "shape"]
theorem sc__law_judges_cycle : FnScope N__law_judges_cycle ["jar", "axis", "shapes", "constraints", "cycle"] (defScope s__law_judges_cycle) := ⟨rfl, rfl, rfl, by decide +kernel, rfl, by decide +kernel, by decide +kernel⟩
abbrev s__law_judges_short : Stmt := topS 31
abbrev N__law_judges_short : List PySem.Str := ["axis", "shapes", "constraints", "every", "asked", "one", "two"]
theorem sc__law_judges_short : FnScope N__law_judges_short ["axis", "shapes", "constraints"] (defScope s__law_judges_short) := ⟨rfl, rfl, rfl, by decide +kernel, rfl, by decide +kernel, by decide +kernel⟩
abbrev s_law : Stmt := topS 32
abbrev N_law : List PySem.Str := ["script", "jar", "axis", "size", "many", "taken", "shapes", "k", "name", "constraints", "due", "at", "near", "found"]
theorem sc_law : FnScope N_law ["script"] (defScope s_law) := ⟨rfl, rfl, rfl, by decide +kernel, rfl, by decide +kernel, by decide +kernel⟩
def c_ORIGIN : Mir.D := (.str (lit ""))
/-! ### the mirrors -/
def b_own_constraints : MS :=
  (mRet (calE fTuple (acons (eComp (wV (own (bVar 1))) (gN 2) tY (ofN (dTup (aCons (bVar 0) (aCons (bVar 2) (aCons (bC c_ORIGIN) (aCons (bC (.int 0)) (aCons (bC (.str (lit ""))) aNil))))))) (([("shape", 2)] : List (PySem.Str × Nat)).map (·.2))) anil)))
def m_own_constraints : MD := mDef0 1 b_own_constraints
theorem nx_own_constraints : ∀ ds y, m_own_constraints ds ≠ .exc y := fun _ _ => noX_ne
def b_all_constraints : MS :=
  (mRet (ofN (bin fAdd (cN m_own_constraints (aCons (bVar 0) (aCons (bVar 1) aNil))) (cal fTuple (aCons (bVar 2) aNil)))))
def m_all_constraints : MD := mDef0 0 b_all_constraints
theorem nx_all_constraints : ∀ ds y, m_all_constraints ds ≠ .exc y := fun _ _ => noX_ne
def b_make_pass : MS :=
  (mSeq (mSet 3 (ofN (bC .non)))
  (mSeq (mForV 0 (gN 4)
  (mSeq (mSet 5 (own (bin fIx (bVar 4) (bC (.int 1)))))
  (mSeq (mSet 6 (ofN (bin fAdd (bin fDGet (bVar 1) (bin fIx (bVar 4) (bC (.int 2)))) (bin fIx (bVar 4) (bC (.int 3))))))
  (mIf (tst (ofN (bin fLt (bin fDGet (bVar 1) (bVar 5)) (bVar 6))))
  (mSeq (mDSet 1 (bVar 5) (own (bVar 6)))
  (mSeq (mDSet 2 (bVar 5) (own (bVar 4)))
  (mSet 3 (own (bVar 5)))))
  mNil))))
  (mRet (own (bVar 3)))))
def m_make_pass : MI := mDefI0 4 (fun i => i == 0 || i == 1 || i == 2) b_make_pass
theorem nx_make_pass : ∀ ds y os, m_make_pass ds ≠ .exc y os := fun _ _ _ => noI_ne
def b_chain_of : MS :=
  (mSeq (mSet 2 (ofN (dLst aNil)))
  (mSeq (mSet 3 (own (bVar 1)))
  (mSeq (mWh (tst (ofN (bin fNe (bVar 3) (bC c_ORIGIN))))
  (mSeq (mExpr (eMut 2 fAppend (acons (ofN (bin fDGet (bVar 0) (bVar 3))) anil)))
  (mSet 3 (own (bin fIx (bin fDGet (bVar 0) (bVar 3)) (bC (.int 2)))))))
  (mRet (ofN (cal fTuple (aCons (un fRev (bVar 2)) aNil)))))))
def m_chain_of : MI := mDefI0 2 (fun i => i == 0) b_chain_of
theorem nx_chain_of : ∀ ds y os, m_chain_of ds ≠ .exc y os := fun _ _ _ => noI_ne
def b_cycle_of : MS :=
  (mSeq (mSet 3 (own (bVar 1)))
  (mSeq (mFor (wR (acons (own (bVar 2)) anil)) (gN 4)
  (mSet 3 (own (bin fIx (bin fDGet (bVar 0) (bVar 3)) (bC (.int 2))))))
  (mSeq (mSet 5 (ofN (dLst (aCons (bin fDGet (bVar 0) (bVar 3)) aNil))))
  (mSeq (mSet 6 (own (bin fIx (bin fDGet (bVar 0) (bVar 3)) (bC (.int 2)))))
  (mSeq (mWh (tst (ofN (bin fNe (bVar 6) (bVar 3))))
  (mSeq (mExpr (eMut 5 fAppend (acons (ofN (bin fDGet (bVar 0) (bVar 6))) anil)))
  (mSet 6 (own (bin fIx (bin fDGet (bVar 0) (bVar 6)) (bC (.int 2)))))))
  (mRet (ofN (cal fTuple (aCons (un fRev (bVar 5)) aNil)))))))))
def m_cycle_of : MI := mDefI0 4 (fun i => i == 0) b_cycle_of
theorem nx_cycle_of : ∀ ds y os, m_cycle_of ds ≠ .exc y os := fun _ _ _ => noI_ne
def b_place_axis : MS :=
  (mSeq (mSet 3 (ofN (mDispB [((bC c_ORIGIN), (bC (.int 0)))])))
  (mSeq (mSet 4 (ofN mNewD))
  (mSeq (mFor (wV (ofN (cN m_own_constraints (aCons (bVar 0) (aCons (bVar 1) aNil))))) (gN 5)
  (mSeq (mDSet 3 (bin fIx (bVar 5) (bC (.int 1))) (ofN (bC (.int 0))))
  (mDSet 4 (bin fIx (bVar 5) (bC (.int 1))) (own (bVar 5)))))
  (mSeq (mSet 6 (ofN (cN m_all_constraints (aCons (bVar 0) (aCons (bVar 1) (aCons (bVar 2) aNil))))))
  (mSeq (mSet 7 (ofN (bC c_ORIGIN)))
  (mSeq (mSet 8 (ofN (bC (.int 0))))
  (mSeq (mWh (andT (tst (ofN (bin fIsnt (bVar 7) (bC .non)))) (tst (ofN (bin fLt (bVar 8) (bin fAdd (cal fLen (aCons (bVar 1) aNil)) (bC (.int 2)))))))
  (mSeq (mSet 7 (eIO [6, 3, 4] m_make_pass anil))
  (mAug 8 fAug (ofN (bC (.int 1))))))
  (mSeq (mIf (tst (ofN (bin fIsnt (bVar 7) (bC .non))))
  (mRet (dTupE (acons (ofN (bC (.str (lit "cycle")))) (acons (eIO [4] m_cycle_of (acons (own (bVar 7)) (acons (ofN (bin fAdd (cal fLen (aCons (bVar 1) aNil)) (bC (.int 1)))) anil))) anil))))
  mNil)
  (mSeq (mSet 9 (calE fTuple (acons (eComp (wV (own (bVar 1))) (gN 10) tY (eIO [4] m_chain_of (acons (own (bVar 10)) anil)) (([("shape", 10)] : List (PySem.Str × Nat)).map (·.2))) anil)))
  (mRet (dTupE (acons (ofN (bC (.str (lit "places")))) (acons (calE fTuple (acons (eComp (wV (own (bVar 1))) (gN 10) tY (ofN (bin fDGet (bVar 3) (bVar 10))) (([("shape", 10)] : List (PySem.Str × Nat)).map (·.2))) anil)) (acons (own (bVar 9)) anil))))))))))))))
def m_place_axis : MD := mDef0 8 b_place_axis
theorem nx_place_axis : ∀ ds y, m_place_axis ds ≠ .exc y := fun _ _ => noX_ne
def b_is_whole : MS :=
  (mRet (ofN (andB (cal fIsi (aCons (bVar 0) (aCons (bC (.raw (.ty "int"))) aNil))) (notB (cal fIsi (aCons (bVar 0) (aCons (bC (.raw (.ty "bool"))) aNil)))))))
def m_is_whole : MD := mDef0 0 b_is_whole
theorem nx_is_whole : ∀ ds y, m_is_whole ds ≠ .exc y := fun _ _ => noX_ne
def b_is_among : MS :=
  (mSeq (mIf (orT (notT (tst (ofN (cal fIsi (aCons (bVar 0) (aCons (bC (.raw (.ty "tuple"))) aNil)))))) (orT (tst (ofN (bin fNe (cal fLen (aCons (bVar 0) aNil)) (bC (.int 5))))) (notT (tst (ofN (cN m_is_whole (aCons (bin fIx (bVar 0) (bC (.int 3))) aNil)))))))
  (mRet (ofN (bC (.bl false))))
  mNil)
  (mRet (ofN (bin fIn (bVar 0) (bVar 1)))))
def m_is_among : MD := mDef0 0 b_is_among
theorem nx_is_among : ∀ ds y, m_is_among ds ≠ .exc y := fun _ _ => noX_ne
def b_are_among : MS :=
  (mSeq (mIf (notT (tst (ofN (cal fIsi (aCons (bVar 0) (aCons (bC (.raw (.ty "tuple"))) aNil))))))
  (mRet (ofN (bC (.bl false))))
  mNil)
  (mSeq (mForV 0 (gN 2)
  (mIf (notT (tst (ofN (cN m_is_among (aCons (bVar 2) (aCons (bVar 1) aNil))))))
  (mRet (ofN (bC (.bl false))))
  mNil))
  (mRet (ofN (bC (.bl true))))))
def m_are_among : MD := mDef0 1 b_are_among
theorem nx_are_among : ∀ ds y, m_are_among ds ≠ .exc y := fun _ _ => noX_ne
def b_is_places : MS :=
  (mSeq (mIf (orT (notT (tst (ofN (cal fIsi (aCons (bVar 3) (aCons (bC (.raw (.ty "tuple"))) aNil)))))) (tst (ofN (bin fNe (cal fLen (aCons (bVar 3) aNil)) (cal fLen (aCons (bVar 1) aNil))))))
  (mRet (ofN (bC (.bl false))))
  mNil)
  (mSeq (mSet 4 (ofN (mDispB [((bC c_ORIGIN), (bC (.int 0)))])))
  (mSeq (mFor (wR (acons (ofN (cal fLen (aCons (bVar 1) aNil))) anil)) (gN 5)
  (mSeq (mIf (notT (tst (ofN (cN m_is_whole (aCons (bin fIx (bVar 3) (bVar 5)) aNil)))))
  (mRet (ofN (bC (.bl false))))
  mNil)
  (mDSet 4 (bin fIx (bVar 1) (bVar 5)) (own (bin fIx (bVar 3) (bVar 5))))))
  (mSeq (mFor (wV (ofN (cN m_all_constraints (aCons (bVar 0) (aCons (bVar 1) (aCons (bVar 2) aNil)))))) (gT [6, 7, 8, 9, 6])
  (mIf (tst (ofN (bin fLt (bin fDGet (bVar 4) (bVar 7)) (bin fAdd (bin fDGet (bVar 4) (bVar 8)) (bVar 9)))))
  (mRet (ofN (bC (.bl false))))
  mNil))
  (mRet (ofN (bC (.bl true))))))))
def m_is_places : MD := mDef0 6 b_is_places
theorem nx_is_places : ∀ ds y, m_is_places ds ≠ .exc y := fun _ _ => noX_ne
def b_is_chain : MS :=
  (mSeq (mIf (notT (tst (ofN (cN m_are_among (aCons (bVar 5) (aCons (cN m_all_constraints (aCons (bVar 0) (aCons (bVar 1) (aCons (bVar 2) aNil)))) aNil))))))
  (mRet (ofN (bC (.bl false))))
  mNil)
  (mSeq (mSet 6 (ofN (bC c_ORIGIN)))
  (mSeq (mSet 7 (ofN (bC (.int 0))))
  (mSeq (mForV 5 (gT [8, 9, 10, 11, 8])
  (mSeq (mIf (tst (ofN (bin fNe (bVar 10) (bVar 6))))
  (mRet (ofN (bC (.bl false))))
  mNil)
  (mSeq (mSet 6 (own (bVar 9)))
  (mAug 7 fAug (own (bVar 11))))))
  (mRet (ofN (andB (bin fEq (bVar 6) (bVar 3)) (bin fEq (bVar 7) (bVar 4)))))))))
def m_is_chain : MD := mDef0 6 b_is_chain
theorem nx_is_chain : ∀ ds y, m_is_chain ds ≠ .exc y := fun _ _ => noX_ne
def b_is_cycle : MS :=
  (mSeq (mIf (orT (notT (tst (ofN (cN m_are_among (aCons (bVar 3) (aCons (cN m_all_constraints (aCons (bVar 0) (aCons (bVar 1) (aCons (bVar 2) aNil)))) aNil)))))) (tst (ofN (bin fEq (cal fLen (aCons (bVar 3) aNil)) (bC (.int 0))))))
  (mRet (ofN (bC (.bl false))))
  mNil)
  (mSeq (mSet 4 (own (bin fIx (bin fIx (bVar 3) (bC (.int 0))) (bC (.int 2)))))
  (mSeq (mSet 5 (ofN (bC (.int 0))))
  (mSeq (mForV 3 (gT [6, 7, 8, 9, 6])
  (mSeq (mIf (tst (ofN (bin fNe (bVar 8) (bVar 4))))
  (mRet (ofN (bC (.bl false))))
  mNil)
  (mSeq (mSet 4 (own (bVar 7)))
  (mAug 5 fAug (own (bVar 9))))))
  (mRet (ofN (andB (bin fEq (bVar 4) (bin fIx (bin fIx (bVar 3) (bC (.int 0))) (bC (.int 2)))) (bin fGt (bVar 5) (bC (.int 0))))))))))
def m_is_cycle : MD := mDef0 6 b_is_cycle
theorem nx_is_cycle : ∀ ds y, m_is_cycle ds ≠ .exc y := fun _ _ => noX_ne
def b__law_jar : MS :=
  (mSeq (mSet 1 (ofN (dLst aNil)))
  (mSeq (mFor (wR (acons (ofN (cal fMin (aCons (cal fLen (aCons (bVar 0) aNil)) (aCons (bC (.int 63)) aNil)))) anil)) (gN 2)
  (mSeq (mSet 3 (ofN (cal fInt (aCons (bin fIx (bVar 0) (bVar 2)) aNil))))
  (mSeq (mIf (tst (ofN (bin fLt (bVar 3) (bC (.int 0)))))
  (mSet 3 (ofN (un fNeg (bVar 3))))
  mNil)
  (mIf (tst (ofN (bin fGe (bVar 3) (bin fPow (bC (.int 10)) (bC (.int 18))))))
  (mFor (wR (acons (ofN (bC (.int 40))) anil)) (gN 4)
  (mIf (tst (ofN (bin fGt (bVar 3) (bC (.int 0)))))
  (mSeq (mExpr (eMut 1 fAppend (acons (ofN (bin fMod (cal fInt (aCons (bVar 3) aNil)) (bC (.int 1009)))) anil)))
  (mSet 3 (ofN (bin fDiv (bVar 3) (bC (.int 1009))))))
  mNil))
  (mSeq (mSet 5 (ofN (bin fMod (cal fInt (aCons (bin fAdd (bin fAdd (bin fMul (bVar 3) (bC (.int 48271))) (bin fMul (bVar 2) (bC (.int 69621)))) (bC (.int 11))) aNil)) (bC (.int 999983)))))
  (mSeq (mExpr (eMut 1 fAppend (acons (own (bVar 5)) anil)))
  (mExpr (eMut 1 fAppend (acons (ofN (bin fMod (cal fInt (aCons (bin fAdd (bin fAdd (bin fMul (bVar 5) (bC (.int 1103))) (bin fMul (bVar 2) (bC (.int 7919)))) (bC (.int 5))) aNil)) (bC (.int 99991)))) anil)))))))))
  (mRet (dLstE (acons (frz (eMv 1)) (acons (ofN (bC (.int 0))) anil))))))
def m__law_jar : MD := mDef0 5 b__law_jar
theorem nx__law_jar : ∀ ds y, m__law_jar ds ≠ .exc y := fun _ _ => noX_ne
def b__law_take : MS :=
  (mSeq (mSet 2 (own (bin fIx (bVar 0) (bC (.int 1)))))
  (mSeq (mSetIx 0 (bC (.int 1)) (ofN (bin fAdd (bVar 2) (bC (.int 1)))))
  (mSeq (mSet 3 (own (bin fIx (bVar 0) (bC (.int 0)))))
  (mSeq (mIf (tst (ofN (bin fLt (bVar 2) (cal fLen (aCons (bVar 3) aNil)))))
  (mRet (ofN (bin fMod (cal fInt (aCons (bin fIx (bVar 3) (bVar 2)) aNil)) (bVar 1))))
  mNil)
  (mSeq (mSet 4 (ofN (bin fMod (cal fInt (aCons (bin fAdd (bin fAdd (bin fMul (bVar 2) (bC (.int 7919))) (bin fMul (cal fLen (aCons (bVar 3) aNil)) (bC (.int 104729)))) (bC (.int 17))) aNil)) (bC (.int 999983)))))
  (mSeq (mIf (tst (ofN (bin fGt (cal fLen (aCons (bVar 3) aNil)) (bC (.int 0)))))
  (mSet 4 (ofN (bin fMod (cal fInt (aCons (bin fAdd (bVar 4) (bin fMul (bin fIx (bVar 3) (bin fSub (bVar 2) (bin fMul (bin fDiv (bVar 2) (cal fLen (aCons (bVar 3) aNil))) (cal fLen (aCons (bVar 3) aNil))))) (bin fAdd (bin fDiv (bVar 2) (cal fLen (aCons (bVar 3) aNil))) (bC (.int 3))))) aNil)) (bC (.int 999983)))))
  mNil)
  (mRet (ofN (bin fMod (cal fInt (aCons (bin fDiv (bin fMod (cal fInt (aCons (bin fMul (bVar 4) (bC (.int 48271))) aNil)) (bC (.int 999983))) (bC (.int 7))) aNil)) (bVar 1))))))))))
def m__law_take : MI := mDefI0 3 (fun i => i == 0) b__law_take
theorem nx__law_take : ∀ ds y os, m__law_take ds ≠ .exc y os := fun _ _ _ => noI_ne
def b__law_name : MS :=
  (mSeq (mSet 2 (ofN (bC (.str (lit "abcdefghijklmnopqrstuvwxyz")))))
  (mSeq (mSet 3 (ofN (bin fAdd (bVar 2) (bC (.str (lit "0123456789"))))))
  (mSeq (mSet 4 (binV (immF fIx) 2 (eIO [0] m__law_take (acons (ofN (bC (.int 26))) anil))))
  (mSeq (mFor (wR (acons (binE fMul (eIO [0] m__law_take (acons (ofN (bC (.int 4))) anil)) (binE fAdd (ofN (bC (.int 1))) (eIO [0] m__law_take (acons (ofN (bC (.int 3))) anil)))) anil)) (gN 5)
  (mSet 4 (binV fAdd 4 (binV (immF fIx) 3 (eIO [0] m__law_take (acons (ofN (bC (.int 36))) anil))))))
  (mSeq (mSet 4 (ofN (cut (bVar 4) none (some (bC (.int 8))))))
  (mSeq (mFor (wR (acons (ofN (bC (.int 60))) anil)) (gN 5)
  (mIf (tst (ofN (bin fIn (bVar 4) (bVar 1))))
  (mSet 4 (ofN (bin fAdd (bin fAdd (cut (bVar 4) none (some (bC (.int 6)))) (bC (.str (lit "x")))) (cal fStr (aCons (bVar 5) aNil)))))
  mNil))
  (mSeq (mExpr (eMut 1 fAppend (acons (own (bVar 4)) anil)))
  (mRet (own (bVar 4))))))))))
def m__law_name : MI := mDefI0 4 (fun i => i == 0 || i == 1) b__law_name
theorem nx__law_name : ∀ ds y os, m__law_name ds ≠ .exc y os := fun _ _ _ => noI_ne
def b__law_same (rec_ : MD) : MS :=
  (mSeq (mIf (tst (ofN (cal fIsi (aCons (bVar 1) (aCons (bC (.raw (.ty "tuple"))) aNil)))))
  (mSeq (mIf (orT (notT (tst (ofN (cal fIsi (aCons (bVar 0) (aCons (bC (.raw (.ty "tuple"))) aNil)))))) (tst (ofN (bin fNe (cal fLen (aCons (bVar 0) aNil)) (cal fLen (aCons (bVar 1) aNil))))))
  (mRet (ofN (bC (.bl false))))
  mNil)
  (mSeq (mFor (wR (acons (ofN (cal fLen (aCons (bVar 1) aNil))) anil)) (gN 2)
  (mIf (notT (tst (ofN (cN (rec_) (aCons (bin fIx (bVar 0) (bVar 2)) (aCons (bin fIx (bVar 1) (bVar 2)) aNil))))))
  (mRet (ofN (bC (.bl false))))
  mNil))
  (mRet (ofN (bC (.bl true))))))
  mNil)
  (mSeq (mIf (tst (ofN (cal fIsi (aCons (bVar 1) (aCons (bC (.raw (.ty "bool"))) aNil)))))
  (mRet (ofN (andB (cal fIsi (aCons (bVar 0) (aCons (bC (.raw (.ty "bool"))) aNil))) (bin fEq (bVar 0) (bVar 1)))))
  mNil)
  (mSeq (mIf (tst (ofN (cal fIsi (aCons (bVar 1) (aCons (bC (.raw (.ty "int"))) aNil)))))
  (mRet (ofN (andB (cal fIsi (aCons (bVar 0) (aCons (bC (.raw (.ty "int"))) aNil))) (andB (notB (cal fIsi (aCons (bVar 0) (aCons (bC (.raw (.ty "bool"))) aNil)))) (bin fEq (bVar 0) (bVar 1))))))
  mNil)
  (mSeq (mIf (tst (ofN (cal fIsi (aCons (bVar 1) (aCons (bC (.raw (.ty "str"))) aNil)))))
  (mRet (ofN (andB (cal fIsi (aCons (bVar 0) (aCons (bC (.raw (.ty "str"))) aNil))) (bin fEq (bVar 0) (bVar 1)))))
  mNil)
  (mRet (ofN (andB (bin fIs (bVar 0) (bC .non)) (bin fIs (bVar 1) (bC .non)))))))))
def m__law_same : Nat → MD
  | 0 => fun _ => .bad
  | n + 1 => mDef0 1 (b__law_same (m__law_same n))
theorem nx__law_same : ∀ n ds y, m__law_same n ds ≠ .exc y
  | 0, _, _ => fun h => nomatch h
  | n + 1, _, _ => noX_ne
def b__law_constraints : MS :=
  (mSeq (mSet 4 (ofN (dLst aNil)))
  (mSeq (mSet 5 (binE fGt (eIO [0] m__law_take (acons (ofN (bC (.int 3))) anil)) (ofN (bC (.int 0)))))
  (mSeq (mFor (wR (acons (own (bVar 3)) anil)) (gN 6)
  (mSeq (mSet 7 (eIO [0] m__law_take (acons (ofN (bin fAdd (cal fLen (aCons (bVar 2) aNil)) (bC (.int 1)))) anil)))
  (mSeq (mSet 8 (eIO [0] m__law_take (acons (ofN (bin fAdd (cal fLen (aCons (bVar 2) aNil)) (bC (.int 1)))) anil)))
  (mSeq (mIf (andT (tst (ofN (bin fEq (bVar 7) (bVar 8)))) (tst (ofN (bin fEq (bVar 7) (cal fLen (aCons (bVar 2) aNil))))))
  (mSet 8 (ofN (bC (.int 0))))
  mNil)
  (mSeq (mSet 9 (binE fSub (eIO [0] m__law_take (acons (ofN (bC (.int 9))) anil)) (ofN (bC (.int 3)))))
  (mSeq (mIf (tst (binE fEq (eIO [0] m__law_take (acons (ofN (bC (.int 10))) anil)) (ofN (bC (.int 0)))))
  (mSet 9 (binE (immF fIx) (ofN (dLst (aCons (un fNeg (bC (.int 200))) (aCons (bC (.int 260)) (aCons (bC (.int 200)) (aCons (un fNeg (bC (.int 1))) (aCons (bC (.int 0)) aNil))))))) (eIO [0] m__law_take (acons (ofN (bC (.int 5))) anil))))
  mNil)
  (mSeq (mIf (andT (tst (own (bVar 5))) (andT (tst (ofN (bin fLt (bVar 7) (bVar 8)))) (tst (ofN (bin fLt (bVar 7) (cal fLen (aCons (bVar 2) aNil)))))))
  (mPar 7 8 (acons (own (bVar 8)) (acons (own (bVar 7)) anil)))
  mNil)
  (mSeq (mIf (andT (tst (own (bVar 5))) (tst (ofN (bin fEq (bVar 7) (bVar 8)))))
  (mSet 9 (ofN (bin fSub (bC (.int 0)) (cal fAbs (aCons (bVar 9) aNil)))))
  mNil)
  (mSeq (mIf (andT (tst (ofN (bin fEq (bVar 7) (cal fLen (aCons (bVar 2) aNil))))) (tst (binE fGt (eIO [0] m__law_take (acons (ofN (bC (.int 3))) anil)) (ofN (bC (.int 0))))))
  (mSet 9 (ofN (bin fSub (bVar 9) (bC (.int 300)))))
  mNil)
  (mSeq (mSet 10 (ofN (bin fAdd (cal fList (aCons (bVar 2) aNil)) (dLst (aCons (bC (.str (lit ""))) aNil)))))
  (mSeq (mSet 11 (ofN (dTup (aCons (bVar 1) (aCons (bin fIx (bVar 10) (bVar 7)) (aCons (bin fIx (bVar 10) (bVar 8)) (aCons (bVar 9) (aCons (bin fAdd (bC (.str (lit "zz."))) (cal fStr (aCons (bin fAdd (bVar 6) (bC (.int 1))) aNil))) aNil))))))))
  (mSeq (mIf (andT (tst (ofN (bin fGt (cal fLen (aCons (bVar 4) aNil)) (bC (.int 0))))) (tst (binE fEq (eIO [0] m__law_take (acons (ofN (bC (.int 9))) anil)) (ofN (bC (.int 0))))))
  (mSet 11 (binV (immF fIx) 4 (eIO [0] m__law_take (acons (ofN (cal fLen (aCons (bVar 4) aNil))) anil))))
  mNil)
  (mSeq (mExpr (eMut 4 fAppend (acons (own (bVar 11)) anil)))
  (mIf (andT (tst (ofN (bin fLt (cal fLen (aCons (bVar 4) aNil)) (bC (.int 200))))) (tst (binE fEq (eIO [0] m__law_take (acons (ofN (bC (.int 6))) anil)) (ofN (bC (.int 0))))))
  (mExpr (eMut 4 fAppend (acons (ofN (dTup (aCons (bVar 1) (aCons (bin fIx (bVar 11) (bC (.int 2))) (aCons (bin fIx (bVar 11) (bC (.int 1))) (aCons (un fNeg (bin fIx (bVar 11) (bC (.int 3)))) (aCons (bin fAdd (bC (.str (lit "zz."))) (cal fStr (aCons (bin fAdd (bVar 6) (bC (.int 301))) aNil))) aNil))))))) anil)))
  mNil))))))))))))))
  (mSeq (mIf (tst (binE fEq (eIO [0] m__law_take (acons (ofN (bC (.int 2))) anil)) (ofN (bC (.int 0)))))
  (mSet 4 (ofN (un fRev (bVar 4))))
  mNil)
  (mRet (ofN (cal fTuple (aCons (bVar 4) aNil))))))))
def m__law_constraints : MI := mDefI0 8 (fun i => i == 0) b__law_constraints
theorem nx__law_constraints : ∀ ds y os, m__law_constraints ds ≠ .exc y os := fun _ _ _ => noI_ne
def b__law_every : MS :=
  (mRet (binE fAdd (eComp (wV (own (bVar 1))) (gN 3) tY (ofN (dTup (aCons (bVar 0) (aCons (bVar 3) (aCons (bC (.str (lit ""))) (aCons (bC (.int 0)) (aCons (bC (.str (lit ""))) aNil))))))) (([("shape", 3)] : List (PySem.Str × Nat)).map (·.2))) (ofN (cal fList (aCons (bVar 2) aNil)))))
def m__law_every : MD := mDef0 1 b__law_every
theorem nx__law_every : ∀ ds y, m__law_every ds ≠ .exc y := fun _ _ => noX_ne
def b__law_chain : MS :=
  (mSeq (mSet 2 (ofN (dLst aNil)))
  (mSeq (mSet 3 (own (bVar 1)))
  (mSeq (mFor (wR (acons (ofN (bin fAdd (cal fLen (aCons (bVar 0) aNil)) (bC (.int 1)))) anil)) (gN 4)
  (mIf (tst (ofN (bin fNe (bVar 3) (bC (.str (lit ""))))))
  (mSeq (mSet 2 (ofN (bin fAdd (dLst (aCons (bin fDGet (bVar 0) (bVar 3)) aNil)) (bVar 2))))
  (mSet 3 (own (bin fIx (bin fDGet (bVar 0) (bVar 3)) (bC (.int 2))))))
  mNil))
  (mRet (ofN (cal fTuple (aCons (bVar 2) aNil)))))))
def m__law_chain : MI := mDefI0 3 (fun i => i == 0) b__law_chain
theorem nx__law_chain : ∀ ds y os, m__law_chain ds ≠ .exc y os := fun _ _ _ => noI_ne
def b__law_due : MS :=
  (mSeq (mSet 3 (ofN (mDisp [((.str (lit "")), (.int 0))])))
  (mSeq (mSet 4 (ofN mNewD))
  (mSeq (mForV 1 (gN 5)
  (mSeq (mDSet 3 (bVar 5) (ofN (bC (.int 0))))
  (mDSet 4 (bVar 5) (ofN (dTup (aCons (bVar 0) (aCons (bVar 5) (aCons (bC (.str (lit ""))) (aCons (bC (.int 0)) (aCons (bC (.str (lit ""))) aNil))))))))))
  (mSeq (mSet 6 (ofN (bC (.str (lit "")))))
  (mSeq (mFor (wR (acons (ofN (bin fAdd (cal fLen (aCons (bVar 1) aNil)) (bC (.int 2)))) anil)) (gN 7)
  (mSeq (mSet 6 (ofN (bC .non)))
  (mSeq (mFor (wV (ofN (cN m__law_every (aCons (bVar 0) (aCons (bVar 1) (aCons (bVar 2) aNil)))))) (gN 8)
  (mSeq (mSet 9 (ofN (bin fAdd (bin fDGet (bVar 3) (bin fIx (bVar 8) (bC (.int 2)))) (bin fIx (bVar 8) (bC (.int 3))))))
  (mIf (tst (ofN (bin fLt (bin fDGet (bVar 3) (bin fIx (bVar 8) (bC (.int 1)))) (bVar 9))))
  (mSeq (mDSet 3 (bin fIx (bVar 8) (bC (.int 1))) (own (bVar 9)))
  (mSeq (mDSet 4 (bin fIx (bVar 8) (bC (.int 1))) (own (bVar 8)))
  (mSet 6 (own (bin fIx (bVar 8) (bC (.int 1)))))))
  mNil)))
  (mIf (tst (ofN (bin fIs (bVar 6) (bC .non))))
  (mSeq (mSet 10 (eComp (wV (own (bVar 1))) (gN 5) tY (eIO [4] m__law_chain (acons (own (bVar 5)) anil)) (([("shape", 5)] : List (PySem.Str × Nat)).map (·.2))))
  (mRet (dTupE (acons (ofN (bC (.str (lit "places")))) (acons (calE fTuple (acons (eComp (wV (own (bVar 1))) (gN 5) tY (ofN (bin fDGet (bVar 3) (bVar 5))) (([("shape", 5)] : List (PySem.Str × Nat)).map (·.2))) anil)) (acons (ofN (cal fTuple (aCons (bVar 10) aNil))) anil))))))
  mNil))))
  (mSeq (mSet 11 (own (bVar 6)))
  (mSeq (mFor (wR (acons (ofN (bin fAdd (cal fLen (aCons (bVar 1) aNil)) (bC (.int 1)))) anil)) (gN 12)
  (mSet 11 (own (bin fIx (bin fDGet (bVar 4) (bVar 11)) (bC (.int 2))))))
  (mSeq (mSet 13 (ofN (dLst (aCons (bin fDGet (bVar 4) (bVar 11)) aNil))))
  (mSeq (mFor (wR (acons (ofN (bin fAdd (cal fLen (aCons (bVar 1) aNil)) (bC (.int 1)))) anil)) (gN 12)
  (mIf (tst (ofN (bin fNe (bin fIx (bin fIx (bVar 13) (bC (.int 0))) (bC (.int 2))) (bVar 11))))
  (mSet 13 (ofN (bin fAdd (dLst (aCons (bin fDGet (bVar 4) (bin fIx (bin fIx (bVar 13) (bC (.int 0))) (bC (.int 2)))) aNil)) (bVar 13))))
  mNil))
  (mRet (ofN (dTup (aCons (bC (.str (lit "cycle"))) (aCons (cal fTuple (aCons (bVar 13) aNil)) aNil))))))))))))))
def m__law_due : MD := mDef0 11 b__law_due
theorem nx__law_due : ∀ ds y, m__law_due ds ≠ .exc y := fun _ _ => noX_ne
def b__law_keeps : MS :=
  (mSeq (mSet 4 (ofN (mDisp [((.str (lit "")), (.int 0))])))
  (mSeq (mFor (wR (acons (ofN (cal fLen (aCons (bVar 1) aNil))) anil)) (gN 5)
  (mDSet 4 (bin fIx (bVar 1) (bVar 5)) (own (bin fIx (bVar 3) (bVar 5)))))
  (mSeq (mFor (wV (ofN (cN m__law_every (aCons (bVar 0) (aCons (bVar 1) (aCons (bVar 2) aNil)))))) (gN 6)
  (mIf (tst (ofN (bin fLt (bin fDGet (bVar 4) (bin fIx (bVar 6) (bC (.int 1)))) (bin fAdd (bin fDGet (bVar 4) (bin fIx (bVar 6) (bC (.int 2)))) (bin fIx (bVar 6) (bC (.int 3)))))))
  (mRet (ofN (bC (.bl false))))
  mNil))
  (mRet (ofN (bC (.bl true)))))))
def m__law_keeps : MD := mDef0 3 b__law_keeps
theorem nx__law_keeps : ∀ ds y, m__law_keeps ds ≠ .exc y := fun _ _ => noX_ne
def b__law_walk : MS :=
  (mSeq (mSet 4 (ofN (cN m__law_every (aCons (bVar 0) (aCons (bVar 1) (aCons (bVar 2) aNil))))))
  (mSeq (mSet 5 (ofN (bC (.int 0))))
  (mSeq (mFor (wR (acons (ofN (cal fLen (aCons (bVar 3) aNil))) anil)) (gN 6)
  (mSeq (mIf (orT (tst (ofN (bin fNotIn (bin fIx (bVar 3) (bVar 6)) (bVar 4)))) (andT (tst (ofN (bin fGt (bVar 6) (bC (.int 0))))) (tst (ofN (bin fNe (bin fIx (bin fIx (bVar 3) (bVar 6)) (bC (.int 2))) (bin fIx (bin fIx (bVar 3) (bin fSub (bVar 6) (bC (.int 1)))) (bC (.int 1))))))))
  (mRet (ofN (bC .non)))
  mNil)
  (mSet 5 (ofN (bin fAdd (bVar 5) (bin fIx (bin fIx (bVar 3) (bVar 6)) (bC (.int 3))))))))
  (mSeq (mIf (tst (ofN (bin fEq (cal fLen (aCons (bVar 3) aNil)) (bC (.int 0)))))
  (mRet (ofN (bC .non)))
  mNil)
  (mRet (ofN (dTup (aCons (bin fIx (bin fIx (bVar 3) (bC (.int 0))) (bC (.int 2))) (aCons (bin fIx (bin fIx (bVar 3) (un fNeg (bC (.int 1)))) (bC (.int 1))) (aCons (bVar 5) aNil))))))))))
def m__law_walk : MD := mDef0 3 b__law_walk
theorem nx__law_walk : ∀ ds y, m__law_walk ds ≠ .exc y := fun _ _ => noX_ne
def b__law_near : MS :=
  (mSeq (mSet 5 (eIO [0] m__law_take (acons (ofN (cal fLen (aCons (bVar 4) aNil))) anil)))
  (mSeq (mSet 6 (ofN (cN m__law_every (aCons (bVar 1) (aCons (bVar 2) (aCons (bVar 3) aNil))))))
  (mSeq (mAsg (gT [7, 8, 9, 10, 11]) (own (bin fIx (bVar 4) (bVar 5))))
  (mSeq (mSet 12 (binV (immF fIx) 6 (eIO [0] m__law_take (acons (ofN (cal fLen (aCons (bVar 6) aNil))) anil))))
  (mSeq (mSet 13 (ofN (dLst (aCons (dTup (aCons (bVar 7) (aCons (bVar 8) (aCons (bVar 9) (aCons (bin fAdd (bVar 10) (bC (.int 1))) (aCons (bVar 11) aNil)))))) (aCons (dTup (aCons (bVar 7) (aCons (bVar 9) (aCons (bVar 8) (aCons (bVar 10) (aCons (bVar 11) aNil)))))) (aCons (bVar 12) (aCons (dTup (aCons (bVar 7) (aCons (bVar 8) (aCons (bVar 9) (aCons (bVar 10) (aCons (bC (.str (lit "zz.999"))) aNil)))))) aNil)))))))
  (mSeq (mSet 14 (eIO [0] m__law_take (acons (ofN (bC (.int 8))) anil)))
  (mSeq (mIf (tst (ofN (bin fLt (bVar 14) (bC (.int 4)))))
  (mRet (ofN (bin fAdd (bin fAdd (cut (bVar 4) none (some (bVar 5))) (dTup (aCons (bin fIx (bVar 13) (bVar 14)) aNil))) (cut (bVar 4) (some (bin fAdd (bVar 5) (bC (.int 1)))) none))))
  mNil)
  (mSeq (mIf (tst (ofN (bin fEq (bVar 14) (bC (.int 4)))))
  (mRet (ofN (bin fAdd (cut (bVar 4) none (some (bVar 5))) (cut (bVar 4) (some (bin fAdd (bVar 5) (bC (.int 1)))) none))))
  mNil)
  (mSeq (mIf (tst (ofN (bin fEq (bVar 14) (bC (.int 5)))))
  (mRet (ofN (bin fAdd (bVar 4) (dTup (aCons (bVar 12) aNil)))))
  mNil)
  (mSeq (mIf (tst (ofN (bin fEq (bVar 14) (bC (.int 6)))))
  (mRet (ofN (bin fAdd (cut (bVar 4) (some (bVar 5)) none) (cut (bVar 4) none (some (bVar 5))))))
  mNil)
  (mRet (ofN (bin fAdd (bin fAdd (cut (bVar 4) none (some (bVar 5))) (dTup (aCons (bVar 12) aNil))) (cut (bVar 4) (some (bVar 5)) none))))))))))))))
def m__law_near : MI := mDefI0 10 (fun i => i == 0) b__law_near
theorem nx__law_near : ∀ ds y os, m__law_near ds ≠ .exc y os := fun _ _ _ => noI_ne
def b__law_wrong : MS :=
  (mSeq (mSet 2 (eIO [0] m__law_take (acons (ofN (cal fLen (aCons (bVar 1) aNil))) anil)))
  (mSeq (mAsg (gT [3, 4, 5, 6, 7]) (own (bin fIx (bVar 1) (bVar 2))))
  (mSeq (mSet 8 (ofN (bin fAdd (bin fAdd (cut (bVar 1) none (some (bVar 2))) (dTup (aCons (dTup (aCons (bVar 3) (aCons (bVar 4) (aCons (bVar 5) (aCons (bin fEq (bVar 6) (bC (.int 1))) (aCons (bVar 7) aNil)))))) aNil))) (cut (bVar 1) (some (bin fAdd (bVar 2) (bC (.int 1)))) none))))
  (mSeq (mSet 9 (dLstE (acons (frz (ofN (cal fList (aCons (bVar 1) aNil)))) (acons (ofN (bC .non)) (acons (ofN (bC (.int 5))) (acons (ofN (bC (.str (lit "")))) (acons (own (bVar 8)) (acons (ofN (bin fAdd (bin fAdd (cut (bVar 1) none (some (bVar 2))) (dTup (aCons (bC .non) aNil))) (cut (bVar 1) (some (bin fAdd (bVar 2) (bC (.int 1)))) none))) (acons (ofN (bin fAdd (bin fAdd (cut (bVar 1) none (some (bVar 2))) (dTup (aCons (cut (bin fIx (bVar 1) (bVar 2)) none (some (bC (.int 4)))) aNil))) (cut (bVar 1) (some (bin fAdd (bVar 2) (bC (.int 1)))) none))) anil)))))))))
  (mRet (binV (immF fIx) 9 (eIO [0] m__law_take (acons (ofN (bC (.int 7))) anil))))))))
def m__law_wrong : MI := mDefI0 8 (fun i => i == 0) b__law_wrong
theorem nx__law_wrong : ∀ ds y os, m__law_wrong ds ≠ .exc y os := fun _ _ _ => noI_ne
def b__law_judges_chain : MS :=
  (mSeq (mIf (tst (ofN (bin fIsnt (cN m_is_chain (aCons (bVar 1) (aCons (bVar 2) (aCons (bVar 3) (aCons (bVar 4) (aCons (bVar 5) (aCons (bVar 6) aNil))))))) (bC (.bl true)))))
  (mRet (ofN (bC (.bl false))))
  mNil)
  (mSeq (mIf (tst (ofN (bin fIsnt (cN m_is_chain (aCons (bVar 1) (aCons (bVar 2) (aCons (bVar 3) (aCons (bVar 4) (aCons (bVar 5) (aCons (dTup aNil) aNil))))))) (bC (.bl false)))))
  (mRet (ofN (bC (.bl false))))
  mNil)
  (mSeq (mSet 7 (eIO [0] m__law_near (acons (own (bVar 1)) (acons (own (bVar 2)) (acons (own (bVar 3)) (acons (own (bVar 6)) anil))))))
  (mSeq (mSet 8 (ofN (bin fEq (cN m__law_walk (aCons (bVar 1) (aCons (bVar 2) (aCons (bVar 3) (aCons (bVar 7) aNil))))) (dTup (aCons (bC (.str (lit ""))) (aCons (bVar 4) (aCons (bVar 5) aNil)))))))
  (mSeq (mIf (notT (tst (ofN (cN (m__law_same 10) (aCons (cN m_is_chain (aCons (bVar 1) (aCons (bVar 2) (aCons (bVar 3) (aCons (bVar 4) (aCons (bVar 5) (aCons (bVar 7) aNil))))))) (aCons (bVar 8) aNil))))))
  (mRet (ofN (bC (.bl false))))
  mNil)
  (mSeq (mIf (tst (ofN (bin fIsnt (cN m_is_chain (aCons (bVar 1) (aCons (bVar 2) (aCons (bVar 3) (aCons (bVar 4) (aCons (bin fAdd (bVar 5) (bC (.int 1))) (aCons (bVar 6) aNil))))))) (bC (.bl false)))))
  (mRet (ofN (bC (.bl false))))
  mNil)
  (mRet (binE fIs (cE m_is_chain (acons (own (bVar 1)) (acons (own (bVar 2)) (acons (own (bVar 3)) (acons (own (bVar 4)) (acons (own (bVar 5)) (acons (eIO [0] m__law_wrong (acons (own (bVar 6)) anil)) anil))))))) (ofN (bC (.bl false)))))))))))
def m__law_judges_chain : MI := mDefI0 2 (fun i => i == 0) b__law_judges_chain
theorem nx__law_judges_chain : ∀ ds y os, m__law_judges_chain ds ≠ .exc y os := fun _ _ _ => noI_ne
def b__law_judges_places : MS :=
  (mSeq (mIf (tst (ofN (bin fIsnt (cN m_is_places (aCons (bVar 1) (aCons (bVar 2) (aCons (bVar 3) (aCons (bVar 4) aNil))))) (bC (.bl true)))))
  (mRet (ofN (bC (.bl false))))
  mNil)
  (mSeq (mFor (wR (acons (ofN (bC (.int 3))) anil)) (gN 5)
  (mSeq (mSet 6 (eIO [0] m__law_take (acons (ofN (cal fLen (aCons (bVar 2) aNil))) anil)))
  (mSeq (mSet 7 (ofN (bin fAdd (bin fIx (bVar 4) (bVar 6)) (bin fIx (dLst (aCons (un fNeg (bC (.int 1))) (aCons (bC (.int 1)) (aCons (bC (.int 7)) aNil)))) (bVar 5)))))
  (mSeq (mSet 8 (ofN (bin fAdd (bin fAdd (cut (bVar 4) none (some (bVar 6))) (dTup (aCons (bVar 7) aNil))) (cut (bVar 4) (some (bin fAdd (bVar 6) (bC (.int 1)))) none))))
  (mSeq (mSet 9 (ofN (andB (bin fGe (bVar 7) (bC (.int 0))) (cN m__law_keeps (aCons (bVar 1) (aCons (bVar 2) (aCons (bVar 3) (aCons (bVar 8) aNil))))))))
  (mIf (notT (tst (ofN (cN (m__law_same 10) (aCons (cN m_is_places (aCons (bVar 1) (aCons (bVar 2) (aCons (bVar 3) (aCons (bVar 8) aNil))))) (aCons (bVar 9) aNil))))))
  (mRet (ofN (bC (.bl false))))
  mNil))))))
  (mSeq (mSet 6 (eIO [0] m__law_take (acons (ofN (cal fLen (aCons (bVar 2) aNil))) anil)))
  (mSeq (mSet 10 (ofN (bin fAdd (bin fAdd (cut (bVar 4) none (some (bVar 6))) (dTup (aCons (bin fEq (bin fIx (bVar 4) (bVar 6)) (bC (.int 1))) aNil))) (cut (bVar 4) (some (bin fAdd (bVar 6) (bC (.int 1)))) none))))
  (mSeq (mSet 11 (dLstE (acons (frz (ofN (cal fList (aCons (bVar 4) aNil)))) (acons (ofN (cut (bVar 4) (some (bC (.int 1))) none)) (acons (ofN (bin fAdd (bVar 4) (dTup (aCons (bC (.int 0)) aNil)))) (acons (ofN (bC .non)) (acons (own (bVar 10)) (acons (ofN (bC (.str (lit "")))) (acons (ofN (bin fAdd (bin fAdd (cut (bVar 4) none (some (bVar 6))) (dTup (aCons (bC (.str (lit "1"))) aNil))) (cut (bVar 4) (some (bin fAdd (bVar 6) (bC (.int 1)))) none))) anil)))))))))
  (mRet (binE fIs (cE m_is_places (acons (own (bVar 1)) (acons (own (bVar 2)) (acons (own (bVar 3)) (acons (binV (immF fIx) 11 (eIO [0] m__law_take (acons (ofN (bC (.int 7))) anil))) anil))))) (ofN (bC (.bl false))))))))))
def m__law_judges_places : MI := mDefI0 7 (fun i => i == 0) b__law_judges_places
theorem nx__law_judges_places : ∀ ds y os, m__law_judges_places ds ≠ .exc y os := fun _ _ _ => noI_ne
def b__law_judges_cycle : MS :=
  (mSeq (mSet 5 (ofN (cN m__law_walk (aCons (bVar 1) (aCons (bVar 2) (aCons (bVar 3) (aCons (bVar 4) aNil)))))))
  (mSeq (mIf (orT (tst (ofN (bin fIs (bVar 5) (bC .non)))) (orT (tst (ofN (bin fNe (bin fIx (bVar 5) (bC (.int 0))) (bin fIx (bVar 5) (bC (.int 1)))))) (tst (ofN (bin fLe (bin fIx (bVar 5) (bC (.int 2))) (bC (.int 0)))))))
  (mRet (ofN (bC (.bl false))))
  mNil)
  (mSeq (mIf (orT (tst (ofN (bin fIsnt (cN m_is_cycle (aCons (bVar 1) (aCons (bVar 2) (aCons (bVar 3) (aCons (bVar 4) aNil))))) (bC (.bl true))))) (tst (ofN (bin fIsnt (cN m_is_cycle (aCons (bVar 1) (aCons (bVar 2) (aCons (bVar 3) (aCons (dTup aNil) aNil))))) (bC (.bl false))))))
  (mRet (ofN (bC (.bl false))))
  mNil)
  (mSeq (mIf (tst (ofN (bin fIsnt (cN m_is_cycle (aCons (bVar 1) (aCons (bVar 2) (aCons (bVar 3) (aCons (bin fAdd (bVar 4) (bVar 4)) aNil))))) (bC (.bl true)))))
  (mRet (ofN (bC (.bl false))))
  mNil)
  (mSeq (mFor (wR (acons (ofN (bC (.int 2))) anil)) (gN 6)
  (mSeq (mSet 7 (eIO [0] m__law_near (acons (own (bVar 1)) (acons (own (bVar 2)) (acons (own (bVar 3)) (acons (own (bVar 4)) anil))))))
  (mSeq (mSet 5 (ofN (cN m__law_walk (aCons (bVar 1) (aCons (bVar 2) (aCons (bVar 3) (aCons (bVar 7) aNil)))))))
  (mSeq (mSet 8 (ofN (andB (bin fIsnt (bVar 5) (bC .non)) (andB (bin fEq (bin fIx (bVar 5) (bC (.int 0))) (bin fIx (bVar 5) (bC (.int 1)))) (bin fGt (bin fIx (bVar 5) (bC (.int 2))) (bC (.int 0)))))))
  (mIf (notT (tst (ofN (cN (m__law_same 10) (aCons (cN m_is_cycle (aCons (bVar 1) (aCons (bVar 2) (aCons (bVar 3) (aCons (bVar 7) aNil))))) (aCons (bVar 8) aNil))))))
  (mRet (ofN (bC (.bl false))))
  mNil)))))
  (mSeq (mSet 9 (calE fTuple (acons (eComp (wV (own (bVar 2))) (gN 10) tY (ofN (bC (.int 0))) (([("shape", 10)] : List (PySem.Str × Nat)).map (·.2))) anil)))
  (mSeq (mIf (tst (ofN (bin fIsnt (cN m_is_places (aCons (bVar 1) (aCons (bVar 2) (aCons (bVar 3) (aCons (bVar 9) aNil))))) (bC (.bl false)))))
  (mRet (ofN (bC (.bl false))))
  mNil)
  (mRet (binE fIs (cE m_is_cycle (acons (own (bVar 1)) (acons (own (bVar 2)) (acons (own (bVar 3)) (acons (eIO [0] m__law_wrong (acons (own (bVar 4)) anil)) anil))))) (ofN (bC (.bl false))))))))))))
def m__law_judges_cycle : MI := mDefI0 6 (fun i => i == 0) b__law_judges_cycle
theorem nx__law_judges_cycle : ∀ ds y os, m__law_judges_cycle ds ≠ .exc y os := fun _ _ _ => noI_ne
def b__law_judges_short : MS :=
  (mSeq (mSet 3 (frz (ofN (cut (cN m__law_every (aCons (bVar 0) (aCons (bVar 1) (aCons (bVar 2) aNil)))) none (some (bC (.int 40)))))))
  (mSeq (mSet 4 (ofN (bC (.int 0))))
  (mSeq (mForV 3 (gN 5)
  (mSeq (mForV 3 (gN 6)
  (mIf (andT (tst (ofN (bin fLt (bVar 4) (bC (.int 40))))) (andT (tst (ofN (bin fEq (bin fIx (bVar 5) (bC (.int 1))) (bin fIx (bVar 6) (bC (.int 2)))))) (tst (ofN (bin fEq (bin fIx (bVar 6) (bC (.int 1))) (bin fIx (bVar 5) (bC (.int 2))))))))
  (mSeq (mSet 4 (ofN (bin fAdd (bVar 4) (bC (.int 1)))))
  (mIf (notT (tst (ofN (cN (m__law_same 10) (aCons (cN m_is_cycle (aCons (bVar 0) (aCons (bVar 1) (aCons (bVar 2) (aCons (dTup (aCons (bVar 5) (aCons (bVar 6) aNil))) aNil))))) (aCons (bin fGt (bin fAdd (bin fIx (bVar 5) (bC (.int 3))) (bin fIx (bVar 6) (bC (.int 3)))) (bC (.int 0))) aNil))))))
  (mRet (ofN (bC (.bl false))))
  mNil))
  mNil))
  (mIf (andT (tst (ofN (bin fEq (bin fIx (bVar 5) (bC (.int 1))) (bin fIx (bVar 5) (bC (.int 2)))))) (notT (tst (ofN (cN (m__law_same 10) (aCons (cN m_is_cycle (aCons (bVar 0) (aCons (bVar 1) (aCons (bVar 2) (aCons (dTup (aCons (bVar 5) aNil)) aNil))))) (aCons (bin fGt (bin fIx (bVar 5) (bC (.int 3))) (bC (.int 0))) aNil)))))))
  (mRet (ofN (bC (.bl false))))
  mNil)))
  (mRet (ofN (bC (.bl true)))))))
def m__law_judges_short : MD := mDef0 4 b__law_judges_short
theorem nx__law_judges_short : ∀ ds y, m__law_judges_short ds ≠ .exc y := fun _ _ => noX_ne
def b_law : MS :=
  (mSeq (mSet 1 (ofN (cN m__law_jar (aCons (bVar 0) aNil))))
  (mSeq (mSet 2 (binE (immF fIx) (ofN (bC (.str (lit "xy")))) (eIO [1] m__law_take (acons (ofN (bC (.int 2))) anil))))
  (mSeq (mSet 3 (binE fAdd (ofN (bC (.int 1))) (eIO [1] m__law_take (acons (ofN (bC (.int 8))) anil))))
  (mSeq (mSet 4 (eIO [1] m__law_take (acons (ofN (bC (.int 15))) anil)))
  (mSeq (mIf (tst (binE fEq (eIO [1] m__law_take (acons (ofN (bC (.int 8))) anil)) (ofN (bC (.int 0)))))
  (mSeq (mSet 3 (ofN (bC (.int 60))))
  (mSet 4 (binE fAdd (ofN (bC (.int 40))) (eIO [1] m__law_take (acons (ofN (bC (.int 161))) anil)))))
  mNil)
  (mSeq (mSet 5 (ofN (dLst aNil)))
  (mSeq (mSet 6 (ofN (dLst aNil)))
  (mSeq (mFor (wR (acons (own (bVar 3)) anil)) (gN 7)
  (mSeq (mSet 8 (eIO [1, 5] m__law_name anil))
  (mSeq (mIf (tst (binE fEq (eIO [1] m__law_take (acons (ofN (bC (.int 3))) anil)) (ofN (bC (.int 0)))))
  (mSet 8 (binE fAdd (ofN (bin fAdd (bVar 8) (bC (.str (lit "."))))) (calE fStr (acons (binE fAdd (ofN (bC (.int 1))) (eIO [1] m__law_take (acons (ofN (bC (.int 99))) anil))) anil))))
  mNil)
  (mExpr (eMut 6 fAppend (acons (own (bVar 8)) anil))))))
  (mSeq (mSet 6 (ofN (cal fTuple (aCons (bVar 6) aNil))))
  (mSeq (mSet 9 (eIO [1] m__law_constraints (acons (own (bVar 2)) (acons (own (bVar 6)) (acons (own (bVar 4)) anil)))))
  (mSeq (mSet 10 (ofN (cN m__law_due (aCons (bVar 2) (aCons (bVar 6) (aCons (bVar 9) aNil))))))
  (mSeq (mIf (notT (tst (ofN (cN (m__law_same 10) (aCons (cN m_place_axis (aCons (bVar 2) (aCons (bVar 6) (aCons (bVar 9) aNil)))) (aCons (bVar 10) aNil))))))
  (mRet (ofN (bC (.bl false))))
  mNil)
  (mSeq (mIf (notT (tst (ofN (cN m__law_judges_short (aCons (bVar 2) (aCons (bVar 6) (aCons (bVar 9) aNil)))))))
  (mRet (ofN (bC (.bl false))))
  mNil)
  (mSeq (mIf (tst (ofN (bin fEq (bin fIx (bVar 10) (bC (.int 0))) (bC (.str (lit "cycle"))))))
  (mRet (eIO [1] m__law_judges_cycle (acons (own (bVar 2)) (acons (own (bVar 6)) (acons (own (bVar 9)) (acons (own (bin fIx (bVar 10) (bC (.int 1)))) anil))))))
  mNil)
  (mSeq (mSet 11 (eIO [1] m__law_take (acons (own (bVar 3)) anil)))
  (mSeq (mIf (notT (tst (eIO [1] m__law_judges_chain (acons (own (bVar 2)) (acons (own (bVar 6)) (acons (own (bVar 9)) (acons (own (bin fIx (bVar 6) (bVar 11))) (acons (own (bin fIx (bin fIx (bVar 10) (bC (.int 1))) (bVar 11))) (acons (own (bin fIx (bin fIx (bVar 10) (bC (.int 2))) (bVar 11))) anil)))))))))
  (mRet (ofN (bC (.bl false))))
  mNil)
  (mSeq (mSet 12 (eIO [1] m__law_near (acons (own (bVar 2)) (acons (own (bVar 6)) (acons (own (bVar 9)) (acons (own (bin fIx (bin fIx (bVar 10) (bC (.int 2))) (bVar 11))) anil))))))
  (mSeq (mSet 13 (ofN (cN m__law_walk (aCons (bVar 2) (aCons (bVar 6) (aCons (bVar 9) (aCons (bVar 12) aNil)))))))
  (mSeq (mIf (andT (tst (ofN (bin fIsnt (bVar 13) (bC .non)))) (andT (tst (ofN (bin fEq (bin fIx (bVar 13) (bC (.int 0))) (bin fIx (bVar 13) (bC (.int 1)))))) (tst (ofN (bin fGt (bin fIx (bVar 13) (bC (.int 2))) (bC (.int 0)))))))
  (mRet (ofN (bC (.bl false))))
  mNil)
  (mSeq (mIf (tst (ofN (bin fIsnt (cN m_is_cycle (aCons (bVar 2) (aCons (bVar 6) (aCons (bVar 9) (aCons (bVar 12) aNil))))) (bC (.bl false)))))
  (mRet (ofN (bC (.bl false))))
  mNil)
  (mRet (eIO [1] m__law_judges_places (acons (own (bVar 2)) (acons (own (bVar 6)) (acons (own (bVar 9)) (acons (own (bin fIx (bVar 10) (bC (.int 1)))) anil))))))))))))))))))))))))))
def m_law : MD := mDef0 13 b_law
theorem nx_law : ∀ ds y, m_law ds ≠ .exc y := fun _ _ => noX_ne
@[simp] theorem ll0 : (lit "").length = 0 := by rw [lit_eq, List.length_map]; rfl
@[simp] theorem ll1 : (lit ".").length = 1 := by rw [lit_eq, List.length_map]; rfl
@[simp] theorem ll2 : (lit "0123456789").length = 10 := by rw [lit_eq, List.length_map]; rfl
@[simp] theorem ll3 : (lit "1").length = 1 := by rw [lit_eq, List.length_map]; rfl
@[simp] theorem ll4 : (lit "abcdefghijklmnopqrstuvwxyz").length = 26 := by rw [lit_eq, List.length_map]; rfl
@[simp] theorem ll5 : (lit "cycle").length = 5 := by rw [lit_eq, List.length_map]; rfl
@[simp] theorem ll6 : (lit "places").length = 6 := by rw [lit_eq, List.length_map]; rfl
@[simp] theorem ll7 : (lit "x").length = 1 := by rw [lit_eq, List.length_map]; rfl
@[simp] theorem ll8 : (lit "xy").length = 2 := by rw [lit_eq, List.length_map]; rfl
@[simp] theorem ll9 : (lit "zz.").length = 3 := by rw [lit_eq, List.length_map]; rfl
@[simp] theorem ll10 : (lit "zz.999").length = 6 := by rw [lit_eq, List.length_map]; rfl
/-! ### what the top has written -/
structure Tops (K : PySem.W.Frag) (mg : PySem.Str → Option Value) : Prop where
  d_own_constraints : ∃ f fd, DefAt K mg "own_constraints" "own_constraints" s_own_constraints ["axis", "shapes"] f fd
  d_all_constraints : ∃ f fd, DefAt K mg "all_constraints" "all_constraints" s_all_constraints ["axis", "shapes", "constraints"] f fd
  d_make_pass : ∃ f fd, DefAt K mg "make_pass" "make_pass" s_make_pass ["constraints", "places", "causes"] f fd
  d_chain_of : ∃ f fd, DefAt K mg "chain_of" "chain_of" s_chain_of ["causes", "shape"] f fd
  d_cycle_of : ∃ f fd, DefAt K mg "cycle_of" "cycle_of" s_cycle_of ["causes", "start", "steps"] f fd
  d_place_axis : ∃ f fd, DefAt K mg "place_axis" "place_axis" s_place_axis ["axis", "shapes", "constraints"] f fd
  d_is_whole : ∃ f fd, DefAt K mg "is_whole" "is_whole" s_is_whole ["value"] f fd
  d_is_among : ∃ f fd, DefAt K mg "is_among" "is_among" s_is_among ["value", "constraints"] f fd
  d_are_among : ∃ f fd, DefAt K mg "are_among" "are_among" s_are_among ["values", "constraints"] f fd
  d_is_places : ∃ f fd, DefAt K mg "is_places" "is_places" s_is_places ["axis", "shapes", "constraints", "places"] f fd
  d_is_chain : ∃ f fd, DefAt K mg "is_chain" "is_chain" s_is_chain ["axis", "shapes", "constraints", "shape", "place", "chain"] f fd
  d_is_cycle : ∃ f fd, DefAt K mg "is_cycle" "is_cycle" s_is_cycle ["axis", "shapes", "constraints", "cycle"] f fd
  d__law_jar : ∃ f fd, DefAt K mg "_law_jar" "_law_jar" s__law_jar ["script"] f fd
  d__law_take : ∃ f fd, DefAt K mg "_law_take" "_law_take" s__law_take ["jar", "many"] f fd
  d__law_name : ∃ f fd, DefAt K mg "_law_name" "_law_name" s__law_name ["jar", "taken"] f fd
  d__law_same : ∃ f fd, DefAt K mg "_law_same" "_law_same" s__law_same ["one", "two"] f fd
  d__law_constraints : ∃ f fd, DefAt K mg "_law_constraints" "_law_constraints" s__law_constraints ["jar", "axis", "shapes", "many"] f fd
  d__law_every : ∃ f fd, DefAt K mg "_law_every" "_law_every" s__law_every ["axis", "shapes", "constraints"] f fd
  d__law_chain : ∃ f fd, DefAt K mg "_law_chain" "_law_chain" s__law_chain ["causes", "shape"] f fd
  d__law_due : ∃ f fd, DefAt K mg "_law_due" "_law_due" s__law_due ["axis", "shapes", "constraints"] f fd
  d__law_keeps : ∃ f fd, DefAt K mg "_law_keeps" "_law_keeps" s__law_keeps ["axis", "shapes", "constraints", "places"] f fd
  d__law_walk : ∃ f fd, DefAt K mg "_law_walk" "_law_walk" s__law_walk ["axis", "shapes", "constraints", "path"] f fd
  d__law_near : ∃ f fd, DefAt K mg "_law_near" "_law_near" s__law_near ["jar", "axis", "shapes", "constraints", "path"] f fd
  d__law_wrong : ∃ f fd, DefAt K mg "_law_wrong" "_law_wrong" s__law_wrong ["jar", "path"] f fd
  d__law_judges_chain : ∃ f fd, DefAt K mg "_law_judges_chain" "_law_judges_chain" s__law_judges_chain ["jar", "axis", "shapes", "constraints", "shape", "place", "chain"] f fd
  d__law_judges_places : ∃ f fd, DefAt K mg "_law_judges_places" "_law_judges_places" s__law_judges_places ["jar", "axis", "shapes", "constraints", "places"] f fd
  d__law_judges_cycle : ∃ f fd, DefAt K mg "_law_judges_cycle" "_law_judges_cycle" s__law_judges_cycle ["jar", "axis", "shapes", "constraints", "cycle"] f fd
  d__law_judges_short : ∃ f fd, DefAt K mg "_law_judges_short" "_law_judges_short" s__law_judges_short ["axis", "shapes", "constraints"] f fd
  d_law : ∃ f fd, DefAt K mg "law" "law" s_law ["script"] f fd
  c_ORIGIN : ConAt K mg "ORIGIN" c_ORIGIN
  n_abs : mg "abs" = none
  n_bool : mg "bool" = none
  n_int : mg "int" = none
  n_isinstance : mg "isinstance" = none
  n_len : mg "len" = none
  n_list : mg "list" = none
  n_min : mg "min" = none
  n_range : mg "range" = none
  n_str : mg "str" = none
  n_tuple : mg "tuple" = none
section
variable {P : Program} {w : World} {K : PySem.W.Frag} {mg : PySem.Str → Option Value} {base : Heap} (T : Tops K mg)
include T
theorem ok_own_constraints : Okd P w K mg base CX0 1 "own_constraints" (spN K 2 m_own_constraints) := by
  have sc := sc_own_constraints
  exact okd T.d_own_constraints sc rfl rfl (fun f cdv A outer s H E hr => by
    have hu5 : (A.deeper (PyProof.Rows.envOfC "own_constraints" (defScope s_own_constraints) s.heap.objs.size f cdv)).units + 65 < cLine := by
      have h := hr.units
      have h2 := hr.un
      omega
    have hu := hr.units
    have hu1 : (A.deeper (PyProof.Rows.envOfC "own_constraints" (defScope s_own_constraints) s.heap.objs.size f cdv)).units + 1 < cLine := Nat.lt_of_le_of_lt (Nat.add_le_add_left (by decide) _) hu
    exact (m_one (m_ret (e_call n_tuple (pe_callTy call_tuple_of (by rfl) T.n_tuple bb_tuple (ae_cons (e_comp (own := [("shape", 2)]) (w_val (be (x_var (i := 1)))) rfl sc.nd (blkOk_by (N := N_own_constraints) (sc := defScope s_own_constraints) (by decide +kernel)) (fun _ _ _ _ _ => (g_name (i := 2) sc.nd)) (fun _ _ _ _ _ => ts_nil) (fun _ _ _ _ _ => (ne (x_tup (a_cons (x_var (i := 0)) (a_cons (x_var (i := 2)) (a_cons (nb (xc T.c_ORIGIN)) (a_cons (nb x_int) (a_cons (nb x_str) a_nil))))))))) ae_nil))))))
theorem ok_all_constraints (o_own_constraints : Okd P w K mg base CX0 1 "own_constraints" (spN K 2 m_own_constraints)) : Okd P w K mg base CX0 2 "all_constraints" (spN K 3 m_all_constraints) := by
  have sc := sc_all_constraints
  exact okd T.d_all_constraints sc rfl rfl (fun f cdv A outer s H E hr => by
    have hu5 : (A.deeper (PyProof.Rows.envOfC "all_constraints" (defScope s_all_constraints) s.heap.objs.size f cdv)).units + 65 < cLine := by
      have h := hr.units
      have h2 := hr.un
      omega
    have hu := hr.units
    have hu1 : (A.deeper (PyProof.Rows.envOfC "all_constraints" (defScope s_all_constraints) s.heap.objs.size f cdv)).units + 1 < cLine := Nat.lt_of_le_of_lt (Nat.add_le_add_left (by decide) _) hu
    exact (m_one (m_ret (ne (x_op o_add n_add (nb (xd o_own_constraints hr (lc (lc (fun _ _ => ln))) (nx_own_constraints) (a_cons (x_var (i := 0)) (a_cons (x_var (i := 1)) a_nil)))) (nb (x_call n_tuple (pe_callTy call_tuple_of (by rfl) T.n_tuple bb_tuple (a_cons (x_var (i := 2)) a_nil)))))))))
theorem ok_make_pass : Okd P w K mg base CX0 1 "make_pass" (spI K 3 m_make_pass) := by
  have sc := sc_make_pass
  exact okdI (Z := (fun i => i == 0 || i == 1 || i == 2)) T.d_make_pass sc rfl rfl (fun f cdv A outer s H E hr => by
    have hu5 : (A.deeper (PyProof.Rows.envOfC "make_pass" (defScope s_make_pass) s.heap.objs.size f cdv)).units + 65 < cLine := by
      have h := hr.units
      have h2 := hr.un
      omega
    have hu := hr.units
    have hu1 : (A.deeper (PyProof.Rows.envOfC "make_pass" (defScope s_make_pass) s.heap.objs.size f cdv)).units + 1 < cLine := Nat.lt_of_le_of_lt (Nat.add_le_add_left (by decide) _) hu
    exact (m_cons (m_set (i := 3) (ne x_non) sc.nd)
    (m_cons (m_forV (i := 0) (g_name (i := 4) sc.nd)
    (m_cons (m_set (i := 5) (be (x_ix (x_var (i := 4)) (nb x_int))) sc.nd)
    (m_cons (m_set (i := 6) (ne (x_op o_add n_add (nb (x_dget hu1 (x_var (i := 1)) (x_ix (x_var (i := 4)) (nb x_int)))) (x_ix (x_var (i := 4)) (nb x_int)))) sc.nd)
    (m_one (m_if (t_cmp o_lt n_lt (nb (x_dget hu1 (x_var (i := 1)) (x_var (i := 5)))) (x_var (i := 6)) (nomark _))
    (m_cons (m_dset (i := 1) hu1 (be (x_var (i := 6))) (x_var (i := 5)))
    (m_cons (m_dset (i := 2) hu1 (be (x_var (i := 4))) (x_var (i := 5)))
    (m_one (m_set (i := 3) (be (x_var (i := 5))) sc.nd))))
    m_nil)))) PassesOwn.never rfl)
    (m_one (m_ret (be (x_var (i := 3))))))))
theorem ok_chain_of : Okd P w K mg base CX0 1 "chain_of" (spI K 2 m_chain_of) := by
  have sc := sc_chain_of
  exact okdI (Z := (fun i => i == 0)) T.d_chain_of sc rfl rfl (fun f cdv A outer s H E hr => by
    have hu5 : (A.deeper (PyProof.Rows.envOfC "chain_of" (defScope s_chain_of) s.heap.objs.size f cdv)).units + 65 < cLine := by
      have h := hr.units
      have h2 := hr.un
      omega
    have hu := hr.units
    have hu1 : (A.deeper (PyProof.Rows.envOfC "chain_of" (defScope s_chain_of) s.heap.objs.size f cdv)).units + 1 < cLine := Nat.lt_of_le_of_lt (Nat.add_le_add_left (by decide) _) hu
    exact (m_cons (m_set (i := 2) (ne (x_lst a_nil)) sc.nd)
    (m_cons (m_set (i := 3) (be (x_var (i := 1))) sc.nd)
    (m_cons (m_while (t_cmp (op_neD hu) n_ne (x_var (i := 3)) (nb (xc T.c_ORIGIN)) (nomark _))
    (m_cons (m_expr (e_append (i := 2) (pe_bm PySem.F.plainAttrs_list PySem.F.slot_list_append PySem.F.type_list_append mt_append (pv 2) (ae_cons (ne (x_dget hu1 (x_var (i := 0)) (x_var (i := 3)))) ae_nil))))
    (m_one (m_set (i := 3) (be (x_ix (nb (x_dget hu1 (x_var (i := 0)) (x_var (i := 3)))) (nb x_int))) sc.nd))) PassesOwn.never)
    (m_one (m_ret (ne (x_call n_tuple (pe_callTy call_tuple_of (by rfl) T.n_tuple bb_tuple (a_cons (nb (x_rev (x_var (i := 2)))) a_nil))))))))))
theorem ok_cycle_of : Okd P w K mg base CX0 1 "cycle_of" (spI K 3 m_cycle_of) := by
  have sc := sc_cycle_of
  exact okdI (Z := (fun i => i == 0)) T.d_cycle_of sc rfl rfl (fun f cdv A outer s H E hr => by
    have hu5 : (A.deeper (PyProof.Rows.envOfC "cycle_of" (defScope s_cycle_of) s.heap.objs.size f cdv)).units + 65 < cLine := by
      have h := hr.units
      have h2 := hr.un
      omega
    have hu := hr.units
    have hu1 : (A.deeper (PyProof.Rows.envOfC "cycle_of" (defScope s_cycle_of) s.heap.objs.size f cdv)).units + 1 < cLine := Nat.lt_of_le_of_lt (Nat.add_le_add_left (by decide) _) hu
    exact (m_cons (m_set (i := 3) (be (x_var (i := 1))) sc.nd)
    (m_cons (m_for (w_rng1 (by rfl) T.n_range (ae_cons (be (x_var (i := 2))) ae_nil) (lec len0)) (g_name (i := 4) sc.nd)
    (m_one (m_set (i := 3) (be (x_ix (nb (x_dget hu1 (x_var (i := 0)) (x_var (i := 3)))) (nb x_int))) sc.nd)) PassesOwn.never rfl)
    (m_cons (m_set (i := 5) (ne (x_lst (a_cons (nb (x_dget hu1 (x_var (i := 0)) (x_var (i := 3)))) a_nil))) sc.nd)
    (m_cons (m_set (i := 6) (be (x_ix (nb (x_dget hu1 (x_var (i := 0)) (x_var (i := 3)))) (nb x_int))) sc.nd)
    (m_cons (m_while (t_cmp (op_neD hu) n_ne (x_var (i := 6)) (x_var (i := 3)) (nomark _))
    (m_cons (m_expr (e_append (i := 5) (pe_bm PySem.F.plainAttrs_list PySem.F.slot_list_append PySem.F.type_list_append mt_append (pv 5) (ae_cons (ne (x_dget hu1 (x_var (i := 0)) (x_var (i := 6)))) ae_nil))))
    (m_one (m_set (i := 6) (be (x_ix (nb (x_dget hu1 (x_var (i := 0)) (x_var (i := 6)))) (nb x_int))) sc.nd))) PassesOwn.never)
    (m_one (m_ret (ne (x_call n_tuple (pe_callTy call_tuple_of (by rfl) T.n_tuple bb_tuple (a_cons (nb (x_rev (x_var (i := 5)))) a_nil))))))))))))
theorem ok_place_axis (o_all_constraints : Okd P w K mg base CX0 2 "all_constraints" (spN K 3 m_all_constraints)) (o_chain_of : Okd P w K mg base CX0 1 "chain_of" (spI K 2 m_chain_of)) (o_cycle_of : Okd P w K mg base CX0 1 "cycle_of" (spI K 3 m_cycle_of)) (o_make_pass : Okd P w K mg base CX0 1 "make_pass" (spI K 3 m_make_pass)) (o_own_constraints : Okd P w K mg base CX0 1 "own_constraints" (spN K 2 m_own_constraints)) : Okd P w K mg base CX0 3 "place_axis" (spN K 3 m_place_axis) := by
  have sc := sc_place_axis
  exact okd T.d_place_axis sc rfl rfl (fun f cdv A outer s H E hr => by
    have hu5 : (A.deeper (PyProof.Rows.envOfC "place_axis" (defScope s_place_axis) s.heap.objs.size f cdv)).units + 65 < cLine := by
      have h := hr.units
      have h2 := hr.un
      omega
    have hu := hr.units
    have hu1 : (A.deeper (PyProof.Rows.envOfC "place_axis" (defScope s_place_axis) s.heap.objs.size f cdv)).units + 1 < cLine := Nat.lt_of_le_of_lt (Nat.add_le_add_left (by decide) _) hu
    exact (m_cons (m_set (i := 3) (ne (x_dispB (ps := [((bC c_ORIGIN), (bC (.int 0)))]) (pe_disp (pps_cons (nb (xc T.c_ORIGIN)) (nb x_int) pps_nil) (by rfl) (by rfl) (fun z => by cases z) (by decide)))) sc.nd)
    (m_cons (m_set (i := 4) (ne x_newD) sc.nd)
    (m_cons (m_for (w_val (ne (xd o_own_constraints hr (lc (lc (fun _ _ => ln))) (nx_own_constraints) (a_cons (x_var (i := 0)) (a_cons (x_var (i := 1)) a_nil))))) (g_name (i := 5) sc.nd)
    (m_cons (m_dset (i := 3) hu1 (ne x_int) (x_ix (x_var (i := 5)) (nb x_int)))
    (m_one (m_dset (i := 4) hu1 (be (x_var (i := 5))) (x_ix (x_var (i := 5)) (nb x_int))))) PassesOwn.never rfl)
    (m_cons (m_set (i := 6) (ne (xd o_all_constraints hr (lc (lc (lc (fun _ _ => ln)))) (nx_all_constraints) (a_cons (x_var (i := 0)) (a_cons (x_var (i := 1)) (a_cons (x_var (i := 2)) a_nil))))) sc.nd)
    (m_cons (m_set (i := 7) (ne (xc T.c_ORIGIN)) sc.nd)
    (m_cons (m_set (i := 8) (ne x_int) sc.nd)
    (m_cons (m_while (PW.pt (t_and (t_cmp o_isnt n_isnt (x_var (i := 7)) (nb x_non) (nomark _)) (t_and1 (t_cmp o_lt n_lt (x_var (i := 8)) (nb (x_op o_add n_add (nb (x_call n_len (pe_callB c_len (by rfl) T.n_len bb_len (a_cons (x_var (i := 1)) a_nil)))) (nb x_int))) (nomark _)))))
    (m_cons (m_set (i := 7) (ei (ks := [6, 3, 4]) (n := 3) o_make_pass hr (by decide) (fun e ds e1 h => by have := len0 e ds e1 h; simp [this]) (nx_make_pass) (av_cons (i := 6) (av_cons (i := 3) (av_cons (i := 4) ae_nil)))) sc.nd)
    (m_one (m_aug (i := 8) i_add n_aug (ne x_int) sc.nd))) PassesOwn.never)
    (m_cons (m_if (t_cmp o_isnt n_isnt (x_var (i := 7)) (nb x_non) (nomark _))
    (m_one (m_ret (e_tup (ae_cons (ne x_str) (ae_cons (ei (ks := [4]) (n := 3) o_cycle_of hr (by decide) (fun e ds e1 h => by have := (lec (lec len0)) e ds e1 h; simp [this]) (nx_cycle_of) (av_cons (i := 4) (ae_cons (be (x_var (i := 7))) (ae_cons (ne (x_op o_add n_add (nb (x_call n_len (pe_callB c_len (by rfl) T.n_len bb_len (a_cons (x_var (i := 1)) a_nil)))) (nb x_int))) ae_nil)))) ae_nil)))))
    m_nil)
    (m_cons (m_set (i := 9) (e_call n_tuple (pe_callTy call_tuple_of (by rfl) T.n_tuple bb_tuple (ae_cons (e_comp (own := [("shape", 10)]) (w_val (be (x_var (i := 1)))) rfl sc.nd (blkOk_by (N := N_place_axis) (sc := defScope s_place_axis) (by decide +kernel)) (fun _ _ _ _ _ => (g_name (i := 10) sc.nd)) (fun _ _ _ _ _ => ts_nil) (fun _ _ _ _ _ => (ei (ks := [4]) (n := 2) o_chain_of hr (by decide) (fun e ds e1 h => by have := (lec len0) e ds e1 h; simp [this]) (nx_chain_of) (av_cons (i := 4) (ae_cons (be (x_var (i := 10))) ae_nil))))) ae_nil))) sc.nd)
    (m_one (m_ret (e_tup (ae_cons (ne x_str) (ae_cons (e_call n_tuple (pe_callTy call_tuple_of (by rfl) T.n_tuple bb_tuple (ae_cons (e_comp (own := [("shape", 10)]) (w_val (be (x_var (i := 1)))) rfl sc.nd (blkOk_by (N := N_place_axis) (sc := defScope s_place_axis) (by decide +kernel)) (fun _ _ _ _ _ => (g_name (i := 10) sc.nd)) (fun _ _ _ _ _ => ts_nil) (fun _ _ _ _ _ => (ne (x_dget hu1 (x_var (i := 3)) (x_var (i := 10)))))) ae_nil))) (ae_cons (be (x_var (i := 9))) ae_nil))))))))))))))))
theorem ok_is_whole : Okd P w K mg base CX0 1 "is_whole" (spN K 1 m_is_whole) := by
  have sc := sc_is_whole
  exact okd T.d_is_whole sc rfl rfl (fun f cdv A outer s H E hr => by
    have hu5 : (A.deeper (PyProof.Rows.envOfC "is_whole" (defScope s_is_whole) s.heap.objs.size f cdv)).units + 65 < cLine := by
      have h := hr.units
      have h2 := hr.un
      omega
    have hu := hr.units
    have hu1 : (A.deeper (PyProof.Rows.envOfC "is_whole" (defScope s_is_whole) s.heap.objs.size f cdv)).units + 1 < cLine := Nat.lt_of_le_of_lt (Nat.add_le_add_left (by decide) _) hu
    exact (m_one (m_ret (ne (x_and (nb (x_call n_isi (pe_callB call_isi (by rfl) T.n_isinstance bb_isinstance (a_cons (x_var (i := 0)) (a_cons (nb (x_bltn (v := .ty "int") (by rfl) T.n_int bb_int rfl)) a_nil))))) (x_one (nb (x_not (nb (x_call n_isi (pe_callB call_isi (by rfl) T.n_isinstance bb_isinstance (a_cons (x_var (i := 0)) (a_cons (nb (x_bltn (v := .ty "bool") (by rfl) T.n_bool bb_bool rfl)) a_nil)))))))))))))
theorem ok_is_among (o_is_whole : Okd P w K mg base CX0 1 "is_whole" (spN K 1 m_is_whole)) : Okd P w K mg base CX0 2 "is_among" (spN K 2 m_is_among) := by
  have sc := sc_is_among
  exact okd T.d_is_among sc rfl rfl (fun f cdv A outer s H E hr => by
    have hu5 : (A.deeper (PyProof.Rows.envOfC "is_among" (defScope s_is_among) s.heap.objs.size f cdv)).units + 65 < cLine := by
      have h := hr.units
      have h2 := hr.un
      omega
    have hu := hr.units
    have hu1 : (A.deeper (PyProof.Rows.envOfC "is_among" (defScope s_is_among) s.heap.objs.size f cdv)).units + 1 < cLine := Nat.lt_of_le_of_lt (Nat.add_le_add_left (by decide) _) hu
    exact (m_cons (m_if (PW.pt (t_or (t_not (t_val (ne (x_call n_isi (pe_callB call_isi (by rfl) T.n_isinstance bb_isinstance (a_cons (x_var (i := 0)) (a_cons (nb (x_bltn (v := .ty "tuple") (by rfl) T.n_tuple bb_tuple rfl)) a_nil))))))) (t_or (t_cmp (op_neD hu) n_ne (nb (x_call n_len (pe_callB c_len (by rfl) T.n_len bb_len (a_cons (x_var (i := 0)) a_nil)))) (nb x_int) (nomark _)) (t_or1 (t_not (t_val (ne (xd o_is_whole hr (lc (fun _ _ => ln)) (nx_is_whole) (a_cons (x_ix (x_var (i := 0)) (nb x_int)) a_nil)))))))))
    (m_one (m_ret (ne x_bl)))
    m_nil)
    (m_one (m_ret (ne (x_cmp (o_in hu5) n_in (x_var (i := 0)) (x_var (i := 1)) (by rfl)))))))
theorem ok_are_among (o_is_among : Okd P w K mg base CX0 2 "is_among" (spN K 2 m_is_among)) : Okd P w K mg base CX0 3 "are_among" (spN K 2 m_are_among) := by
  have sc := sc_are_among
  exact okd T.d_are_among sc rfl rfl (fun f cdv A outer s H E hr => by
    have hu5 : (A.deeper (PyProof.Rows.envOfC "are_among" (defScope s_are_among) s.heap.objs.size f cdv)).units + 65 < cLine := by
      have h := hr.units
      have h2 := hr.un
      omega
    have hu := hr.units
    have hu1 : (A.deeper (PyProof.Rows.envOfC "are_among" (defScope s_are_among) s.heap.objs.size f cdv)).units + 1 < cLine := Nat.lt_of_le_of_lt (Nat.add_le_add_left (by decide) _) hu
    exact (m_cons (m_if (t_not (t_val (ne (x_call n_isi (pe_callB call_isi (by rfl) T.n_isinstance bb_isinstance (a_cons (x_var (i := 0)) (a_cons (nb (x_bltn (v := .ty "tuple") (by rfl) T.n_tuple bb_tuple rfl)) a_nil)))))))
    (m_one (m_ret (ne x_bl)))
    m_nil)
    (m_cons (m_forV (i := 0) (g_name (i := 2) sc.nd)
    (m_one (m_if (t_not (t_val (ne (xd o_is_among hr (lc (lc (fun _ _ => ln))) (nx_is_among) (a_cons (x_var (i := 2)) (a_cons (x_var (i := 1)) a_nil))))))
    (m_one (m_ret (ne x_bl)))
    m_nil)) PassesOwn.never rfl)
    (m_one (m_ret (ne x_bl))))))
theorem ok_is_places (o_all_constraints : Okd P w K mg base CX0 2 "all_constraints" (spN K 3 m_all_constraints)) (o_is_whole : Okd P w K mg base CX0 1 "is_whole" (spN K 1 m_is_whole)) : Okd P w K mg base CX0 3 "is_places" (spN K 4 m_is_places) := by
  have sc := sc_is_places
  exact okd T.d_is_places sc rfl rfl (fun f cdv A outer s H E hr => by
    have hu5 : (A.deeper (PyProof.Rows.envOfC "is_places" (defScope s_is_places) s.heap.objs.size f cdv)).units + 65 < cLine := by
      have h := hr.units
      have h2 := hr.un
      omega
    have hu := hr.units
    have hu1 : (A.deeper (PyProof.Rows.envOfC "is_places" (defScope s_is_places) s.heap.objs.size f cdv)).units + 1 < cLine := Nat.lt_of_le_of_lt (Nat.add_le_add_left (by decide) _) hu
    exact (m_cons (m_if (PW.pt (t_or (t_not (t_val (ne (x_call n_isi (pe_callB call_isi (by rfl) T.n_isinstance bb_isinstance (a_cons (x_var (i := 3)) (a_cons (nb (x_bltn (v := .ty "tuple") (by rfl) T.n_tuple bb_tuple rfl)) a_nil))))))) (t_or1 (t_cmp (op_neD hu) n_ne (nb (x_call n_len (pe_callB c_len (by rfl) T.n_len bb_len (a_cons (x_var (i := 3)) a_nil)))) (nb (x_call n_len (pe_callB c_len (by rfl) T.n_len bb_len (a_cons (x_var (i := 1)) a_nil)))) (nomark _)))))
    (m_one (m_ret (ne x_bl)))
    m_nil)
    (m_cons (m_set (i := 4) (ne (x_dispB (ps := [((bC c_ORIGIN), (bC (.int 0)))]) (pe_disp (pps_cons (nb (xc T.c_ORIGIN)) (nb x_int) pps_nil) (by rfl) (by rfl) (fun z => by cases z) (by decide)))) sc.nd)
    (m_cons (m_for (w_rng1 (by rfl) T.n_range (ae_cons (ne (x_call n_len (pe_callB c_len (by rfl) T.n_len bb_len (a_cons (x_var (i := 1)) a_nil)))) ae_nil) (lec len0)) (g_name (i := 5) sc.nd)
    (m_cons (m_if (t_not (t_val (ne (xd o_is_whole hr (lc (fun _ _ => ln)) (nx_is_whole) (a_cons (x_ix (x_var (i := 3)) (x_var (i := 5))) a_nil)))))
    (m_one (m_ret (ne x_bl)))
    m_nil)
    (m_one (m_dset (i := 4) hu1 (be (x_ix (x_var (i := 3)) (x_var (i := 5)))) (x_ix (x_var (i := 1)) (x_var (i := 5)))))) PassesOwn.never rfl)
    (m_cons (m_for (w_val (ne (xd o_all_constraints hr (lc (lc (lc (fun _ _ => ln)))) (nx_all_constraints) (a_cons (x_var (i := 0)) (a_cons (x_var (i := 1)) (a_cons (x_var (i := 2)) a_nil)))))) (g_tup rfl (gs_cons (i := 6) sc.nd (gs_cons (i := 7) sc.nd (gs_cons (i := 8) sc.nd (gs_cons (i := 9) sc.nd (gs_cons (i := 6) sc.nd gs_nil))))))
    (m_one (m_if (t_cmp o_lt n_lt (nb (x_dget hu1 (x_var (i := 4)) (x_var (i := 7)))) (nb (x_op o_add n_add (nb (x_dget hu1 (x_var (i := 4)) (x_var (i := 8)))) (x_var (i := 9)))) (nomark _))
    (m_one (m_ret (ne x_bl)))
    m_nil)) PassesOwn.never rfl)
    (m_one (m_ret (ne x_bl))))))))
theorem ok_is_chain (o_all_constraints : Okd P w K mg base CX0 2 "all_constraints" (spN K 3 m_all_constraints)) (o_are_among : Okd P w K mg base CX0 3 "are_among" (spN K 2 m_are_among)) : Okd P w K mg base CX0 4 "is_chain" (spN K 6 m_is_chain) := by
  have sc := sc_is_chain
  exact okd T.d_is_chain sc rfl rfl (fun f cdv A outer s H E hr => by
    have hu5 : (A.deeper (PyProof.Rows.envOfC "is_chain" (defScope s_is_chain) s.heap.objs.size f cdv)).units + 65 < cLine := by
      have h := hr.units
      have h2 := hr.un
      omega
    have hu := hr.units
    have hu1 : (A.deeper (PyProof.Rows.envOfC "is_chain" (defScope s_is_chain) s.heap.objs.size f cdv)).units + 1 < cLine := Nat.lt_of_le_of_lt (Nat.add_le_add_left (by decide) _) hu
    exact (m_cons (m_if (t_not (t_val (ne (xd o_are_among hr (lc (lc (fun _ _ => ln))) (nx_are_among) (a_cons (x_var (i := 5)) (a_cons (nb (xd o_all_constraints hr (lc (lc (lc (fun _ _ => ln)))) (nx_all_constraints) (a_cons (x_var (i := 0)) (a_cons (x_var (i := 1)) (a_cons (x_var (i := 2)) a_nil))))) a_nil))))))
    (m_one (m_ret (ne x_bl)))
    m_nil)
    (m_cons (m_set (i := 6) (ne (xc T.c_ORIGIN)) sc.nd)
    (m_cons (m_set (i := 7) (ne x_int) sc.nd)
    (m_cons (m_forV (i := 5) (g_tup rfl (gs_cons (i := 8) sc.nd (gs_cons (i := 9) sc.nd (gs_cons (i := 10) sc.nd (gs_cons (i := 11) sc.nd (gs_cons (i := 8) sc.nd gs_nil))))))
    (m_cons (m_if (t_cmp (op_neD hu) n_ne (x_var (i := 10)) (x_var (i := 6)) (nomark _))
    (m_one (m_ret (ne x_bl)))
    m_nil)
    (m_cons (m_set (i := 6) (be (x_var (i := 9))) sc.nd)
    (m_one (m_aug (i := 7) i_add n_aug (be (x_var (i := 11))) sc.nd)))) PassesOwn.never rfl)
    (m_one (m_ret (ne (x_and (nb (x_cmp (op_eqD hu) n_eq (x_var (i := 6)) (x_var (i := 3)) (nomark _))) (x_one (nb (x_cmp (op_eqD hu) n_eq (x_var (i := 7)) (x_var (i := 4)) (nomark _)))))))))))))
theorem ok_is_cycle (o_all_constraints : Okd P w K mg base CX0 2 "all_constraints" (spN K 3 m_all_constraints)) (o_are_among : Okd P w K mg base CX0 3 "are_among" (spN K 2 m_are_among)) : Okd P w K mg base CX0 4 "is_cycle" (spN K 4 m_is_cycle) := by
  have sc := sc_is_cycle
  exact okd T.d_is_cycle sc rfl rfl (fun f cdv A outer s H E hr => by
    have hu5 : (A.deeper (PyProof.Rows.envOfC "is_cycle" (defScope s_is_cycle) s.heap.objs.size f cdv)).units + 65 < cLine := by
      have h := hr.units
      have h2 := hr.un
      omega
    have hu := hr.units
    have hu1 : (A.deeper (PyProof.Rows.envOfC "is_cycle" (defScope s_is_cycle) s.heap.objs.size f cdv)).units + 1 < cLine := Nat.lt_of_le_of_lt (Nat.add_le_add_left (by decide) _) hu
    exact (m_cons (m_if (PW.pt (t_or (t_not (t_val (ne (xd o_are_among hr (lc (lc (fun _ _ => ln))) (nx_are_among) (a_cons (x_var (i := 3)) (a_cons (nb (xd o_all_constraints hr (lc (lc (lc (fun _ _ => ln)))) (nx_all_constraints) (a_cons (x_var (i := 0)) (a_cons (x_var (i := 1)) (a_cons (x_var (i := 2)) a_nil))))) a_nil)))))) (t_or1 (t_cmp (op_eqD hu) n_eq (nb (x_call n_len (pe_callB c_len (by rfl) T.n_len bb_len (a_cons (x_var (i := 3)) a_nil)))) (nb x_int) (nomark _)))))
    (m_one (m_ret (ne x_bl)))
    m_nil)
    (m_cons (m_set (i := 4) (be (x_ix (x_ix (x_var (i := 3)) (nb x_int)) (nb x_int))) sc.nd)
    (m_cons (m_set (i := 5) (ne x_int) sc.nd)
    (m_cons (m_forV (i := 3) (g_tup rfl (gs_cons (i := 6) sc.nd (gs_cons (i := 7) sc.nd (gs_cons (i := 8) sc.nd (gs_cons (i := 9) sc.nd (gs_cons (i := 6) sc.nd gs_nil))))))
    (m_cons (m_if (t_cmp (op_neD hu) n_ne (x_var (i := 8)) (x_var (i := 4)) (nomark _))
    (m_one (m_ret (ne x_bl)))
    m_nil)
    (m_cons (m_set (i := 4) (be (x_var (i := 7))) sc.nd)
    (m_one (m_aug (i := 5) i_add n_aug (be (x_var (i := 9))) sc.nd)))) PassesOwn.never rfl)
    (m_one (m_ret (ne (x_and (nb (x_cmp (op_eqD hu) n_eq (x_var (i := 4)) (x_ix (x_ix (x_var (i := 3)) (nb x_int)) (nb x_int)) (nomark _))) (x_one (nb (x_cmp o_gt n_gt (x_var (i := 5)) (nb x_int) (nomark _)))))))))))))
theorem ok__law_jar : Okd P w K mg base CX0 1 "_law_jar" (spN K 1 m__law_jar) := by
  have sc := sc__law_jar
  exact okd T.d__law_jar sc rfl rfl (fun f cdv A outer s H E hr => by
    have hu5 : (A.deeper (PyProof.Rows.envOfC "_law_jar" (defScope s__law_jar) s.heap.objs.size f cdv)).units + 65 < cLine := by
      have h := hr.units
      have h2 := hr.un
      omega
    have hu := hr.units
    have hu1 : (A.deeper (PyProof.Rows.envOfC "_law_jar" (defScope s__law_jar) s.heap.objs.size f cdv)).units + 1 < cLine := Nat.lt_of_le_of_lt (Nat.add_le_add_left (by decide) _) hu
    exact (m_cons (m_set (i := 1) (ne (x_lst a_nil)) sc.nd)
    (m_cons (m_for (w_rng1 (by rfl) T.n_range (ae_cons (ne (x_call n_min (pe_callB (call_min2 rfl) (by rfl) T.n_min bb_min (a_cons (nb (x_call n_len (pe_callB c_len (by rfl) T.n_len bb_len (a_cons (x_var (i := 0)) a_nil)))) (a_cons (nb x_int) a_nil))))) ae_nil) (lec len0)) (g_name (i := 2) sc.nd)
    (m_cons (m_set (i := 3) (ne (x_call n_int (pe_callTy c_int (by rfl) T.n_int bb_int (a_cons (x_ix (x_var (i := 0)) (x_var (i := 2))) a_nil)))) sc.nd)
    (m_cons (m_if (t_cmp o_lt n_lt (x_var (i := 3)) (nb x_int) (nomark _))
    (m_one (m_set (i := 3) (ne (x_neg (x_var (i := 3)))) sc.nd))
    m_nil)
    (m_one (m_if (t_cmp o_ge n_ge (x_var (i := 3)) (nb (x_op op_pow n_pow (nb x_int) (nb x_int))) (nomark _))
    (m_one (m_for (w_rng1 (by rfl) T.n_range (ae_cons (ne x_int) ae_nil) (lec len0)) (g_name (i := 4) sc.nd)
    (m_one (m_if (t_cmp o_gt n_gt (x_var (i := 3)) (nb x_int) (nomark _))
    (m_cons (m_expr (e_append (i := 1) (pe_bm PySem.F.plainAttrs_list PySem.F.slot_list_append PySem.F.type_list_append mt_append (pv 1) (ae_cons (ne (x_op op_mod n_mod (nb (x_call n_int (pe_callTy c_int (by rfl) T.n_int bb_int (a_cons (x_var (i := 3)) a_nil)))) (nb x_int))) ae_nil))))
    (m_one (m_set (i := 3) (ne (x_op op_fdiv n_div (x_var (i := 3)) (nb x_int))) sc.nd)))
    m_nil)) PassesOwn.never rfl))
    (m_cons (m_set (i := 5) (ne (x_op op_mod n_mod (nb (x_call n_int (pe_callTy c_int (by rfl) T.n_int bb_int (a_cons (nb (x_op o_add n_add (nb (x_op o_add n_add (nb (x_op o_mul n_mul (x_var (i := 3)) (nb x_int))) (nb (x_op o_mul n_mul (x_var (i := 2)) (nb x_int))))) (nb x_int))) a_nil)))) (nb x_int))) sc.nd)
    (m_cons (m_expr (e_append (i := 1) (pe_bm PySem.F.plainAttrs_list PySem.F.slot_list_append PySem.F.type_list_append mt_append (pv 1) (ae_cons (be (x_var (i := 5))) ae_nil))))
    (m_one (m_expr (e_append (i := 1) (pe_bm PySem.F.plainAttrs_list PySem.F.slot_list_append PySem.F.type_list_append mt_append (pv 1) (ae_cons (ne (x_op op_mod n_mod (nb (x_call n_int (pe_callTy c_int (by rfl) T.n_int bb_int (a_cons (nb (x_op o_add n_add (nb (x_op o_add n_add (nb (x_op o_mul n_mul (x_var (i := 5)) (nb x_int))) (nb (x_op o_mul n_mul (x_var (i := 2)) (nb x_int))))) (nb x_int))) a_nil)))) (nb x_int))) ae_nil))))))))))) PassesOwn.never rfl)
    (m_one (m_ret (e_lst (ae_cons (e_frz (x_mv (i := 1))) (ae_cons (ne x_int) ae_nil))))))))
theorem ok__law_take : Okd P w K mg base CX0 1 "_law_take" (spI K 2 m__law_take) := by
  have sc := sc__law_take
  exact okdI (Z := (fun i => i == 0)) T.d__law_take sc rfl rfl (fun f cdv A outer s H E hr => by
    have hu5 : (A.deeper (PyProof.Rows.envOfC "_law_take" (defScope s__law_take) s.heap.objs.size f cdv)).units + 65 < cLine := by
      have h := hr.units
      have h2 := hr.un
      omega
    have hu := hr.units
    have hu1 : (A.deeper (PyProof.Rows.envOfC "_law_take" (defScope s__law_take) s.heap.objs.size f cdv)).units + 1 < cLine := Nat.lt_of_le_of_lt (Nat.add_le_add_left (by decide) _) hu
    exact (m_cons (m_set (i := 2) (be (x_ix (x_var (i := 0)) (nb x_int))) sc.nd)
    (m_cons (m_setIx (i := 0) (ne (x_op o_add n_add (x_var (i := 2)) (nb x_int))) (nb x_int))
    (m_cons (m_set (i := 3) (be (x_ix (x_var (i := 0)) (nb x_int))) sc.nd)
    (m_cons (m_if (t_cmp o_lt n_lt (x_var (i := 2)) (nb (x_call n_len (pe_callB c_len (by rfl) T.n_len bb_len (a_cons (x_var (i := 3)) a_nil)))) (nomark _))
    (m_one (m_ret (ne (x_op op_mod n_mod (nb (x_call n_int (pe_callTy c_int (by rfl) T.n_int bb_int (a_cons (x_ix (x_var (i := 3)) (x_var (i := 2))) a_nil)))) (x_var (i := 1))))))
    m_nil)
    (m_cons (m_set (i := 4) (ne (x_op op_mod n_mod (nb (x_call n_int (pe_callTy c_int (by rfl) T.n_int bb_int (a_cons (nb (x_op o_add n_add (nb (x_op o_add n_add (nb (x_op o_mul n_mul (x_var (i := 2)) (nb x_int))) (nb (x_op o_mul n_mul (nb (x_call n_len (pe_callB c_len (by rfl) T.n_len bb_len (a_cons (x_var (i := 3)) a_nil)))) (nb x_int))))) (nb x_int))) a_nil)))) (nb x_int))) sc.nd)
    (m_cons (m_if (t_cmp o_gt n_gt (nb (x_call n_len (pe_callB c_len (by rfl) T.n_len bb_len (a_cons (x_var (i := 3)) a_nil)))) (nb x_int) (nomark _))
    (m_one (m_set (i := 4) (ne (x_op op_mod n_mod (nb (x_call n_int (pe_callTy c_int (by rfl) T.n_int bb_int (a_cons (nb (x_op o_add n_add (x_var (i := 4)) (nb (x_op o_mul n_mul (x_ix (x_var (i := 3)) (nb (x_op op_sub n_sub (x_var (i := 2)) (nb (x_op o_mul n_mul (nb (x_op op_fdiv n_div (x_var (i := 2)) (nb (x_call n_len (pe_callB c_len (by rfl) T.n_len bb_len (a_cons (x_var (i := 3)) a_nil)))))) (nb (x_call n_len (pe_callB c_len (by rfl) T.n_len bb_len (a_cons (x_var (i := 3)) a_nil))))))))) (nb (x_op o_add n_add (nb (x_op op_fdiv n_div (x_var (i := 2)) (nb (x_call n_len (pe_callB c_len (by rfl) T.n_len bb_len (a_cons (x_var (i := 3)) a_nil)))))) (nb x_int))))))) a_nil)))) (nb x_int))) sc.nd))
    m_nil)
    (m_one (m_ret (ne (x_op op_mod n_mod (nb (x_call n_int (pe_callTy c_int (by rfl) T.n_int bb_int (a_cons (nb (x_op op_fdiv n_div (nb (x_op op_mod n_mod (nb (x_call n_int (pe_callTy c_int (by rfl) T.n_int bb_int (a_cons (nb (x_op o_mul n_mul (x_var (i := 4)) (nb x_int))) a_nil)))) (nb x_int))) (nb x_int))) a_nil)))) (x_var (i := 1)))))))))))))
theorem ok__law_name (o__law_take : Okd P w K mg base CX0 1 "_law_take" (spI K 2 m__law_take)) : Okd P w K mg base CX0 2 "_law_name" (spI K 2 m__law_name) := by
  have sc := sc__law_name
  exact okdI (Z := (fun i => i == 0 || i == 1)) T.d__law_name sc rfl rfl (fun f cdv A outer s H E hr => by
    have hu5 : (A.deeper (PyProof.Rows.envOfC "_law_name" (defScope s__law_name) s.heap.objs.size f cdv)).units + 65 < cLine := by
      have h := hr.units
      have h2 := hr.un
      omega
    have hu := hr.units
    have hu1 : (A.deeper (PyProof.Rows.envOfC "_law_name" (defScope s__law_name) s.heap.objs.size f cdv)).units + 1 < cLine := Nat.lt_of_le_of_lt (Nat.add_le_add_left (by decide) _) hu
    exact (m_cons (m_set (i := 2) (ne x_str) sc.nd)
    (m_cons (m_set (i := 3) (ne (x_op o_add n_add (x_var (i := 2)) (nb x_str))) sc.nd)
    (m_cons (m_set (i := 4) (v_ix (i := 2) (ei (ks := [0]) (n := 2) o__law_take hr (by decide) (fun e ds e1 h => by have := (lec len0) e ds e1 h; simp [this]) (nx__law_take) (av_cons (i := 0) (ae_cons (ne x_int) ae_nil)))) sc.nd)
    (m_cons (m_for (w_rng1 (by rfl) T.n_range (ae_cons (e_op o_mul n_mul (ei (ks := [0]) (n := 2) o__law_take hr (by decide) (fun e ds e1 h => by have := (lec len0) e ds e1 h; simp [this]) (nx__law_take) (av_cons (i := 0) (ae_cons (ne x_int) ae_nil))) (e_op o_add n_add (ne x_int) (ei (ks := [0]) (n := 2) o__law_take hr (by decide) (fun e ds e1 h => by have := (lec len0) e ds e1 h; simp [this]) (nx__law_take) (av_cons (i := 0) (ae_cons (ne x_int) ae_nil))))) ae_nil) (lec len0)) (g_name (i := 5) sc.nd)
    (m_one (m_set (i := 4) (v_op (i := 4) o_add n_add (v_ix (i := 3) (ei (ks := [0]) (n := 2) o__law_take hr (by decide) (fun e ds e1 h => by have := (lec len0) e ds e1 h; simp [this]) (nx__law_take) (av_cons (i := 0) (ae_cons (ne x_int) ae_nil))))) sc.nd)) PassesOwn.never rfl)
    (m_cons (m_set (i := 4) (ne (x_cut (x_var (i := 4)) o_none (o_some (nb x_int)))) sc.nd)
    (m_cons (m_for (w_rng1 (by rfl) T.n_range (ae_cons (ne x_int) ae_nil) (lec len0)) (g_name (i := 5) sc.nd)
    (m_one (m_if (t_cmp (o_in hu5) n_in (x_var (i := 4)) (x_var (i := 1)) (by rfl))
    (m_one (m_set (i := 4) (ne (x_op o_add n_add (nb (x_op o_add n_add (nb (x_cut (x_var (i := 4)) o_none (o_some (nb x_int)))) (nb x_str))) (nb (x_call n_str (pe_callTy c_str (by rfl) T.n_str bb_str (a_cons (x_var (i := 5)) a_nil)))))) sc.nd))
    m_nil)) PassesOwn.never rfl)
    (m_cons (m_expr (e_append (i := 1) (pe_bm PySem.F.plainAttrs_list PySem.F.slot_list_append PySem.F.type_list_append mt_append (pv 1) (ae_cons (be (x_var (i := 4))) ae_nil))))
    (m_one (m_ret (be (x_var (i := 4)))))))))))))
theorem ok__law_same : ∀ n : Nat, Okd P w K mg base CX0 (1 + n) "_law_same" (spN K 2 (m__law_same n))
  | 0 => okd0 T.d__law_same rfl
  | n + 1 => by
    have o_ := ok__law_same n
    have sc := sc__law_same
    exact okd T.d__law_same sc rfl rfl (fun f cdv A outer s H E hr => by
    have hu5 : (A.deeper (PyProof.Rows.envOfC "_law_same" (defScope s__law_same) s.heap.objs.size f cdv)).units + 65 < cLine := by
      have h := hr.units
      have h2 := hr.un
      omega
    have hu := hr.units
    have hu1 : (A.deeper (PyProof.Rows.envOfC "_law_same" (defScope s__law_same) s.heap.objs.size f cdv)).units + 1 < cLine := Nat.lt_of_le_of_lt (Nat.add_le_add_left (by decide) _) hu
    exact (m_cons (m_if (t_val (ne (x_call n_isi (pe_callB call_isi (by rfl) T.n_isinstance bb_isinstance (a_cons (x_var (i := 1)) (a_cons (nb (x_bltn (v := .ty "tuple") (by rfl) T.n_tuple bb_tuple rfl)) a_nil))))))
    (m_cons (m_if (PW.pt (t_or (t_not (t_val (ne (x_call n_isi (pe_callB call_isi (by rfl) T.n_isinstance bb_isinstance (a_cons (x_var (i := 0)) (a_cons (nb (x_bltn (v := .ty "tuple") (by rfl) T.n_tuple bb_tuple rfl)) a_nil))))))) (t_or1 (t_cmp (op_neD hu) n_ne (nb (x_call n_len (pe_callB c_len (by rfl) T.n_len bb_len (a_cons (x_var (i := 0)) a_nil)))) (nb (x_call n_len (pe_callB c_len (by rfl) T.n_len bb_len (a_cons (x_var (i := 1)) a_nil)))) (nomark _)))))
    (m_one (m_ret (ne x_bl)))
    m_nil)
    (m_cons (m_for (w_rng1 (by rfl) T.n_range (ae_cons (ne (x_call n_len (pe_callB c_len (by rfl) T.n_len bb_len (a_cons (x_var (i := 1)) a_nil)))) ae_nil) (lec len0)) (g_name (i := 2) sc.nd)
    (m_one (m_if (t_not (t_val (ne (xd o_ hr (lc (lc (fun _ _ => ln))) (nx__law_same _) (a_cons (x_ix (x_var (i := 0)) (x_var (i := 2))) (a_cons (x_ix (x_var (i := 1)) (x_var (i := 2))) a_nil))))))
    (m_one (m_ret (ne x_bl)))
    m_nil)) PassesOwn.never rfl)
    (m_one (m_ret (ne x_bl)))))
    m_nil)
    (m_cons (m_if (t_val (ne (x_call n_isi (pe_callB call_isi (by rfl) T.n_isinstance bb_isinstance (a_cons (x_var (i := 1)) (a_cons (nb (x_bltn (v := .ty "bool") (by rfl) T.n_bool bb_bool rfl)) a_nil))))))
    (m_one (m_ret (ne (x_and (nb (x_call n_isi (pe_callB call_isi (by rfl) T.n_isinstance bb_isinstance (a_cons (x_var (i := 0)) (a_cons (nb (x_bltn (v := .ty "bool") (by rfl) T.n_bool bb_bool rfl)) a_nil))))) (x_one (nb (x_cmp (op_eqD hu) n_eq (x_var (i := 0)) (x_var (i := 1)) (nomark _))))))))
    m_nil)
    (m_cons (m_if (t_val (ne (x_call n_isi (pe_callB call_isi (by rfl) T.n_isinstance bb_isinstance (a_cons (x_var (i := 1)) (a_cons (nb (x_bltn (v := .ty "int") (by rfl) T.n_int bb_int rfl)) a_nil))))))
    (m_one (m_ret (ne (x_and (nb (x_call n_isi (pe_callB call_isi (by rfl) T.n_isinstance bb_isinstance (a_cons (x_var (i := 0)) (a_cons (nb (x_bltn (v := .ty "int") (by rfl) T.n_int bb_int rfl)) a_nil))))) (nb (x_and (nb (x_not (nb (x_call n_isi (pe_callB call_isi (by rfl) T.n_isinstance bb_isinstance (a_cons (x_var (i := 0)) (a_cons (nb (x_bltn (v := .ty "bool") (by rfl) T.n_bool bb_bool rfl)) a_nil))))))) (x_one (nb (x_cmp (op_eqD hu) n_eq (x_var (i := 0)) (x_var (i := 1)) (nomark _))))))))))
    m_nil)
    (m_cons (m_if (t_val (ne (x_call n_isi (pe_callB call_isi (by rfl) T.n_isinstance bb_isinstance (a_cons (x_var (i := 1)) (a_cons (nb (x_bltn (v := .ty "str") (by rfl) T.n_str bb_str rfl)) a_nil))))))
    (m_one (m_ret (ne (x_and (nb (x_call n_isi (pe_callB call_isi (by rfl) T.n_isinstance bb_isinstance (a_cons (x_var (i := 0)) (a_cons (nb (x_bltn (v := .ty "str") (by rfl) T.n_str bb_str rfl)) a_nil))))) (x_one (nb (x_cmp (op_eqD hu) n_eq (x_var (i := 0)) (x_var (i := 1)) (nomark _))))))))
    m_nil)
    (m_one (m_ret (ne (x_and (nb (x_cmp o_is n_is (x_var (i := 0)) (nb x_non) (nomark _))) (x_one (nb (x_cmp o_is n_is (x_var (i := 1)) (nb x_non) (nomark _)))))))))))))
theorem ok__law_constraints (o__law_take : Okd P w K mg base CX0 1 "_law_take" (spI K 2 m__law_take)) : Okd P w K mg base CX0 2 "_law_constraints" (spI K 4 m__law_constraints) := by
  have sc := sc__law_constraints
  exact okdI (Z := (fun i => i == 0)) T.d__law_constraints sc rfl rfl (fun f cdv A outer s H E hr => by
    have hu5 : (A.deeper (PyProof.Rows.envOfC "_law_constraints" (defScope s__law_constraints) s.heap.objs.size f cdv)).units + 65 < cLine := by
      have h := hr.units
      have h2 := hr.un
      omega
    have hu := hr.units
    have hu1 : (A.deeper (PyProof.Rows.envOfC "_law_constraints" (defScope s__law_constraints) s.heap.objs.size f cdv)).units + 1 < cLine := Nat.lt_of_le_of_lt (Nat.add_le_add_left (by decide) _) hu
    exact (m_cons (m_set (i := 4) (ne (x_lst a_nil)) sc.nd)
    (m_cons (m_set (i := 5) (e_cmp o_gt n_gt (ei (ks := [0]) (n := 2) o__law_take hr (by decide) (fun e ds e1 h => by have := (lec len0) e ds e1 h; simp [this]) (nx__law_take) (av_cons (i := 0) (ae_cons (ne x_int) ae_nil))) (ne x_int) (nomark _)) sc.nd)
    (m_cons (m_for (w_rng1 (by rfl) T.n_range (ae_cons (be (x_var (i := 3))) ae_nil) (lec len0)) (g_name (i := 6) sc.nd)
    (m_cons (m_set (i := 7) (ei (ks := [0]) (n := 2) o__law_take hr (by decide) (fun e ds e1 h => by have := (lec len0) e ds e1 h; simp [this]) (nx__law_take) (av_cons (i := 0) (ae_cons (ne (x_op o_add n_add (nb (x_call n_len (pe_callB c_len (by rfl) T.n_len bb_len (a_cons (x_var (i := 2)) a_nil)))) (nb x_int))) ae_nil))) sc.nd)
    (m_cons (m_set (i := 8) (ei (ks := [0]) (n := 2) o__law_take hr (by decide) (fun e ds e1 h => by have := (lec len0) e ds e1 h; simp [this]) (nx__law_take) (av_cons (i := 0) (ae_cons (ne (x_op o_add n_add (nb (x_call n_len (pe_callB c_len (by rfl) T.n_len bb_len (a_cons (x_var (i := 2)) a_nil)))) (nb x_int))) ae_nil))) sc.nd)
    (m_cons (m_if (PW.pt (t_and (t_cmp (op_eqD hu) n_eq (x_var (i := 7)) (x_var (i := 8)) (nomark _)) (t_and1 (t_cmp (op_eqD hu) n_eq (x_var (i := 7)) (nb (x_call n_len (pe_callB c_len (by rfl) T.n_len bb_len (a_cons (x_var (i := 2)) a_nil)))) (nomark _)))))
    (m_one (m_set (i := 8) (ne x_int) sc.nd))
    m_nil)
    (m_cons (m_set (i := 9) (e_op op_sub n_sub (ei (ks := [0]) (n := 2) o__law_take hr (by decide) (fun e ds e1 h => by have := (lec len0) e ds e1 h; simp [this]) (nx__law_take) (av_cons (i := 0) (ae_cons (ne x_int) ae_nil))) (ne x_int)) sc.nd)
    (m_cons (m_if (te_cmp (op_eqD hu) n_eq (ei (ks := [0]) (n := 2) o__law_take hr (by decide) (fun e ds e1 h => by have := (lec len0) e ds e1 h; simp [this]) (nx__law_take) (av_cons (i := 0) (ae_cons (ne x_int) ae_nil))) (ne x_int) (nomark _))
    (m_one (m_set (i := 9) (e_ix (ne (x_lst (a_cons (nb (x_neg (nb x_int))) (a_cons (nb x_int) (a_cons (nb x_int) (a_cons (nb (x_neg (nb x_int))) (a_cons (nb x_int) a_nil))))))) (ei (ks := [0]) (n := 2) o__law_take hr (by decide) (fun e ds e1 h => by have := (lec len0) e ds e1 h; simp [this]) (nx__law_take) (av_cons (i := 0) (ae_cons (ne x_int) ae_nil)))) sc.nd))
    m_nil)
    (m_cons (m_if (PW.pt (t_and (t_val (be (x_var (i := 5)))) (t_and (t_cmp o_lt n_lt (x_var (i := 7)) (x_var (i := 8)) (nomark _)) (t_and1 (t_cmp o_lt n_lt (x_var (i := 7)) (nb (x_call n_len (pe_callB c_len (by rfl) T.n_len bb_len (a_cons (x_var (i := 2)) a_nil)))) (nomark _))))))
    (m_one (m_par (i := 7) (j := 8) (ae_cons (be (x_var (i := 8))) (ae_cons (be (x_var (i := 7))) ae_nil)) rfl sc.nd))
    m_nil)
    (m_cons (m_if (PW.pt (t_and (t_val (be (x_var (i := 5)))) (t_and1 (t_cmp (op_eqD hu) n_eq (x_var (i := 7)) (x_var (i := 8)) (nomark _)))))
    (m_one (m_set (i := 9) (ne (x_op op_sub n_sub (nb x_int) (nb (x_call n_abs (pe_callB call_abs (by rfl) T.n_abs bb_abs (a_cons (x_var (i := 9)) a_nil)))))) sc.nd))
    m_nil)
    (m_cons (m_if (PW.pt (t_and (t_cmp (op_eqD hu) n_eq (x_var (i := 7)) (nb (x_call n_len (pe_callB c_len (by rfl) T.n_len bb_len (a_cons (x_var (i := 2)) a_nil)))) (nomark _)) (t_and1 (te_cmp o_gt n_gt (ei (ks := [0]) (n := 2) o__law_take hr (by decide) (fun e ds e1 h => by have := (lec len0) e ds e1 h; simp [this]) (nx__law_take) (av_cons (i := 0) (ae_cons (ne x_int) ae_nil))) (ne x_int) (nomark _)))))
    (m_one (m_set (i := 9) (ne (x_op op_sub n_sub (x_var (i := 9)) (nb x_int))) sc.nd))
    m_nil)
    (m_cons (m_set (i := 10) (ne (x_op o_add n_add (nb (x_call n_list (pe_callTy call_list_of (by rfl) T.n_list bb_list (a_cons (x_var (i := 2)) a_nil)))) (nb (x_lst (a_cons (nb x_str) a_nil))))) sc.nd)
    (m_cons (m_set (i := 11) (ne (x_tup (a_cons (x_var (i := 1)) (a_cons (x_ix (x_var (i := 10)) (x_var (i := 7))) (a_cons (x_ix (x_var (i := 10)) (x_var (i := 8))) (a_cons (x_var (i := 9)) (a_cons (nb (x_op o_add n_add (nb x_str) (nb (x_call n_str (pe_callTy c_str (by rfl) T.n_str bb_str (a_cons (nb (x_op o_add n_add (x_var (i := 6)) (nb x_int))) a_nil)))))) a_nil))))))) sc.nd)
    (m_cons (m_if (PW.pt (t_and (t_cmp o_gt n_gt (nb (x_call n_len (pe_callB c_len (by rfl) T.n_len bb_len (a_cons (x_var (i := 4)) a_nil)))) (nb x_int) (nomark _)) (t_and1 (te_cmp (op_eqD hu) n_eq (ei (ks := [0]) (n := 2) o__law_take hr (by decide) (fun e ds e1 h => by have := (lec len0) e ds e1 h; simp [this]) (nx__law_take) (av_cons (i := 0) (ae_cons (ne x_int) ae_nil))) (ne x_int) (nomark _)))))
    (m_one (m_set (i := 11) (v_ix (i := 4) (ei (ks := [0]) (n := 2) o__law_take hr (by decide) (fun e ds e1 h => by have := (lec len0) e ds e1 h; simp [this]) (nx__law_take) (av_cons (i := 0) (ae_cons (ne (x_call n_len (pe_callB c_len (by rfl) T.n_len bb_len (a_cons (x_var (i := 4)) a_nil)))) ae_nil)))) sc.nd))
    m_nil)
    (m_cons (m_expr (e_append (i := 4) (pe_bm PySem.F.plainAttrs_list PySem.F.slot_list_append PySem.F.type_list_append mt_append (pv 4) (ae_cons (be (x_var (i := 11))) ae_nil))))
    (m_one (m_if (PW.pt (t_and (t_cmp o_lt n_lt (nb (x_call n_len (pe_callB c_len (by rfl) T.n_len bb_len (a_cons (x_var (i := 4)) a_nil)))) (nb x_int) (nomark _)) (t_and1 (te_cmp (op_eqD hu) n_eq (ei (ks := [0]) (n := 2) o__law_take hr (by decide) (fun e ds e1 h => by have := (lec len0) e ds e1 h; simp [this]) (nx__law_take) (av_cons (i := 0) (ae_cons (ne x_int) ae_nil))) (ne x_int) (nomark _)))))
    (m_one (m_expr (e_append (i := 4) (pe_bm PySem.F.plainAttrs_list PySem.F.slot_list_append PySem.F.type_list_append mt_append (pv 4) (ae_cons (ne (x_tup (a_cons (x_var (i := 1)) (a_cons (x_ix (x_var (i := 11)) (nb x_int)) (a_cons (x_ix (x_var (i := 11)) (nb x_int)) (a_cons (nb (x_neg (x_ix (x_var (i := 11)) (nb x_int)))) (a_cons (nb (x_op o_add n_add (nb x_str) (nb (x_call n_str (pe_callTy c_str (by rfl) T.n_str bb_str (a_cons (nb (x_op o_add n_add (x_var (i := 6)) (nb x_int))) a_nil)))))) a_nil))))))) ae_nil)))))
    m_nil)))))))))))))) PassesOwn.never rfl)
    (m_cons (m_if (te_cmp (op_eqD hu) n_eq (ei (ks := [0]) (n := 2) o__law_take hr (by decide) (fun e ds e1 h => by have := (lec len0) e ds e1 h; simp [this]) (nx__law_take) (av_cons (i := 0) (ae_cons (ne x_int) ae_nil))) (ne x_int) (nomark _))
    (m_one (m_set (i := 4) (ne (x_rev (x_var (i := 4)))) sc.nd))
    m_nil)
    (m_one (m_ret (ne (x_call n_tuple (pe_callTy call_tuple_of (by rfl) T.n_tuple bb_tuple (a_cons (x_var (i := 4)) a_nil)))))))))))
theorem ok__law_every : Okd P w K mg base CX0 1 "_law_every" (spN K 3 m__law_every) := by
  have sc := sc__law_every
  exact okd T.d__law_every sc rfl rfl (fun f cdv A outer s H E hr => by
    have hu5 : (A.deeper (PyProof.Rows.envOfC "_law_every" (defScope s__law_every) s.heap.objs.size f cdv)).units + 65 < cLine := by
      have h := hr.units
      have h2 := hr.un
      omega
    have hu := hr.units
    have hu1 : (A.deeper (PyProof.Rows.envOfC "_law_every" (defScope s__law_every) s.heap.objs.size f cdv)).units + 1 < cLine := Nat.lt_of_le_of_lt (Nat.add_le_add_left (by decide) _) hu
    exact (m_one (m_ret (e_op o_add n_add (e_comp (own := [("shape", 3)]) (w_val (be (x_var (i := 1)))) rfl sc.nd (blkOk_by (N := N__law_every) (sc := defScope s__law_every) (by decide +kernel)) (fun _ _ _ _ _ => (g_name (i := 3) sc.nd)) (fun _ _ _ _ _ => ts_nil) (fun _ _ _ _ _ => (ne (x_tup (a_cons (x_var (i := 0)) (a_cons (x_var (i := 3)) (a_cons (nb x_str) (a_cons (nb x_int) (a_cons (nb x_str) a_nil))))))))) (ne (x_call n_list (pe_callTy call_list_of (by rfl) T.n_list bb_list (a_cons (x_var (i := 2)) a_nil))))))))
theorem ok__law_chain : Okd P w K mg base CX0 1 "_law_chain" (spI K 2 m__law_chain) := by
  have sc := sc__law_chain
  exact okdI (Z := (fun i => i == 0)) T.d__law_chain sc rfl rfl (fun f cdv A outer s H E hr => by
    have hu5 : (A.deeper (PyProof.Rows.envOfC "_law_chain" (defScope s__law_chain) s.heap.objs.size f cdv)).units + 65 < cLine := by
      have h := hr.units
      have h2 := hr.un
      omega
    have hu := hr.units
    have hu1 : (A.deeper (PyProof.Rows.envOfC "_law_chain" (defScope s__law_chain) s.heap.objs.size f cdv)).units + 1 < cLine := Nat.lt_of_le_of_lt (Nat.add_le_add_left (by decide) _) hu
    exact (m_cons (m_set (i := 2) (ne (x_lst a_nil)) sc.nd)
    (m_cons (m_set (i := 3) (be (x_var (i := 1))) sc.nd)
    (m_cons (m_for (w_rng1 (by rfl) T.n_range (ae_cons (ne (x_op o_add n_add (nb (x_call n_len (pe_callB c_len (by rfl) T.n_len bb_len (a_cons (x_var (i := 0)) a_nil)))) (nb x_int))) ae_nil) (lec len0)) (g_name (i := 4) sc.nd)
    (m_one (m_if (t_cmp (op_neD hu) n_ne (x_var (i := 3)) (nb x_str) (nomark _))
    (m_cons (m_set (i := 2) (ne (x_op o_add n_add (nb (x_lst (a_cons (nb (x_dget hu1 (x_var (i := 0)) (x_var (i := 3)))) a_nil))) (x_var (i := 2)))) sc.nd)
    (m_one (m_set (i := 3) (be (x_ix (nb (x_dget hu1 (x_var (i := 0)) (x_var (i := 3)))) (nb x_int))) sc.nd)))
    m_nil)) PassesOwn.never rfl)
    (m_one (m_ret (ne (x_call n_tuple (pe_callTy call_tuple_of (by rfl) T.n_tuple bb_tuple (a_cons (x_var (i := 2)) a_nil))))))))))
theorem ok__law_due (o__law_chain : Okd P w K mg base CX0 1 "_law_chain" (spI K 2 m__law_chain)) (o__law_every : Okd P w K mg base CX0 1 "_law_every" (spN K 3 m__law_every)) : Okd P w K mg base CX0 2 "_law_due" (spN K 3 m__law_due) := by
  have sc := sc__law_due
  exact okd T.d__law_due sc rfl rfl (fun f cdv A outer s H E hr => by
    have hu5 : (A.deeper (PyProof.Rows.envOfC "_law_due" (defScope s__law_due) s.heap.objs.size f cdv)).units + 65 < cLine := by
      have h := hr.units
      have h2 := hr.un
      omega
    have hu := hr.units
    have hu1 : (A.deeper (PyProof.Rows.envOfC "_law_due" (defScope s__law_due) s.heap.objs.size f cdv)).units + 1 < cLine := Nat.lt_of_le_of_lt (Nat.add_le_add_left (by decide) _) hu
    exact (m_cons (m_set (i := 3) (ne (x_disp (kvs := [((.inr ""), (.int 0))]) (ds := [((.str (lit "")), (.int 0))]) (pe_disp (pps_cons pe_str pe_int pps_nil) (by rfl) (by rfl) (fun z => by cases z) (by decide)) (fun _ _ _ q => q) (by decide +kernel) (by decide) rfl (fun _ => (.cons .int .nil)))) sc.nd)
    (m_cons (m_set (i := 4) (ne x_newD) sc.nd)
    (m_cons (m_forV (i := 1) (g_name (i := 5) sc.nd)
    (m_cons (m_dset (i := 3) hu1 (ne x_int) (x_var (i := 5)))
    (m_one (m_dset (i := 4) hu1 (ne (x_tup (a_cons (x_var (i := 0)) (a_cons (x_var (i := 5)) (a_cons (nb x_str) (a_cons (nb x_int) (a_cons (nb x_str) a_nil))))))) (x_var (i := 5))))) PassesOwn.never rfl)
    (m_cons (m_set (i := 6) (ne x_str) sc.nd)
    (m_cons (m_for (w_rng1 (by rfl) T.n_range (ae_cons (ne (x_op o_add n_add (nb (x_call n_len (pe_callB c_len (by rfl) T.n_len bb_len (a_cons (x_var (i := 1)) a_nil)))) (nb x_int))) ae_nil) (lec len0)) (g_name (i := 7) sc.nd)
    (m_cons (m_set (i := 6) (ne x_non) sc.nd)
    (m_cons (m_for (w_val (ne (xd o__law_every hr (lc (lc (lc (fun _ _ => ln)))) (nx__law_every) (a_cons (x_var (i := 0)) (a_cons (x_var (i := 1)) (a_cons (x_var (i := 2)) a_nil)))))) (g_name (i := 8) sc.nd)
    (m_cons (m_set (i := 9) (ne (x_op o_add n_add (nb (x_dget hu1 (x_var (i := 3)) (x_ix (x_var (i := 8)) (nb x_int)))) (x_ix (x_var (i := 8)) (nb x_int)))) sc.nd)
    (m_one (m_if (t_cmp o_lt n_lt (nb (x_dget hu1 (x_var (i := 3)) (x_ix (x_var (i := 8)) (nb x_int)))) (x_var (i := 9)) (nomark _))
    (m_cons (m_dset (i := 3) hu1 (be (x_var (i := 9))) (x_ix (x_var (i := 8)) (nb x_int)))
    (m_cons (m_dset (i := 4) hu1 (be (x_var (i := 8))) (x_ix (x_var (i := 8)) (nb x_int)))
    (m_one (m_set (i := 6) (be (x_ix (x_var (i := 8)) (nb x_int))) sc.nd))))
    m_nil))) PassesOwn.never rfl)
    (m_one (m_if (t_cmp o_is n_is (x_var (i := 6)) (nb x_non) (nomark _))
    (m_cons (m_setLc (i := 10) (own := [("shape", 5)]) (w_val (be (x_var (i := 1)))) rfl sc.nd (sw_true rfl rfl rfl (by decide +kernel)) (blkOk_by (N := N__law_due) (sc := defScope s__law_due) (by decide +kernel)) (fun _ _ _ _ _ => (g_name (i := 5) sc.nd)) (fun _ _ _ _ _ => ts_nil) (fun _ _ _ _ _ => (ei (ks := [4]) (n := 2) o__law_chain hr (by decide) (fun e ds e1 h => by have := (lec len0) e ds e1 h; simp [this]) (nx__law_chain) (av_cons (i := 4) (ae_cons (be (x_var (i := 5))) ae_nil)))))
    (m_one (m_ret (e_tup (ae_cons (ne x_str) (ae_cons (e_call n_tuple (pe_callTy call_tuple_of (by rfl) T.n_tuple bb_tuple (ae_cons (e_comp (own := [("shape", 5)]) (w_val (be (x_var (i := 1)))) rfl sc.nd (blkOk_by (N := N__law_due) (sc := defScope s__law_due) (by decide +kernel)) (fun _ _ _ _ _ => (g_name (i := 5) sc.nd)) (fun _ _ _ _ _ => ts_nil) (fun _ _ _ _ _ => (ne (x_dget hu1 (x_var (i := 3)) (x_var (i := 5)))))) ae_nil))) (ae_cons (ne (x_call n_tuple (pe_callTy call_tuple_of (by rfl) T.n_tuple bb_tuple (a_cons (x_var (i := 10)) a_nil)))) ae_nil)))))))
    m_nil)))) PassesOwn.never rfl)
    (m_cons (m_set (i := 11) (be (x_var (i := 6))) sc.nd)
    (m_cons (m_for (w_rng1 (by rfl) T.n_range (ae_cons (ne (x_op o_add n_add (nb (x_call n_len (pe_callB c_len (by rfl) T.n_len bb_len (a_cons (x_var (i := 1)) a_nil)))) (nb x_int))) ae_nil) (lec len0)) (g_name (i := 12) sc.nd)
    (m_one (m_set (i := 11) (be (x_ix (nb (x_dget hu1 (x_var (i := 4)) (x_var (i := 11)))) (nb x_int))) sc.nd)) PassesOwn.never rfl)
    (m_cons (m_set (i := 13) (ne (x_lst (a_cons (nb (x_dget hu1 (x_var (i := 4)) (x_var (i := 11)))) a_nil))) sc.nd)
    (m_cons (m_for (w_rng1 (by rfl) T.n_range (ae_cons (ne (x_op o_add n_add (nb (x_call n_len (pe_callB c_len (by rfl) T.n_len bb_len (a_cons (x_var (i := 1)) a_nil)))) (nb x_int))) ae_nil) (lec len0)) (g_name (i := 12) sc.nd)
    (m_one (m_if (t_cmp (op_neD hu) n_ne (x_ix (x_ix (x_var (i := 13)) (nb x_int)) (nb x_int)) (x_var (i := 11)) (nomark _))
    (m_one (m_set (i := 13) (ne (x_op o_add n_add (nb (x_lst (a_cons (nb (x_dget hu1 (x_var (i := 4)) (x_ix (x_ix (x_var (i := 13)) (nb x_int)) (nb x_int)))) a_nil))) (x_var (i := 13)))) sc.nd))
    m_nil)) PassesOwn.never rfl)
    (m_one (m_ret (ne (x_tup (a_cons (nb x_str) (a_cons (nb (x_call n_tuple (pe_callTy call_tuple_of (by rfl) T.n_tuple bb_tuple (a_cons (x_var (i := 13)) a_nil)))) a_nil))))))))))))))))
theorem ok__law_keeps (o__law_every : Okd P w K mg base CX0 1 "_law_every" (spN K 3 m__law_every)) : Okd P w K mg base CX0 2 "_law_keeps" (spN K 4 m__law_keeps) := by
  have sc := sc__law_keeps
  exact okd T.d__law_keeps sc rfl rfl (fun f cdv A outer s H E hr => by
    have hu5 : (A.deeper (PyProof.Rows.envOfC "_law_keeps" (defScope s__law_keeps) s.heap.objs.size f cdv)).units + 65 < cLine := by
      have h := hr.units
      have h2 := hr.un
      omega
    have hu := hr.units
    have hu1 : (A.deeper (PyProof.Rows.envOfC "_law_keeps" (defScope s__law_keeps) s.heap.objs.size f cdv)).units + 1 < cLine := Nat.lt_of_le_of_lt (Nat.add_le_add_left (by decide) _) hu
    exact (m_cons (m_set (i := 4) (ne (x_disp (kvs := [((.inr ""), (.int 0))]) (ds := [((.str (lit "")), (.int 0))]) (pe_disp (pps_cons pe_str pe_int pps_nil) (by rfl) (by rfl) (fun z => by cases z) (by decide)) (fun _ _ _ q => q) (by decide +kernel) (by decide) rfl (fun _ => (.cons .int .nil)))) sc.nd)
    (m_cons (m_for (w_rng1 (by rfl) T.n_range (ae_cons (ne (x_call n_len (pe_callB c_len (by rfl) T.n_len bb_len (a_cons (x_var (i := 1)) a_nil)))) ae_nil) (lec len0)) (g_name (i := 5) sc.nd)
    (m_one (m_dset (i := 4) hu1 (be (x_ix (x_var (i := 3)) (x_var (i := 5)))) (x_ix (x_var (i := 1)) (x_var (i := 5))))) PassesOwn.never rfl)
    (m_cons (m_for (w_val (ne (xd o__law_every hr (lc (lc (lc (fun _ _ => ln)))) (nx__law_every) (a_cons (x_var (i := 0)) (a_cons (x_var (i := 1)) (a_cons (x_var (i := 2)) a_nil)))))) (g_name (i := 6) sc.nd)
    (m_one (m_if (t_cmp o_lt n_lt (nb (x_dget hu1 (x_var (i := 4)) (x_ix (x_var (i := 6)) (nb x_int)))) (nb (x_op o_add n_add (nb (x_dget hu1 (x_var (i := 4)) (x_ix (x_var (i := 6)) (nb x_int)))) (x_ix (x_var (i := 6)) (nb x_int)))) (nomark _))
    (m_one (m_ret (ne x_bl)))
    m_nil)) PassesOwn.never rfl)
    (m_one (m_ret (ne x_bl)))))))
theorem ok__law_walk (o__law_every : Okd P w K mg base CX0 1 "_law_every" (spN K 3 m__law_every)) : Okd P w K mg base CX0 2 "_law_walk" (spN K 4 m__law_walk) := by
  have sc := sc__law_walk
  exact okd T.d__law_walk sc rfl rfl (fun f cdv A outer s H E hr => by
    have hu5 : (A.deeper (PyProof.Rows.envOfC "_law_walk" (defScope s__law_walk) s.heap.objs.size f cdv)).units + 65 < cLine := by
      have h := hr.units
      have h2 := hr.un
      omega
    have hu := hr.units
    have hu1 : (A.deeper (PyProof.Rows.envOfC "_law_walk" (defScope s__law_walk) s.heap.objs.size f cdv)).units + 1 < cLine := Nat.lt_of_le_of_lt (Nat.add_le_add_left (by decide) _) hu
    exact (m_cons (m_set (i := 4) (ne (xd o__law_every hr (lc (lc (lc (fun _ _ => ln)))) (nx__law_every) (a_cons (x_var (i := 0)) (a_cons (x_var (i := 1)) (a_cons (x_var (i := 2)) a_nil))))) sc.nd)
    (m_cons (m_set (i := 5) (ne x_int) sc.nd)
    (m_cons (m_for (w_rng1 (by rfl) T.n_range (ae_cons (ne (x_call n_len (pe_callB c_len (by rfl) T.n_len bb_len (a_cons (x_var (i := 3)) a_nil)))) ae_nil) (lec len0)) (g_name (i := 6) sc.nd)
    (m_cons (m_if (PW.pt (t_or (t_cmp (o_notIn hu5) n_notIn (x_ix (x_var (i := 3)) (x_var (i := 6))) (x_var (i := 4)) (by rfl)) (t_or1 (PW.pt (t_and (t_cmp o_gt n_gt (x_var (i := 6)) (nb x_int) (nomark _)) (t_and1 (t_cmp (op_neD hu) n_ne (x_ix (x_ix (x_var (i := 3)) (x_var (i := 6))) (nb x_int)) (x_ix (x_ix (x_var (i := 3)) (nb (x_op op_sub n_sub (x_var (i := 6)) (nb x_int)))) (nb x_int)) (nomark _))))))))
    (m_one (m_ret (ne x_non)))
    m_nil)
    (m_one (m_set (i := 5) (ne (x_op o_add n_add (x_var (i := 5)) (x_ix (x_ix (x_var (i := 3)) (x_var (i := 6))) (nb x_int)))) sc.nd))) PassesOwn.never rfl)
    (m_cons (m_if (t_cmp (op_eqD hu) n_eq (nb (x_call n_len (pe_callB c_len (by rfl) T.n_len bb_len (a_cons (x_var (i := 3)) a_nil)))) (nb x_int) (nomark _))
    (m_one (m_ret (ne x_non)))
    m_nil)
    (m_one (m_ret (ne (x_tup (a_cons (x_ix (x_ix (x_var (i := 3)) (nb x_int)) (nb x_int)) (a_cons (x_ix (x_ix (x_var (i := 3)) (nb (x_neg (nb x_int)))) (nb x_int)) (a_cons (x_var (i := 5)) a_nil))))))))))))
theorem ok__law_near (o__law_every : Okd P w K mg base CX0 1 "_law_every" (spN K 3 m__law_every)) (o__law_take : Okd P w K mg base CX0 1 "_law_take" (spI K 2 m__law_take)) : Okd P w K mg base CX0 2 "_law_near" (spI K 5 m__law_near) := by
  have sc := sc__law_near
  exact okdI (Z := (fun i => i == 0)) T.d__law_near sc rfl rfl (fun f cdv A outer s H E hr => by
    have hu5 : (A.deeper (PyProof.Rows.envOfC "_law_near" (defScope s__law_near) s.heap.objs.size f cdv)).units + 65 < cLine := by
      have h := hr.units
      have h2 := hr.un
      omega
    have hu := hr.units
    have hu1 : (A.deeper (PyProof.Rows.envOfC "_law_near" (defScope s__law_near) s.heap.objs.size f cdv)).units + 1 < cLine := Nat.lt_of_le_of_lt (Nat.add_le_add_left (by decide) _) hu
    exact (m_cons (m_set (i := 5) (ei (ks := [0]) (n := 2) o__law_take hr (by decide) (fun e ds e1 h => by have := (lec len0) e ds e1 h; simp [this]) (nx__law_take) (av_cons (i := 0) (ae_cons (ne (x_call n_len (pe_callB c_len (by rfl) T.n_len bb_len (a_cons (x_var (i := 4)) a_nil)))) ae_nil))) sc.nd)
    (m_cons (m_set (i := 6) (ne (xd o__law_every hr (lc (lc (lc (fun _ _ => ln)))) (nx__law_every) (a_cons (x_var (i := 1)) (a_cons (x_var (i := 2)) (a_cons (x_var (i := 3)) a_nil))))) sc.nd)
    (m_cons (m_asg (be (x_ix (x_var (i := 4)) (x_var (i := 5)))) (g_tup rfl (gs_cons (i := 7) sc.nd (gs_cons (i := 8) sc.nd (gs_cons (i := 9) sc.nd (gs_cons (i := 10) sc.nd (gs_cons (i := 11) sc.nd gs_nil)))))))
    (m_cons (m_set (i := 12) (v_ix (i := 6) (ei (ks := [0]) (n := 2) o__law_take hr (by decide) (fun e ds e1 h => by have := (lec len0) e ds e1 h; simp [this]) (nx__law_take) (av_cons (i := 0) (ae_cons (ne (x_call n_len (pe_callB c_len (by rfl) T.n_len bb_len (a_cons (x_var (i := 6)) a_nil)))) ae_nil)))) sc.nd)
    (m_cons (m_set (i := 13) (ne (x_lst (a_cons (nb (x_tup (a_cons (x_var (i := 7)) (a_cons (x_var (i := 8)) (a_cons (x_var (i := 9)) (a_cons (nb (x_op o_add n_add (x_var (i := 10)) (nb x_int))) (a_cons (x_var (i := 11)) a_nil))))))) (a_cons (nb (x_tup (a_cons (x_var (i := 7)) (a_cons (x_var (i := 9)) (a_cons (x_var (i := 8)) (a_cons (x_var (i := 10)) (a_cons (x_var (i := 11)) a_nil))))))) (a_cons (x_var (i := 12)) (a_cons (nb (x_tup (a_cons (x_var (i := 7)) (a_cons (x_var (i := 8)) (a_cons (x_var (i := 9)) (a_cons (x_var (i := 10)) (a_cons (nb x_str) a_nil))))))) a_nil)))))) sc.nd)
    (m_cons (m_set (i := 14) (ei (ks := [0]) (n := 2) o__law_take hr (by decide) (fun e ds e1 h => by have := (lec len0) e ds e1 h; simp [this]) (nx__law_take) (av_cons (i := 0) (ae_cons (ne x_int) ae_nil))) sc.nd)
    (m_cons (m_if (t_cmp o_lt n_lt (x_var (i := 14)) (nb x_int) (nomark _))
    (m_one (m_ret (ne (x_op o_add n_add (nb (x_op o_add n_add (nb (x_cut (x_var (i := 4)) o_none (o_some (x_var (i := 5))))) (nb (x_tup (a_cons (x_ix (x_var (i := 13)) (x_var (i := 14))) a_nil))))) (nb (x_cut (x_var (i := 4)) (o_some (nb (x_op o_add n_add (x_var (i := 5)) (nb x_int)))) o_none))))))
    m_nil)
    (m_cons (m_if (t_cmp (op_eqD hu) n_eq (x_var (i := 14)) (nb x_int) (nomark _))
    (m_one (m_ret (ne (x_op o_add n_add (nb (x_cut (x_var (i := 4)) o_none (o_some (x_var (i := 5))))) (nb (x_cut (x_var (i := 4)) (o_some (nb (x_op o_add n_add (x_var (i := 5)) (nb x_int)))) o_none))))))
    m_nil)
    (m_cons (m_if (t_cmp (op_eqD hu) n_eq (x_var (i := 14)) (nb x_int) (nomark _))
    (m_one (m_ret (ne (x_op o_add n_add (x_var (i := 4)) (nb (x_tup (a_cons (x_var (i := 12)) a_nil)))))))
    m_nil)
    (m_cons (m_if (t_cmp (op_eqD hu) n_eq (x_var (i := 14)) (nb x_int) (nomark _))
    (m_one (m_ret (ne (x_op o_add n_add (nb (x_cut (x_var (i := 4)) (o_some (x_var (i := 5))) o_none)) (nb (x_cut (x_var (i := 4)) o_none (o_some (x_var (i := 5)))))))))
    m_nil)
    (m_one (m_ret (ne (x_op o_add n_add (nb (x_op o_add n_add (nb (x_cut (x_var (i := 4)) o_none (o_some (x_var (i := 5))))) (nb (x_tup (a_cons (x_var (i := 12)) a_nil))))) (nb (x_cut (x_var (i := 4)) (o_some (x_var (i := 5))) o_none)))))))))))))))))
theorem ok__law_wrong (o__law_take : Okd P w K mg base CX0 1 "_law_take" (spI K 2 m__law_take)) : Okd P w K mg base CX0 2 "_law_wrong" (spI K 2 m__law_wrong) := by
  have sc := sc__law_wrong
  exact okdI (Z := (fun i => i == 0)) T.d__law_wrong sc rfl rfl (fun f cdv A outer s H E hr => by
    have hu5 : (A.deeper (PyProof.Rows.envOfC "_law_wrong" (defScope s__law_wrong) s.heap.objs.size f cdv)).units + 65 < cLine := by
      have h := hr.units
      have h2 := hr.un
      omega
    have hu := hr.units
    have hu1 : (A.deeper (PyProof.Rows.envOfC "_law_wrong" (defScope s__law_wrong) s.heap.objs.size f cdv)).units + 1 < cLine := Nat.lt_of_le_of_lt (Nat.add_le_add_left (by decide) _) hu
    exact (m_cons (m_set (i := 2) (ei (ks := [0]) (n := 2) o__law_take hr (by decide) (fun e ds e1 h => by have := (lec len0) e ds e1 h; simp [this]) (nx__law_take) (av_cons (i := 0) (ae_cons (ne (x_call n_len (pe_callB c_len (by rfl) T.n_len bb_len (a_cons (x_var (i := 1)) a_nil)))) ae_nil))) sc.nd)
    (m_cons (m_asg (be (x_ix (x_var (i := 1)) (x_var (i := 2)))) (g_tup rfl (gs_cons (i := 3) sc.nd (gs_cons (i := 4) sc.nd (gs_cons (i := 5) sc.nd (gs_cons (i := 6) sc.nd (gs_cons (i := 7) sc.nd gs_nil)))))))
    (m_cons (m_set (i := 8) (ne (x_op o_add n_add (nb (x_op o_add n_add (nb (x_cut (x_var (i := 1)) o_none (o_some (x_var (i := 2))))) (nb (x_tup (a_cons (nb (x_tup (a_cons (x_var (i := 3)) (a_cons (x_var (i := 4)) (a_cons (x_var (i := 5)) (a_cons (nb (x_cmp (op_eqD hu) n_eq (x_var (i := 6)) (nb x_int) (nomark _))) (a_cons (x_var (i := 7)) a_nil))))))) a_nil))))) (nb (x_cut (x_var (i := 1)) (o_some (nb (x_op o_add n_add (x_var (i := 2)) (nb x_int)))) o_none)))) sc.nd)
    (m_cons (m_set (i := 9) (e_lst (ae_cons (e_frz (ne (x_call n_list (pe_callTy call_list_of (by rfl) T.n_list bb_list (a_cons (x_var (i := 1)) a_nil))))) (ae_cons (ne x_non) (ae_cons (ne x_int) (ae_cons (ne x_str) (ae_cons (be (x_var (i := 8))) (ae_cons (ne (x_op o_add n_add (nb (x_op o_add n_add (nb (x_cut (x_var (i := 1)) o_none (o_some (x_var (i := 2))))) (nb (x_tup (a_cons (nb x_non) a_nil))))) (nb (x_cut (x_var (i := 1)) (o_some (nb (x_op o_add n_add (x_var (i := 2)) (nb x_int)))) o_none)))) (ae_cons (ne (x_op o_add n_add (nb (x_op o_add n_add (nb (x_cut (x_var (i := 1)) o_none (o_some (x_var (i := 2))))) (nb (x_tup (a_cons (nb (x_cut (x_ix (x_var (i := 1)) (x_var (i := 2))) o_none (o_some (nb x_int)))) a_nil))))) (nb (x_cut (x_var (i := 1)) (o_some (nb (x_op o_add n_add (x_var (i := 2)) (nb x_int)))) o_none)))) ae_nil)))))))) sc.nd)
    (m_one (m_ret (v_ix (i := 9) (ei (ks := [0]) (n := 2) o__law_take hr (by decide) (fun e ds e1 h => by have := (lec len0) e ds e1 h; simp [this]) (nx__law_take) (av_cons (i := 0) (ae_cons (ne x_int) ae_nil)))))))))))
theorem ok__law_judges_chain (o__law_near : Okd P w K mg base CX0 2 "_law_near" (spI K 5 m__law_near)) (o__law_same : Okd P w K mg base CX0 11 "_law_same" (spN K 2 (m__law_same 10))) (o__law_walk : Okd P w K mg base CX0 2 "_law_walk" (spN K 4 m__law_walk)) (o__law_wrong : Okd P w K mg base CX0 2 "_law_wrong" (spI K 2 m__law_wrong)) (o_is_chain : Okd P w K mg base CX0 4 "is_chain" (spN K 6 m_is_chain)) : Okd P w K mg base CX0 12 "_law_judges_chain" (spI K 7 m__law_judges_chain) := by
  have sc := sc__law_judges_chain
  exact okdI (Z := (fun i => i == 0)) T.d__law_judges_chain sc rfl rfl (fun f cdv A outer s H E hr => by
    have hu5 : (A.deeper (PyProof.Rows.envOfC "_law_judges_chain" (defScope s__law_judges_chain) s.heap.objs.size f cdv)).units + 65 < cLine := by
      have h := hr.units
      have h2 := hr.un
      omega
    have hu := hr.units
    have hu1 : (A.deeper (PyProof.Rows.envOfC "_law_judges_chain" (defScope s__law_judges_chain) s.heap.objs.size f cdv)).units + 1 < cLine := Nat.lt_of_le_of_lt (Nat.add_le_add_left (by decide) _) hu
    exact (m_cons (m_if (t_cmp o_isnt n_isnt (nb (xd o_is_chain hr (lc (lc (lc (lc (lc (lc (fun _ _ => ln))))))) (nx_is_chain) (a_cons (x_var (i := 1)) (a_cons (x_var (i := 2)) (a_cons (x_var (i := 3)) (a_cons (x_var (i := 4)) (a_cons (x_var (i := 5)) (a_cons (x_var (i := 6)) a_nil)))))))) (nb x_bl) (nomark _))
    (m_one (m_ret (ne x_bl)))
    m_nil)
    (m_cons (m_if (t_cmp o_isnt n_isnt (nb (xd o_is_chain hr (lc (lc (lc (lc (lc (lc (fun _ _ => ln))))))) (nx_is_chain) (a_cons (x_var (i := 1)) (a_cons (x_var (i := 2)) (a_cons (x_var (i := 3)) (a_cons (x_var (i := 4)) (a_cons (x_var (i := 5)) (a_cons (nb (x_tup a_nil)) a_nil)))))))) (nb x_bl) (nomark _))
    (m_one (m_ret (ne x_bl)))
    m_nil)
    (m_cons (m_set (i := 7) (ei (ks := [0]) (n := 5) o__law_near hr (by decide) (fun e ds e1 h => by have := (lec (lec (lec (lec len0)))) e ds e1 h; simp [this]) (nx__law_near) (av_cons (i := 0) (ae_cons (be (x_var (i := 1))) (ae_cons (be (x_var (i := 2))) (ae_cons (be (x_var (i := 3))) (ae_cons (be (x_var (i := 6))) ae_nil)))))) sc.nd)
    (m_cons (m_set (i := 8) (ne (x_cmp (op_eqD hu) n_eq (nb (xd o__law_walk hr (lc (lc (lc (lc (fun _ _ => ln))))) (nx__law_walk) (a_cons (x_var (i := 1)) (a_cons (x_var (i := 2)) (a_cons (x_var (i := 3)) (a_cons (x_var (i := 7)) a_nil)))))) (nb (x_tup (a_cons (nb x_str) (a_cons (x_var (i := 4)) (a_cons (x_var (i := 5)) a_nil))))) (nomark _))) sc.nd)
    (m_cons (m_if (t_not (t_val (ne (xd o__law_same hr (lc (lc (fun _ _ => ln))) (nx__law_same _) (a_cons (nb (xd o_is_chain hr (lc (lc (lc (lc (lc (lc (fun _ _ => ln))))))) (nx_is_chain) (a_cons (x_var (i := 1)) (a_cons (x_var (i := 2)) (a_cons (x_var (i := 3)) (a_cons (x_var (i := 4)) (a_cons (x_var (i := 5)) (a_cons (x_var (i := 7)) a_nil)))))))) (a_cons (x_var (i := 8)) a_nil))))))
    (m_one (m_ret (ne x_bl)))
    m_nil)
    (m_cons (m_if (t_cmp o_isnt n_isnt (nb (xd o_is_chain hr (lc (lc (lc (lc (lc (lc (fun _ _ => ln))))))) (nx_is_chain) (a_cons (x_var (i := 1)) (a_cons (x_var (i := 2)) (a_cons (x_var (i := 3)) (a_cons (x_var (i := 4)) (a_cons (nb (x_op o_add n_add (x_var (i := 5)) (nb x_int))) (a_cons (x_var (i := 6)) a_nil)))))))) (nb x_bl) (nomark _))
    (m_one (m_ret (ne x_bl)))
    m_nil)
    (m_one (m_ret (e_cmp o_is n_is (ed o_is_chain hr (lec (lec (lec (lec (lec (lec len0)))))) (nx_is_chain) (ae_cons (be (x_var (i := 1))) (ae_cons (be (x_var (i := 2))) (ae_cons (be (x_var (i := 3))) (ae_cons (be (x_var (i := 4))) (ae_cons (be (x_var (i := 5))) (ae_cons (ei (ks := [0]) (n := 2) o__law_wrong hr (by decide) (fun e ds e1 h => by have := (lec len0) e ds e1 h; simp [this]) (nx__law_wrong) (av_cons (i := 0) (ae_cons (be (x_var (i := 6))) ae_nil))) ae_nil))))))) (ne x_bl) (nomark _)))))))))))
theorem ok__law_judges_places (o__law_keeps : Okd P w K mg base CX0 2 "_law_keeps" (spN K 4 m__law_keeps)) (o__law_same : Okd P w K mg base CX0 11 "_law_same" (spN K 2 (m__law_same 10))) (o__law_take : Okd P w K mg base CX0 1 "_law_take" (spI K 2 m__law_take)) (o_is_places : Okd P w K mg base CX0 3 "is_places" (spN K 4 m_is_places)) : Okd P w K mg base CX0 12 "_law_judges_places" (spI K 5 m__law_judges_places) := by
  have sc := sc__law_judges_places
  exact okdI (Z := (fun i => i == 0)) T.d__law_judges_places sc rfl rfl (fun f cdv A outer s H E hr => by
    have hu5 : (A.deeper (PyProof.Rows.envOfC "_law_judges_places" (defScope s__law_judges_places) s.heap.objs.size f cdv)).units + 65 < cLine := by
      have h := hr.units
      have h2 := hr.un
      omega
    have hu := hr.units
    have hu1 : (A.deeper (PyProof.Rows.envOfC "_law_judges_places" (defScope s__law_judges_places) s.heap.objs.size f cdv)).units + 1 < cLine := Nat.lt_of_le_of_lt (Nat.add_le_add_left (by decide) _) hu
    exact (m_cons (m_if (t_cmp o_isnt n_isnt (nb (xd o_is_places hr (lc (lc (lc (lc (fun _ _ => ln))))) (nx_is_places) (a_cons (x_var (i := 1)) (a_cons (x_var (i := 2)) (a_cons (x_var (i := 3)) (a_cons (x_var (i := 4)) a_nil)))))) (nb x_bl) (nomark _))
    (m_one (m_ret (ne x_bl)))
    m_nil)
    (m_cons (m_for (w_rng1 (by rfl) T.n_range (ae_cons (ne x_int) ae_nil) (lec len0)) (g_name (i := 5) sc.nd)
    (m_cons (m_set (i := 6) (ei (ks := [0]) (n := 2) o__law_take hr (by decide) (fun e ds e1 h => by have := (lec len0) e ds e1 h; simp [this]) (nx__law_take) (av_cons (i := 0) (ae_cons (ne (x_call n_len (pe_callB c_len (by rfl) T.n_len bb_len (a_cons (x_var (i := 2)) a_nil)))) ae_nil))) sc.nd)
    (m_cons (m_set (i := 7) (ne (x_op o_add n_add (x_ix (x_var (i := 4)) (x_var (i := 6))) (x_ix (nb (x_lst (a_cons (nb (x_neg (nb x_int))) (a_cons (nb x_int) (a_cons (nb x_int) a_nil))))) (x_var (i := 5))))) sc.nd)
    (m_cons (m_set (i := 8) (ne (x_op o_add n_add (nb (x_op o_add n_add (nb (x_cut (x_var (i := 4)) o_none (o_some (x_var (i := 6))))) (nb (x_tup (a_cons (x_var (i := 7)) a_nil))))) (nb (x_cut (x_var (i := 4)) (o_some (nb (x_op o_add n_add (x_var (i := 6)) (nb x_int)))) o_none)))) sc.nd)
    (m_cons (m_set (i := 9) (ne (x_and (nb (x_cmp o_ge n_ge (x_var (i := 7)) (nb x_int) (nomark _))) (x_one (nb (xd o__law_keeps hr (lc (lc (lc (lc (fun _ _ => ln))))) (nx__law_keeps) (a_cons (x_var (i := 1)) (a_cons (x_var (i := 2)) (a_cons (x_var (i := 3)) (a_cons (x_var (i := 8)) a_nil))))))))) sc.nd)
    (m_one (m_if (t_not (t_val (ne (xd o__law_same hr (lc (lc (fun _ _ => ln))) (nx__law_same _) (a_cons (nb (xd o_is_places hr (lc (lc (lc (lc (fun _ _ => ln))))) (nx_is_places) (a_cons (x_var (i := 1)) (a_cons (x_var (i := 2)) (a_cons (x_var (i := 3)) (a_cons (x_var (i := 8)) a_nil)))))) (a_cons (x_var (i := 9)) a_nil))))))
    (m_one (m_ret (ne x_bl)))
    m_nil)))))) PassesOwn.never rfl)
    (m_cons (m_set (i := 6) (ei (ks := [0]) (n := 2) o__law_take hr (by decide) (fun e ds e1 h => by have := (lec len0) e ds e1 h; simp [this]) (nx__law_take) (av_cons (i := 0) (ae_cons (ne (x_call n_len (pe_callB c_len (by rfl) T.n_len bb_len (a_cons (x_var (i := 2)) a_nil)))) ae_nil))) sc.nd)
    (m_cons (m_set (i := 10) (ne (x_op o_add n_add (nb (x_op o_add n_add (nb (x_cut (x_var (i := 4)) o_none (o_some (x_var (i := 6))))) (nb (x_tup (a_cons (nb (x_cmp (op_eqD hu) n_eq (x_ix (x_var (i := 4)) (x_var (i := 6))) (nb x_int) (nomark _))) a_nil))))) (nb (x_cut (x_var (i := 4)) (o_some (nb (x_op o_add n_add (x_var (i := 6)) (nb x_int)))) o_none)))) sc.nd)
    (m_cons (m_set (i := 11) (e_lst (ae_cons (e_frz (ne (x_call n_list (pe_callTy call_list_of (by rfl) T.n_list bb_list (a_cons (x_var (i := 4)) a_nil))))) (ae_cons (ne (x_cut (x_var (i := 4)) (o_some (nb x_int)) o_none)) (ae_cons (ne (x_op o_add n_add (x_var (i := 4)) (nb (x_tup (a_cons (nb x_int) a_nil))))) (ae_cons (ne x_non) (ae_cons (be (x_var (i := 10))) (ae_cons (ne x_str) (ae_cons (ne (x_op o_add n_add (nb (x_op o_add n_add (nb (x_cut (x_var (i := 4)) o_none (o_some (x_var (i := 6))))) (nb (x_tup (a_cons (nb x_str) a_nil))))) (nb (x_cut (x_var (i := 4)) (o_some (nb (x_op o_add n_add (x_var (i := 6)) (nb x_int)))) o_none)))) ae_nil)))))))) sc.nd)
    (m_one (m_ret (e_cmp o_is n_is (ed o_is_places hr (lec (lec (lec (lec len0)))) (nx_is_places) (ae_cons (be (x_var (i := 1))) (ae_cons (be (x_var (i := 2))) (ae_cons (be (x_var (i := 3))) (ae_cons (v_ix (i := 11) (ei (ks := [0]) (n := 2) o__law_take hr (by decide) (fun e ds e1 h => by have := (lec len0) e ds e1 h; simp [this]) (nx__law_take) (av_cons (i := 0) (ae_cons (ne x_int) ae_nil)))) ae_nil))))) (ne x_bl) (nomark _))))))))))
theorem ok__law_judges_cycle (o__law_near : Okd P w K mg base CX0 2 "_law_near" (spI K 5 m__law_near)) (o__law_same : Okd P w K mg base CX0 11 "_law_same" (spN K 2 (m__law_same 10))) (o__law_walk : Okd P w K mg base CX0 2 "_law_walk" (spN K 4 m__law_walk)) (o__law_wrong : Okd P w K mg base CX0 2 "_law_wrong" (spI K 2 m__law_wrong)) (o_is_cycle : Okd P w K mg base CX0 4 "is_cycle" (spN K 4 m_is_cycle)) (o_is_places : Okd P w K mg base CX0 3 "is_places" (spN K 4 m_is_places)) : Okd P w K mg base CX0 12 "_law_judges_cycle" (spI K 5 m__law_judges_cycle) := by
  have sc := sc__law_judges_cycle
  exact okdI (Z := (fun i => i == 0)) T.d__law_judges_cycle sc rfl rfl (fun f cdv A outer s H E hr => by
    have hu5 : (A.deeper (PyProof.Rows.envOfC "_law_judges_cycle" (defScope s__law_judges_cycle) s.heap.objs.size f cdv)).units + 65 < cLine := by
      have h := hr.units
      have h2 := hr.un
      omega
    have hu := hr.units
    have hu1 : (A.deeper (PyProof.Rows.envOfC "_law_judges_cycle" (defScope s__law_judges_cycle) s.heap.objs.size f cdv)).units + 1 < cLine := Nat.lt_of_le_of_lt (Nat.add_le_add_left (by decide) _) hu
    exact (m_cons (m_set (i := 5) (ne (xd o__law_walk hr (lc (lc (lc (lc (fun _ _ => ln))))) (nx__law_walk) (a_cons (x_var (i := 1)) (a_cons (x_var (i := 2)) (a_cons (x_var (i := 3)) (a_cons (x_var (i := 4)) a_nil)))))) sc.nd)
    (m_cons (m_if (PW.pt (t_or (t_cmp o_is n_is (x_var (i := 5)) (nb x_non) (nomark _)) (t_or (t_cmp (op_neD hu) n_ne (x_ix (x_var (i := 5)) (nb x_int)) (x_ix (x_var (i := 5)) (nb x_int)) (nomark _)) (t_or1 (t_cmp o_le n_le (x_ix (x_var (i := 5)) (nb x_int)) (nb x_int) (nomark _))))))
    (m_one (m_ret (ne x_bl)))
    m_nil)
    (m_cons (m_if (PW.pt (t_or (t_cmp o_isnt n_isnt (nb (xd o_is_cycle hr (lc (lc (lc (lc (fun _ _ => ln))))) (nx_is_cycle) (a_cons (x_var (i := 1)) (a_cons (x_var (i := 2)) (a_cons (x_var (i := 3)) (a_cons (x_var (i := 4)) a_nil)))))) (nb x_bl) (nomark _)) (t_or1 (t_cmp o_isnt n_isnt (nb (xd o_is_cycle hr (lc (lc (lc (lc (fun _ _ => ln))))) (nx_is_cycle) (a_cons (x_var (i := 1)) (a_cons (x_var (i := 2)) (a_cons (x_var (i := 3)) (a_cons (nb (x_tup a_nil)) a_nil)))))) (nb x_bl) (nomark _)))))
    (m_one (m_ret (ne x_bl)))
    m_nil)
    (m_cons (m_if (t_cmp o_isnt n_isnt (nb (xd o_is_cycle hr (lc (lc (lc (lc (fun _ _ => ln))))) (nx_is_cycle) (a_cons (x_var (i := 1)) (a_cons (x_var (i := 2)) (a_cons (x_var (i := 3)) (a_cons (nb (x_op o_add n_add (x_var (i := 4)) (x_var (i := 4)))) a_nil)))))) (nb x_bl) (nomark _))
    (m_one (m_ret (ne x_bl)))
    m_nil)
    (m_cons (m_for (w_rng1 (by rfl) T.n_range (ae_cons (ne x_int) ae_nil) (lec len0)) (g_name (i := 6) sc.nd)
    (m_cons (m_set (i := 7) (ei (ks := [0]) (n := 5) o__law_near hr (by decide) (fun e ds e1 h => by have := (lec (lec (lec (lec len0)))) e ds e1 h; simp [this]) (nx__law_near) (av_cons (i := 0) (ae_cons (be (x_var (i := 1))) (ae_cons (be (x_var (i := 2))) (ae_cons (be (x_var (i := 3))) (ae_cons (be (x_var (i := 4))) ae_nil)))))) sc.nd)
    (m_cons (m_set (i := 5) (ne (xd o__law_walk hr (lc (lc (lc (lc (fun _ _ => ln))))) (nx__law_walk) (a_cons (x_var (i := 1)) (a_cons (x_var (i := 2)) (a_cons (x_var (i := 3)) (a_cons (x_var (i := 7)) a_nil)))))) sc.nd)
    (m_cons (m_set (i := 8) (ne (x_and (nb (x_cmp o_isnt n_isnt (x_var (i := 5)) (nb x_non) (nomark _))) (nb (x_and (nb (x_cmp (op_eqD hu) n_eq (x_ix (x_var (i := 5)) (nb x_int)) (x_ix (x_var (i := 5)) (nb x_int)) (nomark _))) (x_one (nb (x_cmp o_gt n_gt (x_ix (x_var (i := 5)) (nb x_int)) (nb x_int) (nomark _)))))))) sc.nd)
    (m_one (m_if (t_not (t_val (ne (xd o__law_same hr (lc (lc (fun _ _ => ln))) (nx__law_same _) (a_cons (nb (xd o_is_cycle hr (lc (lc (lc (lc (fun _ _ => ln))))) (nx_is_cycle) (a_cons (x_var (i := 1)) (a_cons (x_var (i := 2)) (a_cons (x_var (i := 3)) (a_cons (x_var (i := 7)) a_nil)))))) (a_cons (x_var (i := 8)) a_nil))))))
    (m_one (m_ret (ne x_bl)))
    m_nil))))) PassesOwn.never rfl)
    (m_cons (m_set (i := 9) (e_call n_tuple (pe_callTy call_tuple_of (by rfl) T.n_tuple bb_tuple (ae_cons (e_comp (own := [("shape", 10)]) (w_val (be (x_var (i := 2)))) rfl sc.nd (blkOk_by (N := N__law_judges_cycle) (sc := defScope s__law_judges_cycle) (by decide +kernel)) (fun _ _ _ _ _ => (g_name (i := 10) sc.nd)) (fun _ _ _ _ _ => ts_nil) (fun _ _ _ _ _ => (ne x_int))) ae_nil))) sc.nd)
    (m_cons (m_if (t_cmp o_isnt n_isnt (nb (xd o_is_places hr (lc (lc (lc (lc (fun _ _ => ln))))) (nx_is_places) (a_cons (x_var (i := 1)) (a_cons (x_var (i := 2)) (a_cons (x_var (i := 3)) (a_cons (x_var (i := 9)) a_nil)))))) (nb x_bl) (nomark _))
    (m_one (m_ret (ne x_bl)))
    m_nil)
    (m_one (m_ret (e_cmp o_is n_is (ed o_is_cycle hr (lec (lec (lec (lec len0)))) (nx_is_cycle) (ae_cons (be (x_var (i := 1))) (ae_cons (be (x_var (i := 2))) (ae_cons (be (x_var (i := 3))) (ae_cons (ei (ks := [0]) (n := 2) o__law_wrong hr (by decide) (fun e ds e1 h => by have := (lec len0) e ds e1 h; simp [this]) (nx__law_wrong) (av_cons (i := 0) (ae_cons (be (x_var (i := 4))) ae_nil))) ae_nil))))) (ne x_bl) (nomark _))))))))))))
theorem ok__law_judges_short (o__law_every : Okd P w K mg base CX0 1 "_law_every" (spN K 3 m__law_every)) (o__law_same : Okd P w K mg base CX0 11 "_law_same" (spN K 2 (m__law_same 10))) (o_is_cycle : Okd P w K mg base CX0 4 "is_cycle" (spN K 4 m_is_cycle)) : Okd P w K mg base CX0 12 "_law_judges_short" (spN K 3 m__law_judges_short) := by
  have sc := sc__law_judges_short
  exact okd T.d__law_judges_short sc rfl rfl (fun f cdv A outer s H E hr => by
    have hu5 : (A.deeper (PyProof.Rows.envOfC "_law_judges_short" (defScope s__law_judges_short) s.heap.objs.size f cdv)).units + 65 < cLine := by
      have h := hr.units
      have h2 := hr.un
      omega
    have hu := hr.units
    have hu1 : (A.deeper (PyProof.Rows.envOfC "_law_judges_short" (defScope s__law_judges_short) s.heap.objs.size f cdv)).units + 1 < cLine := Nat.lt_of_le_of_lt (Nat.add_le_add_left (by decide) _) hu
    exact (m_cons (m_set (i := 3) (e_frz (ne (x_cut (nb (xd o__law_every hr (lc (lc (lc (fun _ _ => ln)))) (nx__law_every) (a_cons (x_var (i := 0)) (a_cons (x_var (i := 1)) (a_cons (x_var (i := 2)) a_nil))))) o_none (o_some (nb x_int))))) sc.nd)
    (m_cons (m_set (i := 4) (ne x_int) sc.nd)
    (m_cons (m_forV (i := 3) (g_name (i := 5) sc.nd)
    (m_cons (m_forV (i := 3) (g_name (i := 6) sc.nd)
    (m_one (m_if (PW.pt (t_and (t_cmp o_lt n_lt (x_var (i := 4)) (nb x_int) (nomark _)) (t_and (t_cmp (op_eqD hu) n_eq (x_ix (x_var (i := 5)) (nb x_int)) (x_ix (x_var (i := 6)) (nb x_int)) (nomark _)) (t_and1 (t_cmp (op_eqD hu) n_eq (x_ix (x_var (i := 6)) (nb x_int)) (x_ix (x_var (i := 5)) (nb x_int)) (nomark _))))))
    (m_cons (m_set (i := 4) (ne (x_op o_add n_add (x_var (i := 4)) (nb x_int))) sc.nd)
    (m_one (m_if (t_not (t_val (ne (xd o__law_same hr (lc (lc (fun _ _ => ln))) (nx__law_same _) (a_cons (nb (xd o_is_cycle hr (lc (lc (lc (lc (fun _ _ => ln))))) (nx_is_cycle) (a_cons (x_var (i := 0)) (a_cons (x_var (i := 1)) (a_cons (x_var (i := 2)) (a_cons (nb (x_tup (a_cons (x_var (i := 5)) (a_cons (x_var (i := 6)) a_nil)))) a_nil)))))) (a_cons (nb (x_cmp o_gt n_gt (nb (x_op o_add n_add (x_ix (x_var (i := 5)) (nb x_int)) (x_ix (x_var (i := 6)) (nb x_int)))) (nb x_int) (nomark _))) a_nil))))))
    (m_one (m_ret (ne x_bl)))
    m_nil)))
    m_nil)) PassesOwn.never rfl)
    (m_one (m_if (PW.pt (t_and (t_cmp (op_eqD hu) n_eq (x_ix (x_var (i := 5)) (nb x_int)) (x_ix (x_var (i := 5)) (nb x_int)) (nomark _)) (t_and1 (t_not (t_val (ne (xd o__law_same hr (lc (lc (fun _ _ => ln))) (nx__law_same _) (a_cons (nb (xd o_is_cycle hr (lc (lc (lc (lc (fun _ _ => ln))))) (nx_is_cycle) (a_cons (x_var (i := 0)) (a_cons (x_var (i := 1)) (a_cons (x_var (i := 2)) (a_cons (nb (x_tup (a_cons (x_var (i := 5)) a_nil))) a_nil)))))) (a_cons (nb (x_cmp o_gt n_gt (x_ix (x_var (i := 5)) (nb x_int)) (nb x_int) (nomark _))) a_nil)))))))))
    (m_one (m_ret (ne x_bl)))
    m_nil))) PassesOwn.never rfl)
    (m_one (m_ret (ne x_bl)))))))
theorem ok_law {f : Addr} {fd : FuncData} (D : DefAt K mg "law" "law" s_law ["script"] f fd) (o__law_constraints : Okd P w K mg base CX0 2 "_law_constraints" (spI K 4 m__law_constraints)) (o__law_due : Okd P w K mg base CX0 2 "_law_due" (spN K 3 m__law_due)) (o__law_jar : Okd P w K mg base CX0 1 "_law_jar" (spN K 1 m__law_jar)) (o__law_judges_chain : Okd P w K mg base CX0 12 "_law_judges_chain" (spI K 7 m__law_judges_chain)) (o__law_judges_cycle : Okd P w K mg base CX0 12 "_law_judges_cycle" (spI K 5 m__law_judges_cycle)) (o__law_judges_places : Okd P w K mg base CX0 12 "_law_judges_places" (spI K 5 m__law_judges_places)) (o__law_judges_short : Okd P w K mg base CX0 12 "_law_judges_short" (spN K 3 m__law_judges_short)) (o__law_name : Okd P w K mg base CX0 2 "_law_name" (spI K 2 m__law_name)) (o__law_near : Okd P w K mg base CX0 2 "_law_near" (spI K 5 m__law_near)) (o__law_same : Okd P w K mg base CX0 11 "_law_same" (spN K 2 (m__law_same 10))) (o__law_take : Okd P w K mg base CX0 1 "_law_take" (spI K 2 m__law_take)) (o__law_walk : Okd P w K mg base CX0 2 "_law_walk" (spN K 4 m__law_walk)) (o_is_cycle : Okd P w K mg base CX0 4 "is_cycle" (spN K 4 m_is_cycle)) (o_place_axis : Okd P w K mg base CX0 3 "place_axis" (spN K 3 m_place_axis)) : FnOk P w K mg base CX0 13 f fd ["script"] (spN K 1 m_law) := by
  have sc := sc_law
  exact okdF D sc rfl rfl (fun f cdv A outer s H E hr => by
    have hu5 : (A.deeper (PyProof.Rows.envOfC "law" (defScope s_law) s.heap.objs.size f cdv)).units + 65 < cLine := by
      have h := hr.units
      have h2 := hr.un
      omega
    have hu := hr.units
    have hu1 : (A.deeper (PyProof.Rows.envOfC "law" (defScope s_law) s.heap.objs.size f cdv)).units + 1 < cLine := Nat.lt_of_le_of_lt (Nat.add_le_add_left (by decide) _) hu
    exact (m_cons (m_set (i := 1) (ne (xd o__law_jar hr (lc (fun _ _ => ln)) (nx__law_jar) (a_cons (x_var (i := 0)) a_nil))) sc.nd)
    (m_cons (m_set (i := 2) (e_ix (ne x_str) (ei (ks := [1]) (n := 2) o__law_take hr (by decide) (fun e ds e1 h => by have := (lec len0) e ds e1 h; simp [this]) (nx__law_take) (av_cons (i := 1) (ae_cons (ne x_int) ae_nil)))) sc.nd)
    (m_cons (m_set (i := 3) (e_op o_add n_add (ne x_int) (ei (ks := [1]) (n := 2) o__law_take hr (by decide) (fun e ds e1 h => by have := (lec len0) e ds e1 h; simp [this]) (nx__law_take) (av_cons (i := 1) (ae_cons (ne x_int) ae_nil)))) sc.nd)
    (m_cons (m_set (i := 4) (ei (ks := [1]) (n := 2) o__law_take hr (by decide) (fun e ds e1 h => by have := (lec len0) e ds e1 h; simp [this]) (nx__law_take) (av_cons (i := 1) (ae_cons (ne x_int) ae_nil))) sc.nd)
    (m_cons (m_if (te_cmp (op_eqD hu) n_eq (ei (ks := [1]) (n := 2) o__law_take hr (by decide) (fun e ds e1 h => by have := (lec len0) e ds e1 h; simp [this]) (nx__law_take) (av_cons (i := 1) (ae_cons (ne x_int) ae_nil))) (ne x_int) (nomark _))
    (m_cons (m_set (i := 3) (ne x_int) sc.nd)
    (m_one (m_set (i := 4) (e_op o_add n_add (ne x_int) (ei (ks := [1]) (n := 2) o__law_take hr (by decide) (fun e ds e1 h => by have := (lec len0) e ds e1 h; simp [this]) (nx__law_take) (av_cons (i := 1) (ae_cons (ne x_int) ae_nil)))) sc.nd)))
    m_nil)
    (m_cons (m_set (i := 5) (ne (x_lst a_nil)) sc.nd)
    (m_cons (m_set (i := 6) (ne (x_lst a_nil)) sc.nd)
    (m_cons (m_for (w_rng1 (by rfl) T.n_range (ae_cons (be (x_var (i := 3))) ae_nil) (lec len0)) (g_name (i := 7) sc.nd)
    (m_cons (m_set (i := 8) (ei (ks := [1, 5]) (n := 2) o__law_name hr (by decide) (fun e ds e1 h => by have := len0 e ds e1 h; simp [this]) (nx__law_name) (av_cons (i := 1) (av_cons (i := 5) ae_nil))) sc.nd)
    (m_cons (m_if (te_cmp (op_eqD hu) n_eq (ei (ks := [1]) (n := 2) o__law_take hr (by decide) (fun e ds e1 h => by have := (lec len0) e ds e1 h; simp [this]) (nx__law_take) (av_cons (i := 1) (ae_cons (ne x_int) ae_nil))) (ne x_int) (nomark _))
    (m_one (m_set (i := 8) (e_op o_add n_add (ne (x_op o_add n_add (x_var (i := 8)) (nb x_str))) (e_call n_str (pe_callTy c_str (by rfl) T.n_str bb_str (ae_cons (e_op o_add n_add (ne x_int) (ei (ks := [1]) (n := 2) o__law_take hr (by decide) (fun e ds e1 h => by have := (lec len0) e ds e1 h; simp [this]) (nx__law_take) (av_cons (i := 1) (ae_cons (ne x_int) ae_nil)))) ae_nil)))) sc.nd))
    m_nil)
    (m_one (m_expr (e_append (i := 6) (pe_bm PySem.F.plainAttrs_list PySem.F.slot_list_append PySem.F.type_list_append mt_append (pv 6) (ae_cons (be (x_var (i := 8))) ae_nil))))))) PassesOwn.never rfl)
    (m_cons (m_set (i := 6) (ne (x_call n_tuple (pe_callTy call_tuple_of (by rfl) T.n_tuple bb_tuple (a_cons (x_var (i := 6)) a_nil)))) sc.nd)
    (m_cons (m_set (i := 9) (ei (ks := [1]) (n := 4) o__law_constraints hr (by decide) (fun e ds e1 h => by have := (lec (lec (lec len0))) e ds e1 h; simp [this]) (nx__law_constraints) (av_cons (i := 1) (ae_cons (be (x_var (i := 2))) (ae_cons (be (x_var (i := 6))) (ae_cons (be (x_var (i := 4))) ae_nil))))) sc.nd)
    (m_cons (m_set (i := 10) (ne (xd o__law_due hr (lc (lc (lc (fun _ _ => ln)))) (nx__law_due) (a_cons (x_var (i := 2)) (a_cons (x_var (i := 6)) (a_cons (x_var (i := 9)) a_nil))))) sc.nd)
    (m_cons (m_if (t_not (t_val (ne (xd o__law_same hr (lc (lc (fun _ _ => ln))) (nx__law_same _) (a_cons (nb (xd o_place_axis hr (lc (lc (lc (fun _ _ => ln)))) (nx_place_axis) (a_cons (x_var (i := 2)) (a_cons (x_var (i := 6)) (a_cons (x_var (i := 9)) a_nil))))) (a_cons (x_var (i := 10)) a_nil))))))
    (m_one (m_ret (ne x_bl)))
    m_nil)
    (m_cons (m_if (t_not (t_val (ne (xd o__law_judges_short hr (lc (lc (lc (fun _ _ => ln)))) (nx__law_judges_short) (a_cons (x_var (i := 2)) (a_cons (x_var (i := 6)) (a_cons (x_var (i := 9)) a_nil)))))))
    (m_one (m_ret (ne x_bl)))
    m_nil)
    (m_cons (m_if (t_cmp (op_eqD hu) n_eq (x_ix (x_var (i := 10)) (nb x_int)) (nb x_str) (nomark _))
    (m_one (m_ret (ei (ks := [1]) (n := 5) o__law_judges_cycle hr (by decide) (fun e ds e1 h => by have := (lec (lec (lec (lec len0)))) e ds e1 h; simp [this]) (nx__law_judges_cycle) (av_cons (i := 1) (ae_cons (be (x_var (i := 2))) (ae_cons (be (x_var (i := 6))) (ae_cons (be (x_var (i := 9))) (ae_cons (be (x_ix (x_var (i := 10)) (nb x_int))) ae_nil))))))))
    m_nil)
    (m_cons (m_set (i := 11) (ei (ks := [1]) (n := 2) o__law_take hr (by decide) (fun e ds e1 h => by have := (lec len0) e ds e1 h; simp [this]) (nx__law_take) (av_cons (i := 1) (ae_cons (be (x_var (i := 3))) ae_nil))) sc.nd)
    (m_cons (m_if (t_not (t_val (ei (ks := [1]) (n := 7) o__law_judges_chain hr (by decide) (fun e ds e1 h => by have := (lec (lec (lec (lec (lec (lec len0)))))) e ds e1 h; simp [this]) (nx__law_judges_chain) (av_cons (i := 1) (ae_cons (be (x_var (i := 2))) (ae_cons (be (x_var (i := 6))) (ae_cons (be (x_var (i := 9))) (ae_cons (be (x_ix (x_var (i := 6)) (x_var (i := 11)))) (ae_cons (be (x_ix (x_ix (x_var (i := 10)) (nb x_int)) (x_var (i := 11)))) (ae_cons (be (x_ix (x_ix (x_var (i := 10)) (nb x_int)) (x_var (i := 11)))) ae_nil))))))))))
    (m_one (m_ret (ne x_bl)))
    m_nil)
    (m_cons (m_set (i := 12) (ei (ks := [1]) (n := 5) o__law_near hr (by decide) (fun e ds e1 h => by have := (lec (lec (lec (lec len0)))) e ds e1 h; simp [this]) (nx__law_near) (av_cons (i := 1) (ae_cons (be (x_var (i := 2))) (ae_cons (be (x_var (i := 6))) (ae_cons (be (x_var (i := 9))) (ae_cons (be (x_ix (x_ix (x_var (i := 10)) (nb x_int)) (x_var (i := 11)))) ae_nil)))))) sc.nd)
    (m_cons (m_set (i := 13) (ne (xd o__law_walk hr (lc (lc (lc (lc (fun _ _ => ln))))) (nx__law_walk) (a_cons (x_var (i := 2)) (a_cons (x_var (i := 6)) (a_cons (x_var (i := 9)) (a_cons (x_var (i := 12)) a_nil)))))) sc.nd)
    (m_cons (m_if (PW.pt (t_and (t_cmp o_isnt n_isnt (x_var (i := 13)) (nb x_non) (nomark _)) (t_and (t_cmp (op_eqD hu) n_eq (x_ix (x_var (i := 13)) (nb x_int)) (x_ix (x_var (i := 13)) (nb x_int)) (nomark _)) (t_and1 (t_cmp o_gt n_gt (x_ix (x_var (i := 13)) (nb x_int)) (nb x_int) (nomark _))))))
    (m_one (m_ret (ne x_bl)))
    m_nil)
    (m_cons (m_if (t_cmp o_isnt n_isnt (nb (xd o_is_cycle hr (lc (lc (lc (lc (fun _ _ => ln))))) (nx_is_cycle) (a_cons (x_var (i := 2)) (a_cons (x_var (i := 6)) (a_cons (x_var (i := 9)) (a_cons (x_var (i := 12)) a_nil)))))) (nb x_bl) (nomark _))
    (m_one (m_ret (ne x_bl)))
    m_nil)
    (m_one (m_ret (ei (ks := [1]) (n := 5) o__law_judges_places hr (by decide) (fun e ds e1 h => by have := (lec (lec (lec (lec len0)))) e ds e1 h; simp [this]) (nx__law_judges_places) (av_cons (i := 1) (ae_cons (be (x_var (i := 2))) (ae_cons (be (x_var (i := 6))) (ae_cons (be (x_var (i := 9))) (ae_cons (be (x_ix (x_var (i := 10)) (nb x_int))) ae_nil)))))))))))))))))))))))))))))
end
theorem all_mk {l : PySem.W.OpenLaw} {w : World} {K : PySem.W.Frag} {h : Heap} {mg : Str → Option Value} {fa : Addr} (X : K.In h) (G : h.Ns mainGlobals mg) (hfa : mg "law" = some (.ref fa))
    {f0 : Addr} {od0 an0 : Option Addr} {sl0 : Array (Option Value)} {oc0 kV0 dc0 pm0 cd0 ct0 : Value}
    {f1 : Addr} {od1 an1 : Option Addr} {sl1 : Array (Option Value)} {oc1 kV1 dc1 pm1 cd1 ct1 : Value}
    {f2 : Addr} {od2 an2 : Option Addr} {sl2 : Array (Option Value)} {oc2 kV2 dc2 pm2 cd2 ct2 : Value}
    {f3 : Addr} {od3 an3 : Option Addr} {sl3 : Array (Option Value)} {oc3 kV3 dc3 pm3 cd3 ct3 : Value}
    {f4 : Addr} {od4 an4 : Option Addr} {sl4 : Array (Option Value)} {oc4 kV4 dc4 pm4 cd4 ct4 : Value}
    {f5 : Addr} {od5 an5 : Option Addr} {sl5 : Array (Option Value)} {oc5 kV5 dc5 pm5 cd5 ct5 : Value}
    {f6 : Addr} {od6 an6 : Option Addr} {sl6 : Array (Option Value)} {oc6 kV6 dc6 pm6 cd6 ct6 : Value}
    {f7 : Addr} {od7 an7 : Option Addr} {sl7 : Array (Option Value)} {oc7 kV7 dc7 pm7 cd7 ct7 : Value}
    {f8 : Addr} {od8 an8 : Option Addr} {sl8 : Array (Option Value)} {oc8 kV8 dc8 pm8 cd8 ct8 : Value}
    {f9 : Addr} {od9 an9 : Option Addr} {sl9 : Array (Option Value)} {oc9 kV9 dc9 pm9 cd9 ct9 : Value}
    {f10 : Addr} {od10 an10 : Option Addr} {sl10 : Array (Option Value)} {oc10 kV10 dc10 pm10 cd10 ct10 : Value}
    {f11 : Addr} {od11 an11 : Option Addr} {sl11 : Array (Option Value)} {oc11 kV11 dc11 pm11 cd11 ct11 : Value}
    {f12 : Addr} {od12 an12 : Option Addr} {sl12 : Array (Option Value)} {oc12 kV12 dc12 pm12 cd12 ct12 : Value}
    {f13 : Addr} {od13 an13 : Option Addr} {sl13 : Array (Option Value)} {oc13 kV13 dc13 pm13 cd13 ct13 : Value}
    {f14 : Addr} {od14 an14 : Option Addr} {sl14 : Array (Option Value)} {oc14 kV14 dc14 pm14 cd14 ct14 : Value}
    {f15 : Addr} {od15 an15 : Option Addr} {sl15 : Array (Option Value)} {oc15 kV15 dc15 pm15 cd15 ct15 : Value}
    {f16 : Addr} {od16 an16 : Option Addr} {sl16 : Array (Option Value)} {oc16 kV16 dc16 pm16 cd16 ct16 : Value}
    {f17 : Addr} {od17 an17 : Option Addr} {sl17 : Array (Option Value)} {oc17 kV17 dc17 pm17 cd17 ct17 : Value}
    {f18 : Addr} {od18 an18 : Option Addr} {sl18 : Array (Option Value)} {oc18 kV18 dc18 pm18 cd18 ct18 : Value}
    {f19 : Addr} {od19 an19 : Option Addr} {sl19 : Array (Option Value)} {oc19 kV19 dc19 pm19 cd19 ct19 : Value}
    {f20 : Addr} {od20 an20 : Option Addr} {sl20 : Array (Option Value)} {oc20 kV20 dc20 pm20 cd20 ct20 : Value}
    {f21 : Addr} {od21 an21 : Option Addr} {sl21 : Array (Option Value)} {oc21 kV21 dc21 pm21 cd21 ct21 : Value}
    {f22 : Addr} {od22 an22 : Option Addr} {sl22 : Array (Option Value)} {oc22 kV22 dc22 pm22 cd22 ct22 : Value}
    {f23 : Addr} {od23 an23 : Option Addr} {sl23 : Array (Option Value)} {oc23 kV23 dc23 pm23 cd23 ct23 : Value}
    {f24 : Addr} {od24 an24 : Option Addr} {sl24 : Array (Option Value)} {oc24 kV24 dc24 pm24 cd24 ct24 : Value}
    {f25 : Addr} {od25 an25 : Option Addr} {sl25 : Array (Option Value)} {oc25 kV25 dc25 pm25 cd25 ct25 : Value}
    {f26 : Addr} {od26 an26 : Option Addr} {sl26 : Array (Option Value)} {oc26 kV26 dc26 pm26 cd26 ct26 : Value}
    {f27 : Addr} {od27 an27 : Option Addr} {sl27 : Array (Option Value)} {oc27 kV27 dc27 pm27 cd27 ct27 : Value}
    {f28 : Addr} {od28 an28 : Option Addr} {sl28 : Array (Option Value)} {oc28 kV28 dc28 pm28 cd28 ct28 : Value}
    {t0 : Tok}
    (a0 : PySem.W.nsIn K mainGlobals "own_constraints" = some (some (.ref f0)))
    (l0 : K.lookup f0 = some ⟨oc0, od0, .func (PySem.W.fnOf "own_constraints" "own_constraints" (defArgs s_own_constraints) (defBody s_own_constraints) (defScope s_own_constraints) .none kV0 dc0 pm0 an0 cd0 ct0), sl0⟩)
    (c0 : PySem.W.codeIn K cd0 "own_constraints" = true)
    (k0 : PySem.W.keepIn K (.ref f0) = true)
    (a1 : PySem.W.nsIn K mainGlobals "all_constraints" = some (some (.ref f1)))
    (l1 : K.lookup f1 = some ⟨oc1, od1, .func (PySem.W.fnOf "all_constraints" "all_constraints" (defArgs s_all_constraints) (defBody s_all_constraints) (defScope s_all_constraints) .none kV1 dc1 pm1 an1 cd1 ct1), sl1⟩)
    (c1 : PySem.W.codeIn K cd1 "all_constraints" = true)
    (k1 : PySem.W.keepIn K (.ref f1) = true)
    (a2 : PySem.W.nsIn K mainGlobals "make_pass" = some (some (.ref f2)))
    (l2 : K.lookup f2 = some ⟨oc2, od2, .func (PySem.W.fnOf "make_pass" "make_pass" (defArgs s_make_pass) (defBody s_make_pass) (defScope s_make_pass) .none kV2 dc2 pm2 an2 cd2 ct2), sl2⟩)
    (c2 : PySem.W.codeIn K cd2 "make_pass" = true)
    (k2 : PySem.W.keepIn K (.ref f2) = true)
    (a3 : PySem.W.nsIn K mainGlobals "chain_of" = some (some (.ref f3)))
    (l3 : K.lookup f3 = some ⟨oc3, od3, .func (PySem.W.fnOf "chain_of" "chain_of" (defArgs s_chain_of) (defBody s_chain_of) (defScope s_chain_of) .none kV3 dc3 pm3 an3 cd3 ct3), sl3⟩)
    (c3 : PySem.W.codeIn K cd3 "chain_of" = true)
    (k3 : PySem.W.keepIn K (.ref f3) = true)
    (a4 : PySem.W.nsIn K mainGlobals "cycle_of" = some (some (.ref f4)))
    (l4 : K.lookup f4 = some ⟨oc4, od4, .func (PySem.W.fnOf "cycle_of" "cycle_of" (defArgs s_cycle_of) (defBody s_cycle_of) (defScope s_cycle_of) .none kV4 dc4 pm4 an4 cd4 ct4), sl4⟩)
    (c4 : PySem.W.codeIn K cd4 "cycle_of" = true)
    (k4 : PySem.W.keepIn K (.ref f4) = true)
    (a5 : PySem.W.nsIn K mainGlobals "place_axis" = some (some (.ref f5)))
    (l5 : K.lookup f5 = some ⟨oc5, od5, .func (PySem.W.fnOf "place_axis" "place_axis" (defArgs s_place_axis) (defBody s_place_axis) (defScope s_place_axis) .none kV5 dc5 pm5 an5 cd5 ct5), sl5⟩)
    (c5 : PySem.W.codeIn K cd5 "place_axis" = true)
    (k5 : PySem.W.keepIn K (.ref f5) = true)
    (a6 : PySem.W.nsIn K mainGlobals "is_whole" = some (some (.ref f6)))
    (l6 : K.lookup f6 = some ⟨oc6, od6, .func (PySem.W.fnOf "is_whole" "is_whole" (defArgs s_is_whole) (defBody s_is_whole) (defScope s_is_whole) .none kV6 dc6 pm6 an6 cd6 ct6), sl6⟩)
    (c6 : PySem.W.codeIn K cd6 "is_whole" = true)
    (k6 : PySem.W.keepIn K (.ref f6) = true)
    (a7 : PySem.W.nsIn K mainGlobals "is_among" = some (some (.ref f7)))
    (l7 : K.lookup f7 = some ⟨oc7, od7, .func (PySem.W.fnOf "is_among" "is_among" (defArgs s_is_among) (defBody s_is_among) (defScope s_is_among) .none kV7 dc7 pm7 an7 cd7 ct7), sl7⟩)
    (c7 : PySem.W.codeIn K cd7 "is_among" = true)
    (k7 : PySem.W.keepIn K (.ref f7) = true)
    (a8 : PySem.W.nsIn K mainGlobals "are_among" = some (some (.ref f8)))
    (l8 : K.lookup f8 = some ⟨oc8, od8, .func (PySem.W.fnOf "are_among" "are_among" (defArgs s_are_among) (defBody s_are_among) (defScope s_are_among) .none kV8 dc8 pm8 an8 cd8 ct8), sl8⟩)
    (c8 : PySem.W.codeIn K cd8 "are_among" = true)
    (k8 : PySem.W.keepIn K (.ref f8) = true)
    (a9 : PySem.W.nsIn K mainGlobals "is_places" = some (some (.ref f9)))
    (l9 : K.lookup f9 = some ⟨oc9, od9, .func (PySem.W.fnOf "is_places" "is_places" (defArgs s_is_places) (defBody s_is_places) (defScope s_is_places) .none kV9 dc9 pm9 an9 cd9 ct9), sl9⟩)
    (c9 : PySem.W.codeIn K cd9 "is_places" = true)
    (k9 : PySem.W.keepIn K (.ref f9) = true)
    (a10 : PySem.W.nsIn K mainGlobals "is_chain" = some (some (.ref f10)))
    (l10 : K.lookup f10 = some ⟨oc10, od10, .func (PySem.W.fnOf "is_chain" "is_chain" (defArgs s_is_chain) (defBody s_is_chain) (defScope s_is_chain) .none kV10 dc10 pm10 an10 cd10 ct10), sl10⟩)
    (c10 : PySem.W.codeIn K cd10 "is_chain" = true)
    (k10 : PySem.W.keepIn K (.ref f10) = true)
    (a11 : PySem.W.nsIn K mainGlobals "is_cycle" = some (some (.ref f11)))
    (l11 : K.lookup f11 = some ⟨oc11, od11, .func (PySem.W.fnOf "is_cycle" "is_cycle" (defArgs s_is_cycle) (defBody s_is_cycle) (defScope s_is_cycle) .none kV11 dc11 pm11 an11 cd11 ct11), sl11⟩)
    (c11 : PySem.W.codeIn K cd11 "is_cycle" = true)
    (k11 : PySem.W.keepIn K (.ref f11) = true)
    (a12 : PySem.W.nsIn K mainGlobals "_law_jar" = some (some (.ref f12)))
    (l12 : K.lookup f12 = some ⟨oc12, od12, .func (PySem.W.fnOf "_law_jar" "_law_jar" (defArgs s__law_jar) (defBody s__law_jar) (defScope s__law_jar) .none kV12 dc12 pm12 an12 cd12 ct12), sl12⟩)
    (c12 : PySem.W.codeIn K cd12 "_law_jar" = true)
    (k12 : PySem.W.keepIn K (.ref f12) = true)
    (a13 : PySem.W.nsIn K mainGlobals "_law_take" = some (some (.ref f13)))
    (l13 : K.lookup f13 = some ⟨oc13, od13, .func (PySem.W.fnOf "_law_take" "_law_take" (defArgs s__law_take) (defBody s__law_take) (defScope s__law_take) .none kV13 dc13 pm13 an13 cd13 ct13), sl13⟩)
    (c13 : PySem.W.codeIn K cd13 "_law_take" = true)
    (k13 : PySem.W.keepIn K (.ref f13) = true)
    (a14 : PySem.W.nsIn K mainGlobals "_law_name" = some (some (.ref f14)))
    (l14 : K.lookup f14 = some ⟨oc14, od14, .func (PySem.W.fnOf "_law_name" "_law_name" (defArgs s__law_name) (defBody s__law_name) (defScope s__law_name) .none kV14 dc14 pm14 an14 cd14 ct14), sl14⟩)
    (c14 : PySem.W.codeIn K cd14 "_law_name" = true)
    (k14 : PySem.W.keepIn K (.ref f14) = true)
    (a15 : PySem.W.nsIn K mainGlobals "_law_same" = some (some (.ref f15)))
    (l15 : K.lookup f15 = some ⟨oc15, od15, .func (PySem.W.fnOf "_law_same" "_law_same" (defArgs s__law_same) (defBody s__law_same) (defScope s__law_same) .none kV15 dc15 pm15 an15 cd15 ct15), sl15⟩)
    (c15 : PySem.W.codeIn K cd15 "_law_same" = true)
    (k15 : PySem.W.keepIn K (.ref f15) = true)
    (a16 : PySem.W.nsIn K mainGlobals "_law_constraints" = some (some (.ref f16)))
    (l16 : K.lookup f16 = some ⟨oc16, od16, .func (PySem.W.fnOf "_law_constraints" "_law_constraints" (defArgs s__law_constraints) (defBody s__law_constraints) (defScope s__law_constraints) .none kV16 dc16 pm16 an16 cd16 ct16), sl16⟩)
    (c16 : PySem.W.codeIn K cd16 "_law_constraints" = true)
    (k16 : PySem.W.keepIn K (.ref f16) = true)
    (a17 : PySem.W.nsIn K mainGlobals "_law_every" = some (some (.ref f17)))
    (l17 : K.lookup f17 = some ⟨oc17, od17, .func (PySem.W.fnOf "_law_every" "_law_every" (defArgs s__law_every) (defBody s__law_every) (defScope s__law_every) .none kV17 dc17 pm17 an17 cd17 ct17), sl17⟩)
    (c17 : PySem.W.codeIn K cd17 "_law_every" = true)
    (k17 : PySem.W.keepIn K (.ref f17) = true)
    (a18 : PySem.W.nsIn K mainGlobals "_law_chain" = some (some (.ref f18)))
    (l18 : K.lookup f18 = some ⟨oc18, od18, .func (PySem.W.fnOf "_law_chain" "_law_chain" (defArgs s__law_chain) (defBody s__law_chain) (defScope s__law_chain) .none kV18 dc18 pm18 an18 cd18 ct18), sl18⟩)
    (c18 : PySem.W.codeIn K cd18 "_law_chain" = true)
    (k18 : PySem.W.keepIn K (.ref f18) = true)
    (a19 : PySem.W.nsIn K mainGlobals "_law_due" = some (some (.ref f19)))
    (l19 : K.lookup f19 = some ⟨oc19, od19, .func (PySem.W.fnOf "_law_due" "_law_due" (defArgs s__law_due) (defBody s__law_due) (defScope s__law_due) .none kV19 dc19 pm19 an19 cd19 ct19), sl19⟩)
    (c19 : PySem.W.codeIn K cd19 "_law_due" = true)
    (k19 : PySem.W.keepIn K (.ref f19) = true)
    (a20 : PySem.W.nsIn K mainGlobals "_law_keeps" = some (some (.ref f20)))
    (l20 : K.lookup f20 = some ⟨oc20, od20, .func (PySem.W.fnOf "_law_keeps" "_law_keeps" (defArgs s__law_keeps) (defBody s__law_keeps) (defScope s__law_keeps) .none kV20 dc20 pm20 an20 cd20 ct20), sl20⟩)
    (c20 : PySem.W.codeIn K cd20 "_law_keeps" = true)
    (k20 : PySem.W.keepIn K (.ref f20) = true)
    (a21 : PySem.W.nsIn K mainGlobals "_law_walk" = some (some (.ref f21)))
    (l21 : K.lookup f21 = some ⟨oc21, od21, .func (PySem.W.fnOf "_law_walk" "_law_walk" (defArgs s__law_walk) (defBody s__law_walk) (defScope s__law_walk) .none kV21 dc21 pm21 an21 cd21 ct21), sl21⟩)
    (c21 : PySem.W.codeIn K cd21 "_law_walk" = true)
    (k21 : PySem.W.keepIn K (.ref f21) = true)
    (a22 : PySem.W.nsIn K mainGlobals "_law_near" = some (some (.ref f22)))
    (l22 : K.lookup f22 = some ⟨oc22, od22, .func (PySem.W.fnOf "_law_near" "_law_near" (defArgs s__law_near) (defBody s__law_near) (defScope s__law_near) .none kV22 dc22 pm22 an22 cd22 ct22), sl22⟩)
    (c22 : PySem.W.codeIn K cd22 "_law_near" = true)
    (k22 : PySem.W.keepIn K (.ref f22) = true)
    (a23 : PySem.W.nsIn K mainGlobals "_law_wrong" = some (some (.ref f23)))
    (l23 : K.lookup f23 = some ⟨oc23, od23, .func (PySem.W.fnOf "_law_wrong" "_law_wrong" (defArgs s__law_wrong) (defBody s__law_wrong) (defScope s__law_wrong) .none kV23 dc23 pm23 an23 cd23 ct23), sl23⟩)
    (c23 : PySem.W.codeIn K cd23 "_law_wrong" = true)
    (k23 : PySem.W.keepIn K (.ref f23) = true)
    (a24 : PySem.W.nsIn K mainGlobals "_law_judges_chain" = some (some (.ref f24)))
    (l24 : K.lookup f24 = some ⟨oc24, od24, .func (PySem.W.fnOf "_law_judges_chain" "_law_judges_chain" (defArgs s__law_judges_chain) (defBody s__law_judges_chain) (defScope s__law_judges_chain) .none kV24 dc24 pm24 an24 cd24 ct24), sl24⟩)
    (c24 : PySem.W.codeIn K cd24 "_law_judges_chain" = true)
    (k24 : PySem.W.keepIn K (.ref f24) = true)
    (a25 : PySem.W.nsIn K mainGlobals "_law_judges_places" = some (some (.ref f25)))
    (l25 : K.lookup f25 = some ⟨oc25, od25, .func (PySem.W.fnOf "_law_judges_places" "_law_judges_places" (defArgs s__law_judges_places) (defBody s__law_judges_places) (defScope s__law_judges_places) .none kV25 dc25 pm25 an25 cd25 ct25), sl25⟩)
    (c25 : PySem.W.codeIn K cd25 "_law_judges_places" = true)
    (k25 : PySem.W.keepIn K (.ref f25) = true)
    (a26 : PySem.W.nsIn K mainGlobals "_law_judges_cycle" = some (some (.ref f26)))
    (l26 : K.lookup f26 = some ⟨oc26, od26, .func (PySem.W.fnOf "_law_judges_cycle" "_law_judges_cycle" (defArgs s__law_judges_cycle) (defBody s__law_judges_cycle) (defScope s__law_judges_cycle) .none kV26 dc26 pm26 an26 cd26 ct26), sl26⟩)
    (c26 : PySem.W.codeIn K cd26 "_law_judges_cycle" = true)
    (k26 : PySem.W.keepIn K (.ref f26) = true)
    (a27 : PySem.W.nsIn K mainGlobals "_law_judges_short" = some (some (.ref f27)))
    (l27 : K.lookup f27 = some ⟨oc27, od27, .func (PySem.W.fnOf "_law_judges_short" "_law_judges_short" (defArgs s__law_judges_short) (defBody s__law_judges_short) (defScope s__law_judges_short) .none kV27 dc27 pm27 an27 cd27 ct27), sl27⟩)
    (c27 : PySem.W.codeIn K cd27 "_law_judges_short" = true)
    (k27 : PySem.W.keepIn K (.ref f27) = true)
    (a28 : PySem.W.nsIn K mainGlobals "law" = some (some (.ref f28)))
    (l28 : K.lookup f28 = some ⟨oc28, od28, .func (PySem.W.fnOf "law" "law" (defArgs s_law) (defBody s_law) (defScope s_law) .none kV28 dc28 pm28 an28 cd28 ct28), sl28⟩)
    (c28 : PySem.W.codeIn K cd28 "law" = true)
    (k28 : PySem.W.keepIn K (.ref f28) = true)
    (e0 : PySem.W.nsIn K mainGlobals "ORIGIN" = some (some (Value.str (Str.ofString "") t0)))
    (z0 : PySem.W.nsIn K mainGlobals "abs" = some none)
    (z1 : PySem.W.nsIn K mainGlobals "bool" = some none)
    (z2 : PySem.W.nsIn K mainGlobals "int" = some none)
    (z3 : PySem.W.nsIn K mainGlobals "isinstance" = some none)
    (z4 : PySem.W.nsIn K mainGlobals "len" = some none)
    (z5 : PySem.W.nsIn K mainGlobals "list" = some none)
    (z6 : PySem.W.nsIn K mainGlobals "min" = some none)
    (z7 : PySem.W.nsIn K mainGlobals "range" = some none)
    (z8 : PySem.W.nsIn K mainGlobals "str" = some none)
    (z9 : PySem.W.nsIn K mainGlobals "tuple" = some none)
    : ∃ fd : FuncData, (∀ (s : Shared) (v : Value), BindsTo s fd ⟨[v], []⟩ [("script", v)]) ∧ ∀ base : Heap, K.In base → base.Ns mainGlobals mg → FnOk l.prog w K mg base CX0 13 fa fd ["script"] (spN K 1 m_law) := by
  have e := hfa.symm.trans (PySem.W.mg_of X G a28)
  cases e
  have F0 := fun_mk (st := s_own_constraints) l0 c0 k0
  have D0 := defAt X G F0 (F0.binds (ps := ["axis", "shapes"]) fun _ _ _ _ _ _ us hl => match us, hl with | [_, _], _ => rfl) a0
  have F1 := fun_mk (st := s_all_constraints) l1 c1 k1
  have D1 := defAt X G F1 (F1.binds (ps := ["axis", "shapes", "constraints"]) fun _ _ _ _ _ _ us hl => match us, hl with | [_, _, _], _ => rfl) a1
  have F2 := fun_mk (st := s_make_pass) l2 c2 k2
  have D2 := defAt X G F2 (F2.binds (ps := ["constraints", "places", "causes"]) fun _ _ _ _ _ _ us hl => match us, hl with | [_, _, _], _ => rfl) a2
  have F3 := fun_mk (st := s_chain_of) l3 c3 k3
  have D3 := defAt X G F3 (F3.binds (ps := ["causes", "shape"]) fun _ _ _ _ _ _ us hl => match us, hl with | [_, _], _ => rfl) a3
  have F4 := fun_mk (st := s_cycle_of) l4 c4 k4
  have D4 := defAt X G F4 (F4.binds (ps := ["causes", "start", "steps"]) fun _ _ _ _ _ _ us hl => match us, hl with | [_, _, _], _ => rfl) a4
  have F5 := fun_mk (st := s_place_axis) l5 c5 k5
  have D5 := defAt X G F5 (F5.binds (ps := ["axis", "shapes", "constraints"]) fun _ _ _ _ _ _ us hl => match us, hl with | [_, _, _], _ => rfl) a5
  have F6 := fun_mk (st := s_is_whole) l6 c6 k6
  have D6 := defAt X G F6 (F6.binds (ps := ["value"]) fun _ _ _ _ _ _ us hl => match us, hl with | [_], _ => rfl) a6
  have F7 := fun_mk (st := s_is_among) l7 c7 k7
  have D7 := defAt X G F7 (F7.binds (ps := ["value", "constraints"]) fun _ _ _ _ _ _ us hl => match us, hl with | [_, _], _ => rfl) a7
  have F8 := fun_mk (st := s_are_among) l8 c8 k8
  have D8 := defAt X G F8 (F8.binds (ps := ["values", "constraints"]) fun _ _ _ _ _ _ us hl => match us, hl with | [_, _], _ => rfl) a8
  have F9 := fun_mk (st := s_is_places) l9 c9 k9
  have D9 := defAt X G F9 (F9.binds (ps := ["axis", "shapes", "constraints", "places"]) fun _ _ _ _ _ _ us hl => match us, hl with | [_, _, _, _], _ => rfl) a9
  have F10 := fun_mk (st := s_is_chain) l10 c10 k10
  have D10 := defAt X G F10 (F10.binds (ps := ["axis", "shapes", "constraints", "shape", "place", "chain"]) fun _ _ _ _ _ _ us hl => match us, hl with | [_, _, _, _, _, _], _ => rfl) a10
  have F11 := fun_mk (st := s_is_cycle) l11 c11 k11
  have D11 := defAt X G F11 (F11.binds (ps := ["axis", "shapes", "constraints", "cycle"]) fun _ _ _ _ _ _ us hl => match us, hl with | [_, _, _, _], _ => rfl) a11
  have F12 := fun_mk (st := s__law_jar) l12 c12 k12
  have D12 := defAt X G F12 (F12.binds (ps := ["script"]) fun _ _ _ _ _ _ us hl => match us, hl with | [_], _ => rfl) a12
  have F13 := fun_mk (st := s__law_take) l13 c13 k13
  have D13 := defAt X G F13 (F13.binds (ps := ["jar", "many"]) fun _ _ _ _ _ _ us hl => match us, hl with | [_, _], _ => rfl) a13
  have F14 := fun_mk (st := s__law_name) l14 c14 k14
  have D14 := defAt X G F14 (F14.binds (ps := ["jar", "taken"]) fun _ _ _ _ _ _ us hl => match us, hl with | [_, _], _ => rfl) a14
  have F15 := fun_mk (st := s__law_same) l15 c15 k15
  have D15 := defAt X G F15 (F15.binds (ps := ["one", "two"]) fun _ _ _ _ _ _ us hl => match us, hl with | [_, _], _ => rfl) a15
  have F16 := fun_mk (st := s__law_constraints) l16 c16 k16
  have D16 := defAt X G F16 (F16.binds (ps := ["jar", "axis", "shapes", "many"]) fun _ _ _ _ _ _ us hl => match us, hl with | [_, _, _, _], _ => rfl) a16
  have F17 := fun_mk (st := s__law_every) l17 c17 k17
  have D17 := defAt X G F17 (F17.binds (ps := ["axis", "shapes", "constraints"]) fun _ _ _ _ _ _ us hl => match us, hl with | [_, _, _], _ => rfl) a17
  have F18 := fun_mk (st := s__law_chain) l18 c18 k18
  have D18 := defAt X G F18 (F18.binds (ps := ["causes", "shape"]) fun _ _ _ _ _ _ us hl => match us, hl with | [_, _], _ => rfl) a18
  have F19 := fun_mk (st := s__law_due) l19 c19 k19
  have D19 := defAt X G F19 (F19.binds (ps := ["axis", "shapes", "constraints"]) fun _ _ _ _ _ _ us hl => match us, hl with | [_, _, _], _ => rfl) a19
  have F20 := fun_mk (st := s__law_keeps) l20 c20 k20
  have D20 := defAt X G F20 (F20.binds (ps := ["axis", "shapes", "constraints", "places"]) fun _ _ _ _ _ _ us hl => match us, hl with | [_, _, _, _], _ => rfl) a20
  have F21 := fun_mk (st := s__law_walk) l21 c21 k21
  have D21 := defAt X G F21 (F21.binds (ps := ["axis", "shapes", "constraints", "path"]) fun _ _ _ _ _ _ us hl => match us, hl with | [_, _, _, _], _ => rfl) a21
  have F22 := fun_mk (st := s__law_near) l22 c22 k22
  have D22 := defAt X G F22 (F22.binds (ps := ["jar", "axis", "shapes", "constraints", "path"]) fun _ _ _ _ _ _ us hl => match us, hl with | [_, _, _, _, _], _ => rfl) a22
  have F23 := fun_mk (st := s__law_wrong) l23 c23 k23
  have D23 := defAt X G F23 (F23.binds (ps := ["jar", "path"]) fun _ _ _ _ _ _ us hl => match us, hl with | [_, _], _ => rfl) a23
  have F24 := fun_mk (st := s__law_judges_chain) l24 c24 k24
  have D24 := defAt X G F24 (F24.binds (ps := ["jar", "axis", "shapes", "constraints", "shape", "place", "chain"]) fun _ _ _ _ _ _ us hl => match us, hl with | [_, _, _, _, _, _, _], _ => rfl) a24
  have F25 := fun_mk (st := s__law_judges_places) l25 c25 k25
  have D25 := defAt X G F25 (F25.binds (ps := ["jar", "axis", "shapes", "constraints", "places"]) fun _ _ _ _ _ _ us hl => match us, hl with | [_, _, _, _, _], _ => rfl) a25
  have F26 := fun_mk (st := s__law_judges_cycle) l26 c26 k26
  have D26 := defAt X G F26 (F26.binds (ps := ["jar", "axis", "shapes", "constraints", "cycle"]) fun _ _ _ _ _ _ us hl => match us, hl with | [_, _, _, _, _], _ => rfl) a26
  have F27 := fun_mk (st := s__law_judges_short) l27 c27 k27
  have D27 := defAt X G F27 (F27.binds (ps := ["axis", "shapes", "constraints"]) fun _ _ _ _ _ _ us hl => match us, hl with | [_, _, _], _ => rfl) a27
  have F28 := fun_mk (st := s_law) l28 c28 k28
  have D28 := defAt X G F28 (F28.binds (ps := ["script"]) fun _ _ _ _ _ _ us hl => match us, hl with | [_], _ => rfl) a28
  have T : Tops K mg := ⟨⟨_, _, D0⟩, ⟨_, _, D1⟩, ⟨_, _, D2⟩, ⟨_, _, D3⟩, ⟨_, _, D4⟩, ⟨_, _, D5⟩, ⟨_, _, D6⟩, ⟨_, _, D7⟩, ⟨_, _, D8⟩, ⟨_, _, D9⟩, ⟨_, _, D10⟩, ⟨_, _, D11⟩, ⟨_, _, D12⟩, ⟨_, _, D13⟩, ⟨_, _, D14⟩, ⟨_, _, D15⟩, ⟨_, _, D16⟩, ⟨_, _, D17⟩, ⟨_, _, D18⟩, ⟨_, _, D19⟩, ⟨_, _, D20⟩, ⟨_, _, D21⟩, ⟨_, _, D22⟩, ⟨_, _, D23⟩, ⟨_, _, D24⟩, ⟨_, _, D25⟩, ⟨_, _, D26⟩, ⟨_, _, D27⟩, ⟨_, _, D28⟩, conOf X G e0 kStr, PySem.W.mg_none_of X G z0, PySem.W.mg_none_of X G z1, PySem.W.mg_none_of X G z2, PySem.W.mg_none_of X G z3, PySem.W.mg_none_of X G z4, PySem.W.mg_none_of X G z5, PySem.W.mg_none_of X G z6, PySem.W.mg_none_of X G z7, PySem.W.mg_none_of X G z8, PySem.W.mg_none_of X G z9⟩
  refine ⟨PySem.W.fnOf "law" "law" (defArgs s_law) (defBody s_law) (defScope s_law) .none kV28 dc28 pm28 an28 cd28 ct28, fun s v => .of_eq rfl, fun base _ _ => ?_⟩
  have o_own_constraints : Okd l.prog w K mg base CX0 1 "own_constraints" (spN K 2 m_own_constraints) := ok_own_constraints T
  have o_all_constraints : Okd l.prog w K mg base CX0 2 "all_constraints" (spN K 3 m_all_constraints) := ok_all_constraints T o_own_constraints
  have o_make_pass : Okd l.prog w K mg base CX0 1 "make_pass" (spI K 3 m_make_pass) := ok_make_pass T
  have o_chain_of : Okd l.prog w K mg base CX0 1 "chain_of" (spI K 2 m_chain_of) := ok_chain_of T
  have o_cycle_of : Okd l.prog w K mg base CX0 1 "cycle_of" (spI K 3 m_cycle_of) := ok_cycle_of T
  have o_place_axis : Okd l.prog w K mg base CX0 3 "place_axis" (spN K 3 m_place_axis) := ok_place_axis T o_all_constraints o_chain_of o_cycle_of o_make_pass o_own_constraints
  have o_is_whole : Okd l.prog w K mg base CX0 1 "is_whole" (spN K 1 m_is_whole) := ok_is_whole T
  have o_is_among : Okd l.prog w K mg base CX0 2 "is_among" (spN K 2 m_is_among) := ok_is_among T o_is_whole
  have o_are_among : Okd l.prog w K mg base CX0 3 "are_among" (spN K 2 m_are_among) := ok_are_among T o_is_among
  have o_is_places : Okd l.prog w K mg base CX0 3 "is_places" (spN K 4 m_is_places) := ok_is_places T o_all_constraints o_is_whole
  have o_is_chain : Okd l.prog w K mg base CX0 4 "is_chain" (spN K 6 m_is_chain) := ok_is_chain T o_all_constraints o_are_among
  have o_is_cycle : Okd l.prog w K mg base CX0 4 "is_cycle" (spN K 4 m_is_cycle) := ok_is_cycle T o_all_constraints o_are_among
  have o__law_jar : Okd l.prog w K mg base CX0 1 "_law_jar" (spN K 1 m__law_jar) := ok__law_jar T
  have o__law_take : Okd l.prog w K mg base CX0 1 "_law_take" (spI K 2 m__law_take) := ok__law_take T
  have o__law_name : Okd l.prog w K mg base CX0 2 "_law_name" (spI K 2 m__law_name) := ok__law_name T o__law_take
  have o__law_same : Okd l.prog w K mg base CX0 11 "_law_same" (spN K 2 (m__law_same 10)) := ok__law_same T 10
  have o__law_constraints : Okd l.prog w K mg base CX0 2 "_law_constraints" (spI K 4 m__law_constraints) := ok__law_constraints T o__law_take
  have o__law_every : Okd l.prog w K mg base CX0 1 "_law_every" (spN K 3 m__law_every) := ok__law_every T
  have o__law_chain : Okd l.prog w K mg base CX0 1 "_law_chain" (spI K 2 m__law_chain) := ok__law_chain T
  have o__law_due : Okd l.prog w K mg base CX0 2 "_law_due" (spN K 3 m__law_due) := ok__law_due T o__law_chain o__law_every
  have o__law_keeps : Okd l.prog w K mg base CX0 2 "_law_keeps" (spN K 4 m__law_keeps) := ok__law_keeps T o__law_every
  have o__law_walk : Okd l.prog w K mg base CX0 2 "_law_walk" (spN K 4 m__law_walk) := ok__law_walk T o__law_every
  have o__law_near : Okd l.prog w K mg base CX0 2 "_law_near" (spI K 5 m__law_near) := ok__law_near T o__law_every o__law_take
  have o__law_wrong : Okd l.prog w K mg base CX0 2 "_law_wrong" (spI K 2 m__law_wrong) := ok__law_wrong T o__law_take
  have o__law_judges_chain : Okd l.prog w K mg base CX0 12 "_law_judges_chain" (spI K 7 m__law_judges_chain) := ok__law_judges_chain T o__law_near o__law_same o__law_walk o__law_wrong o_is_chain
  have o__law_judges_places : Okd l.prog w K mg base CX0 12 "_law_judges_places" (spI K 5 m__law_judges_places) := ok__law_judges_places T o__law_keeps o__law_same o__law_take o_is_places
  have o__law_judges_cycle : Okd l.prog w K mg base CX0 12 "_law_judges_cycle" (spI K 5 m__law_judges_cycle) := ok__law_judges_cycle T o__law_near o__law_same o__law_walk o__law_wrong o_is_cycle o_is_places
  have o__law_judges_short : Okd l.prog w K mg base CX0 12 "_law_judges_short" (spN K 3 m__law_judges_short) := ok__law_judges_short T o__law_every o__law_same o_is_cycle
  exact ok_law T D28 o__law_constraints o__law_due o__law_jar o__law_judges_chain o__law_judges_cycle o__law_judges_places o__law_judges_short o__law_name o__law_near o__law_same o__law_take o__law_walk o_is_cycle o_place_axis

end LK48

namespace LK48
open PySem PySem.Spec L2 Mir
theorem id_w0 {α : Type} {o : Option α} {Q : α → Prop} (h : w0 o Q) : w0 o Q := h
theorem id_w1 {α : Type} {o : Rs α} {Q : α → Prop} (h : w1 o Q) : w1 o Q := h
theorem id_w2 {α : Type} {o : Re α} {Q : α → E → Prop} (h : w2 o Q) : w2 o Q := h
theorem id_wS {s : SR} {N B C : E → Prop} {R : D → E → Prop} (h : wS s N R B C) : wS s N R B C := h
theorem id_and {p q : Prop} (h : p ∧ q) : p ∧ q := h
theorem id_ex {α : Type} {p : α → Prop} (h : ∃ a, p a) : ∃ a, p a := h
local macro_rules | `(tactic| walk_at "m1") => `(tactic| first
  | with_reducible apply w1_bin | ((with_reducible apply w1_var); exact rfl) | with_reducible apply w1_C
  | with_reducible apply w1_cons | with_reducible apply w1_nil | with_reducible apply w1_cal | with_reducible apply w1_un | with_reducible apply w1_call
  | with_reducible apply w1_ch | with_reducible apply w1_and | with_reducible apply w1_or | with_reducible apply w1_not | with_reducible apply w1_tup | with_reducible apply w1_lst | with_reducible apply w1_cut | with_reducible apply w1_cp0 | with_reducible apply w1_cp)
local macro_rules | `(tactic| walk_at "m2") => `(tactic| first
  | with_reducible apply w2_ofN | with_reducible apply w2_tst | with_reducible apply w2_own | with_reducible apply w2_cons | with_reducible apply w2_nil
  | ((with_reducible apply w2_io); exact rfl) | ((with_reducible apply w2_mut); exact rfl) | ((with_reducible apply w2_mv); exact rfl) | with_reducible apply w2_bin | ((with_reducible apply w2_binV); exact rfl) | with_reducible apply w2_un
  | with_reducible apply w2_tup | with_reducible apply w2_lst | with_reducible apply w2_cal | with_reducible apply w2_call | with_reducible apply w2_frz | with_reducible apply w2_cut
  | with_reducible apply w2_and | with_reducible apply w2_or | with_reducible apply w2_not | with_reducible apply w2_tY
  | with_reducible apply w2_wV | with_reducible apply w2_wR1 | with_reducible apply w2_wR2)
local macro_rules | `(tactic| walk_at "mS") => `(tactic| first
  | with_reducible apply wS_seq | with_reducible apply wS_set | with_reducible apply wS_if | with_reducible apply wS_ret
  | with_reducible apply wS_nil | with_reducible apply wS_expr | with_reducible apply wS_retN | with_reducible apply wS_brk | with_reducible apply wS_cnt
  | ((with_reducible apply wS_aug); (focus (exact rfl)); (focus (exact rfl))) | with_reducible apply wS_asg | with_reducible apply wS_par | with_reducible apply wS_setIx | with_reducible apply wS_for)
local macro_rules | `(tactic| walk_at "m0") => `(tactic| first
  | ((with_reducible refine w0_mulI ?_ ?_); focus (first | exact .inr (big64_of (by omega)) | exact .inl (big64_of (by omega))))
  | ((with_reducible refine w0_modI ?_ ?_); focus (first | omega | assumption))
  | ((with_reducible refine w0_divI ?_ ?_); focus (first | omega | assumption))
  | ((with_reducible refine w0_powI ?_ ?_); focus decide)
  | ((with_reducible refine w0_addS ?_ ?_); focus (first | omega | (simp; omega) | (simp; done)))
  | ((with_reducible refine w0_lenS ?_ ?_); focus (first | omega | (simp; omega) | (simp; done)))
  | ((with_reducible refine w0_isTup ?_ ?_); focus (exact rfl)) | ((with_reducible refine w0_isBl ?_ ?_); focus (exact rfl)) | ((with_reducible refine w0_isStr ?_ ?_); focus (exact rfl)) | ((with_reducible refine w0_isInt ?_ ?_); focus (exact rfl)) | ((with_reducible refine w0_isLstD ?_ ?_); focus (exact rfl))
  | ((with_reducible refine w0_strI ?_ ?_); focus omega)
  | ((with_reducible refine w0_eqD ?_ ?_ ?_); (focus (first | assumption | exact rfl)); (focus (first | assumption | exact rfl)))
  | ((with_reducible refine w0_neD ?_ ?_ ?_); (focus (first | assumption | exact rfl)); (focus (first | assumption | exact rfl)))
  | with_reducible apply w0_imm
  | ((fail_if_success with_reducible refine w0_mulI ?_ ?_); (fail_if_success with_reducible refine w0_divI ?_ ?_); (fail_if_success with_reducible refine w0_modI ?_ ?_); (fail_if_success with_reducible refine w0_strI ?_ ?_); (fail_if_success with_reducible refine w0_addS ?_ ?_); (fail_if_success with_reducible refine w0_lenS ?_ ?_); (with_reducible apply w0_of); focus (exact rfl)))
local macro_rules | `(tactic| walk_at "mA") => `(tactic| first
  | ((with_reducible refine And.intro (fun hc => ?_) (fun hc => ?_)) <;> (first | ((with_reducible replace hc := of_decide_eq_true hc); first | omega | (simp at hc; done) | skip) | ((with_reducible replace hc := of_decide_eq_false hc); first | omega | (simp at hc; done) | skip) | exact absurd (show false = true from hc) (by decide) | exact absurd (show true = false from hc) (by decide) | (simp at hc; done) | skip))
  | ((with_reducible apply And.intro); focus (first | with_reducible assumption | ((with_reducible refine small62_of ?_); omega) | ((with_reducible refine fits_of ?_); omega) | exact rfl | (simp [imm, imms, imms_ints, *]; done))))
local macro_rules | `(tactic| walk_at "mE") => `(tactic| first
  | ((with_reducible apply Exists.intro); (with_reducible apply And.intro); focus (exact rfl))
  | ((with_reducible apply Exists.intro); (with_reducible apply Exists.intro); (with_reducible apply And.intro); focus (exact rfl)))
local macro_rules | `(tactic| walk_at "m") => `(tactic| first
  | ((with_reducible refine id_w1 ?_); walk_at "m1") | ((with_reducible refine id_w0 ?_); walk_at "m0") | ((with_reducible refine id_ex ?_); walk_at "mE") | ((with_reducible refine id_w2 ?_); walk_at "m2") | ((with_reducible refine id_and ?_); walk_at "mA") | ((with_reducible refine id_wS ?_); walk_at "mS"))
local macro_rules | `(tactic| walk_at "m1") => `(tactic| first
  | with_reducible apply w1_sm | with_reducible apply w1_disp)
local macro_rules | `(tactic| walk_at "m0") => `(tactic| first
  | ((with_reducible refine w0_augS ?_ ?_); focus (first | omega | (simp; omega) | (simp; done)))
  | ((with_reducible refine w0_cutS ?_ ?_); focus (first | omega | (simp; omega) | assumption))
  | ((with_reducible refine w0_starts ?_ ?_); focus (first | assumption | (simp; done))))
local macro_rules | `(tactic| walk_at "m1") => `(tactic| first
  | with_reducible apply w1_newD | with_reducible apply w1_disp1 | with_reducible apply w1_getB)
local macro_rules | `(tactic| walk_at "m2") => `(tactic| with_reducible apply w2_frzD)
local macro_rules | `(tactic| walk_at "mS") => `(tactic| with_reducible apply wS_dsetS)
local macro_rules | `(tactic| walk_at "m0") => `(tactic| first
  | with_reducible apply w0_dIn | with_reducible apply w0_rIn | with_reducible apply w0_dNotIn | with_reducible apply w0_rNotIn | with_reducible apply w0_dGetOr | with_reducible apply w0_rGetOr
  | (with_reducible refine w0_dGet (by with_reducible assumption) ?_) | (with_reducible refine w0_rGet (by with_reducible assumption) ?_)
  | ((with_reducible refine w0_gT2 ?_ ?_); focus (first | exact rfl | assumption | (simp [imm, imms, imms_ints, *]; done))) | ((with_reducible refine w0_gT3 ?_ ?_); focus (first | exact rfl | assumption | (simp [imm, imms, imms_ints, *]; done)))
  | ((with_reducible refine w0_gT4 ?_ ?_); focus (first | exact rfl | assumption | (simp [imm, imms, imms_ints, *]; done))) | ((with_reducible refine w0_gT5 ?_ ?_); focus (first | exact rfl | assumption | (simp [imm, imms, imms_ints, *]; done))))
def Jar (d : D) : Prop := ∃ (rows : List Int) (at_ : Int), 0 ≤ at_ ∧ (∀ r ∈ rows, 0 ≤ r ∧ r < 1000000) ∧ rows.length ≤ 1000000 ∧ d = .lst [.rol (rows.map .int), .int at_]
/-- an int of 0 .. many - 1 was drawn -/
def Drawn (many : Int) (d : D) (os : List D) : Prop := ∃ r jar', d = .int r ∧ (0 ≤ r ∧ r < many) ∧ Jar jar' ∧ os = [jar', .int many]
theorem take_ok {jar : D} {many : Int} (h : Jar jar) (hm : 0 < many) : wD (m__law_take [jar, .int many]) (Drawn many) := by
  obtain ⟨rows, at_, h0, h1, h2, rfl⟩ := h
  have hl : (rows.map D.int).length = rows.length := List.length_map _
  apply wD_def
  unfold b__law_take
  repeat' walk_at "m"
  · refine w0_ixR h0 (by omega) fun d hd => ?_
    obtain ⟨r, hr, rfl⟩ := get_ints hd
    repeat' walk_at "m"
    exact ⟨_, _, rfl, ⟨Int.emod_nonneg _ (by omega), Int.emod_lt_of_pos _ hm⟩, ⟨rows, at_ + 1, by omega, h1, h2, rfl⟩, rfl⟩
  · have e : ∀ n : Int, at_ - at_ / n * n = at_ % n := fun n => by rw [Int.emod_def, Int.mul_comm]
    refine w0_ixR (by rw [e]; exact Int.emod_nonneg _ (by omega)) (by rw [e]; exact Int.emod_lt_of_pos _ (by omega)) fun d hd => ?_
    obtain ⟨r, hr, rfl⟩ := get_ints hd
    have := h1 r hr
    repeat' walk_at "m"
    exact ⟨_, _, rfl, ⟨Int.emod_nonneg _ (by omega), Int.emod_lt_of_pos _ hm⟩, ⟨rows, at_ + 1, by omega, h1, h2, rfl⟩, rfl⟩
  · exact ⟨_, _, rfl, ⟨Int.emod_nonneg _ (by omega), Int.emod_lt_of_pos _ hm⟩, ⟨rows, at_ + 1, by omega, h1, h2, rfl⟩, rfl⟩
def JarI (s : D) (n : Nat) (e : E) : Prop := ∃ (rows : List Int) (x2 x3 x4 x5 : Option D), (∀ r ∈ rows, 0 ≤ r ∧ r < 1000000) ∧ rows.length ≤ n ∧ e = [some s, some (.lst (rows.map .int)), x2, x3, x4, x5]
def JarJ (s : D) (n : Nat) (e : E) : Prop := ∃ (rows : List Int) (c : Int) (x2 x4 x5 : Option D), 0 ≤ c ∧ (∀ r ∈ rows, 0 ≤ r ∧ r < 1000000) ∧ rows.length ≤ n ∧ e = [some s, some (.lst (rows.map .int)), x2, some (.int c), x4, x5]
theorem w0_app {ns : List Int} {i : Int} {Q : D × D → Prop} (h : ns.length ≤ 1000000) (q : Q (.non, .lst ((ns ++ [i]).map D.int))) : w0 (fAppend (.lst (ns.map D.int)) [.int i]) Q := by
  refine w0_of (show (if (ns.map D.int).length < sizeLine then some (D.non, D.lst (ns.map D.int ++ [.int i])) else none) = _ from ?_) q
  rw [if_pos (by rw [List.length_map]; have : sizeLine = 16777216 := rfl; omega)]
  simp
theorem rows_app {rows : List Int} {i : Int} (h : ∀ r ∈ rows, 0 ≤ r ∧ r < 1000000) (hi : 0 ≤ i ∧ i < 1000000) : ∀ r ∈ rows ++ [i], 0 ≤ r ∧ r < 1000000 := fun r m => by
  rcases List.mem_append.mp m with m | m
  · exact h r m
  · rw [List.mem_singleton.mp m]; exact hi
theorem emod_in {i j : Int} (h : 0 < j) (h1 : j ≤ 1000000) : 0 ≤ i % j ∧ i % j < 1000000 := ⟨Int.emod_nonneg _ (by omega), Int.lt_of_lt_of_le (Int.emod_lt_of_pos _ h) h1⟩
theorem jar_ok (ns : List Int) (h : ns.length ≤ 63) : w1 (m__law_jar [.rol (ns.map .int)]) Jar := by
  have hl : (ns.map D.int).length = ns.length := List.length_map _
  apply w1_def (by simp [imms, imm, imms_ints])
  unfold b__law_jar
  repeat' walk_at "m"
  · refine wS_loop0 (fun k e => JarI (.rol (ns.map .int)) (40 * k) e) _ ⟨[], _, _, _, _, by simp, by simp, rfl⟩ (fun i d e hd hI => ?_) (fun e hI => ?_)
    · obtain ⟨hi, rfl⟩ := range_at hd
      obtain ⟨rows, x2, x3, x4, x5, h1, h2, rfl⟩ := hI
      have hn : i < ns.length ∧ i < 63 := by split at hi <;> omega
      repeat' walk_at "m"
      refine w0_ixR (by omega) (by omega) fun d hd => ?_
      obtain ⟨c, hc, rfl⟩ := get_ints hd
      have big : ∀ (c : Int) (x2 x4 x5 : Option D), 0 ≤ c → wS (mLoop (gN 4) (mIf (tst (ofN (bin fGt (bVar 3) (bC (.int 0)))))
  (mSeq (mExpr (eMut 1 fAppend (acons (ofN (bin fMod (cal fInt (aCons (bVar 3) aNil)) (bC (.int 1009)))) anil)))
  (mSet 3 (ofN (bin fDiv (bVar 3) (bC (.int 1009))))))
  mNil) (rangeD 0 (Int.toNat 40)) [some (.rol (ns.map .int)), some (.lst (rows.map .int)), x2, some (.int c), x4, x5]) (fun e => JarI (.rol (ns.map .int)) (40 * (i + 1)) e) (fun _ _ => False) (fun _ => False) (fun _ => False) := fun c x2 x4 x5 hc => by
        refine wS_loop0 (fun k e => JarJ (.rol (ns.map .int)) (40 * i + k) e) _ ⟨rows, c, _, _, _, hc, h1, h2, rfl⟩ (fun j d e hd hI => ?_) (fun e hI => ?_)
        · obtain ⟨hj, rfl⟩ := range_at hd
          obtain ⟨rows, c, x2, x4, x5, hc, h1, h2, rfl⟩ := hI
          have hj' : j < 40 := hj
          repeat' walk_at "m"
          · refine w0_app (by omega) ?_
            repeat' walk_at "m"
            exact ⟨rows ++ [_], _, _, _, _, by omega, rows_app h1 (emod_in (by decide) (by decide)), by simp; omega, rfl⟩
          · exact ⟨rows, c, _, _, _, hc, h1, by omega, rfl⟩
        · obtain ⟨rows, c, x2, x4, x5, hc, h1, h2, rfl⟩ := hI
          exact ⟨rows, _, _, _, _, h1, by simp [range_len] at h2; omega, rfl⟩
      repeat' walk_at "m"
      · exact wS_mono (big _ _ _ _ (by omega)) (fun _ h => h) (fun _ _ h => h.elim) (fun _ h => h.elim) (fun _ h => h.elim)
      · refine w0_app (by omega) ?_
        repeat' walk_at "m"
        refine w0_app (by simp; omega) ?_
        repeat' walk_at "m"
        exact ⟨_, _, _, _, _, rows_app (rows_app h1 (emod_in (by decide) (by decide))) (emod_in (by decide) (by decide)), by simp; omega, rfl⟩
      · exact wS_mono (big _ _ _ _ (by omega)) (fun _ h => h) (fun _ _ h => h.elim) (fun _ h => h.elim) (fun _ h => h.elim)
      · refine w0_app (by omega) ?_
        repeat' walk_at "m"
        refine w0_app (by simp; omega) ?_
        repeat' walk_at "m"
        exact ⟨_, _, _, _, _, rows_app (rows_app h1 (emod_in (by decide) (by decide))) (emod_in (by decide) (by decide)), by simp; omega, rfl⟩
    · obtain ⟨rows, x2, x3, x4, x5, h1, h2, rfl⟩ := hI
      have hn : rows.length ≤ 1000000 := by
        simp only [range_len] at h2
        split at h2 <;> omega
      repeat' walk_at "m"
      exact ⟨rows, 0, by omega, h1, hn, rfl⟩
theorem draw_k {jar : D} {many : Int} {Q : D → List D → Prop} (h : Jar jar) (hm : 0 < many) (q : ∀ r jar', 0 ≤ r → r < many → Jar jar' → Q (.int r) [jar', .int many]) : wD (m__law_take [jar, .int many]) Q :=
  wD_mono (take_ok h hm) fun _ _ ⟨r, jar', e1, hr, hj, e2⟩ => by subst e1 e2; exact q r jar' hr.1 hr.2 hj
local macro_rules | `(tactic| walk_at "t") => `(tactic| ((with_reducible refine draw_k ?_ ?_ ?_); (focus assumption); (focus (first | omega | (simp; omega) | decide)); intro r jar' hr0 hr1 hj; refine Exists.intro _ (Exists.intro _ (And.intro rfl ?_))))
def Says (p : Prop) (d : D) : Prop := ∃ b, d = .bl b ∧ (b = true ↔ p)
theorem same_leaf (r : MD) (m n : Nat) (a e : D) (ha : pt m a = true) (he : pt n e = true) (hn : ∀ as es, a = .tup as → e = .tup es → False) : w1 (mDef0 1 (b__law_same r) [a, e]) (Says (a = e)) := by
  apply w1_def (by simp [imms, pt_imm ha, pt_imm he])
  unfold b__law_same
  cases e <;> (try simp at he) <;> cases a <;> (try simp at ha) <;> (try exact (hn _ _ rfl rfl).elim)
  all_goals (repeat' walk_at "m")
  all_goals exact ⟨_, rfl, by simp [Mir.isNon]⟩
theorem ite_eq_self {α : Type} {as es : List α} (h : as.length = es.length) : ∀ {k : Nat}, k = es.length → as.take k = es.take k → as = es := fun {k} e q => by
  subst e
  rw [List.take_of_length_le (Nat.le_of_eq h), List.take_of_length_le (Nat.le_refl _)] at q
  exact q
theorem same_tup (r : MD) (m n : Nat) (as es : List D) (ha : pt (m + 1) (.tup as) = true) (he : pt (n + 1) (.tup es) = true) (ih : ∀ a e, pt m a = true → pt n e = true → w1 (r [a, e]) (Says (a = e))) : w1 (mDef0 1 (b__law_same r) [.tup as, .tup es]) (Says (D.tup as = D.tup es)) := by
  obtain ⟨la, ha'⟩ := pt_tup_iff.mp ha
  obtain ⟨le, he'⟩ := pt_tup_iff.mp he
  apply w1_def (by rw [imms, imms, pt_imm ha, pt_imm he]; rfl)
  unfold b__law_same
  repeat' walk_at "m"
  · rename_i hc
    simp at hc
    exact ⟨_, rfl, by simp; intro z; rw [z] at hc; omega⟩
  · rename_i hc
    have hc' : as.length = es.length := by simp at hc; omega
    refine wS_loop0 (fun k e => Hold (∃ x, as.take k = es.take k ∧ e = [some (.tup as), some (.tup es), x])) _ ⟨_, by simp, rfl⟩ (fun i d e hd hI => ?_) (fun e hI => ?_)
    · obtain ⟨hi, rfl⟩ := range_at hd
      obtain ⟨x, hk, rfl⟩ := hI
      have hi' : i < es.length := by omega
      repeat' walk_at "m"
      refine w0_ixT (by omega) (by omega) fun x hx => ?_
      repeat' walk_at "m"
      refine w0_ixT (by omega) (by omega) fun y hy => ?_
      repeat' walk_at "m"
      refine And.intro (by rw [imms, imms, pt_imm (ha' x (mem_get hx)), pt_imm (he' y (mem_get hy))]; rfl) ?_
      refine w1_mono (ih x y (ha' x (mem_get hx)) (he' y (mem_get hy))) fun d hd => ?_
      obtain ⟨b, rfl, hb⟩ := hd
      have e0 : (0 + (i : Int)).toNat = i := by omega
      rw [e0] at hx hy
      repeat' walk_at "m"
      · rename_i hc2
        refine ⟨_, rfl, ⟨fun z => by simp at z, fun z => ?_⟩⟩
        injection z with z
        rw [z] at hx
        rw [hx] at hy
        have : b = true := hb.mpr (Option.some.inj hy)
        rw [this] at hc2
        cases hc2
      · rename_i hc2
        refine ⟨_, ?_, rfl⟩
        have hb' : b = true := by cases b <;> simp_all
        rw [List.take_add_one, List.take_add_one, hk, hx, hy, hb.mp hb']
    · obtain ⟨x, hk, rfl⟩ := hI
      repeat' walk_at "m"
      refine ⟨_, rfl, ⟨fun _ => ?_, fun _ => rfl⟩⟩
      rw [ite_eq_self hc' (by simp [range_len]) hk]
theorem same_ok : ∀ (n m : Nat) (a e : D), pt m a = true → pt n e = true → w1 (m__law_same (n + 1) [a, e]) (Says (a = e)) := by
  intro n
  induction n with
  | zero => exact fun m a e ha he => same_leaf _ m 0 a e ha he fun as es _ z => by subst z; simp at he
  | succ n ih =>
    intro m a e ha he
    by_cases hn : ∃ as es, a = .tup as ∧ e = .tup es
    · obtain ⟨as, es, rfl, rfl⟩ := hn
      cases m with
      | zero => simp at ha
      | succ m => exact same_tup _ m n as es ha he fun a e ha he => ih m a e ha he
    · exact same_leaf _ m (n + 1) a e ha he fun as es h1 h2 => hn ⟨as, es, h1, h2⟩

theorem nodup_le {α : Type} [DecidableEq α] : ∀ {xs ys : List α}, xs.Nodup → (∀ x ∈ xs, x ∈ ys) → xs.length ≤ ys.length
  | [], _, _, _ => by simp
  | x :: xs, ys, nd, h => by
    obtain ⟨n1, n2⟩ := List.nodup_cons.mp nd
    have hx := h x List.mem_cons_self
    have := nodup_le (ys := ys.erase x) n2 (fun z hz => (List.mem_erase_of_ne (fun e => n1 (by rw [← e]; exact hz))).mpr (h z (List.mem_cons_of_mem _ hz)))
    rw [List.length_erase_of_mem hx] at this
    have : 0 < ys.length := List.length_pos_of_mem hx
    simp; omega
/-! ### names, all different -/
theorem any_strs (T : List (List Nat)) (s : List Nat) : anyEq (T.map .str) (.str s) = decide (s ∈ T) := by
  unfold anyEq
  rw [List.any_map, Bool.eq_iff_iff, List.any_eq_true, decide_eq_true_iff]
  constructor
  · rintro ⟨x, hx, h⟩
    have h : D.eqv (.str x) (.str s) = true := h
    rw [eqv_str] at h
    rw [← of_decide_eq_true h]; exact hx
  · intro h
    exact ⟨s, h, by show D.eqv (.str s) (.str s) = true; simp⟩
theorem sh_strs (n : Nat) (T : List (List Nat)) : (T.map D.str).all (sh n) = true := by
  rw [List.all_map, List.all_eq_true]
  intro x _
  cases n <;> rfl
theorem w0_inStrs {T : List (List Nat)} {s : List Nat} {Q : D → Prop} (q : Q (.bl (decide (s ∈ T)))) : w0 (fIn (.str s) (.lst (T.map .str))) Q := by
  refine w0_of (show (if sh 39 (.str s) = true ∧ sh 40 (.lst (T.map .str)) = true then some (D.bl (anyEq (T.map .str) (.str s))) else none) = some (.bl (decide (s ∈ T))) from ?_) q
  rw [if_pos ⟨rfl, sh_strs 39 T⟩, any_strs]
theorem w0_notInStrs {T : List (List Nat)} {s : List Nat} {Q : D → Prop} (q : Q (.bl (!decide (s ∈ T)))) : w0 (fNotIn (.str s) (.lst (T.map .str))) Q := by
  refine w0_of (show (if sh 39 (.str s) = true ∧ sh 40 (.lst (T.map .str)) = true then some (D.bl (!anyEq (T.map .str) (.str s))) else none) = some (.bl (!decide (s ∈ T))) from ?_) q
  rw [if_pos ⟨rfl, sh_strs 39 T⟩, any_strs]
theorem strs_imm (ls : List (List Nat)) : imms (ls.map D.str) = true := by
  induction ls with
  | nil => rfl
  | cons a l ih => rw [List.map_cons, imms, ih]; rfl
local macro_rules | `(tactic| walk_at "m0") => `(tactic| first | with_reducible apply w0_inStrs | with_reducible apply w0_notInStrs)
def lo (c : Nat) : Bool := decide (97 ≤ c ∧ c ≤ 122)
def nc (c : Nat) : Bool := lo c || decide (48 ≤ c ∧ c ≤ 57)
def SM : List Nat := (List.range 26).map (97 + ·)
def DG : List Nat := (List.range 10).map (48 + ·)
theorem alpha_eq : lit "abcdefghijklmnopqrstuvwxyz" = SM := by rw [lit_eq]; rfl
theorem dg_eq : lit "0123456789" = DG := by rw [lit_eq]; rfl
theorem x_eq : lit "x" = [120] := by rw [lit_eq]; rfl
theorem sm_len : SM.length = 26 := by simp [SM]
theorem dg_len : DG.length = 10 := by simp [DG]
theorem sm_nc : ∀ c ∈ SM, nc c = true := by
  intro c h
  unfold SM at h
  obtain ⟨k, hk, rfl⟩ := List.mem_map.mp h
  rw [List.mem_range] at hk
  have : lo (97 + k) = true := decide_eq_true (by omega)
  simp [nc, this]
theorem smdg_nc : ∀ c ∈ SM ++ DG, nc c = true := by
  intro c h
  rcases List.mem_append.mp h with h | h
  · exact sm_nc c h
  · unfold DG at h
    obtain ⟨k, hk, rfl⟩ := List.mem_map.mp h
    rw [List.mem_range] at hk
    have : decide (48 ≤ 48 + k ∧ 48 + k ≤ 57) = true := decide_eq_true (by omega)
    show (lo (48 + k) || decide (48 ≤ 48 + k ∧ 48 + k ≤ 57)) = true
    rw [this, Bool.or_true]
theorem ix_mem {α : Type} {l : List α} {i : Nat} {p : α → Prop} (h : ∀ a ∈ l, p a) {a : α} (e : l[i]? = some a) : p a := h a (mem_get e)
theorem w0_ixSM {i : Int} {Q : D → Prop} (h : 0 ≤ i) (h1 : i < 26) (q : ∀ c, nc c = true → Q (.str [c])) : w0 (fIx (.str SM) (.int i)) Q :=
  w0_ixS (fits_of (by rw [sm_len]; decide)) h (by rw [sm_len]; exact h1) fun c hc => q c (ix_mem sm_nc hc)
theorem w0_ixSD {i : Int} {Q : D → Prop} (h : 0 ≤ i) (h1 : i < 36) (q : ∀ c, nc c = true → Q (.str [c])) : w0 (fIx (.str (SM ++ DG)) (.int i)) Q :=
  w0_ixS (fits_of (by rw [List.length_append, sm_len, dg_len]; decide)) h (by rw [List.length_append, sm_len, dg_len]; exact h1) fun c hc => q c (ix_mem smdg_nc hc)
theorem w0_addSD {Q : D → Prop} (q : Q (.str (SM ++ DG))) : w0 (fAdd (.str SM) (.str DG)) Q := w0_addS (by rw [sm_len, dg_len]; decide) q
local macro_rules | `(tactic| walk_at "m0") => `(tactic| first
  | ((with_reducible refine w0_ixSM ?_ ?_ ?_); (focus assumption); (focus assumption); intro c hc)
  | ((with_reducible refine w0_ixSD ?_ ?_ ?_); (focus assumption); (focus assumption); intro c hc)
  | with_reducible apply w0_addSD)
def dgs (j : Nat) : List Nat := lit (toString ((j : Nat) : Int))
theorem dgs_facts : ((List.range 60).all fun j => !((toString ((j : Nat) : Int)).toList.map Char.toNat).contains 120 && ((toString ((j : Nat) : Int)).toList.map Char.toNat).all nc && decide (((toString ((j : Nat) : Int)).toList.map Char.toNat).length ≤ 2)) = true := by decide +kernel
theorem dgs_ok {j : Nat} (h : j < 60) : 120 ∉ dgs j ∧ (dgs j).all nc = true ∧ (dgs j).length ≤ 2 := by
  have := List.all_eq_true.mp dgs_facts j (List.mem_range.mpr h)
  simp only [Bool.and_eq_true, Bool.not_eq_true', decide_eq_true_eq] at this
  unfold dgs
  rw [lit_eq]
  refine ⟨fun z => ?_, this.1.2, this.2⟩
  have z' := List.contains_iff_mem.mpr z
  rw [this.1.1] at z'; cases z'
theorem dgs_inj : ((List.range 60).all fun i => (List.range 60).all fun j => decide (i = j) || !decide ((toString ((i : Nat) : Int)).toList.map Char.toNat = (toString ((j : Nat) : Int)).toList.map Char.toNat)) = true := by decide +kernel
theorem dgs_ne {i j : Nat} (hi : i < 60) (hj : j < 60) (h : dgs i = dgs j) : i = j := by
  have := List.all_eq_true.mp (List.all_eq_true.mp dgs_inj i (List.mem_range.mpr hi)) j (List.mem_range.mpr hj)
  unfold dgs at h
  rw [lit_eq, lit_eq] at h
  rw [h] at this
  simpa using this
def Tag (c : List Nat) (j : Nat) : Prop := ∃ p, c = p ++ 120 :: dgs j
theorem tail_eq {p q d e : List Nat} (hd : 120 ∉ d) (he : 120 ∉ e) (h : p ++ 120 :: d = q ++ 120 :: e) : d = e := by
  rcases List.append_eq_append_iff.mp h with ⟨a, h1, h2⟩ | ⟨a, h1, h2⟩
  · cases a with
    | nil => simpa using h2
    | cons x a =>
      simp only [List.cons_append, List.cons.injEq] at h2
      exact (hd (by rw [h2.2]; simp)).elim
  · cases a with
    | nil => simp at h2; exact h2.symm
    | cons x a =>
      simp only [List.cons_append, List.cons.injEq] at h2
      exact (he (by rw [h2.2]; simp)).elim
theorem Tag.inj {c : List Nat} {i j : Nat} (hi : i < 60) (hj : j < 60) (a : Tag c i) (b : Tag c j) : i = j := by
  obtain ⟨p, rfl⟩ := a
  obtain ⟨q, e⟩ := b
  exact dgs_ne hi hj (tail_eq (dgs_ok hi).1 (dgs_ok hj).1 e)
/-- a name not yet taken, or the tries so far -/
def Try (T : List (List Nat)) (k : Nat) (c : List Nat) : Prop :=
  k = 0 ∨ c ∉ T ∨ ∃ cs : List (List Nat), cs.length + 1 = k ∧ (∀ x ∈ cs, x ∈ T) ∧ cs.Nodup ∧ (∀ x ∈ cs, ∃ j, j + 1 < k ∧ Tag x j) ∧ ∃ j, j + 1 = k ∧ Tag c j
theorem Try.next {T : List (List Nat)} {k : Nat} {c : List Nat} (hk : k < 60) (h : Try T k c) (hc : c ∈ T) {c' : List Nat} (h' : Tag c' k) : Try T (k + 1) c' := by
  refine .inr (.inr ?_)
  rcases h with h | h | ⟨cs, h1, h2, h3, h4, j, h5, h6⟩
  · subst h
    exact ⟨[], rfl, by simp, by simp, by simp, 0, rfl, h'⟩
  · exact (h hc).elim
  · refine ⟨c :: cs, by simp; omega, fun x m => ?_, List.nodup_cons.mpr ⟨fun m => ?_, h3⟩, fun x m => ?_, k, rfl, h'⟩
    · rcases List.mem_cons.mp m with z | m
      · rw [z]; exact hc
      · exact h2 x m
    · obtain ⟨i, hi, ht⟩ := h4 c m
      have := Tag.inj (by omega) (by omega) ht h6
      omega
    · rcases List.mem_cons.mp m with z | m
      · exact ⟨j, by omega, by rw [z]; exact h6⟩
      · obtain ⟨i, hi, ht⟩ := h4 x m
        exact ⟨i, by omega, ht⟩
theorem Try.stay {T : List (List Nat)} {k : Nat} {c : List Nat} (hc : c ∉ T) : Try T (k + 1) c := .inr (.inl hc)
theorem Try.done {T : List (List Nat)} {c : List Nat} (hT : T.length ≤ 59) (h : Try T 60 c) : c ∉ T := fun hc => by
  rcases h with h | h | ⟨cs, h1, h2, h3, h4, j, h5, h6⟩
  · omega
  · exact h hc
  · have nd : (c :: cs).Nodup := List.nodup_cons.mpr ⟨fun m => by
      obtain ⟨i, hi, ht⟩ := h4 c m
      have := Tag.inj (by omega) (by omega) ht h6
      omega, h3⟩
    have := nodup_le (ys := T) nd fun x m => by
      rcases List.mem_cons.mp m with z | m
      · rw [z]; exact hc
      · exact h2 x m
    simp at this; omega
def Named (T : List (List Nat)) (d : D) (os : List D) : Prop := ∃ (n : List Nat) (jar' : D), d = .str n ∧ (0 < n.length ∧ n.length ≤ 9) ∧ n.all nc = true ∧ n ∉ T ∧ Jar jar' ∧ os = [jar', .lst ((T ++ [n]).map .str)]
theorem all_take {p : Nat → Bool} {l : List Nat} (h : l.all p = true) (k : Nat) : (l.take k).all p = true := by
  rw [List.all_eq_true] at h ⊢
  exact fun x m => h x (List.mem_of_mem_take m)
theorem w0_appS {T : List (List Nat)} {u : List Nat} {Q : D × D → Prop} (h : T.length ≤ 1000000) (q : Q (.non, .lst ((T ++ [u]).map .str))) : w0 (fAppend (.lst (T.map D.str)) [.str u]) Q := by
  refine w0_of (show (if (T.map D.str).length < sizeLine then some (D.non, D.lst (T.map D.str ++ [.str u])) else none) = _ from ?_) q
  rw [if_pos (by rw [List.length_map]; have : sizeLine = 16777216 := rfl; omega)]
  simp
theorem name_ok {jar : D} {T : List (List Nat)} (h : Jar jar) (hT : T.length ≤ 59) : wD (m__law_name [jar, .lst (T.map .str)]) (Named T) := by
  apply wD_def
  unfold b__law_name
  rw [alpha_eq, dg_eq, x_eq]
  repeat' (first | walk_at "m" | walk_at "t")
  rename_i r1 j1 a0 a1 hj1 c hc r2 j2 b0 b1 hj2 r3 j3 c0 c1 hj3
  have hb : 0 ≤ r2 * (1 + r3) ∧ r2 * (1 + r3) ≤ 9 := by
    have : r2 = 0 ∨ r2 = 1 ∨ r2 = 2 ∨ r2 = 3 := by omega
    rcases this with rfl | rfl | rfl | rfl <;> omega
  generalize r2 * (1 + r3) = m at hb
  refine ⟨small62_of (by omega), ?_⟩
  refine wS_loop0 (fun k e => Hold (∃ (jar : D) (t : List Nat) (x5 : Option D), Jar jar ∧ t.length = k + 1 ∧ t.all nc = true ∧ e = [some jar, some (.lst (T.map .str)), some (.str SM), some (.str (SM ++ DG)), some (.str t), x5])) _ ⟨_, [c], _, hj3, rfl, by simp [hc], rfl⟩ (fun i d e hd hI => ?_) (fun e hI => ?_)
  · obtain ⟨jar, t, x5, hj, ht, h2, rfl⟩ := hI
    obtain ⟨hi, rfl⟩ := range_at hd
    repeat' (first | walk_at "m" | walk_at "t")
    rename_i r4 j4 d0 d1 hj4 c' hc'
    exact ⟨_, t ++ [c'], _, hj4, by simp; omega, by rw [List.all_append, h2]; simp [hc'], rfl⟩
  · obtain ⟨jar, t, x5, hj, ht, h2, rfl⟩ := hI
    rw [range_len] at ht
    repeat' (first | walk_at "m" | walk_at "t")
    rw [cutL_to (by decide), show Int.toNat 8 = 8 from rfl]
    have h3 := all_take h2 8
    have h4 : 0 < (t.take 8).length ∧ (t.take 8).length ≤ 9 := by rw [List.length_take]; omega
    generalize t.take 8 = u at h3 h4
    clear h2 ht
    refine wS_loop0 (fun k e => Hold (∃ (u : List Nat) (x5 : Option D), (0 < u.length ∧ u.length ≤ 9) ∧ u.all nc = true ∧ Try T k u ∧ e = [some jar, some (.lst (T.map .str)), some (.str SM), some (.str (SM ++ DG)), some (.str u), x5])) _ ⟨u, _, h4, h3, .inl rfl, rfl⟩ (fun i d e hd hI => ?_) (fun e hI => ?_)
    · obtain ⟨u, x5, hu, h2, hT2, rfl⟩ := hI
      obtain ⟨hi, rfl⟩ := range_at hd
      have hi' : i < 60 := hi
      have e0 : (0 : Int) + (i : Int) = ((i : Nat) : Int) := by omega
      rw [e0]
      repeat' (first | walk_at "m" | walk_at "t")
      · rename_i hc
        have hc : u ∈ T := by simpa using hc
        obtain ⟨q1, q2, q3⟩ := dgs_ok hi'
        rw [cutL_to (by decide), show Int.toNat 6 = 6 from rfl]
        have l6 : (u.take 6).length ≤ 6 := by rw [List.length_take]; omega
        have l7 : (u.take 6 ++ [120]).length ≤ 7 := by rw [List.length_append]; simp only [List.length_cons, List.length_nil]; omega
        have a6 := all_take h2 6
        have q4 : (lit (toString ((i : Nat) : Int))).length ≤ 2 := q3
        repeat' (first | walk_at "m" | walk_at "t")
        refine ⟨u.take 6 ++ [120] ++ dgs i, _, ?_, ?_, hT2.next hi' hc ⟨u.take 6, by simp⟩, rfl⟩
        · rw [List.length_append, List.length_append]; simp only [List.length_cons, List.length_nil]; rw [List.length_append] at l7; simp only [List.length_cons, List.length_nil] at l7; omega
        · rw [List.all_append, List.all_append, a6, q2]; rfl
      · rename_i hc
        have hc : u ∉ T := by simpa using hc
        exact ⟨u, _, hu, h2, Try.stay hc, rfl⟩
    · obtain ⟨u, x5, hu, h2, hT2, rfl⟩ := hI
      rw [range_len] at hT2
      have hn := hT2.done hT
      repeat' (first | walk_at "m" | walk_at "t")
      refine w0_appS (by omega) ?_
      repeat' (first | walk_at "m" | walk_at "t")
      exact ⟨_, _, rfl, hu, h2, hn, hj, rfl⟩
theorem name_k {jar : D} {T : List (List Nat)} {Q : D → List D → Prop} (h : Jar jar) (hT : T.length ≤ 59) (q : ∀ n jar', (0 < n.length ∧ n.length ≤ 9) → n.all nc = true → n ∉ T → Jar jar' → Q (.str n) [jar', .lst ((T ++ [n]).map .str)]) : wD (m__law_name [jar, .lst (T.map .str)]) Q :=
  wD_mono (name_ok h hT) fun _ _ ⟨n, jar', e1, h1, h2, h3, h4, e2⟩ => by subst e1 e2; exact q n jar' h1 h2 h3 h4
local macro_rules | `(tactic| walk_at "t") => `(tactic| ((with_reducible refine name_k ?_ ?_ ?_); (focus assumption); (focus (first | assumption | omega | (simp; omega))); intro n jar' hnl hnc hnT hj; refine Exists.intro _ (Exists.intro _ (Exists.intro _ (And.intro rfl ?_)))))

/-! ### the plain law: constraints, passes -/
abbrev Nm := List Nat
/-- later, earlier, gap, line -/
abbrev Con := Nm × Nm × Int × Nm
structure St where
  pl : Nm → Int
  ca : Nm → Con
  ks : List Nm
  la : Option Nm
def Sat (s : St) (c : Con) : Prop := s.pl c.2.1 + c.2.2.1 ≤ s.pl c.1
instance (s : St) (c : Con) : Decidable (Sat s c) := inferInstanceAs (Decidable (_ ≤ _))
def up {α : Type} (f : Nm → α) (v : Nm) (y : α) : Nm → α := fun u => if u = v then y else f u
theorem up_eq {α : Type} {f : Nm → α} {v : Nm} {y : α} : up f v y v = y := if_pos rfl
theorem up_ne {α : Type} {f : Nm → α} {v u : Nm} {y : α} (h : u ≠ v) : up f v y u = f u := if_neg h
def raise (s : St) (c : Con) : St := ⟨up s.pl c.1 (s.pl c.2.1 + c.2.2.1), up s.ca c.1 c, if c.1 ∈ s.ks then s.ks else s.ks ++ [c.1], some c.1⟩
def step (s : St) (c : Con) : St := if s.pl c.1 < s.pl c.2.1 + c.2.2.1 then raise s c else s
def pass (E : List Con) (s : St) : St := E.foldl step { s with la := none }
def runs (E : List Con) : Nat → St → St
  | 0, s => s
  | m + 1, s => if (pass E s).la = none then pass E s else runs E m (pass E s)
structure Inv (E : List Con) (N shapes : List Nm) (k : Nat) (done todo : List Con) (s : St) (t r : Nm → Nat) (now : Nat) : Prop where
  h1 : ∀ v ∈ s.ks, (s.ca v).1 = v ∧ s.ca v ∈ E ∧ (s.pl v < s.pl (s.ca v).2.1 + (s.ca v).2.2.1 ∨ (s.pl v = s.pl (s.ca v).2.1 + (s.ca v).2.2.1 ∧ r (s.ca v).2.1 < r v)) ∧ t v ≤ t (s.ca v).2.1 + 1
  h2 : ∀ v, r v < now
  h3 : ∀ v, t v ≤ k
  h4 : ∀ v, 1 ≤ t v → v ∈ s.ks
  h5 : ∀ v ∈ shapes, v ∈ s.ks
  h6 : ∀ v ∈ s.ks, v ∈ N
  h7 : ∀ v, v ∉ s.ks → s.pl v = 0
  h8 : ∀ c ∈ done, Sat s c ∨ k ≤ t c.2.1
  h9 : ∀ c ∈ todo, Sat s c ∨ k ≤ t c.2.1 + 1
  ha : ∀ v, s.la = some v → t v = k
  hb : s.la = none → ∀ c ∈ done, Sat s c
  hc : s.ks = shapes ∨ ([] ∉ shapes ∧ s.ks = shapes ++ [[]])
theorem Inv.step {E : List Con} {shapes : List Nm} {k : Nat} {done todo : List Con} {s : St} {t r : Nm → Nat} {now : Nat} {c : Con} (hE : c ∈ E) (hN : c.1 ∈ [] :: shapes) (hk : 1 ≤ k) (h : Inv E ([] :: shapes) shapes k done (c :: todo) s t r now) :
    ∃ t' r' now', Inv E ([] :: shapes) shapes k (done ++ [c]) todo (step s c) t' r' now' := by
  by_cases hs : s.pl c.1 < s.pl c.2.1 + c.2.2.1
  · have e : LK48.step s c = raise s c := if_pos hs
    rw [e]
    have hks : ∀ v, v ∈ (raise s c).ks ↔ v ∈ s.ks ∨ v = c.1 := fun v => by
      show v ∈ (if c.1 ∈ s.ks then s.ks else s.ks ++ [c.1]) ↔ _
      split
      · rename_i q; exact ⟨.inl, fun z => z.elim id fun z => z ▸ q⟩
      · simp
    have hlt : k ≤ t c.2.1 + 1 := (h.h9 c List.mem_cons_self).resolve_left fun z => by unfold Sat at z; omega
    have mono : ∀ v, s.pl v ≤ (raise s c).pl v := fun v => by
      by_cases q : v = c.1
      · subst q; show _ ≤ up _ _ _ _; rw [up_eq]; omega
      · show _ ≤ up _ _ _ _; rw [up_ne q]; exact Int.le_refl _
    have new : (raise s c).pl c.1 = s.pl c.2.1 + c.2.2.1 := up_eq
    have old : ∀ v, v ≠ c.1 → (raise s c).pl v = s.pl v := fun v q => up_ne q
    have tm : ∀ v, t v ≤ up t c.1 k v := fun v => by
      by_cases q : v = c.1
      · subst q; rw [up_eq]; exact h.h3 _
      · rw [up_ne q]; exact Nat.le_refl _
    have sat : ∀ c' : Con, Sat s c' → c'.2.1 ≠ c.1 → Sat (raise s c) c' := fun c' z q => by
      unfold Sat at z ⊢
      rw [old _ q]
      exact Int.le_trans z (mono _)
    refine ⟨up t c.1 k, up r c.1 now, now + 1, ?_, ?_, ?_, ?_, ?_, ?_, ?_, ?_, ?_, ?_, ?_, ?_⟩
    · intro v hv
      by_cases q : v = c.1
      · subst q
        have eca : (raise s c).ca c.1 = c := up_eq
        rw [eca]
        refine ⟨rfl, hE, ?_, ?_⟩
        · by_cases z : c.2.1 = c.1
          · left; rw [z, new]; rw [z] at hs ⊢; omega
          · right; rw [new, old _ z, up_eq, up_ne z]; exact ⟨rfl, h.h2 _⟩
        · rw [up_eq]
          have := tm c.2.1
          omega
      · have eca : (raise s c).ca v = s.ca v := up_ne q
        rw [eca]
        have hv' : v ∈ s.ks := ((hks v).mp hv).resolve_right q
        obtain ⟨g1, g2, g3, g4⟩ := h.h1 v hv'
        refine ⟨g1, g2, ?_, ?_⟩
        · rw [old _ q, up_ne q]
          by_cases z : (s.ca v).2.1 = c.1
          · left; rw [z, new]; rw [z] at g3; rcases g3 with g3 | g3 <;> omega
          · rw [old _ z, up_ne z]; exact g3
        · rw [up_ne q]
          have := tm (s.ca v).2.1
          omega
    · intro v
      by_cases q : v = c.1
      · subst q; rw [up_eq]; omega
      · rw [up_ne q]; have := h.h2 v; omega
    · intro v
      by_cases q : v = c.1
      · subst q; rw [up_eq]; omega
      · rw [up_ne q]; exact h.h3 v
    · intro v hv
      by_cases q : v = c.1
      · exact (hks v).mpr (.inr q)
      · rw [up_ne q] at hv; exact (hks v).mpr (.inl (h.h4 v hv))
    · exact fun v hv => (hks v).mpr (.inl (h.h5 v hv))
    · intro v hv
      rcases (hks v).mp hv with q | q
      · exact h.h6 v q
      · rw [q]; exact hN
    · intro v hv
      have q : v ≠ c.1 := fun z => hv ((hks v).mpr (.inr z))
      rw [old _ q]
      exact h.h7 v fun z => hv ((hks v).mpr (.inl z))
    · intro c' hc'
      by_cases z : c'.2.1 = c.1
      · right; rw [z, up_eq]; exact Nat.le_refl _
      · rcases List.mem_append.mp hc' with m | m
        · rcases h.h8 c' m with g | g
          · exact .inl (sat c' g z)
          · right; rw [up_ne z]; exact g
        · rw [List.mem_singleton] at m
          subst m
          left; unfold Sat; rw [new, old _ z]; exact Int.le_refl _
    · intro c' hc'
      by_cases z : c'.2.1 = c.1
      · right; rw [z, up_eq]; omega
      · rcases h.h9 c' (List.mem_cons_of_mem _ hc') with g | g
        · exact .inl (sat c' g z)
        · right; rw [up_ne z]; exact g
    · intro v hv
      have : c.1 = v := Option.some.inj hv
      rw [← this, up_eq]
    · intro z; cases z
    · show (if c.1 ∈ s.ks then s.ks else s.ks ++ [c.1]) = _ ∨ (_ ∧ (if c.1 ∈ s.ks then s.ks else s.ks ++ [c.1]) = _)
      split
      · exact h.hc
      · rename_i q
        rcases h.hc with z | ⟨z1, z2⟩
        · have q2 : c.1 = [] := (List.mem_cons.mp hN).resolve_right fun m => q (h.h5 _ m)
          rw [q2] at q ⊢
          right
          rw [z] at q ⊢
          exact ⟨q, rfl⟩
        · exfalso
          apply q
          rw [z2]
          rcases List.mem_cons.mp hN with m | m
          · rw [m]; simp
          · exact List.mem_append_left _ m
  · have e : LK48.step s c = s := if_neg hs
    rw [e]
    have hsat : Sat s c := by unfold Sat; omega
    refine ⟨t, r, now, h.h1, h.h2, h.h3, h.h4, h.h5, h.h6, h.h7, ?_, fun c' m => h.h9 c' (List.mem_cons_of_mem _ m), h.ha, ?_, h.hc⟩
    · intro c' m
      rcases List.mem_append.mp m with m | m
      · exact h.h8 c' m
      · rw [List.mem_singleton.mp m]; exact .inl hsat
    · intro z c' m
      rcases List.mem_append.mp m with m | m
      · exact h.hb z c' m
      · rw [List.mem_singleton.mp m]; exact hsat
theorem Inv.fold {E : List Con} {shapes : List Nm} {k : Nat} (hk : 1 ≤ k) : ∀ (todo done : List Con) {s : St} {t r : Nm → Nat} {now : Nat}, (∀ c ∈ todo, c ∈ E ∧ c.1 ∈ [] :: shapes) → Inv E ([] :: shapes) shapes k done todo s t r now →
    ∃ t' r' now', Inv E ([] :: shapes) shapes k (done ++ todo) [] (todo.foldl LK48.step s) t' r' now'
  | [], done, s, t, r, now, _, h => ⟨t, r, now, by rw [List.append_nil]; exact h⟩
  | c :: todo, done, s, t, r, now, hE, h => by
    obtain ⟨t', r', now', h'⟩ := h.step (hE c List.mem_cons_self).1 (hE c List.mem_cons_self).2 hk
    obtain ⟨t2, r2, now2, h2⟩ := Inv.fold hk todo (done ++ [c]) (fun c' m => hE c' (List.mem_cons_of_mem _ m)) h'
    refine ⟨t2, r2, now2, ?_⟩
    rw [List.append_assoc] at h2
    exact h2
def Good (E : List Con) (shapes : List Nm) : Prop := ∀ c ∈ E, c.1 ∈ [] :: shapes ∧ c.2.1 ∈ [] :: shapes
theorem Inv.pass {E : List Con} {shapes : List Nm} {k : Nat} {s : St} {t r : Nm → Nat} {now : Nat} (hG : Good E shapes) (h : Inv E ([] :: shapes) shapes k E [] s t r now) : ∃ t' r' now', Inv E ([] :: shapes) shapes (k + 1) E [] (pass E s) t' r' now' := by
  have h' : Inv E ([] :: shapes) shapes (k + 1) [] E { s with la := none } t r now :=
    ⟨h.h1, h.h2, fun v => Nat.le_succ_of_le (h.h3 v), h.h4, h.h5, h.h6, h.h7, (fun c m => by cases m), fun c m => (h.h8 c m).imp id fun z => Nat.succ_le_succ z, fun v z => (by cases z), (fun _ c m => by cases m), h.hc⟩
  exact Inv.fold (by omega) E [] (fun c m => ⟨m, (hG c m).1⟩) h'
theorem Inv.runs {E : List Con} {shapes : List Nm} (hG : Good E shapes) : ∀ (m : Nat) {k : Nat} {s : St} {t r : Nm → Nat} {now : Nat}, Inv E ([] :: shapes) shapes k E [] s t r now →
    ∃ k' t' r' now', Inv E ([] :: shapes) shapes k' E [] (runs E m s) t' r' now' ∧ ((LK48.runs E m s).la ≠ none → k' = k + m)
  | 0, k, s, t, r, now, h => ⟨k, t, r, now, h, fun _ => rfl⟩
  | m + 1, k, s, t, r, now, h => by
    obtain ⟨t', r', now', h'⟩ := h.pass hG
    unfold LK48.runs
    split
    · rename_i q
      exact ⟨k + 1, t', r', now', h', fun z => (z q).elim⟩
    · obtain ⟨k2, t2, r2, now2, g1, g2⟩ := Inv.runs hG m h'
      exact ⟨k2, t2, r2, now2, g1, fun z => by rw [g2 z]; omega⟩
def ownC (v : Nm) : Con := (v, [], 0, [])
def s0 (shapes : List Nm) : St := ⟨fun _ => 0, LK48.ownC, shapes, some []⟩
theorem inv0 {E : List Con} {shapes : List Nm} (h0 : [] ∉ shapes) (hO : ∀ v ∈ shapes, LK48.ownC v ∈ E) : Inv E ([] :: shapes) shapes 0 E [] (s0 shapes) (fun _ => 0) (fun v => if v = [] then 0 else 1) 2 := by
  refine ⟨?_, ?_, fun _ => Nat.le_refl _, (fun v z => by omega), fun v m => m, fun v m => List.mem_cons_of_mem _ m, fun _ _ => rfl, fun c _ => .inr (Nat.zero_le _), (fun c m => by cases m), fun v _ => rfl, (fun z => by cases z), .inl rfl⟩
  · intro v hv
    refine ⟨rfl, hO v hv, .inr ⟨rfl, ?_⟩, Nat.le_succ _⟩
    have : v ≠ [] := fun z => h0 (z ▸ hv)
    show (if ([] : Nm) = [] then 0 else 1) < (if v = [] then 0 else 1)
    rw [if_pos rfl, if_neg this]; decide
  · intro v
    show (if v = [] then 0 else 1) < 2
    split <;> decide

/-! ### going back along the causes -/
def er (s : St) (v : Nm) : Nm := (s.ca v).2.1
def it (s : St) : Nat → Nm → Nm
  | 0, v => v
  | i + 1, v => er s (it s i v)
def ups (s : St) : Nat → Nm → List Con
  | 0, _ => []
  | i + 1, v => s.ca (it s i v) :: ups s i v
def sg : List Con → Int
  | [] => 0
  | c :: l => c.2.2.1 + sg l
def go : Nm → Int → List Con → Option (Nm × Int)
  | at_, tot, [] => some (at_, tot)
  | at_, tot, c :: l => if c.2.1 = at_ then go c.1 (tot + c.2.2.1) l else none
theorem it_add (s : St) (v : Nm) (j : Nat) : ∀ i, it s (i + j) v = it s i (it s j v)
  | 0 => by rw [Nat.zero_add]; rfl
  | i + 1 => by rw [show i + 1 + j = (i + j) + 1 by omega]; show er s (it s (i + j) v) = er s (it s i (it s j v)); rw [it_add s v j i]
theorem it_one (s : St) (v : Nm) (i : Nat) : it s i (er s v) = it s (i + 1) v := (it_add s v 1 i).symm
theorem ups_len (s : St) (v : Nm) : ∀ m, (ups s m v).length = m
  | 0 => rfl
  | m + 1 => by rw [ups, List.length_cons, ups_len s v m]
theorem go_ups {s : St} {v : Nm} : ∀ (m : Nat), (∀ i, i < m → (s.ca (it s i v)).1 = it s i v) → ∀ tot, go (it s m v) tot (ups s m v) = some (v, tot + sg (ups s m v))
  | 0, _, tot => by simp [ups, go, sg, it]
  | m + 1, h, tot => by
    rw [ups, go, if_pos (show (s.ca (it s m v)).2.1 = it s (m + 1) v from rfl), h m (by omega), go_ups m fun i z => h i (by omega)]
    rw [sg]
    congr 2
    omega
theorem ups_mem {s : St} {v : Nm} {E : List Con} : ∀ (m : Nat), (∀ i, i < m → s.ca (it s i v) ∈ E) → ∀ c ∈ ups s m v, c ∈ E
  | 0, _, c, z => by cases z
  | m + 1, h, c, z => by
    rcases List.mem_cons.mp z with z | z
    · rw [z]; exact h m (by omega)
    · exact ups_mem m (fun i q => h i (by omega)) c z
theorem go_le {s : St} {E : List Con} (hf : ∀ c ∈ E, Sat s c) : ∀ (l : List Con) {a b : Nm} {x y : Int}, (∀ c ∈ l, c ∈ E) → go a x l = some (b, y) → s.pl a + (y - x) ≤ s.pl b
  | [], a, b, x, y, _, h => by cases h; omega
  | c :: l, a, b, x, y, hE, h => by
    rw [go] at h
    split at h
    · rename_i q
      have h1 := go_le hf l (fun c m => hE c (List.mem_cons_of_mem _ m)) h
      have h2 := hf c (hE c List.mem_cons_self)
      unfold Sat at h2
      rw [q] at h2
      omega
    · cases h
section
variable {E : List Con} {shapes : List Nm} {k : Nat} {s : St} {t r : Nm → Nat} {now : Nat}
theorem Inv.walk (h : Inv E ([] :: shapes) shapes k E [] s t r now) {v : Nm} : ∀ (m : Nat), (∀ i, i < m → it s i v ∈ s.ks) → s.pl v < s.pl (it s m v) + sg (ups s m v) ∨ (s.pl v = s.pl (it s m v) + sg (ups s m v) ∧ (m = 0 ∨ r (it s m v) < r v))
  | 0, _ => .inr ⟨by simp [ups, sg, it], .inl rfl⟩
  | m + 1, hm => by
    obtain ⟨_, _, g, _⟩ := h.h1 _ (hm m (by omega))
    have e : it s (m + 1) v = (s.ca (it s m v)).2.1 := rfl
    rw [e, ups, sg]
    rcases h.walk m (fun i z => hm i (by omega)) with q | ⟨q, q2⟩
    · left; rcases g with g | ⟨g, _⟩ <;> omega
    · rcases g with g | ⟨g, g2⟩
      · left; omega
      · right
        refine ⟨by omega, .inr ?_⟩
        rcases q2 with q2 | q2
        · subst q2; exact g2
        · exact Nat.lt_trans g2 q2
theorem Inv.tight (h : Inv E ([] :: shapes) shapes k E [] s t r now) (hl : s.la = none) {v : Nm} (hv : v ∈ s.ks) : r (er s v) < r v := by
  obtain ⟨g1, g2, g, _⟩ := h.h1 _ hv
  have := h.hb hl _ g2
  unfold Sat at this
  rw [g1] at this
  rcases g with g | ⟨_, g⟩
  · omega
  · exact g
theorem Inv.down (h : Inv E ([] :: shapes) shapes k E [] s t r now) (hl : s.la = none) : ∀ (n : Nat) {v : Nm}, v ∈ s.ks → r v ≤ n → ∃ m, 0 < m ∧ it s m v ∉ s.ks ∧ ∀ i, i < m → it s i v ∈ s.ks
  | n, v, hv, hn => by
    by_cases q : er s v ∈ s.ks
    · have := h.tight hl hv
      cases n with
      | zero => omega
      | succ n =>
        obtain ⟨m, h1, h2, h3⟩ := h.down hl n q (by omega)
        refine ⟨m + 1, by omega, by rw [← it_one]; exact h2, fun i hi => ?_⟩
        cases i with
        | zero => exact hv
        | succ i => rw [← it_one]; exact h3 i (by omega)
    · refine ⟨1, by omega, q, fun i hi => ?_⟩
      have : i = 0 := by omega
      subst this; exact hv
theorem Inv.conv (hG : Good E shapes) (h : Inv E ([] :: shapes) shapes k E [] s t r now) (hl : s.la = none) {v : Nm} (hv : v ∈ shapes) :
    s.ks = shapes ∧ ∃ m, 0 < m ∧ m ≤ shapes.length ∧ it s m v = [] ∧ (∀ i, i < m → it s i v ∈ shapes) ∧ s.pl v = sg (ups s m v) := by
  obtain ⟨m, h1, h2, h3⟩ := h.down hl (r v) (h.h5 v hv) (Nat.le_refl _)
  have hlast : it s m v = [] := by
    obtain ⟨m, rfl⟩ : ∃ j, m = j + 1 := ⟨m - 1, by omega⟩
    have g := (hG _ (h.h1 _ (h3 m (by omega))).2.1).2
    exact (List.mem_cons.mp g).resolve_right fun z => h2 (h.h5 _ z)
  rw [hlast] at h2
  have hks : s.ks = shapes := by
    rcases h.hc with z | ⟨_, z⟩
    · exact z
    · exfalso; apply h2; rw [z]; simp
  rw [hks] at h2 h3
  have dec : ∀ i j, i < j → j < m → r (it s j v) < r (it s i v) := fun i j => by
    induction j with
    | zero => intro z; omega
    | succ j ih =>
      intro z1 z2
      have g := h.tight hl (v := it s j v) (by rw [hks]; exact h3 j (by omega))
      by_cases q : i = j
      · subst q; exact g
      · exact Nat.lt_trans g (ih (by omega) (by omega))
  refine ⟨hks, m, h1, ?_, hlast, h3, ?_⟩
  · have nd : ((List.range m).map fun i => it s i v).Nodup := by
      refine List.pairwise_map.mpr (List.Pairwise.imp_of_mem (fun {a b} ha hb hlt z => ?_) List.pairwise_lt_range)
      have := dec a b hlt (List.mem_range.mp hb)
      rw [z] at this
      omega
    have := nodup_le (ys := shapes) nd fun x hx => by
      obtain ⟨i, hi, rfl⟩ := List.mem_map.mp hx
      exact h3 i (List.mem_range.mp hi)
    simpa using this
  · have e0 : s.pl (it s m v) = 0 := by rw [hlast]; exact h.h7 _ (by rw [hks]; exact h2)
    have le := go_le (h.hb hl) (ups s m v) (ups_mem m fun i hi => (h.h1 _ (by rw [hks]; exact h3 i hi)).2.1) (go_ups m (fun i hi => (h.h1 _ (by rw [hks]; exact h3 i hi)).1) 0)
    rcases h.walk m (fun i hi => by rw [hks]; exact h3 i hi) with q | ⟨q, _⟩ <;> omega
theorem least {P : Nat → Prop} : ∀ (p : Nat), 0 < p → P p → ∃ L, 0 < L ∧ L ≤ p ∧ P L ∧ ∀ i, 0 < i → i < L → ¬ P i := by
  intro p
  induction p using Nat.strongRecOn with
  | _ p ih =>
    intro hp hP
    by_cases q : ∃ i, 0 < i ∧ i < p ∧ P i
    · obtain ⟨i, h1, h2, h3⟩ := q
      obtain ⟨L, g1, g2, g3⟩ := ih i h2 h1 h3
      exact ⟨L, g1, by omega, g3⟩
    · exact ⟨p, hp, Nat.le_refl _, hP, fun i h1 h2 h3 => q ⟨i, h1, h2, h3⟩⟩
theorem Inv.ring (hG : Good E shapes) (h : Inv E ([] :: shapes) shapes (shapes.length + 2) E [] s t r now) {w : Nm} (hl : s.la = some w) :
    (∀ i, i ≤ shapes.length + 1 → it s i w ∈ s.ks) ∧ ∃ node L, node = it s (shapes.length + 1) w ∧ 0 < L ∧ L ≤ shapes.length + 1 ∧ it s L node = node ∧ (∀ i, 0 < i → i < L → it s i node ≠ node) ∧ (∀ i, i ≤ L → it s i node ∈ s.ks) ∧ 0 < sg (ups s L node) := by
  have ht : ∀ i, i ≤ shapes.length + 1 → shapes.length + 2 ≤ t (it s i w) + i := fun i => by
    induction i with
    | zero => intro _; have := h.ha w hl; show _ ≤ t w + 0; omega
    | succ i ih =>
      intro hi
      have g := ih (by omega)
      have := (h.h1 _ (h.h4 _ (show 1 ≤ t (it s i w) by omega))).2.2.2
      show _ ≤ t (s.ca (it s i w)).2.1 + (i + 1)
      omega
  have hk : ∀ i, i ≤ shapes.length + 1 → it s i w ∈ s.ks := fun i hi => h.h4 _ (by have := ht i hi; omega)
  refine ⟨hk, it s (shapes.length + 1) w, ?_⟩
  have dup : ∃ i j, i < j ∧ j ≤ shapes.length + 1 ∧ it s i w = it s j w := Classical.byContradiction fun hn => by
    have nd : ((List.range (shapes.length + 2)).map fun i => it s i w).Nodup := by
      refine List.pairwise_map.mpr (List.Pairwise.imp_of_mem (fun {a b} ha hb hlt z => ?_) List.pairwise_lt_range)
      exact hn ⟨a, b, hlt, by have := List.mem_range.mp hb; omega, z⟩
    have := nodup_le (ys := [] :: shapes) nd fun x hx => by
      obtain ⟨i, hi, rfl⟩ := List.mem_map.mp hx
      exact h.h6 _ (hk i (by have := List.mem_range.mp hi; omega))
    rw [List.length_map, List.length_range, List.length_cons] at this
    omega
  obtain ⟨i, j, hij, hj, e⟩ := dup
  have per : ∀ a, it s (i + a) w = it s (j + a) w := fun a => by rw [Nat.add_comm i, Nat.add_comm j, it_add, it_add, e]
  have hp : it s (j - i) (it s (shapes.length + 1) w) = it s (shapes.length + 1) w := by
    rw [← it_add]
    have := per (shapes.length + 1 - i)
    rw [show i + (shapes.length + 1 - i) = shapes.length + 1 by omega] at this
    rw [show j - i + (shapes.length + 1) = j + (shapes.length + 1 - i) by omega]
    exact this.symm
  obtain ⟨L, g1, g2, g3, g4⟩ := least (P := fun p => it s p (it s (shapes.length + 1) w) = it s (shapes.length + 1) w) (j - i) (by omega) hp
  have hin : ∀ a, a ≤ L → it s a (it s (shapes.length + 1) w) ∈ s.ks := fun a ha => by
    by_cases z : a = j - i
    · rw [z, hp]; exact hk _ (Nat.le_refl _)
    · have := per (shapes.length + 1 - j + a)
      rw [← it_add, show a + (shapes.length + 1) = j + (shapes.length + 1 - j + a) by omega, ← this]
      exact hk _ (by omega)
  refine ⟨L, rfl, g1, by omega, g3, g4, hin, ?_⟩
  have := h.walk L (fun a ha => hin a (by omega))
  rw [g3] at this
  rcases this with q | ⟨_, q | q⟩ <;> omega
end

/-! ### pieces of tuples -/
theorem imms_take {ds : List D} (h : imms ds = true) (k : Nat) : imms (ds.take k) = true := by
  rw [imms_all, List.all_eq_true] at h ⊢
  exact fun x m => h x (List.mem_of_mem_take m)
theorem imms_drop {ds : List D} (h : imms ds = true) (k : Nat) : imms (ds.drop k) = true := by
  rw [imms_all, List.all_eq_true] at h ⊢
  exact fun x m => h x (List.mem_of_mem_drop m)
theorem imms_app {a b : List D} (h : imms a = true) (k : imms b = true) : imms (a ++ b) = true := by
  rw [imms_all, List.all_eq_true] at h k ⊢
  intro x m
  rcases List.mem_append.mp m with m | m
  · exact h x m
  · exact k x m
theorem w0_cutTo {ds : List D} {k : Int} {Q : D → Prop} (h : imms ds = true) (hk : 0 ≤ k) (q : Q (.tup (ds.take k.toNat))) : w0 (fCut (.tup ds) none (some k)) Q := w0_cutT h (by rw [cutL_to hk]; exact q)
theorem w0_cutFrom {ds : List D} {k : Int} {Q : D → Prop} (h : imms ds = true) (hk : 0 ≤ k) (q : Q (.tup (ds.drop k.toNat))) : w0 (fCut (.tup ds) (some k) none) Q := w0_cutT h (by rw [cutL_from hk]; exact q)
theorem w0_cutLast {ds : List D} {Q : D → Prop} (h : imms ds = true) (q : Q (.tup (ds.take (ds.length - 1)))) : w0 (fCut (.tup ds) none (some (-1))) Q := w0_cutT h (by
  have : cutL ds none (some (-1)) = ds.take (ds.length - 1) := by
    unfold cutL
    rw [HT.sIx_none, List.drop_zero, Nat.sub_zero]
    congr 1
    show (if (-1 : Int) < 0 then ((-1 : Int) + (ds.length : Int)).toNat else min (-1 : Int).toNat ds.length) = _
    rw [if_pos (by decide)]; omega
  rw [this]; exact q)
theorem w0_addT {a b : List D} {Q : D → Prop} (h : imms a = true) (k : imms b = true) (hl : a.length + b.length ≤ 16777216) (q : Q (.tup (a ++ b))) : w0 (fAdd (.tup a) (.tup b)) Q :=
  w0_of (show (if imms a = true ∧ imms b = true ∧ fits (a.length + b.length) = true then some (D.tup (a ++ b)) else none) = _ by rw [if_pos ⟨h, k, fits_of hl⟩]) q
theorem w0_ixLp {ds : List D} {i : Int} {Q : D → Prop} (p : D → Prop) (h : 0 ≤ i) (h1 : i < ds.length) (hp : ∀ d ∈ ds, p d) (q : ∀ d, p d → Q d) : w0 (fIx (.lst ds) (.int i)) Q := w0_ixL h h1 fun d hd => q d (ix_mem hp hd)
theorem w0_ixT0 {a : D} {r : List D} {Q : D → Prop} (q : Q a) : w0 (fIx (.tup (a :: r)) (.int 0)) Q :=
  w0_ixT (by decide) (by simp only [List.length_cons]; omega) fun d hd => by
    have : d = a := by simpa using hd.symm
    rw [this]; exact q
theorem same_yes {a e : D} (he : pt 9 e = true) (h : a = e) : w1 (m__law_same 10 [a, e]) (· = .bl true) := by
  subst h
  exact w1_mono (same_ok 9 9 a a he he) fun d ⟨b, e1, hb⟩ => by rw [e1, hb.mpr rfl]
theorem w0_isntB {a b : Bool} {Q : D → Prop} (q : Q (.bl (!(a == b)))) : w0 (fIsnt (.bl a) (.bl b)) Q := w0_of (by cases a <;> cases b <;> rfl) q
theorem w0_isB {a b : Bool} {Q : D → Prop} (q : Q (.bl (a == b))) : w0 (fIs (.bl a) (.bl b)) Q := w0_of (by cases a <;> cases b <;> rfl) q
local macro_rules | `(tactic| walk_at "im") => `(tactic| first
  | with_reducible assumption | exact rfl | (with_reducible refine imms_take ?_ _; walk_at "im") | (with_reducible refine imms_drop ?_ _; walk_at "im") | (with_reducible refine imms_app ?_ ?_ <;> walk_at "im") | (simp [imms, imm, *]; done))
local macro_rules | `(tactic| walk_at "m0") => `(tactic| first
  | ((with_reducible refine w0_cutTo ?_ ?_ ?_); (focus (walk_at "im")); (focus omega))
  | ((with_reducible refine w0_cutFrom ?_ ?_ ?_); (focus (walk_at "im")); (focus omega))
  | ((with_reducible refine w0_cutLast ?_ ?_); (focus (walk_at "im")))
  | ((with_reducible refine w0_addT ?_ ?_ ?_ ?_); (focus (walk_at "im")); (focus (walk_at "im")); (focus (first | omega | (simp only [List.length_append, List.length_take, List.length_drop, List.length_cons, List.length_nil]; omega))))
  | with_reducible apply w0_isntB | with_reducible apply w0_isB
  | (with_reducible refine w0_of (by with_reducible assumption) ?_))
local macro_rules | `(tactic| walk_at "m1") => `(tactic| with_reducible refine w1_eq (by with_reducible assumption) ?_)

/-! ### the trees of constraints -/
abbrev nmD (names : List Nm) : List D := names.map D.str
theorem nms_imm (names : List Nm) : imms (nmD names) = true := strs_imm names
theorem nm_at {names : List Nm} {i : Nat} {d : D} (h : (nmD names)[i]? = some d) : ∃ n, names[i]? = some n ∧ d = .str n := by
  rw [List.getElem?_map] at h
  obtain ⟨n, h1, h2⟩ := Option.map_eq_some_iff.mp h
  exact ⟨n, h1, h2.symm⟩
def cD (ax : Nm) (c : Con) : D := .tup [.str ax, .str c.1, .str c.2.1, .int c.2.2.1, .str c.2.2.2]
def csD (ax : Nm) (l : List Con) : List D := l.map (cD ax)
theorem cs_len (ax : Nm) (l : List Con) : (csD ax l).length = l.length := List.length_map _
theorem cs_app (ax : Nm) (a b : List Con) : csD ax (a ++ b) = csD ax a ++ csD ax b := List.map_append
theorem cs_imm (ax : Nm) (l : List Con) : imms (csD ax l) = true := by
  rw [imms_all, List.all_eq_true]
  intro x m
  obtain ⟨c, _, rfl⟩ := List.mem_map.mp m
  rfl
theorem c_at {ax : Nm} {l : List Con} {i : Nat} {d : D} (h : (csD ax l)[i]? = some d) : ∃ c, l[i]? = some c ∧ d = cD ax c := by
  unfold csD at h
  rw [List.getElem?_map] at h
  obtain ⟨n, h1, h2⟩ := Option.map_eq_some_iff.mp h
  exact ⟨n, h1, h2.symm⟩
theorem cd0 {ax : Nm} {c : Con} {Q : D → Prop} (q : Q (.str ax)) : w0 (fIx (cD ax c) (.int 0)) Q := w0_of rfl q
theorem cd1 {ax : Nm} {c : Con} {Q : D → Prop} (q : Q (.str c.1)) : w0 (fIx (cD ax c) (.int 1)) Q := w0_of rfl q
theorem cd2 {ax : Nm} {c : Con} {Q : D → Prop} (q : Q (.str c.2.1)) : w0 (fIx (cD ax c) (.int 2)) Q := w0_of rfl q
theorem cd3 {ax : Nm} {c : Con} {Q : D → Prop} (q : Q (.int c.2.2.1)) : w0 (fIx (cD ax c) (.int 3)) Q := w0_of rfl q
theorem cd4 {ax : Nm} {c : Con} {Q : D → Prop} (q : Q (.str c.2.2.2)) : w0 (fIx (cD ax c) (.int 4)) Q := w0_of rfl q
local macro_rules | `(tactic| walk_at "m0") => `(tactic| first | with_reducible apply cd1 | with_reducible apply cd2 | with_reducible apply cd3 | with_reducible apply cd0 | with_reducible apply cd4)
theorem w0_tupC {ax : Nm} {l : List Con} {Q : D → Prop} (q : Q (.tup (csD ax l))) : w0 (fTuple [.lst (csD ax l)]) Q := w0_of (show (if imms (csD ax l) = true then some (D.tup (csD ax l)) else none) = _ by rw [if_pos (cs_imm ax l)]) q
theorem w0_tupCt {ax : Nm} {l : List Con} {Q : D → Prop} (q : Q (.tup (csD ax l))) : w0 (fTuple [.tup (csD ax l)]) Q := w0_of (show (if imms (csD ax l) = true then some (D.tup (csD ax l)) else none) = _ by rw [if_pos (cs_imm ax l)]) q
theorem w0_lstC {ax : Nm} {l : List Con} {Q : D → Prop} (q : Q (.lst (csD ax l))) : w0 (fList [.tup (csD ax l)]) Q := w0_of (show (if imms (csD ax l) = true then some (D.lst (csD ax l)) else none) = _ by rw [if_pos (cs_imm ax l)]) q
theorem w0_addC {ax : Nm} {a b : List Con} {Q : D → Prop} (h : a.length + b.length ≤ 1000000) (q : Q (.tup (csD ax (a ++ b)))) : w0 (fAdd (.tup (csD ax a)) (.tup (csD ax b))) Q :=
  w0_addT (cs_imm ax a) (cs_imm ax b) (by rw [cs_len, cs_len]; omega) (by rw [← cs_app]; exact q)
theorem w0_addL {ax : Nm} {a b : List Con} {Q : D → Prop} (h : a.length + b.length ≤ 1000000) (q : Q (.lst (csD ax (a ++ b)))) : w0 (fAdd (.lst (csD ax a)) (.lst (csD ax b))) Q :=
  w0_of (show (if imms (csD ax a) = true ∧ imms (csD ax b) = true ∧ fits ((csD ax a).length + (csD ax b).length) = true then some (D.lst (csD ax a ++ csD ax b)) else none) = _ by rw [if_pos ⟨cs_imm ax a, cs_imm ax b, fits_of (by rw [cs_len, cs_len]; omega)⟩, ← cs_app]) q
local macro_rules | `(tactic| walk_at "m0") => `(tactic| first
  | with_reducible apply w0_tupC | with_reducible apply w0_tupCt | with_reducible apply w0_lstC
  | ((with_reducible refine w0_addC ?_ ?_); (focus (first | assumption | omega | (simp; omega)))) | ((with_reducible refine w0_addL ?_ ?_); (focus (first | assumption | omega | (simp; omega)))))
theorem lit_e : lit "" = [] := by rw [lit_eq]; rfl
theorem org_e : c_ORIGIN = .str [] := by unfold c_ORIGIN; rw [lit_e]
def evs (shapes : List Nm) (cs : List Con) : List Con := shapes.map ownC ++ cs
theorem evs_len (shapes : List Nm) (cs : List Con) : (evs shapes cs).length = shapes.length + cs.length := by unfold evs; rw [List.length_append, List.length_map]
def ownF (ax : Nm) : D → D
  | .str s => cD ax (ownC s)
  | d => d
theorem map_ownF (ax : Nm) (names : List Nm) : (nmD names).map (ownF ax) = csD ax (names.map ownC) := by
  unfold csD
  rw [List.map_map, List.map_map]
  exact List.map_congr_left fun _ _ => rfl
/-- sizes -/
structure Sized (shapes : List Nm) (cs : List Con) : Prop where
  nd : shapes.Nodup
  ne : [] ∉ shapes
  pos : 0 < shapes.length
  len : shapes.length ≤ 60
  cl : cs.length ≤ 1000
  good : ∀ c ∈ cs, c.1 ∈ [] :: shapes ∧ c.2.1 ∈ [] :: shapes
theorem Sized.toGood {shapes : List Nm} {cs : List Con} (g : Sized shapes cs) : Good (evs shapes cs) shapes := fun c m => by
  rcases List.mem_append.mp m with m | m
  · obtain ⟨v, hv, rfl⟩ := List.mem_map.mp m
    exact ⟨List.mem_cons_of_mem _ hv, List.mem_cons_self⟩
  · exact g.good c m
theorem Sized.el {shapes : List Nm} {cs : List Con} (g : Sized shapes cs) : (evs shapes cs).length ≤ 1060 := by
  rw [evs_len]; have := g.len; have := g.cl; omega
section
variable {ax : Nm} {shapes : List Nm} {cs : List Con}
theorem own_ok (hl : shapes.length ≤ 60) : w1 (m_own_constraints [.str ax, .tup (nmD shapes)]) (· = .tup (csD ax (shapes.map ownC))) := by
  have hn := nms_imm shapes
  apply w1_def (by simp [imms, imm, hn])
  unfold b_own_constraints
  rw [lit_e]
  unfold c_ORIGIN
  rw [lit_e]
  refine wS_ret (w2_cal (w2_cons (w2_comp (ownF ax) ?_)))
  refine w2_wV (w2_own (w1_var rfl ⟨hn, nmD shapes, if_pos hn, fits_of (by rw [List.length_map]; omega), fun d hd => ?_, ?_⟩))
  · obtain ⟨n, hm, rfl⟩ := List.mem_map.mp hd
    repeat' walk_at "m"
    all_goals rfl
  · rw [map_ownF]
    refine w2_nil ?_
    repeat' walk_at "m"
    rfl
theorem all_ok (g : Sized shapes cs) : w1 (m_all_constraints [.str ax, .tup (nmD shapes), .tup (csD ax cs)]) (· = .tup (csD ax (evs shapes cs))) := by
  have hn := nms_imm shapes
  have hc := cs_imm ax cs
  have hl := g.len
  have hcl := g.cl
  have k1 := w1_is (own_ok (ax := ax) hl)
  have hm : (shapes.map ownC).length = shapes.length := List.length_map _
  have i1 : imms [.str ax, .tup (nmD shapes)] = true := by simp [imms, imm, hn]
  apply w1_def (by simp [imms, imm, hn, hc])
  unfold b_all_constraints
  repeat' walk_at "m"
  rfl
theorem every_ok (g : Sized shapes cs) : w1 (m__law_every [.str ax, .tup (nmD shapes), .tup (csD ax cs)]) (· = .lst (csD ax (evs shapes cs))) := by
  have hn := nms_imm shapes
  have hc := cs_imm ax cs
  have hl := g.len
  have hcl := g.cl
  have hm : (shapes.map ownC).length = shapes.length := List.length_map _
  apply w1_def (by simp [imms, imm, hn, hc])
  unfold b__law_every
  rw [lit_e]
  refine wS_ret ?_
  refine w2_bin (w2_comp (ownF ax) ?_)
  refine w2_wV (w2_own (w1_var rfl ⟨hn, nmD shapes, if_pos hn, fits_of (by rw [List.length_map]; omega), fun d hd => ?_, ?_⟩))
  · obtain ⟨n, hm, rfl⟩ := List.mem_map.mp hd
    repeat' walk_at "m"
    all_goals rfl
  · rw [map_ownF]
    repeat' walk_at "m"
    rfl
end

/-! ### one pass, as dicts -/
theorem foldl_take {α β : Type} {l : List α} {f : β → α → β} {a : β} {i : Nat} {x : α} (h : l[i]? = some x) : (l.take (i + 1)).foldl f a = f ((l.take i).foldl f a) x := by
  rw [List.take_add_one, h, List.foldl_append]; rfl
def plS (shapes : List Nm) (s : St) : SL := fnS ([] :: shapes) fun v => .int (s.pl v)
def caS (ax : Nm) (s : St) : SL := fnS s.ks fun v => cD ax (s.ca v)
def laD : Option Nm → D
  | none => .non
  | some v => .str v
theorem lk_pl {shapes : List Nm} {s : St} {v : Nm} (h : v ∈ [] :: shapes) : lk (plS shapes s) v = some (.int (s.pl v)) := lk_fn h
theorem lk_ca {ax : Nm} {s : St} {v : Nm} (h : v ∈ s.ks) : lk (caS ax s) v = some (cD ax (s.ca v)) := lk_fn h
theorem pl_len (shapes : List Nm) (s : St) : (plS shapes s).length = shapes.length + 1 := by unfold plS; rw [fnS_len]; rfl
theorem ca_len (ax : Nm) (s : St) : (caS ax s).length = s.ks.length := fnS_len _ _
theorem put_pl {shapes : List Nm} {s : St} {c : Con} (h : c.1 ∈ [] :: shapes) : putL (plS shapes s) c.1 (.int (s.pl c.2.1 + c.2.2.1)) = plS shapes (raise s c) := by
  unfold plS
  rw [put_fn h]
  congr 1
  funext v
  show (if v = c.1 then D.int _ else D.int _) = D.int (up s.pl c.1 _ v)
  unfold up
  split <;> rfl
theorem fnS_congr {names : List Nm} {f g : Nm → D} (h : ∀ v ∈ names, f v = g v) : fnS names f = fnS names g := List.map_congr_left fun v m => by rw [h v m]
theorem put_ca {ax : Nm} {s : St} {c : Con} : putL (caS ax s) c.1 (cD ax c) = caS ax (raise s c) := by
  unfold caS
  by_cases h : c.1 ∈ s.ks
  · rw [put_fn h]
    show _ = fnS (if c.1 ∈ s.ks then s.ks else s.ks ++ [c.1]) fun v => cD ax (up s.ca c.1 c v)
    rw [if_pos h]
    congr 1
    funext v
    unfold up
    split <;> rfl
  · show _ = fnS (if c.1 ∈ s.ks then s.ks else s.ks ++ [c.1]) fun v => cD ax (up s.ca c.1 c v)
    rw [if_neg h, fnS_congr (g := fun v => cD ax (up s.ca c.1 c v)) fun v m => by rw [up_ne]; exact fun z => h (z ▸ m)]
    exact put_new h (by rw [up_eq])
def Kok (shapes ks : List Nm) : Prop := ks = shapes ∨ ([] ∉ shapes ∧ ks = shapes ++ [[]])
theorem Kok.len {shapes ks : List Nm} (h : Kok shapes ks) : ks.length ≤ shapes.length + 1 := by
  rcases h with h | ⟨_, h⟩ <;> rw [h] <;> simp
theorem Kok.step {shapes : List Nm} {s : St} {c : Con} (hN : c.1 ∈ [] :: shapes) (h : Kok shapes s.ks) : Kok shapes (LK48.step s c).ks := by
  unfold LK48.step
  split
  · show (if c.1 ∈ s.ks then s.ks else s.ks ++ [c.1]) = _ ∨ (_ ∧ (if c.1 ∈ s.ks then s.ks else s.ks ++ [c.1]) = _)
    split
    · exact h
    · rename_i q
      rcases h with z | ⟨z1, z2⟩
      · have q2 : c.1 = [] := (List.mem_cons.mp hN).resolve_right fun m => q (by rw [z]; exact m)
        rw [q2] at q ⊢
        right
        rw [z] at q ⊢
        exact ⟨q, rfl⟩
      · exfalso
        apply q
        rw [z2]
        rcases List.mem_cons.mp hN with m | m
        · rw [m]; simp
        · exact List.mem_append_left _ m
  · exact h
abbrev fl (E : List Con) (s : St) (i : Nat) : St := (E.take i).foldl step { s with la := none }
theorem fl_all (E : List Con) (s : St) : fl E s E.length = pass E s := by unfold fl; rw [List.take_length]; rfl
theorem step_yes {s : St} {c : Con} (h : s.pl c.1 < s.pl c.2.1 + c.2.2.1) : step s c = raise s c := if_pos h
theorem step_no {s : St} {c : Con} (h : ¬ s.pl c.1 < s.pl c.2.1 + c.2.2.1) : step s c = s := if_neg h
def PassP (ax : Nm) (shapes : List Nm) (E : List Con) (s : St) (d : D) (os : List D) : Prop :=
  d = laD (pass E s).la ∧ Kok shapes (pass E s).ks ∧ os = [.tup (csD ax E), .dct (strD (plS shapes (pass E s))), .dct (strD (caS ax (pass E s)))]
theorem make_ok {ax : Nm} {shapes : List Nm} {E : List Con} {s : St} (hE : Good E shapes) (hl : shapes.length ≤ 60) (hK : Kok shapes s.ks) :
    wD (m_make_pass [.tup (csD ax E), .dct (strD (plS shapes s)), .dct (strD (caS ax s))]) (PassP ax shapes E s) := by
  have hi := cs_imm ax E
  apply wD_def
  unfold b_make_pass
  repeat' walk_at "m"
  refine wS_forV (ds := csD ax E) rfl (if_pos hi) hi ?_
  refine wS_loop0 (fun i e => Hold (∃ (x4 x5 x6 : Option D), Kok shapes (fl E s i).ks ∧ e = [some (.tup (csD ax E)), some (.dct (strD (plS shapes (fl E s i)))), some (.dct (strD (caS ax (fl E s i)))), some (laD (fl E s i).la), x4, x5, x6])) _ ⟨_, _, _, hK, rfl⟩ (fun i d e hd hI => ?_) (fun e hI => ?_)
  · obtain ⟨x4, x5, x6, hk, rfl⟩ := hI
    obtain ⟨c, he, rfl⟩ := c_at hd
    have hst : fl E s (i + 1) = step (fl E s i) c := foldl_take he
    obtain ⟨g1, g2⟩ := hE c (mem_get he)
    have hk2 := hk.step g1
    rw [hst]
    clear hst
    generalize fl E s i = s' at hk hk2 ⊢
    have h1 := lk_pl (s := s') g1
    have h2 := lk_pl (s := s') g2
    have l3 := hk.len
    have l1 : (plS shapes s').length ≤ 1000000 := by rw [pl_len]; omega
    have l2 : (caS ax s').length ≤ 1000000 := by rw [ca_len]; omega
    have hm : imm (cD ax c) = true := rfl
    repeat' walk_at "m"
    · rename_i q
      have q : s'.pl c.1 < s'.pl c.2.1 + c.2.2.1 := by first | omega | (simp at q; omega)
      rw [step_yes q] at hk2 ⊢
      rw [put_pl g1, put_ca]
      exact ⟨_, _, _, hk2, rfl⟩
    · rename_i q
      have q : ¬ s'.pl c.1 < s'.pl c.2.1 + c.2.2.1 := by first | omega | (simp at q; omega)
      rw [step_no q] at hk2 ⊢
      exact ⟨_, _, _, hk2, rfl⟩
  · obtain ⟨x4, x5, x6, hk, rfl⟩ := hI
    rw [cs_len, fl_all] at hk ⊢
    have hla : imm (laD (pass E s).la) = true := by cases (pass E s).la <;> rfl
    repeat' walk_at "m"
    exact ⟨rfl, hk, rfl⟩

/-! ### chains and cycles, as dicts -/
theorem ne_str (a b : Nm) {Q : D → Prop} (q : Q (.bl (!decide (a = b)))) : w0 (fNe (.str a) (.str b)) Q := w0_neD rfl rfl (by rw [eqv_str]; exact q)
theorem w0_appC {ax : Nm} {L : List Con} {c : Con} {Q : D × D → Prop} (h : L.length ≤ 1000000) (q : Q (.non, .lst (csD ax (L ++ [c])))) : w0 (fAppend (.lst (csD ax L)) [cD ax c]) Q := by
  refine w0_of (show (if (csD ax L).length < sizeLine then some (D.non, D.lst (csD ax L ++ [cD ax c])) else none) = _ from ?_) q
  rw [if_pos (by rw [cs_len]; have : sizeLine = 16777216 := rfl; omega), cs_app]
  rfl
theorem w0_appC1 {ax : Nm} {c d : Con} {Q : D × D → Prop} (q : Q (.non, .lst (csD ax [c, d]))) : w0 (fAppend (.lst [cD ax c]) [cD ax d]) Q := w0_appC (L := [c]) (by simp) q
theorem w0_revC {ax : Nm} {L : List Con} {Q : D → Prop} (q : Q (.lst (csD ax L.reverse))) : w0 (fRev (.lst (csD ax L))) Q := w0_rev (cs_imm ax L) (by rw [show (csD ax L).reverse = csD ax L.reverse from (List.map_reverse ..).symm]; exact q)
theorem w0_preC {ax : Nm} {c : Con} {L : List Con} {Q : D → Prop} (h : L.length ≤ 999999) (q : Q (.lst (csD ax (c :: L)))) : w0 (fAdd (.lst [cD ax c]) (.lst (csD ax L))) Q := w0_addL (a := [c]) (by rw [List.length_singleton]; omega) q
theorem w0_lenDct {S : SL} {Q : D → Prop} (q : Q (.int (S.length : Nat))) : w0 (fLen [.dct (strD S)]) Q := w0_of (show (some (strD S).length).map (fun (n : Nat) => D.int (n : Int)) = _ by rw [strD_len]; rfl) q
local macro_rules | `(tactic| walk_at "m0") => `(tactic| first
  | with_reducible apply ne_str | ((with_reducible refine w0_appC ?_ ?_); (focus (first | assumption | omega | (simp; omega)))) | with_reducible apply w0_revC
  | ((with_reducible refine w0_preC ?_ ?_); (focus (first | assumption | omega | (simp; omega)))) | with_reducible apply w0_lenDct)
theorem chain_ok {ax : Nm} {s : St} {v : Nm} {m : Nat} (hm : m ≤ 1000) (h0 : it s m v = []) (hk : ∀ i, i < m → it s i v ∈ s.ks ∧ it s i v ≠ []) :
    wD (m_chain_of [.dct (strD (caS ax s)), .str v]) (fun d os => Hold (d = .tup (csD ax (ups s m v)) ∧ os = [.dct (strD (caS ax s)), .str v])) := by
  apply wD_def
  unfold b_chain_of
  rw [org_e]
  repeat' walk_at "m"
  refine wS_wh (fun n e => Hold (∃ i, n + i = m ∧ e = [some (.dct (strD (caS ax s))), some (.str v), some (.lst (csD ax (ups s i v).reverse)), some (.str (it s i v))])) m (Nat.lt_of_le_of_lt hm (by decide)) ⟨0, rfl, rfl⟩ (fun n e hI => ?_)
  obtain ⟨i, hi, rfl⟩ := hI
  have hl := ups_len s v i
  have hl2 : (ups s i v).reverse.length ≤ 1000000 := by rw [List.length_reverse]; omega
  by_cases q : i < m
  · obtain ⟨h1, h2⟩ := hk i q
    have h3 := lk_ca (ax := ax) h1
    repeat' walk_at "m"
    · refine ⟨n - 1, by omega, i + 1, by omega, ?_⟩
      rw [ups, List.reverse_cons]; rfl
    · rename_i z; simp [h2] at z
  · have : i = m := by omega
    subst this
    rw [h0]
    repeat' walk_at "m"
    rw [List.reverse_reverse]
    exact ⟨rfl, rfl⟩
theorem law_chain_ok {ax : Nm} {s : St} {v : Nm} {m : Nat} (hm : m ≤ s.ks.length + 1) (hkl : s.ks.length ≤ 1000) (h0 : it s m v = []) (hk : ∀ i, i < m → it s i v ∈ s.ks ∧ it s i v ≠ []) :
    wD (m__law_chain [.dct (strD (caS ax s)), .str v]) (fun d os => Hold (d = .tup (csD ax (ups s m v)) ∧ os = [.dct (strD (caS ax s)), .str v])) := by
  apply wD_def
  unfold b__law_chain
  rw [lit_e]
  have hcl := ca_len ax s
  repeat' walk_at "m"
  refine wS_loop0 (fun j e => Hold (∃ (i : Nat) (x4 : Option D), i = min j m ∧ e = [some (.dct (strD (caS ax s))), some (.str v), some (.lst (csD ax (ups s i v))), some (.str (it s i v)), x4])) _ ⟨0, _, by omega, rfl⟩ (fun j d e hd hI => ?_) (fun e hI => ?_)
  · obtain ⟨i, x4, hi, rfl⟩ := hI
    have hl := ups_len s v i
    by_cases q : j < m
    · have : i = j := by omega
      subst this
      obtain ⟨h1, h2⟩ := hk i q
      have h3 := lk_ca (ax := ax) h1
      repeat' walk_at "m"
      · exact ⟨i + 1, _, by omega, rfl⟩
      · rename_i z; simp [h2] at z
    · have : i = m := by omega
      subst this
      rw [h0]
      repeat' walk_at "m"
      refine ⟨i, some d, by omega, ?_⟩
      rw [h0]; rfl
  · obtain ⟨i, x4, hi, rfl⟩ := hI
    rw [range_len] at hi
    have : i = m := by omega
    subst this
    repeat' walk_at "m"
    exact ⟨rfl, rfl⟩
theorem cycle_ok {ax : Nm} {s : St} {w : Nm} {k L : Nat} (hk : k ≤ 1000) (hL : 0 < L) (hL2 : L ≤ 1000) (hw : ∀ i, i ≤ k → it s i w ∈ s.ks) (h0 : it s L (it s k w) = it s k w) (hn : ∀ i, 0 < i → i < L → it s i (it s k w) ≠ it s k w) (hin : ∀ i, i ≤ L → it s i (it s k w) ∈ s.ks) :
    wD (m_cycle_of [.dct (strD (caS ax s)), .str w, .int (k : Int)]) (fun d os => Hold (d = .tup (csD ax (ups s L (it s k w))) ∧ os = [.dct (strD (caS ax s)), .str w, .int (k : Int)])) := by
  apply wD_def
  unfold b_cycle_of
  repeat' walk_at "m"
  refine wS_loop0 (fun j e => Hold (∃ (x4 : Option D), e = [some (.dct (strD (caS ax s))), some (.str w), some (.int (k : Int)), some (.str (it s j w)), x4, none, none])) _ ⟨_, rfl⟩ (fun j d e hd hI => ?_) (fun e hI => ?_)
  · obtain ⟨x4, rfl⟩ := hI
    obtain ⟨hj, rfl⟩ := range_at hd
    have h3 := lk_ca (ax := ax) (hw j (by omega))
    repeat' walk_at "m"
    exact ⟨_, rfl⟩
  · obtain ⟨x4, rfl⟩ := hI
    rw [range_len, show Int.toNat (k : Int) = k by omega]
    have hnd := hw k (Nat.le_refl _)
    generalize it s k w = node at h0 hn hin hnd ⊢
    have h3 := lk_ca (ax := ax) hnd
    repeat' walk_at "m"
    refine wS_wh (fun n e => Hold (∃ i, 0 < i ∧ n + i = L ∧ e = [some (.dct (strD (caS ax s))), some (.str w), some (.int (k : Int)), some (.str node), x4, some (.lst (csD ax (ups s i node).reverse)), some (.str (it s i node))])) (L - 1) (Nat.lt_of_le_of_lt (show L - 1 ≤ 1000 by omega) (by decide)) ⟨1, by omega, by omega, rfl⟩ (fun n e hI => ?_)
    obtain ⟨i, hi0, hi, rfl⟩ := hI
    have hl := ups_len s node i
    have hl2 : (ups s i node).reverse.length ≤ 1000000 := by rw [List.length_reverse]; omega
    by_cases q : i < L
    · have h2 := hn i hi0 q
      have h3 := lk_ca (ax := ax) (hin i (by omega))
      repeat' walk_at "m"
      · refine ⟨n - 1, by omega, i + 1, by omega, by omega, ?_⟩
        rw [ups, List.reverse_cons]; rfl
      · rename_i z; simp [h2] at z
    · have : i = L := by omega
      subst this
      rw [h0]
      repeat' walk_at "m"
      rw [List.reverse_reverse]
      exact ⟨rfl, rfl⟩

/-! ### what is due -/
def plsD (shapes : List Nm) (f : Nm → Int) : List D := shapes.map fun v => .int (f v)
def Chn (shapes : List Nm) (s : St) (v : Nm) (m : Nat) : Prop := 0 < m ∧ m ≤ shapes.length ∧ it s m v = [] ∧ (∀ i, i < m → it s i v ∈ shapes) ∧ s.pl v = sg (ups s m v)
noncomputable def mo (shapes : List Nm) (s : St) (v : Nm) : Nat := Classical.epsilon (Chn shapes s v)
noncomputable def chn (shapes : List Nm) (s : St) (v : Nm) : List Con := ups s (mo shapes s v) v
noncomputable def chsD (ax : Nm) (shapes : List Nm) (s : St) : List D := shapes.map fun v => .tup (csD ax (chn shapes s v))
def nodeOf (shapes : List Nm) (s : St) (w : Nm) : Nm := it s (shapes.length + 1) w
def Rng (shapes : List Nm) (s : St) (w : Nm) (L : Nat) : Prop := 0 < L ∧ L ≤ shapes.length + 1 ∧ it s L (nodeOf shapes s w) = nodeOf shapes s w ∧ (∀ i, 0 < i → i < L → it s i (nodeOf shapes s w) ≠ nodeOf shapes s w) ∧ (∀ i, i ≤ L → it s i (nodeOf shapes s w) ∈ s.ks) ∧ 0 < sg (ups s L (nodeOf shapes s w))
noncomputable def lo_ (shapes : List Nm) (s : St) (w : Nm) : Nat := Classical.epsilon (Rng shapes s w)
noncomputable def ring (shapes : List Nm) (s : St) (w : Nm) : List Con := ups s (lo_ shapes s w) (nodeOf shapes s w)
noncomputable def resD (ax : Nm) (shapes : List Nm) (s : St) : D := match s.la with
  | none => .tup [.str (lit "places"), .tup (plsD shapes s.pl), .tup (chsD ax shapes s)]
  | some w => .tup [.str (lit "cycle"), .tup (csD ax (ring shapes s w))]
def RR (shapes : List Nm) (cs : List Con) : St := runs (evs shapes cs) (shapes.length + 2) (s0 shapes)
structure Conv (shapes : List Nm) (E : List Con) (s : St) : Prop where
  la : s.la = none
  ks : s.ks = shapes
  sat : ∀ c ∈ E, Sat s c
  ownC : ∀ v ∈ s.ks, (s.ca v).1 = v ∧ s.ca v ∈ E
  ch : ∀ v ∈ shapes, Chn shapes s v (mo shapes s v)
  z : s.pl [] = 0
structure Ring (shapes : List Nm) (E : List Con) (s : St) (w : Nm) : Prop where
  la : s.la = some w
  ownC : ∀ v ∈ s.ks, (s.ca v).1 = v ∧ s.ca v ∈ E
  bk : ∀ i, i ≤ shapes.length + 1 → it s i w ∈ s.ks
  rg : Rng shapes s w (lo_ shapes s w)
theorem RR_cases {shapes : List Nm} {cs : List Con} (g : Sized shapes cs) : Conv shapes (evs shapes cs) (RR shapes cs) ∨ ∃ w, Ring shapes (evs shapes cs) (RR shapes cs) w := by
  have hO : ∀ v ∈ shapes, LK48.ownC v ∈ evs shapes cs := fun v hv => List.mem_append_left _ (List.mem_map.mpr ⟨v, hv, rfl⟩)
  obtain ⟨k, t, r, now, h, hk⟩ := (inv0 g.ne hO).runs g.toGood (shapes.length + 2)
  change Inv _ _ _ _ _ _ (RR shapes cs) _ _ _ at h
  change (RR shapes cs).la ≠ none → _ at hk
  cases hl : (RR shapes cs).la with
  | none =>
    have hch := fun v hv => (h.conv g.toGood hl (v := v) hv)
    obtain ⟨v0, hv0⟩ : ∃ v, v ∈ shapes := ⟨_, List.getElem_mem (h := g.pos)⟩
    have hks := (hch v0 hv0).1
    exact .inl ⟨hl, hks, h.hb hl, fun v hv => ⟨(h.h1 v hv).1, (h.h1 v hv).2.1⟩, fun v hv => Classical.epsilon_spec (hch v hv).2, h.h7 _ (by rw [hks]; exact g.ne)⟩
  | some w =>
    have hk := hk (by rw [hl]; exact fun z => by cases z)
    rw [Nat.zero_add] at hk
    subst hk
    obtain ⟨h1, node, L, rfl, h2⟩ := h.ring g.toGood hl
    exact .inr ⟨w, hl, fun v hv => ⟨(h.h1 v hv).1, (h.h1 v hv).2.1⟩, h1, Classical.epsilon_spec (p := Rng shapes (RR shapes cs) w) ⟨L, h2⟩⟩
theorem ints_imm (shapes : List Nm) (f : Nm → Int) : imms (plsD shapes f) = true := by
  rw [imms_all, List.all_eq_true]
  intro x m
  obtain ⟨c, _, rfl⟩ := List.mem_map.mp m
  rfl
theorem chs_imm (ax : Nm) (shapes : List Nm) (s : St) : imms (chsD ax shapes s) = true := by
  rw [imms_all, List.all_eq_true]
  intro x m
  obtain ⟨c, _, rfl⟩ := List.mem_map.mp m
  exact cs_imm ax _
theorem put0 {shapes : List Nm} {i : Nat} {v : Nm} (h : shapes[i]? = some v) (nd : shapes.Nodup) (ne : [] ∉ shapes) : putL (fnS ([] :: shapes.take i) fun _ => .int 0) v (.int 0) = fnS ([] :: shapes.take (i + 1)) fun _ => .int 0 := by
  have hn : v ∉ [] :: shapes.take i := fun m => by
    rcases List.mem_cons.mp m with m | m
    · exact ne (m ▸ mem_get h)
    · have := List.nodup_append.mp ((List.take_append_drop i shapes).symm ▸ nd)
      exact this.2.2 v m v (List.mem_of_getElem? (i := 0) (by rw [List.getElem?_drop, Nat.add_zero]; exact h)) rfl
  rw [put_new hn rfl, List.take_add_one, h]
  rfl
theorem put0c {ax : Nm} {shapes : List Nm} {i : Nat} {v : Nm} (h : shapes[i]? = some v) (nd : shapes.Nodup) : putL (fnS (shapes.take i) fun v => cD ax (ownC v)) v (cD ax (ownC v)) = fnS (shapes.take (i + 1)) fun v => cD ax (ownC v) := by
  have hn : v ∉ shapes.take i := fun m => by
    have := List.nodup_append.mp ((List.take_append_drop i shapes).symm ▸ nd)
    exact this.2.2 v m v (List.mem_of_getElem? (i := 0) (by rw [List.getElem?_drop, Nat.add_zero]; exact h)) rfl
  rw [put_new hn rfl, List.take_add_one, h]
  rfl
def intF (f : Nm → Int) : D → D
  | .str v => .int (f v)
  | d => d
theorem map_intF (shapes : List Nm) (f : Nm → Int) : (nmD shapes).map (intF f) = plsD shapes f := by
  rw [List.map_map]; exact List.map_congr_left fun _ _ => rfl
noncomputable def chF (ax : Nm) (shapes : List Nm) (s : St) : D → D
  | .str v => .tup (csD ax (chn shapes s v))
  | d => d
theorem map_chF (ax : Nm) (shapes : List Nm) (s : St) : (nmD shapes).map (chF ax shapes s) = chsD ax shapes s := by
  rw [List.map_map]; exact List.map_congr_left fun _ _ => rfl
theorem w0_tupI {shapes : List Nm} {f : Nm → Int} {Q : D → Prop} (q : Q (.tup (plsD shapes f))) : w0 (fTuple [.lst (plsD shapes f)]) Q := w0_of (show (if imms (plsD shapes f) = true then some (D.tup (plsD shapes f)) else none) = _ by rw [if_pos (ints_imm _ _)]) q
theorem w0_tupH {ax : Nm} {shapes : List Nm} {s : St} {Q : D → Prop} (q : Q (.tup (chsD ax shapes s))) : w0 (fTuple [.lst (chsD ax shapes s)]) Q := w0_of (show (if imms (chsD ax shapes s) = true then some (D.tup (chsD ax shapes s)) else none) = _ by rw [if_pos (chs_imm _ _ _)]) q
theorem w0_isN {Q : D → Prop} (q : Q (.bl true)) : w0 (fIs .non .non) Q := w0_of rfl q
theorem w0_isS {v : Nm} {Q : D → Prop} (q : Q (.bl false)) : w0 (fIs (.str v) .non) Q := w0_of rfl q
theorem w0_isntN {Q : D → Prop} (q : Q (.bl false)) : w0 (fIsnt .non .non) Q := w0_of rfl q
theorem w0_isntS {v : Nm} {Q : D → Prop} (q : Q (.bl true)) : w0 (fIsnt (.str v) .non) Q := w0_of rfl q
theorem w0_ixC0 {ax : Nm} {c : Con} {r : List Con} {Q : D → Prop} (q : Q (cD ax c)) : w0 (fIx (.lst (csD ax (c :: r))) (.int 0)) Q :=
  w0_ixL (by decide) (by rw [cs_len, List.length_cons]; omega) fun d hd => by
    have : d = cD ax c := by simpa [csD] using hd.symm
    rw [this]; exact q
local macro_rules | `(tactic| walk_at "m0") => `(tactic| first
  | with_reducible apply w0_tupI | with_reducible apply w0_tupH | with_reducible apply w0_isN | with_reducible apply w0_isS | with_reducible apply w0_isntN | with_reducible apply w0_isntS | with_reducible apply w0_ixC0)

/-! ### the law's ownC passes -/
section
variable {ax : Nm} {shapes : List Nm} {cs : List Con}
theorem conv_chain (g : Sized shapes cs) {E : List Con} {s : St} (c : Conv shapes E s) {v : Nm} (hv : v ∈ shapes) :
    (mo shapes s v ≤ s.ks.length + 1 ∧ mo shapes s v ≤ 1000 ∧ s.ks.length ≤ 1000) ∧ it s (mo shapes s v) v = [] ∧ ∀ i, i < mo shapes s v → it s i v ∈ s.ks ∧ it s i v ≠ [] := by
  obtain ⟨h1, h2, h3, h4, h5⟩ := c.ch v hv
  have := g.len
  rw [c.ks]
  exact ⟨⟨by omega, by omega, by omega⟩, h3, fun i hi => ⟨h4 i hi, fun z => g.ne (z ▸ h4 i hi)⟩⟩
theorem law_due_ok (g : Sized shapes cs) : w1 (m__law_due [.str ax, .tup (nmD shapes), .tup (csD ax cs)]) (· = resD ax shapes (RR shapes cs)) := by
  have hn := nms_imm shapes
  have hc := cs_imm ax cs
  have hl := g.len
  have hnl : (nmD shapes).length = shapes.length := List.length_map _
  have hG := g.toGood
  have hev := w1_is (every_ok (ax := ax) g)
  have hel := g.el
  have hie := cs_imm ax (evs shapes cs)
  have i1 : imms [.str ax, .tup (nmD shapes), .tup (csD ax cs)] = true := by simp [imms, imm, hn, hc]
  apply w1_def i1
  unfold b__law_due
  rw [lit_e]
  repeat' walk_at "m"
  refine wS_forV (ds := nmD shapes) rfl (if_pos hn) hn ?_
  refine wS_loop0 (fun i e => Hold (∃ x5, e = [some (.str ax), some (.tup (nmD shapes)), some (.tup (csD ax cs)), some (.dct (strD (fnS ([] :: shapes.take i) fun _ => .int 0))), some (.dct (strD (fnS (shapes.take i) fun v => cD ax (ownC v)))), x5, none, none, none, none, none, none, none, none])) _ ⟨_, rfl⟩ (fun i d e hd hI => ?_) (fun e hI => ?_)
  · obtain ⟨x5, rfl⟩ := hI
    obtain ⟨v, hv, rfl⟩ := nm_at hd
    have l1 : (fnS ([] :: shapes.take i) fun _ => D.int 0).length ≤ 1000000 := by rw [fnS_len, List.length_cons, List.length_take]; omega
    have l2 : (fnS (shapes.take i) fun v => cD ax (ownC v)).length ≤ 1000000 := by rw [fnS_len, List.length_take]; omega
    repeat' walk_at "m"
    rw [put0 hv g.nd g.ne]
    refine ⟨some (.str v), ?_⟩
    rw [← put0c (ax := ax) hv g.nd]
    rfl
  · obtain ⟨x5, rfl⟩ := hI
    rw [hnl, List.take_length]
    repeat' walk_at "m"
    refine wS_loop0 (fun i e => Hold (∃ (s : St) (x5 x7 x8 x9 : Option D), Kok shapes s.ks ∧ s.la ≠ none ∧ RR shapes cs = runs (evs shapes cs) (shapes.length + 2 - i) s ∧ e = [some (.str ax), some (.tup (nmD shapes)), some (.tup (csD ax cs)), some (.dct (strD (plS shapes s))), some (.dct (strD (caS ax s))), x5, some (laD s.la), x7, x8, x9, none, none, none, none])) _ ⟨s0 shapes, _, _, _, _, .inl rfl, (fun z => by cases z), rfl, rfl⟩ (fun i d e hd hI => ?_) (fun e hI => ?_)
    · obtain ⟨s, x5, x7, x8, x9, hK, hla, hr, rfl⟩ := hI
      obtain ⟨hi, rfl⟩ := range_at hd
      have hi : i < shapes.length + 2 := by rw [hnl] at hi; omega
      repeat' walk_at "m"
      refine ⟨csD ax (evs shapes cs), if_pos hie, ?_⟩
      refine wS_loop0 (fun j e => Hold (∃ (x8 x9 : Option D), Kok shapes (fl (evs shapes cs) s j).ks ∧ e = [some (.str ax), some (.tup (nmD shapes)), some (.tup (csD ax cs)), some (.dct (strD (plS shapes (fl (evs shapes cs) s j)))), some (.dct (strD (caS ax (fl (evs shapes cs) s j)))), x5, some (laD (fl (evs shapes cs) s j).la), some (.int (0 + (i : Int))), x8, x9, none, none, none, none])) _ ⟨_, _, hK, rfl⟩ (fun j d e hd hI => ?_) (fun e hI => ?_)
      · obtain ⟨x8, x9, hk, rfl⟩ := hI
        obtain ⟨c, he, rfl⟩ := c_at hd
        have hst : fl (evs shapes cs) s (j + 1) = step (fl (evs shapes cs) s j) c := foldl_take he
        obtain ⟨g1, g2⟩ := hG c (mem_get he)
        have hk2 := hk.step g1
        rw [hst]
        clear hst
        generalize fl (evs shapes cs) s j = s' at hk hk2 ⊢
        have h1 := lk_pl (s := s') g1
        have h2 := lk_pl (s := s') g2
        have l3 := hk.len
        have l1 : (plS shapes s').length ≤ 1000000 := by rw [pl_len]; omega
        have l2 : (caS ax s').length ≤ 1000000 := by rw [ca_len]; omega
        have hm : imm (cD ax c) = true := rfl
        repeat' walk_at "m"
        · rename_i q
          have q : s'.pl c.1 < s'.pl c.2.1 + c.2.2.1 := by first | omega | (simp at q; omega)
          rw [step_yes q] at hk2 ⊢
          rw [put_pl g1, put_ca]
          exact ⟨_, _, hk2, rfl⟩
        · rename_i q
          have q : ¬ s'.pl c.1 < s'.pl c.2.1 + c.2.2.1 := by first | omega | (simp at q; omega)
          rw [step_no q] at hk2 ⊢
          exact ⟨_, _, hk2, rfl⟩
      · obtain ⟨x8, x9, hk, rfl⟩ := hI
        rw [cs_len, fl_all] at hk ⊢
        obtain ⟨m, hm⟩ : ∃ m, shapes.length + 2 - i = m + 1 := ⟨shapes.length + 1 - i, by omega⟩
        rw [hm, runs] at hr
        have hm2 : shapes.length + 2 - (i + 1) = m := by omega
        cases hla2 : (pass (evs shapes cs) s).la with
        | some w =>
          rw [hla2, if_neg (by simp)] at hr
          simp only [laD]
          repeat' walk_at "m"
          refine ⟨_, x5, some (.int (0 + (i : Int))), x8, x9, hk, by rw [hla2]; exact fun z => (by cases z), by rw [hm2]; exact hr, ?_⟩
          rw [hla2]
        | none =>
          rw [hla2, if_pos rfl] at hr
          have hRR : LK48.pass (evs shapes cs) s = RR shapes cs := hr.symm
          rw [hRR] at hla2 hk ⊢
          have hcv : Conv shapes (evs shapes cs) (RR shapes cs) := (RR_cases g).resolve_right fun ⟨w, z⟩ => by rw [z.la] at hla2; cases hla2
          have hres : resD ax shapes (RR shapes cs) = .tup [.str (lit "places"), .tup (plsD shapes (RR shapes cs).pl), .tup (chsD ax shapes (RR shapes cs))] := by unfold resD; rw [hla2]
          rw [hres]
          generalize RR shapes cs = R at hcv hk
          simp only [laD]
          have hp1 := ints_imm shapes R.pl
          have hp2 := chs_imm ax shapes R
          repeat' walk_at "m"
          refine w2_comp (chF ax shapes R) ?_
          refine w2_wV (w2_own (w1_var rfl ⟨hn, nmD shapes, if_pos hn, fits_of (by omega), fun d hd => ?_, ?_⟩))
          · obtain ⟨n, hm, rfl⟩ := List.mem_map.mp hd
            obtain ⟨⟨c1, c2, c3⟩, c4, c5⟩ := conv_chain g hcv hm
            repeat' walk_at "m"
            refine wD_mono (law_chain_ok c1 c3 c4 c5) fun d os h => ?_
            obtain ⟨rfl, rfl⟩ := h
            exact ⟨_, _, rfl, rfl, rfl⟩
          · rw [map_chF]
            repeat' walk_at "m"
            refine w2_comp (intF R.pl) ?_
            refine w2_wV (w2_own (w1_var rfl ⟨hn, nmD shapes, if_pos hn, fits_of (by omega), fun d hd => ?_, ?_⟩))
            · obtain ⟨n, hm, rfl⟩ := List.mem_map.mp hd
              have hq := lk_pl (s := R) (List.mem_cons_of_mem [] hm)
              repeat' walk_at "m"
              rfl
            · rw [map_intF]
              repeat' walk_at "m"
              rfl
    · obtain ⟨s, x5, x7, x8, x9, hK, hla, hr, rfl⟩ := hI
      rw [range_len, hnl, show shapes.length + 2 - ((shapes.length : Int) + 2).toNat = 0 by omega, runs] at hr
      have hRR : RR shapes cs = s := hr
      rw [hRR]
      obtain ⟨w, hw⟩ : ∃ w, Ring shapes (evs shapes cs) s w := by
        rcases RR_cases g with z | z
        · rw [hRR] at z; exact (hla z.la).elim
        · rw [hRR] at z; exact z
      have hres : resD ax shapes s = .tup [.str (lit "cycle"), .tup (csD ax (ring shapes s w))] := by unfold resD; rw [hw.la]
      rw [hres, hw.la]
      obtain ⟨L0, L1, L2, L3, L4, L5⟩ := hw.rg
      have hwb := hw.bk
      unfold ring
      generalize lo_ shapes s w = L at *
      simp only [laD]
      repeat' walk_at "m"
      refine wS_loop0 (fun j e => Hold (∃ (x12 : Option D), e = [some (.str ax), some (.tup (nmD shapes)), some (.tup (csD ax cs)), some (.dct (strD (plS shapes s))), some (.dct (strD (caS ax s))), x5, some (.str w), x7, x8, x9, none, some (.str (it s j w)), x12, none])) _ ⟨_, rfl⟩ (fun j d e hd hI => ?_) (fun e hI => ?_)
      · obtain ⟨x12, rfl⟩ := hI
        obtain ⟨hj, rfl⟩ := range_at hd
        have h3 := lk_ca (ax := ax) (hwb j (by rw [hnl] at hj; omega))
        repeat' walk_at "m"
        exact ⟨_, rfl⟩
      · obtain ⟨x12, rfl⟩ := hI
        rw [range_len, hnl, show ((shapes.length : Int) + 1).toNat = shapes.length + 1 by omega]
        have hnode : it s (shapes.length + 1) w = nodeOf shapes s w := rfl
        rw [hnode]
        generalize nodeOf shapes s w = node at *
        have h3 := lk_ca (ax := ax) (L4 0 (by omega))
        have h3 : lk (caS ax s) node = some (cD ax (s.ca node)) := h3
        repeat' walk_at "m"
        refine wS_loop0 (fun j e => Hold (∃ (i : Nat) (x12 : Option D), i + 1 = min (j + 1) L ∧ e = [some (.str ax), some (.tup (nmD shapes)), some (.tup (csD ax cs)), some (.dct (strD (plS shapes s))), some (.dct (strD (caS ax s))), x5, some (.str w), x7, x8, x9, none, some (.str node), x12, some (.lst (csD ax (s.ca (it s i node) :: ups s i node)))])) _ ⟨0, _, by omega, rfl⟩ (fun j d e hd hI => ?_) (fun e hI => ?_)
        · obtain ⟨i, x12, hij, rfl⟩ := hI
          have hul := ups_len s node i
          have hul2 : (s.ca (it s i node) :: ups s i node).length ≤ 999999 := by rw [List.length_cons]; omega
          have e2 : (s.ca (it s i node)).2.1 = it s (i + 1) node := rfl
          by_cases q : i + 1 < L
          · have h4 := L3 (i + 1) (by omega) q
            have h5 := lk_ca (ax := ax) (L4 (i + 1) (by omega))
            rw [← e2] at h4 h5
            repeat' walk_at "m"
            · exact ⟨i + 1, some d, by omega, rfl⟩
            · rename_i z; simp [h4] at z
          · have q2 : i + 1 = L := by omega
            have e3 : (s.ca (it s i node)).2.1 = node := by rw [e2, q2]; exact L2
            repeat' walk_at "m"
            · rename_i z; rw [e3, decide_eq_true rfl] at z; cases z
            · exact ⟨i, some d, by omega, rfl⟩
        · obtain ⟨i, x12, hij, rfl⟩ := hI
          rw [range_len, hnl] at hij
          have q2 : L = i + 1 := by omega
          subst q2
          have him := cs_imm ax (ups s (i + 1) node)
          rw [show s.ca (it s i node) :: ups s i node = ups s (i + 1) node from rfl]
          clear hij L2 L3 L4 L5 hwb h3 hnode hw
          repeat' walk_at "m"
          rfl
end

/-! ### the program's passes -/
theorem w2_io3 {i j k : Nat} {m : MI} {ms : MAE} {a0 b0 c0 : D} {e : E} {Q2 : D → E → Prop} (h0 : e[i]? = some (some a0)) (hj : e[j]? = some (some b0)) (hk : e[k]? = some (some c0)) (h : w2 (ms e) fun ds e1 => ∃ a b c, e1[i]? = some (some a) ∧ (e1.set i none)[j]? = some (some b) ∧ ((e1.set i none).set j none)[k]? = some (some c) ∧ wD (m (a :: b :: c :: ds)) fun d os => ∃ o1 o2 o3 r, os = o1 :: o2 :: o3 :: r ∧ Q2 d (((((((e1.set i none).set j none).set k none).set i (some o1))).set j (some o2)).set k (some o3))) : w2 (eIO [i, j, k] m ms e) Q2 := by
  unfold eIO
  have e0 : there [i, j, k] e = true := by simp only [there, h0, hj, hk]
  rw [if_pos e0]
  refine w2_bind (w2_mono h fun ds e1 ⟨a, b, c, h1, h2, h3, h⟩ => ?_)
  simp only [takeS, h1, h2, h3, Option.map_some, List.cons_append, List.nil_append]
  generalize m (a :: b :: c :: ds) = r at h ⊢
  cases h with
  | mk h =>
    obtain ⟨o1, o2, o3, r, rfl, h⟩ := h
    exact .mk h
noncomputable def axF : MS := (mSeq (mIf (tst (ofN (bin fIsnt (bVar 7) (bC .non))))
  (mRet (dTupE (acons (ofN (bC (.str (lit "cycle")))) (acons (eIO [4] m_cycle_of (acons (own (bVar 7)) (acons (ofN (bin fAdd (cal fLen (aCons (bVar 1) aNil)) (bC (.int 1)))) anil))) anil))))
  mNil)
  (mSeq (mSet 9 (calE fTuple (acons (eComp (wV (own (bVar 1))) (gN 10) tY (eIO [4] m_chain_of (acons (own (bVar 10)) anil)) (([("shape", 10)] : List (PySem.Str × Nat)).map (·.2))) anil)))
  (mRet (dTupE (acons (ofN (bC (.str (lit "places")))) (acons (calE fTuple (acons (eComp (wV (own (bVar 1))) (gN 10) tY (ofN (bin fDGet (bVar 3) (bVar 10))) (([("shape", 10)] : List (PySem.Str × Nat)).map (·.2))) anil)) (acons (own (bVar 9)) anil)))))))
section
variable {ax : Nm} {shapes : List Nm} {cs : List Con}
theorem axis_ok (g : Sized shapes cs) : w1 (m_place_axis [.str ax, .tup (nmD shapes), .tup (csD ax cs)]) (· = resD ax shapes (RR shapes cs)) := by
  have hn := nms_imm shapes
  have hc := cs_imm ax cs
  have hl := g.len
  have hnl : (nmD shapes).length = shapes.length := List.length_map _
  have hG := g.toGood
  have hown := w1_is (own_ok (ax := ax) hl)
  have hall := w1_is (all_ok (ax := ax) g)
  have hel := g.el
  have hie := cs_imm ax (evs shapes cs)
  have hio := cs_imm ax (shapes.map ownC)
  have i1 : imms [.str ax, .tup (nmD shapes), .tup (csD ax cs)] = true := by simp [imms, imm, hn, hc]
  have i2 : imms [.str ax, .tup (nmD shapes)] = true := by simp [imms, imm, hn]
  apply w1_def i1
  unfold b_place_axis
  rw [org_e]
  show wS (mSeq _ (mSeq _ (mSeq _ (mSeq _ (mSeq _ (mSeq _ (mSeq _ axF)))))) _) _ _ _ _
  repeat' walk_at "m"
  refine ⟨csD ax (shapes.map ownC), if_pos hio, ?_⟩
  refine wS_loop0 (fun i e => Hold (∃ x5, e = [some (.str ax), some (.tup (nmD shapes)), some (.tup (csD ax cs)), some (.dct (strD (fnS ([] :: shapes.take i) fun _ => .int 0))), some (.dct (strD (fnS (shapes.take i) fun v => cD ax (ownC v)))), x5, none, none, none, none, none])) _ ⟨_, rfl⟩ (fun i d e hd hI => ?_) (fun e hI => ?_)
  · obtain ⟨x5, rfl⟩ := hI
    obtain ⟨c, hc, rfl⟩ := c_at hd
    rw [List.getElem?_map] at hc
    obtain ⟨v, hv, rfl⟩ := Option.map_eq_some_iff.mp hc
    have l1 : (fnS ([] :: shapes.take i) fun _ => D.int 0).length ≤ 1000000 := by rw [fnS_len, List.length_cons, List.length_take]; omega
    have l2 : (fnS (shapes.take i) fun v => cD ax (ownC v)).length ≤ 1000000 := by rw [fnS_len, List.length_take]; omega
    have hm : imm (cD ax (ownC v)) = true := rfl
    repeat' walk_at "m"
    rw [show (ownC v).1 = v from rfl, put0 hv g.nd g.ne, put0c (ax := ax) hv g.nd]
    exact ⟨_, rfl⟩
  · obtain ⟨x5, rfl⟩ := hI
    rw [cs_len, List.length_map, List.take_length]
    repeat' walk_at "m"
    refine wS_wh (fun n e => Hold (∃ (s : St) (i : Nat) , i + n = shapes.length + 2 ∧ Kok shapes s.ks ∧ RR shapes cs = (if s.la = none then s else runs (evs shapes cs) n s) ∧ e = [some (.str ax), some (.tup (nmD shapes)), some (.tup (csD ax cs)), some (.dct (strD (plS shapes s))), some (.dct (strD (caS ax s))), x5, some (.tup (csD ax (evs shapes cs))), some (laD s.la), some (.int (i : Nat)), none, none])) (shapes.length + 2) (Nat.lt_of_le_of_lt (show shapes.length + 2 ≤ 100 by omega) (by decide)) ⟨s0 shapes, 0, by omega, .inl rfl, rfl, rfl⟩ (fun n e hI => ?_)
    obtain ⟨s, i, hi, hK, hr, rfl⟩ := hI
    have fin : RR shapes cs = s → wS (axF [some (.str ax), some (.tup (nmD shapes)), some (.tup (csD ax cs)), some (.dct (strD (plS shapes s))), some (.dct (strD (caS ax s))), x5, some (.tup (csD ax (evs shapes cs))), some (laD s.la), some (.int (i : Nat)), none, none]) (fun _ => D.non = resD ax shapes (RR shapes cs)) (fun d _ => d = resD ax shapes (RR shapes cs)) (fun _ => False) (fun _ => False) := fun hRR => by
      have hcase := RR_cases g
      rw [hRR] at hcase ⊢
      clear hr hRR
      unfold axF
      rcases hcase with hcv | ⟨w, hw⟩
      · have hres : resD ax shapes s = .tup [.str (lit "places"), .tup (plsD shapes s.pl), .tup (chsD ax shapes s)] := by unfold resD; rw [hcv.la]
        rw [hres, hcv.la]
        simp only [laD]
        have hp1 := ints_imm shapes s.pl
        have hp2 := chs_imm ax shapes s
        repeat' walk_at "m"
        refine w2_comp (chF ax shapes s) ?_
        refine w2_wV (w2_own (w1_var rfl ⟨hn, nmD shapes, if_pos hn, fits_of (by omega), fun d hd => ?_, ?_⟩))
        · obtain ⟨n, hm, rfl⟩ := List.mem_map.mp hd
          obtain ⟨⟨c1, c2, c3⟩, c4, c5⟩ := conv_chain g hcv hm
          repeat' walk_at "m"
          refine wD_mono (chain_ok c2 c4 c5) fun d os h => ?_
          obtain ⟨rfl, rfl⟩ := h
          exact ⟨_, _, rfl, rfl, rfl⟩
        · rw [map_chF]
          repeat' walk_at "m"
          refine w2_comp (intF s.pl) ?_
          refine w2_wV (w2_own (w1_var rfl ⟨hn, nmD shapes, if_pos hn, fits_of (by omega), fun d hd => ?_, ?_⟩))
          · obtain ⟨n, hm, rfl⟩ := List.mem_map.mp hd
            have hq := lk_pl (s := s) (List.mem_cons_of_mem [] hm)
            repeat' walk_at "m"
            rfl
          · rw [map_intF]
            repeat' walk_at "m"
            rfl
      · have hres : resD ax shapes s = .tup [.str (lit "cycle"), .tup (csD ax (ring shapes s w))] := by unfold resD; rw [hw.la]
        rw [hres, hw.la]
        obtain ⟨L0, L1, L2, L3, L4, L5⟩ := hw.rg
        have hwb := hw.bk
        unfold ring
        simp only [laD]
        repeat' walk_at "m"
        rw [hnl, show ((shapes.length : Nat) : Int) + 1 = ((shapes.length + 1 : Nat) : Int) by omega]
        refine wD_mono (cycle_ok (by omega) L0 (by omega) hwb L2 L3 L4) fun d os h => ?_
        obtain ⟨rfl, rfl⟩ := h
        refine ⟨_, _, rfl, ?_⟩
        repeat' walk_at "m"
        rfl
    cases hla : s.la with
    | none =>
      rw [hla, if_pos rfl] at hr
      have fin := fin hr
      rw [hla] at fin
      simp only [laD] at fin ⊢
      repeat' walk_at "m"
      exact fin
    | some w =>
      rw [hla, if_neg (by simp)] at hr
      cases n with
      | zero =>
        have fin := fin hr
        rw [hla] at fin
        simp only [laD] at fin ⊢
        repeat' walk_at "m"
        try exact fin
      | succ n =>
        rw [runs] at hr
        simp only [laD]
        repeat' walk_at "m"
        refine w2_io3 rfl rfl rfl (w2_nil ⟨_, _, _, rfl, rfl, rfl, wD_mono (make_ok hG hl hK) fun d os h => ?_⟩)
        obtain ⟨rfl, hK2, rfl⟩ := h
        refine ⟨_, _, _, _, rfl, ?_⟩
        repeat' walk_at "m"
        exact ⟨n, by omega, _, i + 1, by omega, hK2, hr, rfl⟩
end

/-! ### the judges of rows of constraints -/
theorem con_eqv (ax : Nm) (a b : Con) : D.eqv (cD ax a) (cD ax b) = decide (a = b) := by
  obtain ⟨u, l, g, i⟩ := a
  obtain ⟨u', l', g', i'⟩ := b
  rw [Bool.eq_iff_iff, decide_eq_true_iff]
  simp [cD]
theorem any_con (ax : Nm) (E : List Con) (c : Con) : anyEq (csD ax E) (cD ax c) = decide (c ∈ E) := by
  unfold anyEq csD
  rw [List.any_map, Bool.eq_iff_iff, List.any_eq_true, decide_eq_true_iff]
  constructor
  · rintro ⟨x, hx, h⟩
    have h : D.eqv (cD ax x) (cD ax c) = true := h
    rw [con_eqv] at h
    rw [← of_decide_eq_true h]; exact hx
  · intro h
    exact ⟨c, h, by show D.eqv (cD ax c) (cD ax c) = true; rw [con_eqv]; exact decide_eq_true rfl⟩
theorem sh_cs (n : Nat) (ax : Nm) (E : List Con) : (csD ax E).all (sh (n + 1)) = true := by
  unfold csD
  rw [List.all_map, List.all_eq_true]
  intro x _; cases n <;> rfl
theorem w0_inC {ax : Nm} {E : List Con} {c : Con} {Q : D → Prop} (q : Q (.bl (decide (c ∈ E)))) : w0 (fIn (cD ax c) (.tup (csD ax E))) Q := by
  refine w0_of (show (if sh 39 (cD ax c) = true ∧ sh 40 (.tup (csD ax E)) = true then some (D.bl (anyEq (csD ax E) (cD ax c))) else none) = _ from ?_) q
  rw [if_pos ⟨rfl, sh_cs 38 ax E⟩, any_con]
theorem w0_ninC {ax : Nm} {E : List Con} {c : Con} {Q : D → Prop} (q : Q (.bl (!decide (c ∈ E)))) : w0 (fNotIn (cD ax c) (.lst (csD ax E))) Q := by
  refine w0_of (show (if sh 39 (cD ax c) = true ∧ sh 40 (.lst (csD ax E)) = true then some (D.bl (!anyEq (csD ax E) (cD ax c))) else none) = _ from ?_) q
  rw [if_pos ⟨rfl, sh_cs 38 ax E⟩, any_con]
local macro_rules | `(tactic| walk_at "m0") => `(tactic| first | with_reducible apply w0_inC | with_reducible apply w0_ninC)
theorem whole_int (i : Int) : w1 (m_is_whole [.int i]) (· = .bl true) := by
  apply w1_def rfl
  unfold b_is_whole
  repeat' walk_at "m"
  all_goals rfl
theorem whole_bl (b : Bool) : w1 (m_is_whole [.bl b]) (· = .bl false) := by
  apply w1_def rfl
  unfold b_is_whole
  repeat' walk_at "m"
  all_goals rfl
theorem whole_str (s : Nm) : w1 (m_is_whole [.str s]) (· = .bl false) := by
  apply w1_def rfl
  unfold b_is_whole
  repeat' walk_at "m"
  all_goals rfl
/-- what may stand in a row -/
inductive CV (ax : Nm) : D → Prop
  | c (c : Con) : CV ax (cD ax c)
  | b {l e i : Nm} {b : Bool} : CV ax (.tup [.str ax, .str l, .str e, .bl b, .str i])
  | n : CV ax .non
  | t {l e : Nm} {g : Int} : CV ax (.tup [.str ax, .str l, .str e, .int g])
def amb (E : List Con) : D → Bool
  | .tup [.str _, .str l, .str e, .int g, .str i] => decide ((l, e, g, i) ∈ E)
  | _ => false
theorem amb_c (ax : Nm) (E : List Con) (c : Con) : amb E (cD ax c) = decide (c ∈ E) := rfl
theorem CV.imm {ax : Nm} {d : D} (h : CV ax d) : imm d = true := by cases h <;> rfl
theorem among_ok {ax : Nm} {E : List Con} {d : D} (h : CV ax d) : w1 (m_is_among [d, .tup (csD ax E)]) (· = .bl (amb E d)) := by
  have hi := cs_imm ax E
  have hdi := h.imm
  cases h with
  | c c =>
    apply w1_def (by simp [imms, imm, hi, hdi])
    unfold b_is_among
    have q1 : fIsi [cD ax c, .raw (.ty "tuple")] = some (.bl true) := rfl
    have q2 : fLen [cD ax c] = some (.int 5) := rfl
    have k1 := w1_is (whole_int c.2.2.1)
    have i1 : imms [.int c.2.2.1] = true := rfl
    repeat' walk_at "m"
    rfl
  | b =>
    apply w1_def (by simp [imms, imm, hi])
    unfold b_is_among
    rename_i l e i b
    have k1 := w1_is (whole_bl b)
    repeat' walk_at "m"
    all_goals rfl
  | n =>
    apply w1_def (by simp [imms, imm, hi])
    unfold b_is_among
    repeat' walk_at "m"
    all_goals rfl
  | t =>
    apply w1_def (by simp [imms, imm, hi])
    unfold b_is_among
    repeat' walk_at "m"
    all_goals rfl
theorem all_tk {α : Type} {l : List α} {p : α → Bool} {i : Nat} {x : α} (h : l[i]? = some x) : (l.take (i + 1)).all p = ((l.take i).all p && p x) := by
  rw [List.take_add_one, h, List.all_append]; simp
theorem all_no {α : Type} {l : List α} {p : α → Bool} {i : Nat} {x : α} (h : l[i]? = some x) (hp : p x = false) : l.all p = false := by
  rw [List.all_eq_false]
  exact ⟨x, mem_get h, by rw [hp]; simp⟩
theorem are_ok {ax : Nm} {E : List Con} {ds : List D} (hd : ∀ d ∈ ds, CV ax d) (hl : ds.length ≤ 1000000) : w1 (m_are_among [.tup ds, .tup (csD ax E)]) (· = .bl (ds.all (amb E))) := by
  have hi := cs_imm ax E
  have hdi : imms ds = true := by rw [imms_all, List.all_eq_true]; exact fun d m => (hd d m).imm
  apply w1_def (by simp [imms, imm, hi, hdi])
  unfold b_are_among
  repeat' walk_at "m"
  refine wS_forV (ds := ds) rfl (if_pos hdi) hdi ?_
  refine wS_loop0 (fun i e => Hold (∃ (x2 : Option D), (ds.take i).all (amb E) = true ∧ e = [some (.tup ds), some (.tup (csD ax E)), x2])) _ ⟨_, rfl, rfl⟩ (fun i d e hx hI => ?_) (fun e hI => ?_)
  · obtain ⟨x2, ha, rfl⟩ := hI
    have hcv := hd d (mem_get hx)
    have k1 := w1_is (among_ok (E := E) hcv)
    have i1 : imms [d, .tup (csD ax E)] = true := by simp [imms, imm, hi, hcv.imm]
    have hdm := hcv.imm
    have hstep := all_tk (p := amb E) hx
    have hno := all_no (p := amb E) hx
    rw [ha, Bool.true_and] at hstep
    generalize amb E d = b at k1 hstep hno
    clear hcv
    repeat' walk_at "m"
    · rename_i q
      have q : b = false := by simpa using q
      rw [hno q]
    · rename_i q
      have q : b = true := by simpa using q
      exact ⟨_, by rw [hstep, q], rfl⟩
  · obtain ⟨x2, ha, rfl⟩ := hI
    rw [List.take_length] at ha
    repeat' walk_at "m"
    rw [ha]
/-- what is no tuple -/
inductive NT : D → Prop
  | l {ds : List D} (h : imms ds = true) : NT (.rol ds)
  | n : NT .non
  | i {i : Int} : NT (.int i)
  | s {s : Nm} : NT (.str s)
theorem NT.imm {d : D} (h : NT d) : imm d = true := by
  cases h with
  | l h => simp [Mir.imm, h]
  | _ => rfl
theorem are_nt {ax : Nm} {E : List Con} {d : D} (h : NT d) : w1 (m_are_among [d, .tup (csD ax E)]) (· = .bl false) := by
  have hi := cs_imm ax E
  cases h with
  | l h =>
    apply w1_def (by simp [imms, imm, hi, h])
    unfold b_are_among
    repeat' walk_at "m"
    all_goals rfl
  | n =>
    apply w1_def (by simp [imms, imm, hi])
    unfold b_are_among
    repeat' walk_at "m"
    all_goals rfl
  | i =>
    apply w1_def (by simp [imms, imm, hi])
    unfold b_are_among
    repeat' walk_at "m"
    all_goals rfl
  | s =>
    apply w1_def (by simp [imms, imm, hi])
    unfold b_are_among
    repeat' walk_at "m"
    all_goals rfl

/-! ### chains and cycles judged -/
def inE (E l : List Con) : Bool := l.all fun c => decide (c ∈ E)
theorem amb_all (ax : Nm) (E l : List Con) : (csD ax l).all (amb E) = inE E l := by
  unfold csD inE
  rw [List.all_map]
  rfl
theorem cs_cv {ax : Nm} {l : List Con} : ∀ d ∈ csD ax l, CV ax d := fun d m => by
  obtain ⟨c, _, rfl⟩ := List.mem_map.mp m
  exact .c c
def chB (E l : List Con) (v : Nm) (p : Int) : Bool := inE E l && decide (go [] 0 l = some (v, p))
def cyB (E l : List Con) : Bool := inE E l && match l with
  | [] => false
  | c :: r => match go c.2.1 0 (c :: r) with
    | some (b, t) => decide (b = c.2.1) && decide (0 < t)
    | none => false
def wkR (E l : List Con) : Option (Nm × Nm × Int) := match l with
  | [] => none
  | c :: r => if inE E (c :: r) = true then (go c.2.1 0 (c :: r)).map fun p => (c.2.1, p.1, p.2) else none
def wkD : Option (Nm × Nm × Int) → D
  | none => .non
  | some (a, b, t) => .tup [.str a, .str b, .int t]
theorem drop_eq {α : Type} {l : List α} {i : Nat} {x : α} (h : l[i]? = some x) : l.drop i = x :: l.drop (i + 1) := by
  obtain ⟨hi, e⟩ := List.getElem?_eq_some_iff.mp h
  rw [List.drop_eq_getElem_cons hi, e]
theorem w0_eqS {a b : Nm} {Q : D → Prop} (q : Q (.bl (decide (a = b)))) : w0 (fEq (.str a) (.str b)) Q := w0_eqD rfl rfl (by rw [eqv_str]; exact q)
local macro_rules | `(tactic| walk_at "m0") => `(tactic| with_reducible apply w0_eqS)
section
variable {ax : Nm} {shapes : List Nm} {cs : List Con} (g : Sized shapes cs)
include g
theorem chain_bad {d : D} {v : Nm} {p : Int} (hd : imm d = true) (h : w1 (m_are_among [d, .tup (csD ax (evs shapes cs))]) (· = .bl false)) : w1 (m_is_chain [.str ax, .tup (nmD shapes), .tup (csD ax cs), .str v, .int p, d]) (· = .bl false) := by
  have hn := nms_imm shapes
  have hc := cs_imm ax cs
  have hie := cs_imm ax (evs shapes cs)
  have hall := w1_is (all_ok (ax := ax) g)
  have k1 := w1_is h
  have i1 : imms [.str ax, .tup (nmD shapes), .tup (csD ax cs)] = true := by simp [imms, imm, hn, hc]
  have i2 : imms [d, .tup (csD ax (evs shapes cs))] = true := by simp [imms, imm, hie, hd]
  apply w1_def (by simp [imms, imm, hn, hc, hd])
  unfold b_is_chain
  clear h
  repeat' walk_at "m"
  all_goals rfl
theorem cycle_bad {d : D} (hd : imm d = true) (h : w1 (m_are_among [d, .tup (csD ax (evs shapes cs))]) (· = .bl false)) : w1 (m_is_cycle [.str ax, .tup (nmD shapes), .tup (csD ax cs), d]) (· = .bl false) := by
  have hn := nms_imm shapes
  have hc := cs_imm ax cs
  have hie := cs_imm ax (evs shapes cs)
  have hall := w1_is (all_ok (ax := ax) g)
  have k1 := w1_is h
  have i1 : imms [.str ax, .tup (nmD shapes), .tup (csD ax cs)] = true := by simp [imms, imm, hn, hc]
  have i2 : imms [d, .tup (csD ax (evs shapes cs))] = true := by simp [imms, imm, hie, hd]
  apply w1_def (by simp [imms, imm, hn, hc, hd])
  unfold b_is_cycle
  clear h
  repeat' walk_at "m"
  all_goals rfl
theorem is_chain_ok {l : List Con} {v : Nm} {p : Int} (hl : l.length ≤ 100000) : w1 (m_is_chain [.str ax, .tup (nmD shapes), .tup (csD ax cs), .str v, .int p, .tup (csD ax l)]) (· = .bl (chB (evs shapes cs) l v p)) := by
  have hn := nms_imm shapes
  have hc := cs_imm ax cs
  have hi := cs_imm ax l
  have hie := cs_imm ax (evs shapes cs)
  have hall := w1_is (all_ok (ax := ax) g)
  have k0 := are_ok (ax := ax) (E := evs shapes cs) (ds := csD ax l) cs_cv (by rw [cs_len]; omega)
  rw [amb_all] at k0
  unfold chB
  cases hin : inE (evs shapes cs) l with
  | false =>
    rw [hin] at k0
    rw [Bool.false_and]
    exact chain_bad g (by simp [imm, hi]) k0
  | true =>
  rw [hin] at k0
  rw [Bool.true_and]
  have k1 := w1_is k0
  have i1 : imms [.str ax, .tup (nmD shapes), .tup (csD ax cs)] = true := by simp [imms, imm, hn, hc]
  have i2 : imms [.tup (csD ax l), .tup (csD ax (evs shapes cs))] = true := by simp [imms, imm, hie, hi]
  apply w1_def (by simp [imms, imm, hn, hc, hi])
  unfold b_is_chain
  rw [org_e]
  clear k0
  repeat' walk_at "m"
  refine wS_forV (ds := csD ax l) rfl (if_pos hi) hi ?_
  refine wS_loop0 (fun i e => Hold (∃ (a : Nm) (t : Int) (x8 x9 x10 x11 : Option D), go a t (l.drop i) = go [] 0 l ∧ e = [some (.str ax), some (.tup (nmD shapes)), some (.tup (csD ax cs)), some (.str v), some (.int p), some (.tup (csD ax l)), some (.str a), some (.int t), x8, x9, x10, x11])) _ ⟨_, _, _, _, _, _, rfl, rfl⟩ (fun i d e hd hI => ?_) (fun e hI => ?_)
  · obtain ⟨a, t, x8, x9, x10, x11, hgo, rfl⟩ := hI
    obtain ⟨c, he, rfl⟩ := c_at hd
    rw [drop_eq he, go] at hgo
    show w0 (gT [8, 9, 10, 11, 8] (.tup [.str ax, .str c.1, .str c.2.1, .int c.2.2.1, .str c.2.2.2]) _) _
    refine w0_gT5 rfl ?_
    repeat' walk_at "m"
    · rename_i q
      have q : c.2.1 ≠ a := by simpa using q
      rw [if_neg q] at hgo
      rw [← hgo]; rfl
    · rename_i q
      have q : c.2.1 = a := by simpa using q
      rw [if_pos q] at hgo
      exact ⟨_, _, _, _, _, _, hgo, rfl⟩
  · obtain ⟨a, t, x8, x9, x10, x11, hgo, rfl⟩ := hI
    rw [cs_len, List.drop_length, go] at hgo
    rw [← hgo]
    clear hgo
    repeat' walk_at "m"
    · rename_i q
      have q : a = v := by simpa using q
      subst q
      congr 1
      simp
    · rename_i q
      have q : a ≠ v := by simpa using q
      congr 1
      simp [q]
end

/-! ### cycles, the law's walk -/
theorem w0_ixCn {ax : Nm} {l : List Con} {i : Int} {Q : D → Prop} (h : 0 ≤ i) (h1 : i < l.length) (q : ∀ c, l[i.toNat]? = some c → Q (cD ax c)) : w0 (fIx (.tup (csD ax l)) (.int i)) Q :=
  w0_ixT h (by rw [cs_len]; exact h1) fun d hd => by
    obtain ⟨c, hc, rfl⟩ := c_at hd
    exact q c hc
theorem w0_ixCt0 {ax : Nm} {c : Con} {r : List Con} {Q : D → Prop} (q : Q (cD ax c)) : w0 (fIx (.tup (csD ax (c :: r))) (.int 0)) Q :=
  w0_ixT (by decide) (by rw [cs_len, List.length_cons]; omega) fun d hd => by
    have : d = cD ax c := by simpa [csD] using hd.symm
    rw [this]; exact q
theorem ixC_at {ax : Nm} {l : List Con} {k : Nat} {c : Con} (h : l[k]? = some c) : fIx (.tup (csD ax l)) (.int (k : Int)) = some (cD ax c) := by
  obtain ⟨hk, _⟩ := List.getElem?_eq_some_iff.mp h
  show atI (csD ax l) (k : Int) = _
  unfold atI ixN
  rw [if_pos (by omega), if_pos (by rw [cs_len]; omega)]
  show (csD ax l)[k]? = _
  unfold csD
  rw [List.getElem?_map, h]; rfl
theorem ixC_last {ax : Nm} {l : List Con} {c : Con} : fIx (.tup (csD ax (l ++ [c]))) (.int (-1)) = some (cD ax c) := by
  show atI (csD ax (l ++ [c])) (-1) = some (cD ax c)
  have e : (csD ax (l ++ [c])).length = l.length + 1 := by rw [cs_len, List.length_append]; rfl
  unfold atI ixN
  rw [if_neg (by decide), e, if_pos (by omega), Option.bind_some, show (-1 + ((l.length + 1 : Nat) : Int)).toNat = l.length by omega]
  unfold csD
  rw [List.getElem?_map]
  simp
local macro_rules | `(tactic| walk_at "m0") => `(tactic| with_reducible apply w0_ixCt0)
section
variable {ax : Nm} {shapes : List Nm} {cs : List Con} (g : Sized shapes cs)
include g
theorem is_cycle_ok {l : List Con} (hl : l.length ≤ 100000) : w1 (m_is_cycle [.str ax, .tup (nmD shapes), .tup (csD ax cs), .tup (csD ax l)]) (· = .bl (cyB (evs shapes cs) l)) := by
  have hn := nms_imm shapes
  have hc := cs_imm ax cs
  have hi := cs_imm ax l
  have hie := cs_imm ax (evs shapes cs)
  have hll := cs_len ax l
  have hall := w1_is (all_ok (ax := ax) g)
  have k0 := are_ok (ax := ax) (E := evs shapes cs) (ds := csD ax l) cs_cv (by rw [cs_len]; omega)
  rw [amb_all] at k0
  unfold cyB
  cases hin : inE (evs shapes cs) l with
  | false =>
    rw [hin] at k0
    rw [Bool.false_and]
    exact cycle_bad g (by simp [imm, hi]) k0
  | true =>
  rw [hin] at k0
  rw [Bool.true_and]
  have k1 := w1_is k0
  have i1 : imms [.str ax, .tup (nmD shapes), .tup (csD ax cs)] = true := by simp [imms, imm, hn, hc]
  have i2 : imms [.tup (csD ax l), .tup (csD ax (evs shapes cs))] = true := by simp [imms, imm, hie, hi]
  apply w1_def (by simp [imms, imm, hn, hc, hi])
  unfold b_is_cycle
  clear k0
  cases l with
  | nil =>
    repeat' walk_at "m"
    all_goals first | rfl | (rename_i q; simp [csD] at q; done)
  | cons c0 r =>
  repeat' walk_at "m"
  · rename_i q; simp [csD] at q; omega
  refine wS_forV (ds := csD ax (c0 :: r)) rfl (if_pos hi) hi ?_
  refine wS_loop0 (fun i e => Hold (∃ (a : Nm) (t : Int) (x6 x7 x8 x9 : Option D), go a t ((c0 :: r).drop i) = go c0.2.1 0 (c0 :: r) ∧ e = [some (.str ax), some (.tup (nmD shapes)), some (.tup (csD ax cs)), some (.tup (csD ax (c0 :: r))), some (.str a), some (.int t), x6, x7, x8, x9])) _ ⟨_, _, _, _, _, _, rfl, rfl⟩ (fun i d e hd hI => ?_) (fun e hI => ?_)
  · obtain ⟨a, t, x6, x7, x8, x9, hgo, rfl⟩ := hI
    obtain ⟨c, he, rfl⟩ := c_at hd
    rw [drop_eq he, go] at hgo
    show w0 (gT [6, 7, 8, 9, 6] (.tup [.str ax, .str c.1, .str c.2.1, .int c.2.2.1, .str c.2.2.2]) _) _
    refine w0_gT5 rfl ?_
    repeat' walk_at "m"
    · rename_i q
      have q : c.2.1 ≠ a := by simpa using q
      rw [if_neg q] at hgo
      simp only [← hgo]
    · rename_i q
      have q : c.2.1 = a := by simpa using q
      rw [if_pos q] at hgo
      exact ⟨_, _, _, _, _, _, hgo, rfl⟩
  · obtain ⟨a, t, x6, x7, x8, x9, hgo, rfl⟩ := hI
    rw [cs_len, List.drop_length, go] at hgo
    simp only [← hgo]
    clear hgo
    repeat' walk_at "m"
    · rename_i q
      have q : a = c0.2.1 := by simpa using q
      rw [q]; simp
    · rename_i q
      have q : a ≠ c0.2.1 := by simpa using q
      simp [q]
theorem walk_nil {l : List Con} (E : List Con) {i : Nat} {c : Con} (h : l[i]? = some c) (hc : c ∉ E) : wkR E l = none := by
  unfold wkR
  cases l with
  | nil => rfl
  | cons c0 r =>
    simp only
    rw [if_neg]
    rw [inE, all_no h (by simpa using hc)]
    decide
theorem law_walk_ok {l : List Con} (hl : l.length ≤ 100000) : w1 (m__law_walk [.str ax, .tup (nmD shapes), .tup (csD ax cs), .tup (csD ax l)]) (· = wkD (wkR (evs shapes cs) l)) := by
  have hn := nms_imm shapes
  have hc := cs_imm ax cs
  have hi := cs_imm ax l
  have hie := cs_imm ax (evs shapes cs)
  have hll := cs_len ax l
  have hev := w1_is (every_ok (ax := ax) g)
  have i1 : imms [.str ax, .tup (nmD shapes), .tup (csD ax cs)] = true := by simp [imms, imm, hn, hc]
  apply w1_def (by simp [imms, imm, hn, hc, hi])
  unfold b__law_walk
  repeat' walk_at "m"
  refine wS_loop0 (fun k e => Hold (∃ (t : Int) (x6 : Option D) (a : Nm), inE (evs shapes cs) (l.take k) = true ∧ (∀ c r, l = c :: r → go a t (l.drop k) = go c.2.1 0 l) ∧ (k = 0 → ∀ c r, l = c :: r → a = c.2.1) ∧ (∀ j c, k = j + 1 → l[j]? = some c → a = c.1) ∧ e = [some (.str ax), some (.tup (nmD shapes)), some (.tup (csD ax cs)), some (.tup (csD ax l)), some (.lst (csD ax (evs shapes cs))), some (.int t), x6])) _ ⟨0, _, (match l with | [] => [] | c :: _ => c.2.1), rfl, fun c r z => by subst z; rfl, fun _ c r z => by subst z; rfl, fun j c z => by omega, rfl⟩ (fun k d e hd hI => ?_) (fun e hI => ?_)
  · obtain ⟨t, x6, a, hin, hgo, hz, hp, rfl⟩ := hI
    obtain ⟨hk, rfl⟩ := range_at hd
    have hk : k < l.length := by rw [hll] at hk; omega
    obtain ⟨c, hck⟩ : ∃ c, l[k]? = some c := ⟨_, List.getElem?_eq_getElem hk⟩
    have htk := all_tk (p := fun c => decide (c ∈ evs shapes cs)) hck
    have hdr := drop_eq hck
    have hix := ixC_at (ax := ax) hck
    have e0 : (0 : Int) + (k : Int) = k := by omega
    rw [e0]
    have hgoN : c.2.1 ≠ a → wkR (evs shapes cs) l = none := fun q => by
      cases l with
      | nil => rfl
      | cons c0 r =>
        have := hgo c0 r rfl
        rw [hdr, go, if_neg q] at this
        unfold wkR
        simp only
        rw [← this]
        split <;> rfl
    have hgoY : c.2.1 = a → ∀ c0 r, l = c0 :: r → go c.1 (t + c.2.2.1) (l.drop (k + 1)) = go c0.2.1 0 l := fun q c0 r z => by
      have := hgo c0 r z
      rw [hdr, go, if_pos q] at this
      exact this
    have hpn : ∀ j d, k + 1 = j + 1 → l[j]? = some d → c.1 = d.1 := fun j d z z2 => by
      have : j = k := by omega
      rw [this, hck] at z2
      cases z2; rfl
    have hinN : c ∉ evs shapes cs → wkR (evs shapes cs) l = none := fun q => walk_nil g _ hck q
    have hinY : c ∈ evs shapes cs → inE (evs shapes cs) (l.take (k + 1)) = true := fun q => by
      unfold inE at hin ⊢
      rw [htk, hin]; simpa using q
    by_cases k0 : k = 0
    · have hea : c.2.1 = a := by
        cases l with
        | nil => cases hck
        | cons c0 r =>
          rw [hz k0 c0 r rfl]
          rw [k0] at hck
          cases hck; rfl
      have hgoY := hgoY hea
      clear hgo hz hp hdr htk hgoN
      repeat' walk_at "m"
      · rename_i q _
        have q : c ∉ evs shapes cs := by simpa using q
        rw [hinN q]; rfl
      · rename_i q _ _
        have q : c ∈ evs shapes cs := by simpa using q
        exact ⟨_, _, c.1, hinY q, hgoY, fun z => by omega, hpn, rfl⟩
    · obtain ⟨j, rfl⟩ : ∃ j, k = j + 1 := ⟨k - 1, by omega⟩
      obtain ⟨c', hcj⟩ : ∃ c', l[j]? = some c' := ⟨_, List.getElem?_eq_getElem (show j < l.length by omega)⟩
      have hea : a = c'.1 := hp j c' rfl hcj
      subst hea
      have hix1 := ixC_at (ax := ax) hcj
      rw [show (j : Int) = ((j + 1 : Nat) : Int) - 1 by omega] at hix1
      clear hgo hz hp hdr htk
      repeat' walk_at "m"
      · rename_i q _
        have q : c ∉ evs shapes cs := by simpa using q
        rw [hinN q]; rfl
      · rename_i q
        have q : c.2.1 ≠ c'.1 := by simpa using q
        rw [hgoN q]; rfl
      · rename_i q1 _ q
        have q : c.2.1 = c'.1 := by simpa using q
        have q1 : c ∈ evs shapes cs := by simpa using q1
        exact ⟨_, _, c.1, hinY q1, hgoY q, fun z => by omega, hpn, rfl⟩
  · obtain ⟨t, x6, a, hin, hgo, hz, hp, rfl⟩ := hI
    rw [range_len, hll, show ((l.length : Nat) : Int).toNat = l.length by omega] at hin hgo hp hz
    rw [List.take_length] at hin
    rw [List.drop_length] at hgo
    cases l with
    | nil =>
      repeat' walk_at "m"
      all_goals first | rfl | (rename_i q; simp [csD] at q; done)
    | cons c0 r =>
      have hg := hgo c0 r rfl
      rw [go] at hg
      have hw : wkR (evs shapes cs) (c0 :: r) = some (c0.2.1, a, t) := by
        unfold wkR
        simp only
        rw [if_pos hin, ← hg]; rfl
      rw [hw]
      obtain ⟨m, cl, hm⟩ : ∃ m cl, c0 :: r = m ++ [cl] := ⟨(c0 :: r).dropLast, (c0 :: r).getLast (by simp), (List.dropLast_concat_getLast _).symm⟩
      have ha : a = cl.1 := hp m.length cl (by rw [hm]; simp) (by rw [hm]; simp)
      have hlast : fIx (.tup (csD ax (c0 :: r))) (.int (-1)) = some (cD ax cl) := by rw [hm]; exact ixC_last
      subst ha
      clear hgo hz hp hm hg hw hin
      repeat' walk_at "m"
      all_goals first | rfl | (rename_i q; simp [csD] at q; omega)
end

/-! ### places judged -/
def z0 (f : Nm → Int) : Nm → Int := fun v => if v = [] then 0 else f v
def kp (E : List Con) (f : Nm → Int) : Bool := E.all fun c => decide (z0 f c.2.1 + c.2.2.1 ≤ z0 f c.1)
def knS (names : List Nm) (f : Nm → Int) : SL := fnS ([] :: names) fun v => .int (z0 f v)
theorem pls_len (shapes : List Nm) (f : Nm → Int) : (plsD shapes f).length = shapes.length := List.length_map _
theorem kn_len (names : List Nm) (f : Nm → Int) : (knS names f).length = names.length + 1 := by unfold knS; rw [fnS_len]; rfl
theorem put_kn {shapes : List Nm} {i : Nat} {v : Nm} {f : Nm → Int} (h : shapes[i]? = some v) (nd : shapes.Nodup) (ne : [] ∉ shapes) : putL (knS (shapes.take i) f) v (.int (f v)) = knS (shapes.take (i + 1)) f := by
  have hv : v ≠ [] := fun z => ne (z ▸ mem_get h)
  have hn : v ∉ [] :: shapes.take i := fun m => by
    rcases List.mem_cons.mp m with m | m
    · exact hv m
    · have := List.nodup_append.mp ((List.take_append_drop i shapes).symm ▸ nd)
      exact this.2.2 v m v (List.mem_of_getElem? (i := 0) (by rw [List.getElem?_drop, Nat.add_zero]; exact h)) rfl
  unfold knS
  rw [put_new hn (by unfold z0; rw [if_neg hv]), List.take_add_one, h]
  rfl
theorem lk_kn {names : List Nm} {f : Nm → Int} {v : Nm} (h : v ∈ [] :: names) : lk (knS names f) v = some (.int (z0 f v)) := lk_fn h
theorem ixP_at {shapes : List Nm} {f : Nm → Int} {k : Nat} {v : Nm} (h : shapes[k]? = some v) : fIx (.tup (plsD shapes f)) (.int (k : Int)) = some (.int (f v)) := by
  obtain ⟨hk, _⟩ := List.getElem?_eq_some_iff.mp h
  show atI (plsD shapes f) (k : Int) = _
  unfold atI ixN
  rw [if_pos (by omega), if_pos (by rw [pls_len]; omega)]
  show (plsD shapes f)[k]? = _
  unfold plsD
  rw [List.getElem?_map, h]; rfl
theorem ixN_at {shapes : List Nm} {k : Nat} {v : Nm} (h : shapes[k]? = some v) : fIx (.tup (nmD shapes)) (.int (k : Int)) = some (.str v) := by
  obtain ⟨hk, _⟩ := List.getElem?_eq_some_iff.mp h
  show atI (nmD shapes) (k : Int) = _
  unfold atI ixN
  rw [if_pos (by omega), if_pos (by rw [List.length_map]; omega)]
  show (nmD shapes)[k]? = _
  rw [List.getElem?_map, h]; rfl
section
variable {ax : Nm} {shapes : List Nm} {cs : List Con} (g : Sized shapes cs)
include g
theorem keeps_ok {f : Nm → Int} : w1 (m__law_keeps [.str ax, .tup (nmD shapes), .tup (csD ax cs), .tup (plsD shapes f)]) (· = .bl (kp (evs shapes cs) f)) := by
  have hn := nms_imm shapes
  have hc := cs_imm ax cs
  have hi := ints_imm shapes f
  have hl := g.len
  have hnl : (nmD shapes).length = shapes.length := List.length_map _
  have hie := cs_imm ax (evs shapes cs)
  have hev := w1_is (every_ok (ax := ax) g)
  have hG := g.toGood
  have i1 : imms [.str ax, .tup (nmD shapes), .tup (csD ax cs)] = true := by simp [imms, imm, hn, hc]
  apply w1_def (by simp [imms, imm, hn, hc, hi])
  unfold b__law_keeps
  rw [lit_e]
  repeat' walk_at "m"
  refine wS_loop0 (fun k e => Hold (∃ (x5 : Option D), e = [some (.str ax), some (.tup (nmD shapes)), some (.tup (csD ax cs)), some (.tup (plsD shapes f)), some (.dct (strD (knS (shapes.take k) f))), x5, none])) _ ⟨_, rfl⟩ (fun k d e hd hI => ?_) (fun e hI => ?_)
  · obtain ⟨x5, rfl⟩ := hI
    obtain ⟨hk, rfl⟩ := range_at hd
    obtain ⟨v, hv⟩ : ∃ v, shapes[k]? = some v := ⟨_, List.getElem?_eq_getElem (show k < shapes.length by rw [hnl] at hk; omega)⟩
    have h1 := ixP_at (f := f) hv
    have h2 := ixN_at hv
    have e0 : (0 : Int) + (k : Int) = k := by omega
    rw [e0]
    have l1 : (knS (shapes.take k) f).length ≤ 1000000 := by rw [kn_len, List.length_take]; omega
    repeat' walk_at "m"
    rw [put_kn hv g.nd g.ne]
    exact ⟨_, rfl⟩
  · obtain ⟨x5, rfl⟩ := hI
    rw [range_len, hnl, show ((shapes.length : Nat) : Int).toNat = shapes.length by omega, List.take_length]
    repeat' walk_at "m"
    refine ⟨csD ax (evs shapes cs), if_pos hie, ?_⟩
    refine wS_loop0 (fun j e => Hold (∃ (x6 : Option D), kp ((evs shapes cs).take j) f = true ∧ e = [some (.str ax), some (.tup (nmD shapes)), some (.tup (csD ax cs)), some (.tup (plsD shapes f)), some (.dct (strD (knS shapes f))), x5, x6])) _ ⟨_, rfl, rfl⟩ (fun j d e hd hI => ?_) (fun e hI => ?_)
    · obtain ⟨x6, hk, rfl⟩ := hI
      obtain ⟨c, he, rfl⟩ := c_at hd
      obtain ⟨g1, g2⟩ := hG c (mem_get he)
      have h1 := lk_kn (f := f) g1
      have h2 := lk_kn (f := f) g2
      have htk := all_tk (p := fun c => decide (z0 f c.2.1 + c.2.2.1 ≤ z0 f c.1)) he
      have hno := all_no (p := fun c => decide (z0 f c.2.1 + c.2.2.1 ≤ z0 f c.1)) he
      repeat' walk_at "m"
      · rename_i q
        have q : z0 f c.1 < z0 f c.2.1 + c.2.2.1 := by first | omega | (simp at q; omega)
        unfold kp
        rw [hno (decide_eq_false (by omega))]
      · rename_i q
        have q : ¬ z0 f c.1 < z0 f c.2.1 + c.2.2.1 := by first | omega | (simp at q; omega)
        refine ⟨_, ?_, rfl⟩
        unfold kp at hk ⊢
        rw [htk, hk, decide_eq_true (by omega)]; rfl
    · obtain ⟨x6, hk, rfl⟩ := hI
      rw [cs_len, List.take_length] at hk
      repeat' walk_at "m"
      rw [hk]
theorem is_places_ok {f : Nm → Int} : w1 (m_is_places [.str ax, .tup (nmD shapes), .tup (csD ax cs), .tup (plsD shapes f)]) (· = .bl (kp (evs shapes cs) f)) := by
  have hn := nms_imm shapes
  have hc := cs_imm ax cs
  have hi := ints_imm shapes f
  have hl := g.len
  have hnl : (nmD shapes).length = shapes.length := List.length_map _
  have hpl := pls_len shapes f
  have hie := cs_imm ax (evs shapes cs)
  have hall := w1_is (all_ok (ax := ax) g)
  have hG := g.toGood
  have i1 : imms [.str ax, .tup (nmD shapes), .tup (csD ax cs)] = true := by simp [imms, imm, hn, hc]
  apply w1_def (by simp [imms, imm, hn, hc, hi])
  unfold b_is_places
  rw [org_e]
  repeat' walk_at "m"
  · rename_i a b
    exfalso
    first | (simp [pls_len] at a; done) | (simp [pls_len] at b; done)
  refine wS_loop0 (fun k e => Hold (∃ (x5 : Option D), e = [some (.str ax), some (.tup (nmD shapes)), some (.tup (csD ax cs)), some (.tup (plsD shapes f)), some (.dct (strD (knS (shapes.take k) f))), x5, none, none, none, none])) _ ⟨_, rfl⟩ (fun k d e hd hI => ?_) (fun e hI => ?_)
  · obtain ⟨x5, rfl⟩ := hI
    obtain ⟨hk, rfl⟩ := range_at hd
    obtain ⟨v, hv⟩ : ∃ v, shapes[k]? = some v := ⟨_, List.getElem?_eq_getElem (show k < shapes.length by rw [hnl] at hk; omega)⟩
    have h1 := ixP_at (f := f) hv
    have h2 := ixN_at hv
    have e0 : (0 : Int) + (k : Int) = k := by omega
    rw [e0]
    have l1 : (knS (shapes.take k) f).length ≤ 1000000 := by rw [kn_len, List.length_take]; omega
    have k1 := w1_is (whole_int (f v))
    have i2 : imms [.int (f v)] = true := rfl
    repeat' walk_at "m"
    rw [put_kn hv g.nd g.ne]
    exact ⟨_, rfl⟩
  · obtain ⟨x5, rfl⟩ := hI
    rw [range_len, hnl, show ((shapes.length : Nat) : Int).toNat = shapes.length by omega, List.take_length]
    repeat' walk_at "m"
    refine ⟨csD ax (evs shapes cs), if_pos hie, ?_⟩
    refine wS_loop0 (fun j e => Hold (∃ (x6 x7 x8 x9 : Option D), kp ((evs shapes cs).take j) f = true ∧ e = [some (.str ax), some (.tup (nmD shapes)), some (.tup (csD ax cs)), some (.tup (plsD shapes f)), some (.dct (strD (knS shapes f))), x5, x6, x7, x8, x9])) _ ⟨_, _, _, _, rfl, rfl⟩ (fun j d e hd hI => ?_) (fun e hI => ?_)
    · obtain ⟨x6, x7, x8, x9, hk, rfl⟩ := hI
      obtain ⟨c, he, rfl⟩ := c_at hd
      obtain ⟨g1, g2⟩ := hG c (mem_get he)
      have h1 := lk_kn (f := f) g1
      have h2 := lk_kn (f := f) g2
      have htk := all_tk (p := fun c => decide (z0 f c.2.1 + c.2.2.1 ≤ z0 f c.1)) he
      have hno := all_no (p := fun c => decide (z0 f c.2.1 + c.2.2.1 ≤ z0 f c.1)) he
      show w0 (gT [6, 7, 8, 9, 6] (.tup [.str ax, .str c.1, .str c.2.1, .int c.2.2.1, .str c.2.2.2]) _) _
      refine w0_gT5 rfl ?_
      repeat' walk_at "m"
      · rename_i q
        have q : z0 f c.1 < z0 f c.2.1 + c.2.2.1 := by first | omega | (simp at q; omega)
        unfold kp
        rw [hno (decide_eq_false (by omega))]
      · rename_i q
        have q : ¬ z0 f c.1 < z0 f c.2.1 + c.2.2.1 := by first | omega | (simp at q; omega)
        refine ⟨_, _, _, _, ?_, rfl⟩
        unfold kp at hk ⊢
        rw [htk, hk, decide_eq_true (by omega)]; rfl
    · obtain ⟨x6, x7, x8, x9, hk, rfl⟩ := hI
      rw [cs_len, List.take_length] at hk
      repeat' walk_at "m"
      rw [hk]
end

/-! ### wrong places -/
theorem putL_len (S : SL) (u : List Nat) (y : D) : (putL S u y).length ≤ S.length + 1 := by
  unfold putL
  split
  · rw [List.length_map]; omega
  · rw [List.length_append]; simp
inductive PV : D → Bool → Prop
  | i {i : Int} : PV (.int i) true
  | b {b : Bool} : PV (.bl b) false
  | s {s : Nm} : PV (.str s) false
theorem PV.imm {d : D} {b : Bool} (h : PV d b) : imm d = true := by cases h <;> rfl
theorem PV.whole {d : D} {b : Bool} (h : PV d b) : w1 (m_is_whole [d]) (· = .bl b) := by
  cases h
  · exact whole_int _
  · exact whole_bl _
  · exact whole_str _
theorem ixD_at {ds : List D} {k : Nat} {d : D} (h : ds[k]? = some d) : fIx (.tup ds) (.int (k : Int)) = some d := by
  obtain ⟨hk, _⟩ := List.getElem?_eq_some_iff.mp h
  show atI ds (k : Int) = _
  unfold atI ixN
  rw [if_pos (by omega), if_pos (by omega)]
  exact h
section
variable {ax : Nm} {shapes : List Nm} {cs : List Con} (g : Sized shapes cs)
include g
theorem places_nt {d : D} (h : NT d) : w1 (m_is_places [.str ax, .tup (nmD shapes), .tup (csD ax cs), d]) (· = .bl false) := by
  have hn := nms_imm shapes
  have hc := cs_imm ax cs
  cases h with
  | l h =>
    apply w1_def (by simp [imms, imm, hn, hc, h])
    unfold b_is_places
    repeat' walk_at "m"
    all_goals rfl
  | n =>
    apply w1_def (by simp [imms, imm, hn, hc])
    unfold b_is_places
    repeat' walk_at "m"
    all_goals rfl
  | i =>
    apply w1_def (by simp [imms, imm, hn, hc])
    unfold b_is_places
    repeat' walk_at "m"
    all_goals rfl
  | s =>
    apply w1_def (by simp [imms, imm, hn, hc])
    unfold b_is_places
    repeat' walk_at "m"
    all_goals rfl
theorem places_len {ds : List D} (hd : imms ds = true) (hl : ds.length ≠ shapes.length) : w1 (m_is_places [.str ax, .tup (nmD shapes), .tup (csD ax cs), .tup ds]) (· = .bl false) := by
  have hn := nms_imm shapes
  have hc := cs_imm ax cs
  have hnl : (nmD shapes).length = shapes.length := List.length_map _
  apply w1_def (by simp [imms, imm, hn, hc, hd])
  unfold b_is_places
  rw [org_e]
  show wS (mSeq _ (mSeq _ _) _) _ _ _ _
  refine wS_seq (wS_mono (N := fun _ => False) (R := fun d _ => d = .bl false) (B := fun _ => False) (C := fun _ => False) ?_ (fun _ h => h.elim) (fun _ _ h => h) (fun _ h => h) (fun _ h => h))
  repeat' walk_at "m"
  · rfl
  · rename_i a b
    have : ((ds.length : Nat) : Int) = (shapes.length : Nat) := by simpa using b
    exact hl (by omega)
theorem places_bad {ds : List D} {k : Nat} {d : D} (hd : ∀ x ∈ ds, ∃ b, PV x b) (hl : ds.length = shapes.length) (hk : ds[k]? = some d) (hb : PV d false) : w1 (m_is_places [.str ax, .tup (nmD shapes), .tup (csD ax cs), .tup ds]) (· = .bl false) := by
  have hn := nms_imm shapes
  have hc := cs_imm ax cs
  have hsl := g.len
  have hnl : (nmD shapes).length = shapes.length := List.length_map _
  have hdi : imms ds = true := by rw [imms_all, List.all_eq_true]; exact fun x m => by obtain ⟨b, h⟩ := hd x m; exact h.imm
  obtain ⟨hkl, _⟩ := List.getElem?_eq_some_iff.mp hk
  apply w1_def (by simp [imms, imm, hn, hc, hdi])
  unfold b_is_places
  rw [org_e]
  repeat' walk_at "m"
  · rfl
  refine wS_loop0 (fun i e => Hold (∃ (S : SL) (x5 : Option D), i ≤ k ∧ S.length ≤ i + 1 ∧ e = [some (.str ax), some (.tup (nmD shapes)), some (.tup (csD ax cs)), some (.tup ds), some (.dct (strD S)), x5, none, none, none, none])) _ ⟨[([], .int 0)], _, by omega, by simp, rfl⟩ (fun i x e hx hI => ?_) (fun e hI => ?_)
  · obtain ⟨S, x5, hik, hS, rfl⟩ := hI
    obtain ⟨hi, rfl⟩ := range_at hx
    have hi : i < shapes.length := by rw [hnl] at hi; omega
    obtain ⟨v, hv⟩ : ∃ v, shapes[i]? = some v := ⟨_, List.getElem?_eq_getElem hi⟩
    obtain ⟨y, hy⟩ : ∃ y, ds[i]? = some y := ⟨_, List.getElem?_eq_getElem (by omega)⟩
    obtain ⟨b, hp⟩ := hd y (mem_get hy)
    have h1 := ixD_at hy
    have h2 := ixN_at hv
    have e0 : (0 : Int) + (i : Int) = i := by omega
    rw [e0]
    have l1 : S.length ≤ 1000000 := by omega
    have k1 := w1_is hp.whole
    have hyi := hp.imm
    have i2 : imms [y] = true := by simp [imms, hyi]
    have hpl := putL_len S v y
    have hne : b = true → i ≠ k := fun z z2 => by
      subst z2
      rw [hk] at hy
      cases hy
      cases hb <;> cases hp <;> cases z
    clear hd hp
    repeat' walk_at "m"
    · rfl
    · rename_i q
      have q : b = true := by simpa using q
      have := hne q
      exact ⟨_, _, by omega, by omega, rfl⟩
  · obtain ⟨S, x5, hik, hS, rfl⟩ := hI
    rw [range_len, hnl] at hik
    omega
end

/-! ### papers with one thing changed -/
theorem w0_cutToC {ax : Nm} {l : List Con} {k : Int} {Q : D → Prop} (hk : 0 ≤ k) (q : Q (.tup (csD ax (l.take k.toNat)))) : w0 (fCut (.tup (csD ax l)) none (some k)) Q := w0_cutTo (cs_imm ax l) hk (by rw [show (csD ax l).take k.toNat = csD ax (l.take k.toNat) from (List.map_take ..).symm]; exact q)
theorem w0_cutFromC {ax : Nm} {l : List Con} {k : Int} {Q : D → Prop} (hk : 0 ≤ k) (q : Q (.tup (csD ax (l.drop k.toNat)))) : w0 (fCut (.tup (csD ax l)) (some k) none) Q := w0_cutFrom (cs_imm ax l) hk (by rw [show (csD ax l).drop k.toNat = csD ax (l.drop k.toNat) from (List.map_drop ..).symm]; exact q)
theorem w0_addC1 {ax : Nm} {a : List Con} {c : Con} {Q : D → Prop} (h : a.length ≤ 100000) (q : Q (.tup (csD ax (a ++ [c])))) : w0 (fAdd (.tup (csD ax a)) (.tup [cD ax c])) Q := w0_addC (b := [c]) (by rw [List.length_singleton]; omega) q
theorem w0_ixCl {ax : Nm} {E : List Con} {i : Int} {Q : D → Prop} (h : 0 ≤ i) (h1 : i < E.length) (q : ∀ c, c ∈ E → Q (cD ax c)) : w0 (fIx (.lst (csD ax E)) (.int i)) Q :=
  w0_ixL h (by rw [cs_len]; exact h1) fun d hd => by
    obtain ⟨c, hc, rfl⟩ := c_at hd
    exact q c (mem_get hc)
theorem w0_lenC {ax : Nm} {l : List Con} {Q : D → Prop} (q : Q (.int (l.length : Nat))) : w0 (fLen [.tup (csD ax l)]) Q := w0_of (show some (D.int ((csD ax l).length : Nat)) = _ by rw [cs_len]) q
theorem w0_lenCl {ax : Nm} {l : List Con} {Q : D → Prop} (q : Q (.int (l.length : Nat))) : w0 (fLen [.lst (csD ax l)]) Q := w0_of (show some (D.int ((csD ax l).length : Nat)) = _ by rw [cs_len]) q
local macro_rules | `(tactic| walk_at "m0") => `(tactic| first
  | ((with_reducible refine w0_cutToC ?_ ?_); (focus (first | assumption | omega)))
  | ((with_reducible refine w0_cutFromC ?_ ?_); (focus (first | assumption | omega)))
  | ((with_reducible refine w0_addC1 ?_ ?_); (focus (first | assumption | omega | (simp only [List.length_append, List.length_take, List.length_drop, List.length_cons, List.length_nil]; omega))))
  | ((with_reducible refine w0_addC ?_ ?_); (focus (first | assumption | omega | (simp only [List.length_append, List.length_take, List.length_drop, List.length_cons, List.length_nil]; omega))))
  | with_reducible apply w0_lenC | with_reducible apply w0_lenCl)
theorem w0_ix4 {ax : Nm} {a b c d : D} {i : Int} {Q : D → Prop} (h : 0 ≤ i) (h1 : i < 4) (p : (∃ x, a = cD ax x) ∧ (∃ x, b = cD ax x) ∧ (∃ x, c = cD ax x) ∧ ∃ x, d = cD ax x) (q : ∀ x, Q (cD ax x)) : w0 (fIx (.lst [a, b, c, d]) (.int i)) Q :=
  w0_ixL h (by simpa using h1) fun y hy => by
    obtain ⟨⟨a, rfl⟩, ⟨b, rfl⟩, ⟨c, rfl⟩, ⟨d, rfl⟩⟩ := p
    have m := mem_get hy
    simp only [List.mem_cons, List.not_mem_nil, or_false] at m
    rcases m with m | m | m | m <;> (rw [m]; exact q _)
def NearP (ax : Nm) (l : List Con) (d : D) (os : List D) : Prop := ∃ (l' : List Con) (jar' : D) (r : List D), d = .tup (csD ax l') ∧ l'.length ≤ l.length + 1 ∧ Jar jar' ∧ os = jar' :: r
noncomputable def nearB : MS := (mSeq (mIf (tst (ofN (bin fEq (bVar 14) (bC (.int 4)))))
  (mRet (ofN (bin fAdd (cut (bVar 4) none (some (bVar 5))) (cut (bVar 4) (some (bin fAdd (bVar 5) (bC (.int 1)))) none))))
  mNil)
  (mSeq (mIf (tst (ofN (bin fEq (bVar 14) (bC (.int 5)))))
  (mRet (ofN (bin fAdd (bVar 4) (dTup (aCons (bVar 12) aNil)))))
  mNil)
  (mSeq (mIf (tst (ofN (bin fEq (bVar 14) (bC (.int 6)))))
  (mRet (ofN (bin fAdd (cut (bVar 4) (some (bVar 5)) none) (cut (bVar 4) none (some (bVar 5))))))
  mNil)
  (mRet (ofN (bin fAdd (bin fAdd (cut (bVar 4) none (some (bVar 5))) (dTup (aCons (bVar 12) aNil))) (cut (bVar 4) (some (bVar 5)) none)))))))
noncomputable def nearR : MS := (mSeq (mSet 14 (eIO [0] m__law_take (acons (ofN (bC (.int 8))) anil)))
  (mSeq (mIf (tst (ofN (bin fLt (bVar 14) (bC (.int 4)))))
  (mRet (ofN (bin fAdd (bin fAdd (cut (bVar 4) none (some (bVar 5))) (dTup (aCons (bin fIx (bVar 13) (bVar 14)) aNil))) (cut (bVar 4) (some (bin fAdd (bVar 5) (bC (.int 1)))) none))))
  mNil)
  nearB))
section
variable {ax : Nm}
theorem nearB_ok {j : D} {l : List Con} {c2 : Con} {k : Nat} {p : Int} {x6 x7 x8 x9 x10 x11 x13 : Option D} {Z2 Z3 : D} (hj : Jar j) (hl : l.length ≤ 1000) (hk : k < l.length) :
    wS (nearB [some j, some (.str ax), some Z2, some Z3, some (.tup (csD ax l)), some (.int (k : Int)), x6, x7, x8, x9, x10, x11, some (cD ax c2), x13, some (.int p)]) (fun _ => False) (fun d e => e[0]? = some (some j) ∧ e.length = 15 ∧ ∃ l', d = .tup (csD ax l') ∧ l'.length ≤ l.length + 1) (fun _ => False) (fun _ => False) := by
  have hi := cs_imm ax l
  have hcm2 : imm (cD ax c2) = true := rfl
  unfold nearB
  repeat' walk_at "m"
  all_goals (try refine ⟨rfl, rfl, _, rfl, ?_⟩)
  all_goals simp only [List.length_append, List.length_take, List.length_drop, List.length_cons, List.length_nil]
  all_goals omega
theorem nearR_ok {j : D} {l : List Con} {c c2 : Con} {k : Nat} {x6 : Option D} {Z2 Z3 : D} {z : Nm} (hj : Jar j) (hl : l.length ≤ 1000) (hk : k < l.length) :
    wS (nearR [some j, some (.str ax), some Z2, some Z3, some (.tup (csD ax l)), some (.int (k : Int)), x6, some (.str ax), some (.str c.1), some (.str c.2.1), some (.int c.2.2.1), some (.str c.2.2.2), some (cD ax c2), some (.lst [.tup [.str ax, .str c.1, .str c.2.1, .int (c.2.2.1 + 1), .str c.2.2.2], .tup [.str ax, .str c.2.1, .str c.1, .int c.2.2.1, .str c.2.2.2], cD ax c2, .tup [.str ax, .str c.1, .str c.2.1, .int c.2.2.1, .str z]]), none]) (fun _ => False) (fun d e => ∃ j', Jar j' ∧ e[0]? = some (some j') ∧ e.length = 15 ∧ ∃ l', d = .tup (csD ax l') ∧ l'.length ≤ l.length + 1) (fun _ => False) (fun _ => False) := by
  have hi := cs_imm ax l
  have hcm2 : imm (cD ax c2) = true := rfl
  unfold nearR
  refine wS_seq (wS_set ?_)
  repeat' (first | walk_at "m2" | walk_at "mE" | walk_at "m1" | walk_at "t")
  rename_i r3 j3 d0 d1 hj3
  have hch : r3 < 4 → ∃ cx, fIx (.lst [.tup [.str ax, .str c.1, .str c.2.1, .int (c.2.2.1 + 1), .str c.2.2.2], .tup [.str ax, .str c.2.1, .str c.1, .int c.2.2.1, .str c.2.2.2], cD ax c2, .tup [.str ax, .str c.1, .str c.2.1, .int c.2.2.1, .str z]]) (.int r3) = some (cD ax cx) := fun h4 => by
    have : w0 (fIx (.lst [.tup [.str ax, .str c.1, .str c.2.1, .int (c.2.2.1 + 1), .str c.2.2.2], .tup [.str ax, .str c.2.1, .str c.1, .int c.2.2.1, .str c.2.2.2], cD ax c2, .tup [.str ax, .str c.1, .str c.2.1, .int c.2.2.1, .str z]]) (.int r3)) fun d => ∃ cx, d = cD ax cx :=
      w0_ix4 d0 h4 ⟨⟨(c.1, c.2.1, c.2.2.1 + 1, c.2.2.2), rfl⟩, ⟨(c.2.1, c.1, c.2.2.1, c.2.2.2), rfl⟩, ⟨c2, rfl⟩, ⟨(c.1, c.2.1, c.2.2.1, z), rfl⟩⟩ fun x => ⟨x, rfl⟩
    generalize fIx _ _ = o at this ⊢
    cases this with
    | mk h => obtain ⟨cx, rfl⟩ := h; exact ⟨cx, rfl⟩
  by_cases h4 : r3 < 4
  · obtain ⟨cx, hcx⟩ := hch h4
    clear hch
    repeat' walk_at "m"
    refine ⟨j3, hj3, rfl, rfl, _, rfl, ?_⟩
    simp only [List.length_append, List.length_take, List.length_drop, List.length_cons, List.length_nil]
    omega
  · clear hch
    refine wS_seq (wS_if ?_)
    repeat' walk_at "m"
    refine wS_mono (nearB_ok hj3 hl hk) (fun _ h => h) (fun d e h => ⟨j3, hj3, h.1, h.2.1, h.2.2⟩) (fun _ h => h) (fun _ h => h)
section
variable {shapes : List Nm} {cs : List Con} (g : Sized shapes cs)
include g
theorem near_ok {j : D} {l : List Con} (hj : Jar j) (h0 : 0 < l.length) (hl : l.length ≤ 1000) : wD (m__law_near [j, .str ax, .tup (nmD shapes), .tup (csD ax cs), .tup (csD ax l)]) (NearP ax l) := by
  have hn := nms_imm shapes
  have hc := cs_imm ax cs
  have hi := cs_imm ax l
  have hie := cs_imm ax (evs shapes cs)
  have hev := w1_is (every_ok (ax := ax) g)
  have hEl := evs_len shapes cs
  have hgp := g.pos
  have hel := g.el
  have hEp : 0 < (evs shapes cs).length := by omega
  have i1 : imms [.str ax, .tup (nmD shapes), .tup (csD ax cs)] = true := by simp [imms, imm, hn, hc]
  apply wD_def
  unfold b__law_near
  show wS (mSeq _ (mSeq _ (mSeq _ (mSeq _ (mSeq _ nearR)))) _) _ _ _ _
  repeat' (first | walk_at "m" | walk_at "t")
  rename_i r1 j1 a0 a1 hj1
  obtain ⟨k, rfl⟩ : ∃ k : Nat, r1 = k := ⟨r1.toNat, by omega⟩
  have hk : k < l.length := by omega
  obtain ⟨c, hck⟩ : ∃ c, l[k]? = some c := ⟨_, List.getElem?_eq_getElem hk⟩
  have hix := ixC_at (ax := ax) hck
  have hcm : imm (cD ax c) = true := rfl
  repeat' (first | walk_at "m" | walk_at "t")
  rename_i r2 j2 b0 b1 hj2
  refine w0_ixCl b0 b1 fun c2 hc2 => ?_
  have hcm2 : imm (cD ax c2) = true := rfl
  simp only [List.map_cons, List.map_nil, List.replicate, List.cons_append, List.nil_append, List.set_cons_zero, List.set_cons_succ]
  refine ⟨hcm2, ?_⟩
  repeat' (first | walk_at "m" | walk_at "t")
  simp only [List.set_cons_zero, List.set_cons_succ]
  refine wS_mono (nearR_ok hj2 hl hk) (fun _ h => h.elim) (fun d e h => ?_) (fun _ h => h) (fun _ h => h)
  obtain ⟨j', hj', he, hel2, l', rfl, hl'⟩ := h
  obtain ⟨x0, r, rfl⟩ : ∃ x0 r, e = x0 :: r := by
    cases e with
    | nil => cases he
    | cons x0 r => exact ⟨x0, r, rfl⟩
  cases (show x0 = some j' from Option.some.inj he)
  exact w0_of (show outsOf (fun i => i == 0) 0 [j, .str ax, .tup (nmD shapes), .tup (csD ax cs), .tup (csD ax l)] (some j' :: r) = some [j', .str ax, .tup (nmD shapes), .tup (csD ax cs), .tup (csD ax l)] by simp [outsOf, imm, hn, hc, hi]) ⟨l', j', _, rfl, hl', hj', rfl⟩
end
end

/-! ### wrong papers of rows -/
def Bad (ax : Nm) (d : D) : Prop := NT d ∨ ∃ ds, d = .tup ds ∧ (∀ x ∈ ds, CV ax x) ∧ ds.length ≤ 1000000 ∧ ∃ x ∈ ds, ∀ E, amb E x = false
theorem Bad.imm {ax : Nm} {d : D} (h : Bad ax d) : imm d = true := by
  rcases h with h | ⟨ds, rfl, h, _⟩
  · exact h.imm
  · show imms ds = true
    rw [imms_all, List.all_eq_true]; exact fun x m => (h x m).imm
theorem Bad.no {ax : Nm} {d : D} (E : List Con) (h : Bad ax d) : w1 (m_are_among [d, .tup (csD ax E)]) (· = .bl false) := by
  rcases h with h | ⟨ds, rfl, h, hl, x, hx, hb⟩
  · exact are_nt h
  · have := are_ok (E := E) h hl
    rwa [show ds.all (amb E) = false from List.all_eq_false.mpr ⟨x, hx, by rw [hb E]; simp⟩] at this
theorem bad_mid {ax : Nm} {a b : List Con} {x : D} (hx : CV ax x) (hb : ∀ E, amb E x = false) (h : a.length + b.length ≤ 10000) : Bad ax (.tup (csD ax a ++ [x] ++ csD ax b)) := by
  refine .inr ⟨_, rfl, fun y m => ?_, by simp only [List.length_append, cs_len, List.length_cons, List.length_nil]; omega, x, by simp, hb⟩
  rcases List.mem_append.mp m with m | m
  · rcases List.mem_append.mp m with m | m
    · exact cs_cv y m
    · rw [List.mem_singleton.mp m]; exact hx
  · exact cs_cv y m
theorem w0_ixBad {ax : Nm} {a0 a1 a2 a3 a4 a5 a6 : D} {i : Int} (h : 0 ≤ i) (h1 : i < 7) (p : Bad ax a0 ∧ Bad ax a1 ∧ Bad ax a2 ∧ Bad ax a3 ∧ Bad ax a4 ∧ Bad ax a5 ∧ Bad ax a6) : ∃ d, fIx (.lst [a0, a1, a2, a3, a4, a5, a6]) (.int i) = some d ∧ Bad ax d := by
  have : w0 (fIx (.lst [a0, a1, a2, a3, a4, a5, a6]) (.int i)) (Bad ax) := w0_ixL h (by simpa using h1) fun y hy => by
    obtain ⟨q0, q1, q2, q3, q4, q5, q6⟩ := p
    have m := mem_get hy
    simp only [List.mem_cons, List.not_mem_nil, or_false] at m
    rcases m with m | m | m | m | m | m | m <;> (rw [m]; assumption)
  generalize fIx _ _ = o at this ⊢
  cases this with
  | mk h => exact ⟨_, rfl, h⟩
theorem w0_addX {ax : Nm} {a : List Con} {x : D} {Q : D → Prop} (hx : Mir.imm x = true) (h : a.length ≤ 100000) (q : Q (.tup (csD ax a ++ [x]))) : w0 (fAdd (.tup (csD ax a)) (.tup [x])) Q :=
  w0_addT (cs_imm ax a) (by simp [imms, hx]) (by rw [cs_len, List.length_singleton]; omega) q
theorem w0_addY {ax : Nm} {a b : List Con} {x : D} {Q : D → Prop} (hx : Mir.imm x = true) (h : a.length + b.length ≤ 100000) (q : Q (.tup (csD ax a ++ [x] ++ csD ax b))) : w0 (fAdd (.tup (csD ax a ++ [x])) (.tup (csD ax b))) Q :=
  w0_addT (imms_app (cs_imm ax a) (by simp [imms, hx])) (cs_imm ax b) (by rw [List.length_append, cs_len, cs_len, List.length_singleton]; omega) q
local macro_rules | `(tactic| walk_at "m0") => `(tactic| first
  | ((with_reducible refine w0_addX ?_ ?_ ?_); (focus (exact rfl)); (focus (first | assumption | omega | (simp only [List.length_append, List.length_take, List.length_drop, List.length_cons, List.length_nil]; omega))))
  | ((with_reducible refine w0_addY ?_ ?_ ?_); (focus (exact rfl)); (focus (first | assumption | omega | (simp only [List.length_append, List.length_take, List.length_drop, List.length_cons, List.length_nil]; omega)))))
def WrongP (ax : Nm) (d : D) (os : List D) : Prop := ∃ (jar' : D) (r : List D), Bad ax d ∧ Jar jar' ∧ os = jar' :: r
section
variable {ax : Nm}
theorem wrong_ok {j : D} {l : List Con} (hj : Jar j) (h0 : 0 < l.length) (hl : l.length ≤ 1000) : wD (m__law_wrong [j, .tup (csD ax l)]) (WrongP ax) := by
  have hi := cs_imm ax l
  apply wD_def
  unfold b__law_wrong
  rw [lit_e]
  repeat' (first | walk_at "m" | walk_at "t")
  rename_i r1 j1 a0 a1 hj1
  obtain ⟨k, rfl⟩ : ∃ k : Nat, r1 = k := ⟨r1.toNat, by omega⟩
  have hk : k < l.length := by omega
  obtain ⟨c, hck⟩ : ∃ c, l[k]? = some c := ⟨_, List.getElem?_eq_getElem hk⟩
  have hix := ixC_at (ax := ax) hck
  have hcm : imm (cD ax c) = true := rfl
  have hcut : fCut (cD ax c) none (some 4) = some (.tup [.str ax, .str c.1, .str c.2.1, .int c.2.2.1]) := rfl
  have hlen : (l.take (k : Int).toNat).length + (l.drop ((k : Int) + 1).toNat).length ≤ 10000 := by rw [List.length_take, List.length_drop]; omega
  have B5 : Bad ax (.tup (csD ax (l.take (k : Int).toNat) ++ [.tup [.str ax, .str c.1, .str c.2.1, .bl ((D.int c.2.2.1).eqv (D.int 1)), .str c.2.2.2]] ++ csD ax (l.drop ((k : Int) + 1).toNat))) := bad_mid .b (fun _ => rfl) hlen
  have B6 : Bad ax (.tup (csD ax (l.take (k : Int).toNat) ++ [.non] ++ csD ax (l.drop ((k : Int) + 1).toNat))) := bad_mid .n (fun _ => rfl) hlen
  have B7 : Bad ax (.tup (csD ax (l.take (k : Int).toNat) ++ [.tup [.str ax, .str c.1, .str c.2.1, .int c.2.2.1]] ++ csD ax (l.drop ((k : Int) + 1).toNat))) := bad_mid .t (fun _ => rfl) hlen
  have m5 := B5.imm
  have m6 := B6.imm
  have m7 := B7.imm
  have B1 : Bad ax (.rol (csD ax l)) := .inl (.l hi)
  have B2 : Bad ax .non := .inl .n
  have B3 : Bad ax (.int 5) := .inl .i
  have B4 : Bad ax (.str []) := .inl .s
  simp only [List.map_cons, List.map_nil, List.replicate, List.cons_append, List.nil_append, List.set_cons_zero, List.set_cons_succ]
  repeat' walk_at "m"
  simp only [List.set_cons_zero, List.set_cons_succ]
  refine draw_k hj1 (by decide) fun r2 j2 b0 b1 hj2 => ?_
  refine ⟨_, _, rfl, ?_⟩
  obtain ⟨d, hd, hb⟩ := w0_ixBad b0 b1 ⟨B1, B2, B3, B4, B5, B6, B7⟩
  have hdi := hb.imm
  refine ⟨_, rfl, w0_imm (w0_of hd ⟨hdi, ?_⟩)⟩
  clear hd m5 m6 m7 B5 B6 B7
  generalize ([some (D.tup (csD ax l)), some (D.int (k : Int)), _, _, _, _, _, _, _] : E) = r
  exact w0_of (show outsOf (fun i => i == 0) 0 [j, .tup (csD ax l)] (some j2 :: r) = some [j2, .tup (csD ax l)] by simp [outsOf, imm, hi]) ⟨j2, _, hb, hj2, rfl⟩
end

/-! ### judging a chain -/
theorem wk_eqv (w : Option (Nm × Nm × Int)) (v : Nm) (p : Int) : D.eqv (wkD w) (.tup [.str [], .str v, .int p]) = decide (w = some ([], v, p)) := by
  cases w with
  | none => simp [wkD]
  | some q =>
    obtain ⟨a, b, t⟩ := q
    rw [Bool.eq_iff_iff, decide_eq_true_iff]
    simp [wkD]
theorem outs_imm : ∀ (ds : List D) (k : Nat) (e : E), imms ds = true → outsOf (fun i => i == 0) (k + 1) ds e = some ds
  | [], _, _, _ => rfl
  | d :: ds, k, e, h => by
    rw [imms] at h
    obtain ⟨h1, h2⟩ := Bool.and_eq_true_iff.mp h
    rw [outsOf]
    rw [if_neg (by simp), if_pos h1, outs_imm ds (k + 1) e h2]; rfl
theorem w0_outs1 {j j2 : D} {ds : List D} {r : E} {Q : List D → Prop} (h : imms ds = true) (q : Q (j2 :: ds)) : w0 (outsOf (fun i => i == 0) 0 (j :: ds) (some j2 :: r)) Q := by
  have : outsOf (fun i => i == 0) 0 (j :: ds) (some j2 :: r) = some (j2 :: ds) := by
    unfold outsOf
    simp [outs_imm ds 0 _ h]
  exact w0_of this q
theorem wk_sh (w : Option (Nm × Nm × Int)) : sh 40 (wkD w) = true := by cases w <;> rfl
theorem ch_wk {E l : List Con} {v : Nm} {p : Int} (hv : v ≠ []) : chB E l v p = decide (wkR E l = some ([], v, p)) := by
  unfold chB wkR
  cases l with
  | nil =>
    simp only [go]
    rw [Bool.eq_iff_iff]
    simp [inE]
    intro z; exact (hv z).elim
  | cons c r =>
    simp only
    by_cases hin : inE E (c :: r) = true
    case neg => simp [hin]
    case pos =>
      simp only [hin, Bool.true_and, if_true]
      refine decide_eq_decide.mpr ?_
      by_cases q : c.2.1 = []
      · rw [q]
        cases go [] 0 (c :: r) with
        | none => simp
        | some x => obtain ⟨b, t⟩ := x; simp
      · constructor
        · intro z; rw [go, if_neg q] at z; cases z
        · intro z
          cases w : go c.2.1 0 (c :: r) with
          | none => rw [w] at z; cases z
          | some x => rw [w] at z; simp at z; exact (q z.1).elim
section
variable {ax : Nm} {shapes : List Nm} {cs : List Con} (g : Sized shapes cs)
include g
theorem judges_chain {j : D} {l : List Con} {v : Nm} {p : Int} (hj : Jar j) (hv : v ≠ []) (h0 : 0 < l.length) (hl : l.length ≤ 900) (hch : chB (evs shapes cs) l v p = true) :
    wD (m__law_judges_chain [j, .str ax, .tup (nmD shapes), .tup (csD ax cs), .str v, .int p, .tup (csD ax l)]) (fun d os => Hold (d = .bl true ∧ ∃ j' r, Jar j' ∧ os = j' :: r)) := by
  have hn := nms_imm shapes
  have hc := cs_imm ax cs
  have hi := cs_imm ax l
  have i0 : ∀ (q : Int) (d : D), imm d = true → imms [.str ax, .tup (nmD shapes), .tup (csD ax cs), .str v, .int q, d] = true := fun q d h => by simp [imms, imm, hn, hc, h]
  have i1 := i0 p (.tup (csD ax l)) hi
  have i2 := i0 p (.tup []) rfl
  have i3 := i0 (p + 1) (.tup (csD ax l)) hi
  have k1 := w1_is (is_chain_ok (ax := ax) g (v := v) (p := p) (show l.length ≤ 100000 by omega))
  rw [hch] at k1
  have k2 := w1_is (is_chain_ok (ax := ax) g (l := []) (v := v) (p := p) (by simp))
  have e2 : chB (evs shapes cs) [] v p = false := by
    unfold chB; simp [inE, go]; intro z; exact (hv z).elim
  rw [e2] at k2
  have k2 : m_is_chain [.str ax, .tup (nmD shapes), .tup (csD ax cs), .str v, .int p, .tup []] = .ok (.bl false) := k2
  have k3 := w1_is (is_chain_ok (ax := ax) g (v := v) (p := p + 1) (show l.length ≤ 100000 by omega))
  have e3 : chB (evs shapes cs) l v (p + 1) = false := by
    unfold chB at hch ⊢
    obtain ⟨q1, q2⟩ := Bool.and_eq_true_iff.mp hch
    rw [of_decide_eq_true q2]
    simp
    intro _; omega
  rw [e3] at k3
  apply wD_def
  unfold b__law_judges_chain
  rw [lit_e]
  simp only [List.map_cons, List.map_nil, List.replicate, List.cons_append, List.nil_append]
  repeat' walk_at "m"
  refine wD_mono (near_ok g hj h0 (by omega)) fun d os h => ?_
  obtain ⟨l', j1, r, rfl, hl', hj1, rfl⟩ := h
  refine ⟨_, _, rfl, ?_⟩
  have k4 := w1_is (law_walk_ok (ax := ax) g (l := l') (by omega))
  have i4 : imms [.str ax, .tup (nmD shapes), .tup (csD ax cs), .tup (csD ax l')] = true := by simp [imms, imm, hn, hc, cs_imm]
  have i5 := i0 p (.tup (csD ax l')) (cs_imm ax l')
  have k5 := w1_is (is_chain_ok (ax := ax) g (l := l') (v := v) (p := p) (by omega))
  rw [ch_wk hv] at k5
  have e4 := wk_eqv (wkR (evs shapes cs) l') v p
  have s4 := wk_sh (wkR (evs shapes cs) l')
  generalize wkR (evs shapes cs) l' = w at *
  have s5 : sh 40 (.tup [.str [], .str v, .int p]) = true := rfl
  have k6 := w1_is (same_yes (a := .bl (decide (w = some ([], v, p)))) (e := .bl (decide (w = some ([], v, p)))) rfl rfl)
  have k7 : ∀ (Q : D → Prop), Q (.bl (decide (w = some ([], v, p)))) → w0 (fEq (wkD w) (.tup [.str [], .str v, .int p])) Q := fun Q q => w0_eqD s4 s5 (by rw [e4]; exact q)
  have k8 : fEq (wkD w) (.tup [.str [], .str v, .int p]) = some (.bl (decide (w = some ([], v, p)))) := by
    have := k7 (fun d => d = .bl (decide (w = some ([], v, p)))) rfl
    generalize fEq (wkD w) _ = o at this ⊢
    cases this with
    | mk h => rw [h]
  clear k7 e4 s4 s5
  generalize decide (w = some ([], v, p)) = b at *
  have i6 : imms [.bl b, .bl b] = true := rfl
  have i7 : imm (wkD w) = true := by cases w <;> rfl
  simp only [List.set_cons_zero, List.set_cons_succ]
  repeat' walk_at "m"
  refine wD_mono (wrong_ok (ax := ax) hj1 h0 (by omega)) fun d os h => ?_
  obtain ⟨j2, r2, hb, hj2, rfl⟩ := h
  refine ⟨_, _, rfl, ?_⟩
  have i8 := i0 p d hb.imm
  have k9 := w1_is (chain_bad g (v := v) (p := p) hb.imm (hb.no _))
  simp only [List.set_cons_zero, List.set_cons_succ]
  repeat' walk_at "m"
  refine w0_outs1 (by simp [imms, imm, hn, hc, hi]) ⟨rfl, j2, _, hj2, rfl⟩
end

/-! ### judging a cycle -/
theorem cy_wk (E l : List Con) : cyB E l = match wkR E l with
    | some (a, b, t) => decide (a = b) && decide (0 < t)
    | none => false := by
  unfold cyB wkR
  cases l with
  | nil => simp
  | cons c r =>
    simp only
    by_cases hin : inE E (c :: r) = true
    case neg => simp [hin]
    case pos =>
      simp only [hin, Bool.true_and, if_true]
      cases go c.2.1 0 (c :: r) with
      | none => rfl
      | some x =>
        obtain ⟨b, t⟩ := x
        simp only [Option.map_some]
        congr 1
        exact decide_eq_decide.mpr ⟨fun z => z.symm, fun z => z.symm⟩
theorem go_app : ∀ (l m : List Con) {a b : Nm} {x y : Int}, go a x l = some (b, y) → go a x (l ++ m) = go b y m
  | [], _, _, _, _, _, h => by cases h; rfl
  | c :: l, m, a, b, x, y, h => by
    rw [go] at h
    rw [List.cons_append, go]
    split at h
    · rename_i q
      rw [if_pos q]
      exact go_app l m h
    · cases h
theorem go_shift : ∀ (l : List Con) {a b : Nm} {x y : Int} (z : Int), go a x l = some (b, y) → go a (x + z) l = some (b, y + z)
  | [], _, _, _, _, _, h => by cases h; rfl
  | c :: l, a, b, x, y, z, h => by
    rw [go] at h ⊢
    split at h
    · rename_i q
      rw [if_pos q]
      have := go_shift l z h
      rw [show x + z + c.2.2.1 = x + c.2.2.1 + z by omega]
      exact this
    · cases h
theorem go_zero : ∀ (l : List Con) {a b : Nm} {x y : Int}, (∀ c ∈ l, c.2.2.1 ≤ 0) → go a x l = some (b, y) → y ≤ x
  | [], _, _, _, _, _, h => by cases h; omega
  | c :: l, a, b, x, y, hg, h => by
    rw [go] at h
    split at h
    · have := go_zero l (fun c m => hg c (List.mem_cons_of_mem _ m)) h
      have := hg c List.mem_cons_self
      omega
    · cases h
theorem inE_iff {E l : List Con} : inE E l = true ↔ ∀ c ∈ l, c ∈ E := by
  unfold inE; rw [List.all_eq_true]; simp
/-- a cycle with a positive sum -/
def PosC (E l : List Con) (a : Nm) (t : Int) : Prop := 0 < t ∧ inE E l = true ∧ l ≠ [] ∧ go a 0 l = some (a, t)
theorem PosC.wk {E l : List Con} {a : Nm} {t : Int} (h : PosC E l a t) : wkR E l = some (a, a, t) := by
  obtain ⟨h1, h2, h3, h4⟩ := h
  unfold wkR
  cases l with
  | nil => exact (h3 rfl).elim
  | cons c r =>
    have q : c.2.1 = a := by
      rw [go] at h4
      split at h4
      · assumption
      · cases h4
    simp only
    rw [if_pos h2, q, h4]; rfl
theorem PosC.cy {E l : List Con} {a : Nm} {t : Int} (h : PosC E l a t) : cyB E l = true := by
  rw [cy_wk, h.wk]; simp [h.1]
theorem PosC.two {E l : List Con} {a : Nm} {t : Int} (h : PosC E l a t) : PosC E (l ++ l) a (t + t) := by
  obtain ⟨h1, h2, h3, h4⟩ := h
  refine ⟨by omega, ?_, by simp [h3], ?_⟩
  · rw [inE_iff] at h2 ⊢
    intro c m
    rcases List.mem_append.mp m with m | m <;> exact h2 c m
  · rw [go_app l l h4]
    have := go_shift l t h4
    rwa [show (0 : Int) + t = t by omega] at this
theorem PosC.zero {E l : List Con} {a : Nm} {t : Int} (h : PosC E l a t) : kp E (fun _ => 0) = false := by
  obtain ⟨h1, h2, h3, h4⟩ := h
  cases q : kp E fun _ => 0 with
  | false => rfl
  | true =>
    exfalso
    unfold kp at q
    rw [List.all_eq_true] at q
    have := go_zero l (fun c m => by
      have := of_decide_eq_true (q c (inE_iff.mp h2 c m))
      have e : ∀ v : Nm, z0 (fun _ => 0) v = 0 := fun v => by unfold z0; split <;> rfl
      rw [e, e] at this
      omega) h4
    omega
theorem ring_pos {shapes : List Nm} {E : List Con} {s : St} {w : Nm} (h : Ring shapes E s w) : PosC E (ring shapes s w) (nodeOf shapes s w) (sg (ring shapes s w)) := by
  obtain ⟨L0, L1, L2, L3, L4, L5⟩ := h.rg
  have hg := go_ups (s := s) (v := nodeOf shapes s w) (lo_ shapes s w) (fun i hi => (h.ownC _ (L4 i (by omega))).1) 0
  rw [L2] at hg
  refine ⟨L5, ?_, ?_, ?_⟩
  · rw [inE_iff]
    exact ups_mem _ fun i hi => (h.ownC _ (L4 i (by omega))).2
  · intro z
    have := ups_len s (nodeOf shapes s w) (lo_ shapes s w)
    unfold ring at z
    rw [z] at this
    simp at this
    omega
  · rw [Int.zero_add] at hg
    exact hg

section
variable {ax : Nm} {shapes : List Nm} {cs : List Con} (g : Sized shapes cs)
include g
theorem judges_cycle {j : D} {l : List Con} {a : Nm} {t : Int} (hj : Jar j) (hl : l.length ≤ 400) (hp : PosC (evs shapes cs) l a t) :
    wD (m__law_judges_cycle [j, .str ax, .tup (nmD shapes), .tup (csD ax cs), .tup (csD ax l)]) (fun d os => Hold (d = .bl true ∧ ∃ j' r, Jar j' ∧ os = j' :: r)) := by
  have hn := nms_imm shapes
  have hc := cs_imm ax cs
  have hi := cs_imm ax l
  have hsl := g.len
  have h0 : 0 < l.length := List.length_pos_iff.mpr hp.2.2.1
  have ht := hp.1
  have hnl : (nmD shapes).length = shapes.length := List.length_map _
  have i0 : ∀ (d : D), imm d = true → imms [.str ax, .tup (nmD shapes), .tup (csD ax cs), d] = true := fun d h => by simp [imms, imm, hn, hc, h]
  have i1 := i0 (.tup (csD ax l)) hi
  have i2 := i0 (.tup []) rfl
  have i3 := i0 (.tup (csD ax (l ++ l))) (cs_imm ax _)
  have i4 := i0 (.tup (plsD shapes fun _ => 0)) (ints_imm _ _)
  have k0 := w1_is (law_walk_ok (ax := ax) g (l := l) (by omega))
  rw [hp.wk] at k0
  have k0 : m__law_walk [.str ax, .tup (nmD shapes), .tup (csD ax cs), .tup (csD ax l)] = .ok (.tup [.str a, .str a, .int t]) := k0
  have k1 := w1_is (is_cycle_ok (ax := ax) g (l := l) (by omega))
  rw [hp.cy] at k1
  have k2 := w1_is (is_cycle_ok (ax := ax) g (l := []) (by simp))
  have k2 : m_is_cycle [.str ax, .tup (nmD shapes), .tup (csD ax cs), .tup []] = .ok (.bl false) := k2
  have k3 := w1_is (is_cycle_ok (ax := ax) g (l := l ++ l) (by rw [List.length_append]; omega))
  rw [hp.two.cy] at k3
  have k4 := w1_is (is_places_ok (ax := ax) g (f := fun _ => 0))
  rw [hp.zero] at k4
  have z1 : imm (.tup [.str a, .str a, .int t]) = true := rfl
  apply wD_def
  unfold b__law_judges_cycle
  simp only [List.map_cons, List.map_nil, List.replicate, List.cons_append, List.nil_append]
  clear hp
  repeat' walk_at "m"
  refine wS_loop0 (fun i e => Hold (∃ (j : D) (x5 x6 x7 x8 : Option D), Jar j ∧ e = [some j, some (.str ax), some (.tup (nmD shapes)), some (.tup (csD ax cs)), some (.tup (csD ax l)), x5, x6, x7, x8, none, none])) _ ⟨_, _, _, _, _, hj, rfl⟩ (fun i d e hd hI => ?_) (fun e hI => ?_)
  · obtain ⟨j, x5, x6, x7, x8, hj, rfl⟩ := hI
    obtain ⟨_, rfl⟩ := range_at hd
    repeat' walk_at "m"
    refine wD_mono (near_ok g hj h0 (by omega)) fun d os h => ?_
    obtain ⟨l', j1, r, rfl, hl', hj1, rfl⟩ := h
    refine ⟨_, _, rfl, ?_⟩
    have k5 := w1_is (law_walk_ok (ax := ax) g (l := l') (by omega))
    have i5 := i0 (.tup (csD ax l')) (cs_imm ax l')
    have k6 := w1_is (is_cycle_ok (ax := ax) g (l := l') (by omega))
    rw [cy_wk] at k6
    simp only [List.set_cons_zero, List.set_cons_succ]
    generalize wkR (evs shapes cs) l' = ow at k5 k6
    cases ow with
    | none =>
      have k7 := w1_is (same_yes (a := .bl false) (e := .bl false) rfl rfl)
      have i7 : imms [.bl false, .bl false] = true := rfl
      simp only [wkD] at k5 k6
      repeat' walk_at "m"
      exact ⟨_, _, _, _, _, hj1, rfl⟩
    | some w =>
      obtain ⟨x, y, z⟩ := w
      simp only [wkD] at k5 k6
      have z5 : imm (.tup [.str x, .str y, .int z]) = true := rfl
      have q5 : fIsnt (.tup [.str x, .str y, .int z]) .non = some (.bl true) := rfl
      generalize hb : (decide (x = y) && decide (0 < z)) = b at k6
      have k7 := w1_is (same_yes (a := .bl b) (e := .bl b) rfl rfl)
      have i7 : imms [.bl b, .bl b] = true := rfl
      by_cases q : x = y
      · subst q
        have hb : decide (0 < z) = b := by simpa using hb
        repeat' walk_at "m"
        rw [hb, k7]
        refine w1_ok ?_
        repeat' walk_at "m"
        exact ⟨_, _, _, _, _, hj1, rfl⟩
      · have hb : false = b := by rw [decide_eq_false q] at hb; exact hb
        subst hb
        repeat' walk_at "m"
        · rename_i hq
          exact (q (by simpa using hq)).elim
        · exact ⟨_, _, _, _, _, hj1, rfl⟩
  · obtain ⟨j, x5, x6, x7, x8, hj, rfl⟩ := hI
    repeat' walk_at "m"
    refine w2_comp (intF fun _ => 0) ?_
    refine w2_wV (w2_own (w1_var rfl ⟨hn, nmD shapes, if_pos hn, fits_of (by omega), fun d hd => ?_, ?_⟩))
    · obtain ⟨n, hm, rfl⟩ := List.mem_map.mp hd
      repeat' walk_at "m"
      rfl
    · rw [map_intF]
      repeat' walk_at "m"
      refine wD_mono (wrong_ok (ax := ax) hj h0 (by omega)) fun d os h => ?_
      obtain ⟨j2, r2, hb, hj2, rfl⟩ := h
      refine ⟨_, _, rfl, ?_⟩
      have i8 := i0 d hb.imm
      have k9 := w1_is (cycle_bad g hb.imm (hb.no _))
      try simp only [List.set_cons_zero, List.set_cons_succ]
      repeat' walk_at "m"
      refine w0_outs1 (by simp [imms, imm, hn, hc, hi]) ⟨rfl, j2, _, hj2, rfl⟩
end

/-! ### short cycles -/
theorem cy2 {E : List Con} {c d : Con} (hc : c ∈ E) (hd : d ∈ E) (h1 : c.1 = d.2.1) (h2 : d.1 = c.2.1) : cyB E [c, d] = decide (0 < c.2.2.1 + d.2.2.1) := by
  unfold cyB
  rw [inE_iff.mpr fun x m => by
    rcases List.mem_cons.mp m with m | m
    · rw [m]; exact hc
    · rw [List.mem_singleton.mp m]; exact hd]
  simp only [Bool.true_and, go]
  simp [h1, h2]
theorem cy1 {E : List Con} {c : Con} (hc : c ∈ E) (h1 : c.1 = c.2.1) : cyB E [c] = decide (0 < c.2.2.1) := by
  unfold cyB
  rw [inE_iff.mpr fun x m => by rw [List.mem_singleton.mp m]; exact hc]
  simp [go, h1]
theorem w0_cutLC {ax : Nm} {l : List Con} {Q : D → Prop} (q : Q (.lst (csD ax (l.take 40)))) : w0 (fCut (.lst (csD ax l)) none (some 40)) Q := by
  refine w0_of (show (if imms (csD ax l) = true then some (D.lst (cutL (csD ax l) none (some 40))) else none) = some (.lst (csD ax (l.take 40))) from ?_) q
  rw [if_pos (cs_imm ax l), cutL_to (by decide)]
  rw [show (csD ax l).take (Int.toNat 40) = csD ax (l.take 40) from (List.map_take ..).symm]
local macro_rules | `(tactic| walk_at "m0") => `(tactic| with_reducible apply w0_cutLC)
section
variable {ax : Nm} {shapes : List Nm} {cs : List Con} (g : Sized shapes cs)
include g
theorem judges_short : w1 (m__law_judges_short [.str ax, .tup (nmD shapes), .tup (csD ax cs)]) (· = .bl true) := by
  have hn := nms_imm shapes
  have hc := cs_imm ax cs
  have hev := w1_is (every_ok (ax := ax) g)
  have i1 : imms [.str ax, .tup (nmD shapes), .tup (csD ax cs)] = true := by simp [imms, imm, hn, hc]
  have i0 : ∀ (l : List Con), imms [.str ax, .tup (nmD shapes), .tup (csD ax cs), .tup (csD ax l)] = true := fun l => by simp [imms, imm, hn, hc, cs_imm]
  apply w1_def i1
  unfold b__law_judges_short
  repeat' walk_at "m"
  refine ⟨cs_imm ax _, ?_⟩
  repeat' walk_at "m"
  have hsub : ∀ c ∈ (evs shapes cs).take 40, c ∈ evs shapes cs := fun c m => List.mem_of_mem_take m
  generalize (evs shapes cs).take 40 = F at hsub
  have hF := cs_imm ax F
  refine wS_forV (ds := csD ax F) rfl (if_pos hF) hF ?_
  refine wS_inv (fun e => Hold (∃ (x4 : Int) (x5 x6 : Option D), e = [some (.str ax), some (.tup (nmD shapes)), some (.tup (csD ax cs)), some (.rol (csD ax F)), some (.int x4), x5, x6])) _ ⟨_, _, _, rfl⟩ (fun d e hd hI => ?_) (fun e hI => ?_)
  · obtain ⟨x4, x5, x6, rfl⟩ := hI
    obtain ⟨c, hcF, rfl⟩ := List.mem_map.mp hd
    have hcE := hsub c hcF
    have hcm : imm (cD ax c) = true := rfl
    repeat' walk_at "m"
    refine wS_forV (ds := csD ax F) rfl (if_pos hF) hF ?_
    refine wS_inv (fun e => Hold (∃ (x4 : Int) (x6 : Option D), e = [some (.str ax), some (.tup (nmD shapes)), some (.tup (csD ax cs)), some (.rol (csD ax F)), some (.int x4), some (cD ax c), x6])) _ ⟨_, _, rfl⟩ (fun d e hd hI => ?_) (fun e hI => ?_)
    · obtain ⟨x4, x6, rfl⟩ := hI
      obtain ⟨d, hdF, rfl⟩ := List.mem_map.mp hd
      have hdE := hsub d hdF
      have hdm : imm (cD ax d) = true := rfl
      have i2 : imms [.str ax, .tup (nmD shapes), .tup (csD ax cs), .tup [cD ax c, cD ax d]] = true := i0 [c, d]
      have k0 := w1_is (is_cycle_ok (ax := ax) g (l := [c, d]) (by simp))
      have k0 : m_is_cycle [.str ax, .tup (nmD shapes), .tup (csD ax cs), .tup [cD ax c, cD ax d]] = .ok (.bl (cyB (evs shapes cs) [c, d])) := k0
      by_cases q1 : c.1 = d.2.1
      · by_cases q2 : d.1 = c.2.1
        · rw [cy2 hcE hdE q1 q2] at k0
          generalize hb : decide (0 < c.2.2.1 + d.2.2.1) = b at k0
          have k7 := w1_is (same_yes (a := .bl b) (e := .bl b) rfl rfl)
          have i7 : imms [.bl b, .bl b] = true := rfl
          repeat' walk_at "m"
          · rw [hb, k7]
            refine w1_ok ?_
            repeat' walk_at "m"
            exact ⟨_, _, rfl⟩
          all_goals exact ⟨_, _, rfl⟩
        · clear k0
          repeat' walk_at "m"
          all_goals first | exact ⟨_, _, rfl⟩ | (rename_i z; exact (q2 (by simpa using z)).elim) | (rename_i z _; exact (q2 (by simpa using z)).elim)
      · clear k0
        repeat' walk_at "m"
        all_goals first | exact ⟨_, _, rfl⟩ | (rename_i z; exact (q1 (by simpa using z)).elim) | (rename_i z _; exact (q1 (by simpa using z)).elim)
    · obtain ⟨x4, x6, rfl⟩ := hI
      have i2 : imms [.str ax, .tup (nmD shapes), .tup (csD ax cs), .tup [cD ax c]] = true := i0 [c]
      have k0 := w1_is (is_cycle_ok (ax := ax) g (l := [c]) (by simp))
      have k0 : m_is_cycle [.str ax, .tup (nmD shapes), .tup (csD ax cs), .tup [cD ax c]] = .ok (.bl (cyB (evs shapes cs) [c])) := k0
      by_cases q1 : c.1 = c.2.1
      · rw [cy1 hcE q1] at k0
        generalize hb : decide (0 < c.2.2.1) = b at k0
        have k7 := w1_is (same_yes (a := .bl b) (e := .bl b) rfl rfl)
        have i7 : imms [.bl b, .bl b] = true := rfl
        repeat' walk_at "m"
        · rw [hb, k7]
          refine w1_ok ?_
          repeat' walk_at "m"
          exact ⟨_, _, _, rfl⟩
        all_goals exact ⟨_, _, _, rfl⟩
      · clear k0
        repeat' walk_at "m"
        all_goals first | exact ⟨_, _, _, rfl⟩ | (rename_i z; exact (q1 (by simpa using z)).elim) | (rename_i z _; exact (q1 (by simpa using z)).elim)
  · obtain ⟨x4, x5, x6, rfl⟩ := hI
    repeat' walk_at "m"
    rfl
end

/-! ### judging places -/
theorem pls_cut {shapes : List Nm} {f : Nm → Int} {k : Nat} {v : Nm} {m : Int} (h : shapes[k]? = some v) (nd : shapes.Nodup) : (plsD shapes f).take k ++ [.int m] ++ (plsD shapes f).drop (k + 1) = plsD shapes (up f v m) := by
  obtain ⟨hk, e⟩ := List.getElem?_eq_some_iff.mp h
  have hs : shapes = shapes.take k ++ v :: shapes.drop (k + 1) := by
    rw [← e, List.getElem_cons_drop, List.take_append_drop]
  have nd2 := hs ▸ nd
  obtain ⟨n1, n2, n3⟩ := List.nodup_append.mp nd2
  have a1 : v ∉ shapes.take k := fun m => n3 v m v List.mem_cons_self rfl
  have a2 : v ∉ shapes.drop (k + 1) := (List.nodup_cons.mp n2).1
  have e1 : plsD shapes (up f v m) = plsD (shapes.take k) (up f v m) ++ D.int (up f v m v) :: plsD (shapes.drop (k + 1)) (up f v m) := by
    conv => lhs; rw [hs]
    unfold plsD
    rw [List.map_append, List.map_cons]
  have e2 : ∀ l : List Nm, v ∉ l → plsD l (up f v m) = plsD l f := fun l hl => List.map_congr_left fun u hu => by rw [up_ne]; exact fun z => hl (z ▸ hu)
  rw [e1, e2 _ a1, e2 _ a2, up_eq]
  unfold plsD
  rw [List.map_take, List.map_drop]
  simp
theorem kp_pos {E : List Con} {f : Nm → Int} {v : Nm} (hv : v ≠ []) (h : ownC v ∈ E) (hk : kp E f = true) : 0 ≤ f v := by
  unfold kp at hk
  rw [List.all_eq_true] at hk
  have := of_decide_eq_true (hk _ h)
  unfold z0 at this
  rw [show (ownC v).2.1 = [] from rfl, show (ownC v).1 = v from rfl, show (ownC v).2.2.1 = 0 from rfl, if_pos rfl, if_neg hv] at this
  omega
theorem kp_conv {shapes : List Nm} {E : List Con} {s : St} (h : Conv shapes E s) : kp E s.pl = true := by
  unfold kp
  rw [List.all_eq_true]
  intro c hc
  refine decide_eq_true ?_
  have := h.sat c hc
  unfold Sat at this
  have e : ∀ v, z0 s.pl v = s.pl v := fun v => by
    unfold z0
    split
    · rename_i q; rw [q, h.z]
    · rfl
  rw [e, e]; exact this
/-- places that are none -/
def BadP (shapes : List Nm) (d : D) : Prop := NT d ∨ ∃ ds, d = .tup ds ∧ imms ds = true ∧ (ds.length ≠ shapes.length ∨ ((∀ x ∈ ds, ∃ b, PV x b) ∧ ds.length = shapes.length ∧ ∃ (k : Nat) (y : D), ds[k]? = some y ∧ PV y false))
theorem BadP.imm {shapes : List Nm} {d : D} (h : BadP shapes d) : imm d = true := by
  rcases h with h | ⟨ds, rfl, h, _⟩
  · exact h.imm
  · exact h
theorem BadP.no {ax : Nm} {shapes : List Nm} {cs : List Con} (g : Sized shapes cs) {d : D} (h : BadP shapes d) : w1 (m_is_places [.str ax, .tup (nmD shapes), .tup (csD ax cs), d]) (· = .bl false) := by
  rcases h with h | ⟨ds, rfl, h, h2 | ⟨h2, h3, k, y, h4, h5⟩⟩
  · exact places_nt g h
  · exact places_len g h h2
  · exact places_bad g h2 h3 h4 h5
theorem pls_pv {shapes : List Nm} {f : Nm → Int} : ∀ x ∈ plsD shapes f, ∃ b, PV x b := fun x m => by
  obtain ⟨v, _, rfl⟩ := List.mem_map.mp m
  exact ⟨true, .i⟩
theorem badp_mid {shapes : List Nm} {f : Nm → Int} {k : Nat} {y : D} (hk : k < shapes.length) (hy : PV y false) : BadP shapes (.tup ((plsD shapes f).take k ++ [y] ++ (plsD shapes f).drop (k + 1))) := by
  have hall : ∀ x ∈ (plsD shapes f).take k ++ [y] ++ (plsD shapes f).drop (k + 1), ∃ b, PV x b := fun x m => by
    rcases List.mem_append.mp m with m | m
    · rcases List.mem_append.mp m with m | m
      · exact pls_pv x (List.mem_of_mem_take m)
      · rw [List.mem_singleton.mp m]; exact ⟨false, hy⟩
    · exact pls_pv x (List.mem_of_mem_drop m)
  refine .inr ⟨_, rfl, ?_, .inr ⟨hall, ?_, k, y, ?_, hy⟩⟩
  · rw [imms_all, List.all_eq_true]
    intro x m
    obtain ⟨b, hb⟩ := hall x m
    exact hb.imm
  · simp only [List.length_append, List.length_take, List.length_drop, pls_len, List.length_cons, List.length_nil]; omega
  · rw [List.append_assoc, List.getElem?_append_right (by rw [List.length_take, pls_len]; omega), List.length_take, pls_len, show k - min k shapes.length = 0 by omega]
    rfl

/-! ### judging places by the law -/
theorem one_e : lit "1" = [49] := by rw [lit_eq]; rfl
theorem w0_cutToP {shapes : List Nm} {f : Nm → Int} {k : Int} {Q : D → Prop} (hk : 0 ≤ k) (q : Q (.tup ((plsD shapes f).take k.toNat))) : w0 (fCut (.tup (plsD shapes f)) none (some k)) Q := w0_cutTo (ints_imm shapes f) hk q
theorem w0_cutFromP {shapes : List Nm} {f : Nm → Int} {k : Int} {Q : D → Prop} (hk : 0 ≤ k) (q : Q (.tup ((plsD shapes f).drop k.toNat))) : w0 (fCut (.tup (plsD shapes f)) (some k) none) Q := w0_cutFrom (ints_imm shapes f) hk q
theorem pls_take_imm (shapes : List Nm) (f : Nm → Int) (k : Nat) : imms ((plsD shapes f).take k) = true := by
  rw [imms_all, List.all_eq_true]; exact fun x m => by obtain ⟨b, h⟩ := pls_pv x (List.mem_of_mem_take m); exact h.imm
theorem pls_drop_imm (shapes : List Nm) (f : Nm → Int) (k : Nat) : imms ((plsD shapes f).drop k) = true := by
  rw [imms_all, List.all_eq_true]; exact fun x m => by obtain ⟨b, h⟩ := pls_pv x (List.mem_of_mem_drop m); exact h.imm
theorem w0_addP1 {shapes : List Nm} {f : Nm → Int} {k : Nat} {y : D} {Q : D → Prop} (hl : shapes.length ≤ 1000) (hy : imm y = true) (q : Q (.tup ((plsD shapes f).take k ++ [y]))) : w0 (fAdd (.tup ((plsD shapes f).take k)) (.tup [y])) Q :=
  w0_addT (pls_take_imm shapes f k) (by simp [imms, hy]) (by simp only [List.length_take, List.length_cons, List.length_nil, pls_len]; omega) q
theorem w0_addP2 {shapes : List Nm} {f : Nm → Int} {k l : Nat} {y : D} {Q : D → Prop} (hl : shapes.length ≤ 1000) (hy : imm y = true) (q : Q (.tup ((plsD shapes f).take k ++ [y] ++ (plsD shapes f).drop l))) : w0 (fAdd (.tup ((plsD shapes f).take k ++ [y])) (.tup ((plsD shapes f).drop l))) Q :=
  w0_addT (imms_app (pls_take_imm shapes f k) (by simp [imms, hy])) (pls_drop_imm shapes f l) (by simp only [List.length_take, List.length_drop, List.length_append, List.length_cons, List.length_nil, pls_len]; omega) q
theorem w0_addP0 {shapes : List Nm} {f : Nm → Int} {y : D} {Q : D → Prop} (hl : shapes.length ≤ 1000) (hy : imm y = true) (q : Q (.tup (plsD shapes f ++ [y]))) : w0 (fAdd (.tup (plsD shapes f)) (.tup [y])) Q :=
  w0_addT (ints_imm shapes f) (by simp [imms, hy]) (by simp only [List.length_cons, List.length_nil, pls_len]; omega) q
theorem w0_lstP {shapes : List Nm} {f : Nm → Int} {Q : D → Prop} (q : Q (.lst (plsD shapes f))) : w0 (fList [.tup (plsD shapes f)]) Q := w0_of (show (if imms (plsD shapes f) = true then some (D.lst (plsD shapes f)) else none) = _ by rw [if_pos (ints_imm _ _)]) q
local macro_rules | `(tactic| walk_at "m0") => `(tactic| first
  | ((with_reducible refine w0_cutToP ?_ ?_); (focus (first | assumption | omega)))
  | ((with_reducible refine w0_cutFromP ?_ ?_); (focus (first | assumption | omega)))
  | ((with_reducible refine w0_addP1 ?_ ?_ ?_); (focus (first | assumption | omega)); (focus (exact rfl)))
  | ((with_reducible refine w0_addP2 ?_ ?_ ?_); (focus (first | assumption | omega)); (focus (exact rfl)))
  | ((with_reducible refine w0_addP0 ?_ ?_ ?_); (focus (first | assumption | omega)); (focus (exact rfl)))
  | with_reducible apply w0_lstP)
theorem w0_ixBadP {shapes : List Nm} {a0 a1 a2 a3 a4 a5 a6 : D} {i : Int} (h : 0 ≤ i) (h1 : i < 7) (p : BadP shapes a0 ∧ BadP shapes a1 ∧ BadP shapes a2 ∧ BadP shapes a3 ∧ BadP shapes a4 ∧ BadP shapes a5 ∧ BadP shapes a6) : ∃ d, fIx (.lst [a0, a1, a2, a3, a4, a5, a6]) (.int i) = some d ∧ BadP shapes d := by
  have : w0 (fIx (.lst [a0, a1, a2, a3, a4, a5, a6]) (.int i)) (BadP shapes) := w0_ixL h (by simpa using h1) fun y hy => by
    obtain ⟨q0, q1, q2, q3, q4, q5, q6⟩ := p
    have m := mem_get hy
    simp only [List.mem_cons, List.not_mem_nil, or_false] at m
    rcases m with m | m | m | m | m | m | m <;> (rw [m]; assumption)
  generalize fIx _ _ = o at this ⊢
  cases this with
  | mk h => exact ⟨_, rfl, h⟩
theorem step3 {i : Nat} (h : i < 3) : ∃ m : Int, fIx (.lst [.int (-1), .int 1, .int 7]) (.int (0 + (i : Int))) = some (.int m) := by
  have : i = 0 ∨ i = 1 ∨ i = 2 := by omega
  rcases this with rfl | rfl | rfl
  · exact ⟨-1, rfl⟩
  · exact ⟨1, rfl⟩
  · exact ⟨7, rfl⟩
section
variable {ax : Nm} {shapes : List Nm} {cs : List Con} (g : Sized shapes cs)
include g
theorem judges_places {j : D} {f : Nm → Int} (hj : Jar j) (hk : kp (evs shapes cs) f = true) :
    wD (m__law_judges_places [j, .str ax, .tup (nmD shapes), .tup (csD ax cs), .tup (plsD shapes f)]) (fun d os => Hold (d = .bl true ∧ ∃ j' r, Jar j' ∧ os = j' :: r)) := by
  have hn := nms_imm shapes
  have hc := cs_imm ax cs
  have hi := ints_imm shapes f
  have hpl := pls_len shapes f
  have hsl := g.len
  have hsp := g.pos
  have hl1000 : shapes.length ≤ 1000 := by omega
  have hnl : (nmD shapes).length = shapes.length := List.length_map _
  have i0 : ∀ (d : D), imm d = true → imms [.str ax, .tup (nmD shapes), .tup (csD ax cs), d] = true := fun d h => by simp [imms, imm, hn, hc, h]
  have i1 := i0 (.tup (plsD shapes f)) hi
  have k1 := w1_is (is_places_ok (ax := ax) g (f := f))
  rw [hk] at k1
  apply wD_def
  unfold b__law_judges_places
  rw [lit_e, one_e]
  simp only [List.map_cons, List.map_nil, List.replicate, List.cons_append, List.nil_append]
  repeat' walk_at "m"
  refine wS_loop0 (fun i e => Hold (∃ (j : D) (x5 x6 x7 x8 x9 : Option D), Jar j ∧ e = [some j, some (.str ax), some (.tup (nmD shapes)), some (.tup (csD ax cs)), some (.tup (plsD shapes f)), x5, x6, x7, x8, x9, none, none])) _ ⟨_, _, _, _, _, _, hj, rfl⟩ (fun i d e hd hI => ?_) (fun e hI => ?_)
  · obtain ⟨j, x5, x6, x7, x8, x9, hj, rfl⟩ := hI
    obtain ⟨hi3, rfl⟩ := range_at hd
    obtain ⟨mv, hmv⟩ := step3 (i := i) (by simpa using hi3)
    repeat' (first | walk_at "m" | walk_at "t")
    rename_i r1 j1 a0 a1 hj1
    obtain ⟨k, rfl⟩ : ∃ k : Nat, r1 = k := ⟨r1.toNat, by omega⟩
    obtain ⟨v, hv⟩ : ∃ v, shapes[k]? = some v := ⟨_, List.getElem?_eq_getElem (show k < shapes.length by omega)⟩
    have hix := ixP_at (f := f) hv
    have hvm := mem_get hv
    have hup := pls_cut (f := f) (m := f v + mv) hv g.nd
    have hvn : v ≠ [] := fun z => g.ne (z ▸ hvm)
    have hmem : ownC v ∈ evs shapes cs := List.mem_append_left _ (List.mem_map.mpr ⟨v, hvm, rfl⟩)
    have hpos := kp_pos (f := up f v (f v + mv)) hvn hmem
    rw [up_eq] at hpos
    have k2 := w1_is (is_places_ok (ax := ax) g (f := up f v (f v + mv)))
    have k3 := w1_is (keeps_ok (ax := ax) g (f := up f v (f v + mv)))
    have i2 := i0 (.tup (plsD shapes (up f v (f v + mv)))) (ints_imm _ _)
    have e1 : ((k : Int) + 1).toNat = k + 1 := by omega
    generalize kp (evs shapes cs) (up f v (f v + mv)) = b at k2 k3 hpos
    have i7 : imms [.bl b, .bl b] = true := rfl
    have k7 := w1_is (same_yes (a := .bl b) (e := .bl b) rfl rfl)
    simp only [List.set_cons_zero, List.set_cons_succ]
    have e2 : ((k : Nat) : Int).toNat = k := Int.toNat_natCast k
    repeat' walk_at "m"
    · rw [e2, e1, hup]
      repeat' walk_at "m"
      all_goals exact ⟨_, _, _, _, _, _, hj1, rfl⟩
    · rename_i hneg
      have hb : b = false := by
        cases b with
        | false => rfl
        | true => exact absurd (hpos rfl) hneg
      subst hb
      rw [e2, e1, hup]
      repeat' walk_at "m"
      all_goals exact ⟨_, _, _, _, _, _, hj1, rfl⟩
  · obtain ⟨j, x5, x6, x7, x8, x9, hj, rfl⟩ := hI
    refine wS_seq (wS_set ?_)
    repeat' (first | walk_at "m2" | walk_at "m1" | walk_at "mE" | walk_at "m0" | walk_at "t")
    rename_i r1 j1 a0 a1 hj1
    obtain ⟨k, rfl⟩ : ∃ k : Nat, r1 = k := ⟨r1.toNat, by omega⟩
    have hk1 : k < shapes.length := by omega
    obtain ⟨v, hv⟩ : ∃ v, shapes[k]? = some v := ⟨_, List.getElem?_eq_getElem hk1⟩
    have hix := ixP_at (f := f) hv
    have e1 : ((k : Int) + 1).toNat = k + 1 := by omega
    have e2 : ((k : Nat) : Int).toNat = k := Int.toNat_natCast k
    have B1 : BadP shapes (.rol (plsD shapes f)) := .inl (.l hi)
    have B2 : BadP shapes (.tup ((plsD shapes f).drop (Int.toNat 1))) := .inr ⟨_, rfl, pls_drop_imm _ _ _, .inl (by rw [List.length_drop, pls_len]; show shapes.length - 1 ≠ _; omega)⟩
    have B3 : BadP shapes (.tup (plsD shapes f ++ [.int 0])) := .inr ⟨_, rfl, imms_app hi rfl, .inl (by rw [List.length_append, pls_len]; simp)⟩
    have B4 : BadP shapes .non := .inl .n
    have B5 : BadP shapes (.tup ((plsD shapes f).take (k : Int).toNat ++ [.bl ((D.int (f v)).eqv (D.int 1))] ++ (plsD shapes f).drop ((k : Int) + 1).toNat)) := by rw [e1, e2]; exact badp_mid hk1 .b
    have B6 : BadP shapes (.str []) := .inl .s
    have B7 : BadP shapes (.tup ((plsD shapes f).take (k : Int).toNat ++ [.str [49]] ++ (plsD shapes f).drop ((k : Int) + 1).toNat)) := by rw [e1, e2]; exact badp_mid hk1 .s
    have m5 := B5.imm
    have m7 := B7.imm
    simp only [List.set_cons_zero, List.set_cons_succ]
    refine wS_seq (wS_set ?_)
    repeat' walk_at "m"
    simp only [List.set_cons_zero, List.set_cons_succ]
    trace_state
    refine draw_k hj1 (by decide) fun r2 j2 b0 b1 hj2 => ?_
    trace_state
    refine ⟨_, _, rfl, ?_⟩
    obtain ⟨d, hd, hb⟩ := w0_ixBadP b0 b1 ⟨B1, B2, B3, B4, B5, B6, B7⟩
    have hdi := hb.imm
    refine ⟨_, rfl, w0_imm (w0_of hd ⟨hdi, ?_⟩)⟩
    have k9 := w1_is (hb.no (ax := ax) g)
    have i8 := i0 d hdi
    clear hd m5 m7 B5 B7
    repeat' walk_at "m"
    refine w0_outs1 (by simp [imms, imm, hn, hc, hi]) ⟨rfl, j2, _, hj2, rfl⟩
end

/-! ### names with numbers -/
def base (s : Nm) : Nm := s.takeWhile fun c => c != 46
theorem base_dot : ∀ {n : Nm} (r : Nm), n.all nc = true → base (n ++ 46 :: r) = n
  | [], r, _ => rfl
  | c :: n, r, h => by
    rw [List.all_cons, Bool.and_eq_true] at h
    have hc : (c != 46) = true := by
      rw [bne_iff_ne]; intro z; rw [z] at h; exact absurd h.1 (by decide)
    have := base_dot r h.2
    unfold base at this ⊢
    rw [List.cons_append, List.takeWhile_cons, if_pos hc, this]
theorem base_self : ∀ {n : Nm}, n.all nc = true → base n = n
  | [], _ => rfl
  | c :: n, h => by
    rw [List.all_cons, Bool.and_eq_true] at h
    have hc : (c != 46) = true := by
      rw [bne_iff_ne]; intro z; rw [z] at h; exact absurd h.1 (by decide)
    have := base_self h.2
    unfold base at this ⊢
    rw [List.takeWhile_cons, if_pos hc, this]
theorem dot_e : lit "." = [46] := by rw [lit_eq]; rfl
theorem base_nodup : ∀ {S T : List Nm}, S.map base = T → T.Nodup → S.Nodup
  | [], _, _, _ => List.nodup_nil
  | s :: S, T, h, nd => by
    subst h
    rw [List.map_cons, List.nodup_cons] at nd
    exact List.nodup_cons.mpr ⟨fun m => nd.1 (List.mem_map.mpr ⟨s, m, rfl⟩), base_nodup rfl nd.2⟩
theorem base_ne {S T : List Nm} (h : S.map base = T) (ne : [] ∉ T) : [] ∉ S := fun m => ne (h ▸ List.mem_map.mpr ⟨[], m, rfl⟩)

/-! ### the law's constraints -/
theorem w0_revL {ax : Nm} {L : List Con} {Q : D → Prop} (q : Q (.lst (csD ax L.reverse))) : w0 (fRev (.lst (csD ax L))) Q := w0_revC q
theorem zz_e : lit "zz." = [122, 122, 46] := by rw [lit_eq]; rfl
def CSt (ax : Nm) (shapes : List Nm) (many : Int) (sm : Bool) (k : Nat) (L : List Con) (e : E) : Prop := Hold (∃ (j : D) (r1 r2 gp : Int) (x10 x11 : Option D), Jar j ∧ (0 ≤ r1 ∧ r1 ≤ shapes.length) ∧ (0 ≤ r2 ∧ r2 ≤ shapes.length) ∧ e = [some j, some (.str ax), some (.tup (nmD shapes)), some (.int many), some (.lst (csD ax L)), some (.bl sm), some (.int (k : Int)), some (.int r1), some (.int r2), some (.int gp), x10, x11])
theorem ixNames {shapes : List Nm} {r : Int} (h0 : 0 ≤ r) (h1 : r ≤ shapes.length) : ∃ v, v ∈ [] :: shapes ∧ fIx (.lst (nmD (shapes ++ [[]]))) (.int r) = some (.str v) := by
  have hl : r.toNat < (shapes ++ [[]]).length := by rw [List.length_append]; simp; omega
  refine ⟨(shapes ++ [[]])[r.toNat], ?_, ?_⟩
  · have := List.getElem_mem hl
    rcases List.mem_append.mp this with m | m
    · exact List.mem_cons_of_mem _ m
    · rw [List.mem_singleton.mp m]; exact List.mem_cons_self
  · show atI (nmD (shapes ++ [[]])) r = _
    unfold atI ixN
    rw [if_pos h0, if_pos (by rw [List.length_map]; omega)]
    show (nmD (shapes ++ [[]]))[r.toNat]? = _
    rw [List.getElem?_map, List.getElem?_eq_getElem hl]; rfl
theorem lstNm {shapes : List Nm} {Q : D → Prop} (q : Q (.lst (nmD shapes))) : w0 (fList [.tup (nmD shapes)]) Q := w0_of (show (if imms (nmD shapes) = true then some (D.lst (nmD shapes)) else none) = _ by rw [if_pos (nms_imm _)]) q
theorem addNm {shapes : List Nm} {Q : D → Prop} (h : shapes.length ≤ 100000) (q : Q (.lst (nmD (shapes ++ [[]])))) : w0 (fAdd (.lst (nmD shapes)) (.lst [.str []])) Q :=
  w0_of (show (if imms (nmD shapes) = true ∧ imms [D.str []] = true ∧ fits ((nmD shapes).length + [D.str []].length) = true then some (D.lst (nmD shapes ++ [D.str []])) else none) = some (D.lst (nmD (shapes ++ [[]]))) by rw [if_pos ⟨nms_imm _, rfl, fits_of (by rw [List.length_map]; simp; omega)⟩]; unfold nmD; rw [List.map_append]; rfl) q
theorem w0_lenNm {shapes : List Nm} {Q : D → Prop} (q : Q (.int (shapes.length : Nat))) : w0 (fLen [.tup (nmD shapes)]) Q := w0_of (show some (D.int ((nmD shapes).length : Nat)) = _ by rw [List.length_map]) q
local macro_rules | `(tactic| walk_at "m0") => `(tactic| first
  | with_reducible apply lstNm | ((with_reducible refine addNm ?_ ?_); (focus (first | assumption | omega))) | with_reducible apply w0_lenNm)
def GoodL (shapes : List Nm) (L : List Con) : Prop := ∀ c ∈ L, c.1 ∈ [] :: shapes ∧ c.2.1 ∈ [] :: shapes
theorem GoodL.snoc {shapes : List Nm} {L : List Con} {c : Con} (h : GoodL shapes L) (hc : c.1 ∈ [] :: shapes ∧ c.2.1 ∈ [] :: shapes) : GoodL shapes (L ++ [c]) := fun x m => by
  rcases List.mem_append.mp m with m | m
  · exact h x m
  · rw [List.mem_singleton.mp m]; exact hc
def ConP (ax : Nm) (shapes : List Nm) (d : D) (os : List D) : Prop := ∃ (cs : List Con) (j : D) (r : List D), d = .tup (csD ax cs) ∧ cs.length ≤ 1000 ∧ GoodL shapes cs ∧ Jar j ∧ os = j :: r
theorem gap5 {r : Int} (h0 : 0 ≤ r) (h1 : r < 5) : ∃ m : Int, immF fIx (.lst [.int (-200), .int 260, .int 200, .int (-1), .int 0]) (.int r) = some (.int m) := by
  have : r = 0 ∨ r = 1 ∨ r = 2 ∨ r = 3 ∨ r = 4 := by omega
  rcases this with rfl | rfl | rfl | rfl | rfl
  · exact ⟨_, rfl⟩
  · exact ⟨_, rfl⟩
  · exact ⟨_, rfl⟩
  · exact ⟨_, rfl⟩
  · exact ⟨_, rfl⟩
theorem w0_gap5 {r : Int} {Q : D → Prop} (h0 : 0 ≤ r) (h1 : r < 5) (q : ∀ m : Int, Q (.int m)) : w0 (immF fIx (.lst [.int (-200), .int 260, .int 200, .int (-1), .int 0]) (.int r)) Q := by
  obtain ⟨m, hm⟩ := gap5 h0 h1
  exact w0_of hm (q m)
local macro_rules | `(tactic| walk_at "m0") => `(tactic| ((with_reducible refine w0_gap5 ?_ ?_ ?_); (focus assumption); (focus assumption); intro mg))
theorem w0_csIx {ax : Nm} {L : List Con} {i : Int} {Q : D → Prop} (h : 0 ≤ i) (h1 : i < L.length) (q : ∀ c, c ∈ L → Q (cD ax c)) : w0 (immF fIx (.lst (csD ax L)) (.int i)) Q := w0_imm (w0_ixCl h h1 fun c hc => ⟨rfl, q c hc⟩)
local macro_rules | `(tactic| walk_at "m0") => `(tactic| ((with_reducible refine w0_csIx ?_ ?_ ?_); (focus assumption); (focus assumption); intro cx hcx))
local macro_rules | `(tactic| walk_at "m0") => `(tactic| ((with_reducible refine w0_appC ?_ ?_); (focus (first | assumption | omega | (simp only [List.length_append, List.length_cons, List.length_nil]; omega)))))
section
variable {ax : Nm} {shapes : List Nm}
theorem constraints_ok {j : D} {many : Int} (hj : Jar j) (hp : 0 < shapes.length) (hl : shapes.length ≤ 60) (h0 : 0 ≤ many) (h1 : many ≤ 200) :
    wD (m__law_constraints [j, .str ax, .tup (nmD shapes), .int many]) (ConP ax shapes) := by
  have hn := nms_imm shapes
  have hnl : (nmD shapes).length = shapes.length := List.length_map _
  have hl1 : shapes.length ≤ 100000 := by omega
  apply wD_def
  unfold b__law_constraints
  rw [lit_e, zz_e]
  simp only [List.map_cons, List.map_nil, List.replicate, List.cons_append, List.nil_append]
  repeat' (first | walk_at "m" | walk_at "t")
  rename_i r0 j0 _ _ hj0
  generalize decide (r0 > 0) = sm
  refine wS_loop0 (fun k e => Hold (∃ (j : D) (L : List Con) (x6 x7 x8 x9 x10 x11 : Option D), Jar j ∧ L.length ≤ 2 * k ∧ GoodL shapes L ∧ e = [some j, some (.str ax), some (.tup (nmD shapes)), some (.int many), some (.lst (csD ax L)), some (.bl sm), x6, x7, x8, x9, x10, x11])) _ ⟨_, [], _, _, _, _, _, _, hj0, by simp, (fun c m => by cases m), rfl⟩ (fun i d e hd hI => ?_) (fun e hI => ?_)
  · obtain ⟨j, L, x6, x7, x8, x9, x10, x11, hj, hL, hG, rfl⟩ := hI
    obtain ⟨hi, rfl⟩ := range_at hd
    have hi2 : i < 200 := by omega
    have hL2 : L.length ≤ 400 := by omega
    have hL3 : L.length ≤ 1000000 := by omega
    have e0 : (0 : Int) + (i : Int) = i := by omega
    rw [e0]
    walk_at "m0"
    have fin : ∀ {e : E}, CSt ax shapes many sm i L e → ∃ (j : D) (r1 r2 gp : Int) (x10 x11 : Option D), Jar j ∧ (0 ≤ r1 ∧ r1 ≤ shapes.length) ∧ (0 ≤ r2 ∧ r2 ≤ shapes.length) ∧ e = [some j, some (.str ax), some (.tup (nmD shapes)), some (.int many), some (.lst (csD ax L)), some (.bl sm), some (.int (i : Int)), some (.int r1), some (.int r2), some (.int gp), x10, x11] := fun h => h
    refine wS_seq (wS_set ?_)
    repeat' (first | walk_at "m2" | walk_at "m1" | walk_at "mE" | walk_at "m0" | walk_at "t")
    refine wS_seq (wS_set ?_)
    repeat' (first | walk_at "m2" | walk_at "m1" | walk_at "mE" | walk_at "m0" | walk_at "t")
    rename_i r1 j1 a0 a1 hj1 r2 j2 b0 b1 hj2
    clear hj hj1
    refine wS_seq (wS_mono (N := fun e => Hold (∃ (j : D) (r1 r2 : Int), Jar j ∧ (0 ≤ r1 ∧ r1 ≤ shapes.length) ∧ (0 ≤ r2 ∧ r2 ≤ shapes.length) ∧ e = [some j, some (.str ax), some (.tup (nmD shapes)), some (.int many), some (.lst (csD ax L)), some (.bl sm), some (.int (i : Int)), some (.int r1), some (.int r2), x9, x10, x11])) ?_ (fun e h => ?_) (fun _ _ h => h) (fun _ h => h) (fun _ h => h))
    · repeat' walk_at "m"
      all_goals exact ⟨_, _, _, hj2, ⟨by omega, by omega⟩, ⟨by omega, by omega⟩, rfl⟩
    clear a0 a1 b0 b1 hj2
    obtain ⟨j, r1, r2, hj, ha, hb, rfl⟩ := h
    refine wS_seq (wS_set ?_)
    repeat' (first | walk_at "m2" | walk_at "m1" | walk_at "mE" | walk_at "m0" | walk_at "t")
    rename_i r3 j3 c0 c1 hj3
    refine wS_seq (wS_mono (N := CSt ax shapes many sm i L) ?_ (fun e h => ?_) (fun _ _ h => h) (fun _ h => h) (fun _ h => h))
    · repeat' (first | walk_at "m" | walk_at "t")
      all_goals exact ⟨_, _, _, _, _, _, by assumption, ha, hb, rfl⟩
    clear c0 c1 hj3 hj ha hb
    obtain ⟨j, r1, r2, gp, x10, x11, hj, ha, hb, rfl⟩ := fin h
    refine wS_seq (wS_mono (N := CSt ax shapes many sm i L) ?_ (fun e h => ?_) (fun _ _ h => h) (fun _ h => h) (fun _ h => h))
    · repeat' (first | walk_at "m" | walk_at "t")
      all_goals first | exact ⟨_, _, _, _, _, _, hj, ha, hb, rfl⟩ | exact ⟨_, _, _, _, _, _, hj, hb, ha, rfl⟩
    clear hj ha hb
    obtain ⟨j, r1, r2, gp, x10, x11, hj, ha, hb, rfl⟩ := fin h
    refine wS_seq (wS_mono (N := CSt ax shapes many sm i L) ?_ (fun e h => ?_) (fun _ _ h => h) (fun _ h => h) (fun _ h => h))
    · repeat' (first | walk_at "m" | walk_at "t")
      all_goals exact ⟨_, _, _, _, _, _, hj, ha, hb, rfl⟩
    clear hj ha hb
    obtain ⟨j, r1, r2, gp, x10, x11, hj, ha, hb, rfl⟩ := fin h
    refine wS_seq (wS_mono (N := CSt ax shapes many sm i L) ?_ (fun e h => ?_) (fun _ _ h => h) (fun _ h => h) (fun _ h => h))
    · repeat' (first | walk_at "m" | walk_at "t")
      all_goals exact ⟨_, _, _, _, _, _, by assumption, ha, hb, rfl⟩
    clear hj ha hb
    obtain ⟨j, r1, r2, gp, x10, x11, hj, ha, hb, rfl⟩ := fin h
    obtain ⟨v1, hv1, hx1⟩ := ixNames ha.1 ha.2
    obtain ⟨v2, hv2, hx2⟩ := ixNames hb.1 hb.2
    refine wS_seq (wS_set ?_)
    repeat' (first | walk_at "m2" | walk_at "m1" | walk_at "mE" | walk_at "mA" | walk_at "m0")
    refine wS_seq (wS_set ?_)
    repeat' (first | walk_at "m2" | walk_at "m1" | walk_at "mE" | walk_at "mA" | walk_at "m0")
    have hz1 := toStr_len (n := (i : Int) + 1) (by omega)
    have hz2 := toStr_len (n := (i : Int) + 301) (by omega)
    generalize lit (toString ((i : Int) + 1)) = z1 at hz1
    repeat' (first | walk_at "m2" | walk_at "m1" | walk_at "mE" | walk_at "mA" | walk_at "m0")
    refine wS_seq (wS_mono (N := fun e => Hold (∃ (j : D) (c : Con) (x10 : Option D), Jar j ∧ (c.1 ∈ [] :: shapes ∧ c.2.1 ∈ [] :: shapes) ∧ e = [some j, some (.str ax), some (.tup (nmD shapes)), some (.int many), some (.lst (csD ax L)), some (.bl sm), some (.int (i : Int)), some (.int r1), some (.int r2), some (.int gp), x10, some (cD ax c)])) ?_ (fun e h => ?_) (fun _ _ h => h) (fun _ h => h) (fun _ h => h))
    · repeat' (first | walk_at "m" | walk_at "t")
      · exact ⟨_, _, _, by assumption, hG _ (by assumption), rfl⟩
      · exact ⟨_, (v1, v2, gp, [122, 122, 46] ++ z1), _, by assumption, ⟨hv1, hv2⟩, rfl⟩
      · exact ⟨_, (v1, v2, gp, [122, 122, 46] ++ z1), _, by assumption, ⟨hv1, hv2⟩, rfl⟩
    clear hj hx1 hx2
    obtain ⟨j, c, x10, hj, hc, rfl⟩ := h
    have hcm : imm (cD ax c) = true := rfl
    have hL4 : (L ++ [c]).length ≤ 500 := by simp; omega
    have hGc := hG.snoc hc
    repeat' (first | walk_at "m" | walk_at "t")
    · generalize lit (toString ((i : Int) + 301)) = z2 at hz2
      repeat' (first | walk_at "m2" | walk_at "m1" | walk_at "mE" | walk_at "mA" | walk_at "m0")
      have hn2 : (-c.2.2.1) = (c.2.1, c.1, -c.2.2.1, [122, 122, 46] ++ z2).2.2.1 := rfl
      refine w0_appC (c := (c.2.1, c.1, -c.2.2.1, [122, 122, 46] ++ z2)) (by omega) ?_
      exact ⟨_, _, _, _, _, _, _, _, by assumption, by simp; omega, hGc.snoc ⟨hc.2, hc.1⟩, rfl⟩
    · exact ⟨_, _, _, _, _, _, _, _, by assumption, by simp; omega, hGc, rfl⟩
    · exact ⟨_, _, _, _, _, _, _, _, by assumption, by simp; omega, hGc, rfl⟩
  · obtain ⟨j, L, x6, x7, x8, x9, x10, x11, hj, hL, hG, rfl⟩ := hI
    have hL' : L.length ≤ 400 := by rw [range_len] at hL; omega
    have hr : GoodL shapes L.reverse := fun c m => hG c (List.mem_reverse.mp m)
    repeat' (first | walk_at "m" | walk_at "t")
    · exact w0_outs1 (by simp [imms, imm, hn]) ⟨_, _, _, rfl, by rw [List.length_reverse]; omega, hr, by assumption, rfl⟩
    · exact w0_outs1 (by simp [imms, imm, hn]) ⟨_, _, _, rfl, by omega, hG, by assumption, rfl⟩
end

noncomputable def lwF : MS := (mSeq (mSet 11 (eIO [1] m__law_take (acons (own (bVar 3)) anil)))
  (mSeq (mIf (notT (tst (eIO [1] m__law_judges_chain (acons (own (bVar 2)) (acons (own (bVar 6)) (acons (own (bVar 9)) (acons (own (bin fIx (bVar 6) (bVar 11))) (acons (own (bin fIx (bin fIx (bVar 10) (bC (.int 1))) (bVar 11))) (acons (own (bin fIx (bin fIx (bVar 10) (bC (.int 2))) (bVar 11))) anil)))))))))
  (mRet (ofN (bC (.bl false))))
  mNil)
  (mSeq (mSet 12 (eIO [1] m__law_near (acons (own (bVar 2)) (acons (own (bVar 6)) (acons (own (bVar 9)) (acons (own (bin fIx (bin fIx (bVar 10) (bC (.int 2))) (bVar 11))) anil))))))
  (mSeq (mSet 13 (ofN (cN m__law_walk (aCons (bVar 2) (aCons (bVar 6) (aCons (bVar 9) (aCons (bVar 12) aNil)))))))
  (mSeq (mIf (andT (tst (ofN (bin fIsnt (bVar 13) (bC .non)))) (andT (tst (ofN (bin fEq (bin fIx (bVar 13) (bC (.int 0))) (bin fIx (bVar 13) (bC (.int 1)))))) (tst (ofN (bin fGt (bin fIx (bVar 13) (bC (.int 2))) (bC (.int 0)))))))
  (mRet (ofN (bC (.bl false))))
  mNil)
  (mSeq (mIf (tst (ofN (bin fIsnt (cN m_is_cycle (aCons (bVar 2) (aCons (bVar 6) (aCons (bVar 9) (aCons (bVar 12) aNil))))) (bC (.bl false)))))
  (mRet (ofN (bC (.bl false))))
  mNil)
  (mRet (eIO [1] m__law_judges_places (acons (own (bVar 2)) (acons (own (bVar 6)) (acons (own (bVar 9)) (acons (own (bin fIx (bVar 10) (bC (.int 1)))) anil))))))))))))
noncomputable def lwE : MS := (mSeq (mSet 10 (ofN (cN m__law_due (aCons (bVar 2) (aCons (bVar 6) (aCons (bVar 9) aNil))))))
  (mSeq (mIf (notT (tst (ofN (cN (m__law_same 10) (aCons (cN m_place_axis (aCons (bVar 2) (aCons (bVar 6) (aCons (bVar 9) aNil)))) (aCons (bVar 10) aNil))))))
  (mRet (ofN (bC (.bl false))))
  mNil)
  (mSeq (mIf (notT (tst (ofN (cN m__law_judges_short (aCons (bVar 2) (aCons (bVar 6) (aCons (bVar 9) aNil)))))))
  (mRet (ofN (bC (.bl false))))
  mNil)
  (mSeq (mIf (tst (ofN (bin fEq (bin fIx (bVar 10) (bC (.int 0))) (bC (.str (lit "cycle"))))))
  (mRet (eIO [1] m__law_judges_cycle (acons (own (bVar 2)) (acons (own (bVar 6)) (acons (own (bVar 9)) (acons (own (bin fIx (bVar 10) (bC (.int 1)))) anil))))))
  mNil)
  lwF))))
noncomputable def lw7 : MS := (mSeq (mFor (wR (acons (own (bVar 3)) anil)) (gN 7)
  (mSeq (mSet 8 (eIO [1, 5] m__law_name anil))
  (mSeq (mIf (tst (binE fEq (eIO [1] m__law_take (acons (ofN (bC (.int 3))) anil)) (ofN (bC (.int 0)))))
  (mSet 8 (binE fAdd (ofN (bin fAdd (bVar 8) (bC (.str (lit "."))))) (calE fStr (acons (binE fAdd (ofN (bC (.int 1))) (eIO [1] m__law_take (acons (ofN (bC (.int 99))) anil))) anil))))
  mNil)
  (mExpr (eMut 6 fAppend (acons (own (bVar 8)) anil))))))
  (mSeq (mSet 6 (ofN (cal fTuple (aCons (bVar 6) aNil))))
  (mSeq (mSet 9 (eIO [1] m__law_constraints (acons (own (bVar 2)) (acons (own (bVar 6)) (acons (own (bVar 4)) anil)))))
  lwE)))
theorem w2_io2 {i j : Nat} {m : MI} {ms : MAE} {a0 b0 : D} {e : E} {Q2 : D → E → Prop} (h0 : e[i]? = some (some a0)) (hj : e[j]? = some (some b0)) (h : w2 (ms e) fun ds e1 => ∃ a b, e1[i]? = some (some a) ∧ (e1.set i none)[j]? = some (some b) ∧ wD (m (a :: b :: ds)) fun d os => ∃ o1 o2 r, os = o1 :: o2 :: r ∧ Q2 d (((((e1.set i none).set j none).set i (some o1))).set j (some o2))) : w2 (eIO [i, j] m ms e) Q2 := by
  unfold eIO
  have e0 : there [i, j] e = true := by simp only [there, h0, hj]
  rw [if_pos e0]
  refine w2_bind (w2_mono h fun ds e1 ⟨a, b, h1, h2, h⟩ => ?_)
  simp only [takeS, h1, h2, Option.map_some, List.cons_append, List.nil_append]
  generalize m (a :: b :: ds) = r at h ⊢
  cases h with
  | mk h =>
    obtain ⟨o1, o2, r, rfl, h⟩ := h
    exact .mk h
local macro_rules | `(tactic| walk_at "m2") => `(tactic| ((with_reducible apply w2_io2); (focus exact rfl); (focus exact rfl)))
theorem w0_tupS {T : List (List Nat)} {Q : D → Prop} (q : Q (.tup (T.map .str))) : w0 (fTuple [.lst (T.map .str)]) Q := w0_of (show (if imms (T.map D.str) = true then some (D.tup (T.map .str)) else none) = _ by rw [if_pos (strs_imm T)]) q
local macro_rules | `(tactic| walk_at "m0") => `(tactic| with_reducible apply w0_tupS)
theorem pt_cs {ax : Nm} {l : List Con} (h : l.length ≤ 1000) : pt 3 (.tup (csD ax l)) = true := by
  rw [pt_tup_iff, cs_len]
  refine ⟨h, fun x hx => ?_⟩
  obtain ⟨c, _, rfl⟩ := List.mem_map.mp hx
  rfl
theorem pt_res {ax : Nm} {shapes : List Nm} {cs : List Con} (g : Sized shapes cs) : pt 9 (resD ax shapes (RR shapes cs)) = true := by
  have hl := g.len
  rcases RR_cases g with h | ⟨w, h⟩
  · unfold resD
    rw [h.la]
    simp only
    rw [pt_tup_iff]
    refine ⟨by simp, fun x hx => ?_⟩
    simp only [List.mem_cons, List.not_mem_nil, or_false] at hx
    rcases hx with rfl | rfl | rfl
    · rfl
    · rw [pt_tup_iff, pls_len]
      refine ⟨by omega, fun x hx => ?_⟩
      obtain ⟨c, _, rfl⟩ := List.mem_map.mp hx
      rfl
    · rw [pt_tup_iff]
      refine ⟨by unfold chsD; rw [List.length_map]; omega, fun x hx => ?_⟩
      obtain ⟨v, hv, rfl⟩ := List.mem_map.mp hx
      refine pt_up (pt_cs ?_) (by decide)
      unfold chn
      rw [ups_len]
      have := (h.ch v hv).2.1
      omega
  · unfold resD
    rw [h.la]
    simp only
    rw [pt_tup_iff]
    refine ⟨by simp, fun x hx => ?_⟩
    simp only [List.mem_cons, List.not_mem_nil, or_false] at hx
    rcases hx with rfl | rfl
    · rfl
    · refine pt_up (pt_cs ?_) (by decide)
      unfold ring
      rw [ups_len]
      have := h.rg.2.1
      omega
theorem conv_cy {shapes : List Nm} {E : List Con} {s : St} (h : Conv shapes E s) (l : List Con) : cyB E l = false := by
  rw [cy_wk]
  cases q : wkR E l with
  | none => rfl
  | some w =>
    obtain ⟨a, b, t⟩ := w
    simp only
    by_cases ab : a = b
    · subst ab
      have : t ≤ 0 := by
        unfold wkR at q
        cases l with
        | nil => cases q
        | cons c r =>
          simp only at q
          split at q
          · rename_i hin
            cases z : go c.2.1 0 (c :: r) with
            | none => rw [z] at q; cases q
            | some x =>
              obtain ⟨b, y⟩ := x
              rw [z] at q
              simp only [Option.map_some, Option.some.injEq, Prod.mk.injEq] at q
              obtain ⟨q1, q2, q3⟩ := q
              have := go_le h.sat (c :: r) (inE_iff.mp hin) z
              rw [q1, q2] at this
              omega
          · cases q
      simp
      omega
    · simp [ab]
theorem conv_ch {shapes : List Nm} {E : List Con} {s : St} (h : Conv shapes E s) {v : Nm} (hv : v ∈ shapes) : chB E (chn shapes s v) v (s.pl v) = true ∧ 0 < (chn shapes s v).length ∧ (chn shapes s v).length ≤ shapes.length := by
  obtain ⟨h1, h2, h3, h4, h5⟩ := h.ch v hv
  have hks : ∀ i, i < mo shapes s v → it s i v ∈ s.ks := fun i hi => by rw [h.ks]; exact h4 i hi
  have hg := go_ups (s := s) (v := v) (mo shapes s v) (fun i hi => (h.ownC _ (hks i hi)).1) 0
  rw [h3] at hg
  unfold chn
  rw [ups_len]
  refine ⟨?_, h1, h2⟩
  unfold chB
  rw [hg, Int.zero_add, ← h5, inE_iff.mpr (ups_mem _ fun i hi => (h.ownC _ (hks i hi)).2)]
  simp
theorem ring_len {shapes : List Nm} {E : List Con} {s : St} {w : Nm} (h : Ring shapes E s w) : (ring shapes s w).length ≤ shapes.length + 1 := by
  unfold ring
  rw [ups_len]
  exact h.rg.2.1
theorem wk_no {E l : List Con} {w : Nm × Nm × Int} (h : cyB E l = false) (q : wkR E l = some w) (e : w.1 = w.2.1) : w.2.2 ≤ 0 := by
  rw [cy_wk, q] at h
  obtain ⟨a, b, t⟩ := w
  have e : a = b := e
  subst e
  simpa using h
theorem ixCh {ax : Nm} {shapes : List Nm} {s : St} {k : Nat} {v : Nm} (h : shapes[k]? = some v) : fIx (.tup (chsD ax shapes s)) (.int (k : Int)) = some (.tup (csD ax (chn shapes s v))) :=
  ixD_at (by unfold chsD; rw [List.getElem?_map, h]; rfl)
section
variable {ax : Nm} {shapes : List Nm} {cs : List Con} (g : Sized shapes cs)
include g
theorem lwF_ok {j : D} {s : St} (hj : Jar j) (h : Conv shapes (evs shapes cs) s) {x0 x4 x5 x7 x8 : Option D} :
    wS (lwF [x0, some j, some (.str ax), some (.int (shapes.length : Nat)), x4, x5, some (.tup (nmD shapes)), x7, x8, some (.tup (csD ax cs)), some (.tup [.str (lit "places"), .tup (plsD shapes s.pl), .tup (chsD ax shapes s)]), none, none, none]) (fun _ => False) (fun d _ => d = .bl true) (fun _ => False) (fun _ => False) := by
  have hn := nms_imm shapes
  have hc := cs_imm ax cs
  have hsl := g.len
  have hsp := g.pos
  have hp1 := ints_imm shapes s.pl
  have hp2 := chs_imm ax shapes s
  have i0 : ∀ (d : D), imm d = true → imms [.str ax, .tup (nmD shapes), .tup (csD ax cs), d] = true := fun d h => by simp [imms, imm, hn, hc, h]
  unfold lwF
  refine wS_seq (wS_set ?_)
  repeat' (first | walk_at "m2" | walk_at "m1" | walk_at "mE" | walk_at "mA" | walk_at "m0" | walk_at "t")
  rename_i r1 j1 a0 a1 hj1
  obtain ⟨k, rfl⟩ : ∃ k : Nat, r1 = k := ⟨r1.toNat, by omega⟩
  obtain ⟨v, hv⟩ : ∃ v, shapes[k]? = some v := ⟨_, List.getElem?_eq_getElem (show k < shapes.length by omega)⟩
  have hvm := mem_get hv
  have hvn : v ≠ [] := fun z => g.ne (z ▸ hvm)
  have x1 := ixN_at hv
  have x2 := ixP_at (f := s.pl) hv
  have x3 := ixCh (ax := ax) (s := s) hv
  obtain ⟨c1, c2, c3⟩ := conv_ch h hvm
  have hi := cs_imm ax (chn shapes s v)
  simp only [List.set_cons_zero, List.set_cons_succ]
  repeat' walk_at "m"
  refine wD_mono (judges_chain g hj1 hvn c2 (by omega) c1) fun d os hh => ?_
  obtain ⟨rfl, j2, r2, hj2, rfl⟩ := hh
  refine ⟨_, _, rfl, ?_⟩
  simp only [List.set_cons_zero, List.set_cons_succ]
  repeat' walk_at "m"
  refine wD_mono (near_ok g hj2 c2 (by omega)) fun d os hh => ?_
  obtain ⟨l', j3, r3, rfl, hl', hj3, rfl⟩ := hh
  refine ⟨_, _, rfl, ?_⟩
  simp only [List.set_cons_zero, List.set_cons_succ]
  have k5 := w1_is (law_walk_ok (ax := ax) g (l := l') (by omega))
  have i5 := i0 (.tup (csD ax l')) (cs_imm ax l')
  have k6 := w1_is (is_cycle_ok (ax := ax) g (l := l') (by omega))
  have hcy := conv_cy h l'
  rw [hcy] at k6
  have hno := fun w q e => wk_no (w := w) hcy q e
  clear hcy
  have fin : wD (m__law_judges_places [j3, D.str ax, D.tup (nmD shapes), D.tup (csD ax cs), D.tup (plsD shapes s.pl)]) fun d os => ∃ o r, os = o :: r ∧ d = D.bl true := by
    refine wD_mono (judges_places g hj3 (kp_conv h)) fun d os hh => ?_
    obtain ⟨rfl, j4, r4, hj4, rfl⟩ := hh
    exact ⟨_, _, rfl, rfl⟩
  generalize wkR (evs shapes cs) l' = ow at k5 hno
  cases ow with
  | none =>
    simp only [wkD] at k5
    repeat' walk_at "m"
    exact fin
  | some w =>
    obtain ⟨x, y, z⟩ := w
    simp only [wkD] at k5
    have z5 : imm (.tup [.str x, .str y, .int z]) = true := rfl
    have q5 : fIsnt (.tup [.str x, .str y, .int z]) .non = some (.bl true) := rfl
    by_cases q : x = y
    · subst q
      have hz : z ≤ 0 := hno _ rfl rfl
      repeat' walk_at "m"
      all_goals first | exact fin | skip
    · repeat' walk_at "m"
      all_goals first | (rename_i hq; exact (q (by simpa using hq)).elim) | (rename_i hq _; exact (q (by simpa using hq)).elim) | exact fin
theorem lwE_ok {j : D} (hj : Jar j) {x0 x4 x5 x7 x8 : Option D} :
    wS (lwE [x0, some j, some (.str ax), some (.int (shapes.length : Nat)), x4, x5, some (.tup (nmD shapes)), x7, x8, some (.tup (csD ax cs)), none, none, none, none]) (fun _ => False) (fun d _ => d = .bl true) (fun _ => False) (fun _ => False) := by
  have hn := nms_imm shapes
  have hc := cs_imm ax cs
  have hsl := g.len
  have hpt := pt_res (ax := ax) g
  have k1 := w1_is (law_due_ok (ax := ax) g)
  have k2 := w1_is (axis_ok (ax := ax) g)
  have k3 := w1_is (judges_short (ax := ax) g)
  have k4 := w1_is (same_yes hpt rfl)
  have i1 : imms [.str ax, .tup (nmD shapes), .tup (csD ax cs)] = true := by simp [imms, imm, hn, hc]
  have hri := pt_imm hpt
  have i2 : imms [resD ax shapes (RR shapes cs), resD ax shapes (RR shapes cs)] = true := by simp [imms, hri]
  unfold lwE
  rcases RR_cases g with h | ⟨w, h⟩
  · have hres : resD ax shapes (RR shapes cs) = .tup [.str (lit "places"), .tup (plsD shapes (RR shapes cs).pl), .tup (chsD ax shapes (RR shapes cs))] := by unfold resD; rw [h.la]
    rw [hres] at k1 k2 k4 i2 hri
    have hq : decide (lit "places" = lit "cycle") = false := by rw [lit_eq, lit_eq]; rfl
    clear hpt
    repeat' walk_at "m"
    exact lwF_ok g hj h
  · have hres : resD ax shapes (RR shapes cs) = .tup [.str (lit "cycle"), .tup (csD ax (ring shapes (RR shapes cs) w))] := by unfold resD; rw [h.la]
    rw [hres] at k1 k2 k4 i2 hri
    have hrl := ring_len h
    have hq : decide (lit "cycle" = lit "cycle") = true := decide_eq_true rfl
    have hi := cs_imm ax (ring shapes (RR shapes cs) w)
    clear hpt
    repeat' walk_at "m"
    · refine wD_mono (judges_cycle g hj (by omega) (ring_pos h)) fun d os hh => ?_
      obtain ⟨rfl, j4, r4, hj4, rfl⟩ := hh
      exact ⟨_, _, rfl, rfl⟩
end
theorem xy_e : lit "xy" = [120, 121] := by rw [lit_eq]; rfl
theorem lw7_ok {j : D} {ax : Nm} {x0 : Option D} {size many : Int} (hj : Jar j) (h0 : 1 ≤ size) (h1 : size ≤ 60) (h2 : 0 ≤ many) (h3 : many ≤ 200) :
    wS (lw7 [x0, some j, some (.str ax), some (.int size), some (.int many), some (.lst []), some (.lst []), none, none, none, none, none, none, none]) (fun _ => False) (fun d _ => d = .bl true) (fun _ => False) (fun _ => False) := by
  unfold lw7
  rw [dot_e]
  repeat' (first | walk_at "m" | walk_at "t")
  refine wS_loop0 (fun k e => Hold (∃ (j : D) (S T : List Nm) (x7 x8 : Option D), Jar j ∧ T.length = k ∧ T.Nodup ∧ [] ∉ T ∧ S.map base = T ∧ e = [x0, some j, some (.str ax), some (.int size), some (.int many), some (.lst (T.map .str)), some (.lst (S.map .str)), x7, x8, none, none, none, none, none])) _ ⟨j, [], [], _, _, hj, rfl, List.nodup_nil, by simp, rfl, rfl⟩ (fun i d e hd hI => ?_) (fun e hI => ?_)
  · obtain ⟨j, S, T, x7, x8, hj, hT, hnd, hne, hS, rfl⟩ := hI
    obtain ⟨hi, rfl⟩ := range_at hd
    have hi : i < 60 := by omega
    have hT59 : T.length ≤ 59 := by omega
    have hTi : T.length ≤ 1000000 := by omega
    have hSl : S.length = T.length := by rw [← hS, List.length_map]
    have hSi : S.length ≤ 1000000 := by omega
    walk_at "m0"
    refine wS_seq (wS_set ?_)
    repeat' (first | walk_at "m2" | walk_at "m1" | walk_at "mE" | walk_at "mA" | walk_at "m0" | walk_at "t")
    rename_i n jn hl hnc hn hjn
    have hnn : n ≠ [] := fun z => by rw [z] at hl; simp at hl
    have step : ∀ s : Nm, base s = n → (S ++ [s]).map base = T ++ [n] := fun s hs => by rw [List.map_append, hS, List.map_singleton, hs]
    have nd2 : (T ++ [n]).Nodup := List.nodup_append.mpr ⟨hnd, by simp, fun a m b m' z => by rw [List.mem_singleton.mp m'] at z; subst z; exact hn m⟩
    have ne2 : [] ∉ T ++ [n] := fun m => by
      rcases List.mem_append.mp m with m | m
      · exact hne m
      · exact hnn (List.mem_singleton.mp m).symm
    repeat' (first | walk_at "m" | walk_at "t")
    · rename_i hdr r jr hr0 hr1 hjr
      have hz := toStr_len (n := 1 + r) (by omega)
      generalize lit (toString (1 + r)) = z at hz
      refine w0_addS (by rw [List.length_append]; simp only [List.length_cons, List.length_nil]; omega) ?_
      repeat' (first | walk_at "m" | walk_at "t")
      refine w0_appS (by omega) ?_
      refine ⟨_, S ++ [n ++ [46] ++ z], T ++ [n], _, _, by assumption, by simp [hT], nd2, ne2, step _ ?_, rfl⟩
      rw [List.append_assoc]
      exact base_dot z hnc
    · refine w0_appS (by omega) ?_
      exact ⟨_, S ++ [n], T ++ [n], _, _, by assumption, by simp [hT], nd2, ne2, step _ (base_self hnc), rfl⟩
  · obtain ⟨j, S, T, x7, x8, hj, hT, hnd, hne, hS, rfl⟩ := hI
    rw [range_len] at hT
    have hSl : S.length = T.length := by rw [← hS, List.length_map]
    have hTn := strs_imm S
    have q1 : 0 < S.length := by omega
    have q2 : S.length ≤ 60 := by omega
    repeat' (first | walk_at "m" | walk_at "t")
    refine wD_mono (constraints_ok hj q1 q2 h2 h3) fun d os h => ?_
    obtain ⟨cs, j', r, rfl, hcl, hG, hj', rfl⟩ := h
    refine ⟨_, _, rfl, ?_⟩
    have g : Sized S cs := { nd := base_nodup hS hnd, ne := base_ne hS hne, pos := q1, len := q2, cl := hcl, good := hG }
    rw [show size = (S.length : Nat) by omega]
    exact lwE_ok g hj'
theorem w0_ixXY {i : Int} {Q : D → Prop} (h : 0 ≤ i) (h1 : i < 2) (q : ∀ c, Q (.str [c])) : w0 (immF fIx (.str [120, 121]) (.int i)) Q := w0_imm (w0_ixS rfl h (by simpa using h1) fun c _ => ⟨rfl, q c⟩)
local macro_rules | `(tactic| walk_at "m0") => `(tactic| ((with_reducible refine w0_ixXY ?_ ?_ ?_); (focus assumption); (focus assumption); intro cx))
theorem math (ns : List Int) (h : ns.length ≤ 63) : m_law [.rol (ns.map D.int)] = .ok (.bl true) := by
  apply w1_is
  apply w1_def (by simp [imms, imm, imms_ints])
  show wS (mSeq _ (mSeq _ (mSeq _ (mSeq _ (mSeq _ (mSeq _ (mSeq _ lw7)))))) _) _ _ _ _
  rw [xy_e]
  generalize hscr : D.rol (ns.map D.int) = script
  have iscr : imm script = true := by rw [← hscr]; simp [imm, imms_ints]
  repeat' (first | walk_at "m" | walk_at "t")
  refine w1_mono (by rw [← hscr]; exact jar_ok ns h) fun jar hj => ?_
  clear hscr h
  repeat' (first | walk_at "m" | walk_at "t")
  · exact wS_mono (lw7_ok (by assumption) (by omega) (by omega) (by omega) (by omega)) (fun _ h => h.elim) (fun _ _ h => h) (fun _ h => h) (fun _ h => h)
  · exact wS_mono (lw7_ok (by assumption) (by omega) (by omega) (by omega) (by omega)) (fun _ h => h.elim) (fun _ _ h => h) (fun _ h => h) (fun _ h => h)

end LK48

open PySem PySem.W PyProof.Rows in
set_option maxHeartbeats 0 in
theorem PySem.Challenge.cw_lectern_k48_places_exactly_holds : PySem.Challenge.rw_lectern_k48_places_exactly.Holds := by
  w_on; o_law; k_head; (case hw => w_witness2)
  k_fill
  refine L2.walk_of (l := PySem.Challenge.rw_lectern_k48_places_exactly) (n := 63) (k := 13) (x := "script") (CX := fun _ => L2.CX0) (sp := fun w => Mir.spN _ 1 LK48.m_law) rfl (by decide) rfl ⟨rfl, by decide, by decide⟩ (fun w h Y => PySem.W.kIn_of Y) ?F (fun w H a ns hl ho hS => Mir.law_start ho hS (LK48.math ns hl)) (fun _ _ _ _ _ h => h)
  case F =>
    intro w mg fa h KX G hmg
    refine' LK48.all_mk KX G hmg ?a0 ?l0 ?c0 ?k0 ?a1 ?l1 ?c1 ?k1 ?a2 ?l2 ?c2 ?k2 ?a3 ?l3 ?c3 ?k3 ?a4 ?l4 ?c4 ?k4 ?a5 ?l5 ?c5 ?k5 ?a6 ?l6 ?c6 ?k6 ?a7 ?l7 ?c7 ?k7 ?a8 ?l8 ?c8 ?k8 ?a9 ?l9 ?c9 ?k9 ?a10 ?l10 ?c10 ?k10 ?a11 ?l11 ?c11 ?k11 ?a12 ?l12 ?c12 ?k12 ?a13 ?l13 ?c13 ?k13 ?a14 ?l14 ?c14 ?k14 ?a15 ?l15 ?c15 ?k15 ?a16 ?l16 ?c16 ?k16 ?a17 ?l17 ?c17 ?k17 ?a18 ?l18 ?c18 ?k18 ?a19 ?l19 ?c19 ?k19 ?a20 ?l20 ?c20 ?k20 ?a21 ?l21 ?c21 ?k21 ?a22 ?l22 ?c22 ?k22 ?a23 ?l23 ?c23 ?k23 ?a24 ?l24 ?c24 ?k24 ?a25 ?l25 ?c25 ?k25 ?a26 ?l26 ?c26 ?k26 ?a27 ?l27 ?c27 ?k27 ?a28 ?l28 ?c28 ?k28 ?e0 ?z0 ?z1 ?z2 ?z3 ?z4 ?z5 ?z6 ?z7 ?z8 ?z9
    (case a0 => k_is); (case l0 => k_is); (case c0 => k_is); (case k0 => k_is); (case a1 => k_is); (case l1 => k_is); (case c1 => k_is); (case k1 => k_is); (case a2 => k_is); (case l2 => k_is); (case c2 => k_is); (case k2 => k_is); (case a3 => k_is); (case l3 => k_is); (case c3 => k_is); (case k3 => k_is); (case a4 => k_is); (case l4 => k_is); (case c4 => k_is); (case k4 => k_is); (case a5 => k_is); (case l5 => k_is); (case c5 => k_is); (case k5 => k_is); (case a6 => k_is); (case l6 => k_is); (case c6 => k_is); (case k6 => k_is); (case a7 => k_is); (case l7 => k_is); (case c7 => k_is); (case k7 => k_is); (case a8 => k_is); (case l8 => k_is); (case c8 => k_is); (case k8 => k_is); (case a9 => k_is); (case l9 => k_is); (case c9 => k_is); (case k9 => k_is); (case a10 => k_is); (case l10 => k_is); (case c10 => k_is); (case k10 => k_is); (case a11 => k_is); (case l11 => k_is); (case c11 => k_is); (case k11 => k_is); (case a12 => k_is); (case l12 => k_is); (case c12 => k_is); (case k12 => k_is); (case a13 => k_is); (case l13 => k_is); (case c13 => k_is); (case k13 => k_is); (case a14 => k_is); (case l14 => k_is); (case c14 => k_is); (case k14 => k_is); (case a15 => k_is); (case l15 => k_is); (case c15 => k_is); (case k15 => k_is); (case a16 => k_is); (case l16 => k_is); (case c16 => k_is); (case k16 => k_is); (case a17 => k_is); (case l17 => k_is); (case c17 => k_is); (case k17 => k_is); (case a18 => k_is); (case l18 => k_is); (case c18 => k_is); (case k18 => k_is); (case a19 => k_is); (case l19 => k_is); (case c19 => k_is); (case k19 => k_is); (case a20 => k_is); (case l20 => k_is); (case c20 => k_is); (case k20 => k_is); (case a21 => k_is); (case l21 => k_is); (case c21 => k_is); (case k21 => k_is); (case a22 => k_is); (case l22 => k_is); (case c22 => k_is); (case k22 => k_is); (case a23 => k_is); (case l23 => k_is); (case c23 => k_is); (case k23 => k_is); (case a24 => k_is); (case l24 => k_is); (case c24 => k_is); (case k24 => k_is); (case a25 => k_is); (case l25 => k_is); (case c25 => k_is); (case k25 => k_is); (case a26 => k_is); (case l26 => k_is); (case c26 => k_is); (case k26 => k_is); (case a27 => k_is); (case l27 => k_is); (case c27 => k_is); (case k27 => k_is); (case a28 => k_is); (case l28 => k_is); (case c28 => k_is); (case k28 => k_is); (case e0 => k_is); (case z0 => k_is); (case z1 => k_is); (case z2 => k_is); (case z3 => k_is); (case z4 => k_is); (case z5 => k_is); (case z6 => k_is); (case z7 => k_is); (case z8 => k_is); (case z9 => k_is)
