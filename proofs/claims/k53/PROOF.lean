import PyProof.Rows.All
import Wide.All
import OpenK.AllK
import Wide.FinOn
import HandS.ForMost
import HandS.HeadHook1
import HandS.Deep
import HandS.Exc
import HandS.ExcOwn
import HandS.TryOnly
import HandS.TupAny
import HandS.IsInst
import HandS.Style
import PyProof.StrBlock2
import HandS.RaiseMore
import HandS.TupLe
import HandS.WordsDict
import HandS.WordsExc
import HandS.ExcIs
import HandS.Dict
import HandS.Text
import HandS.Replace
import KE.IntTextLaws
import KE.KIntText
import HandS.Codes
import HandS.StrMore
import PyProof.Rows.StrPins
import HandS.DictComp
import PySem.Challenge.RW_lectern_k53_pages
set_option Elab.async false
set_option linter.all false
set_option maxRecDepth 100000
set_option maxHeartbeats 4000000
namespace Mir
open PySem PySem.Spec L2

/-- pure data trees; texts are their codes -/
inductive D where
  | non | bl (b : Bool) | int (i : Int) | str (s : List Nat) | tup (ds : List D) | lst (ds : List D)
  | rol (ds : List D) | dct (kvs : List (D × D)) | rdc (kvs : List (D × D)) | ins (c : Str) (fs : List (Str × D)) | raw (v : V)
  deriving Inhabited

/-- which objects may change -/
def isM : HO → Bool
  | .lst _ => true
  | .dK _ => true
  | .dT _ => true
  | .set _ _ => true
  | .ins _ _ _ => true
  | _ => false
def Keeps (S : List Addr) (H H' : Hp) : Prop := ∀ a o, H a = some o → (isM o = false ∨ a ∉ S) → H' a = some o
theorem Keeps.refl (S : List Addr) (H : Hp) : Keeps S H H := fun _ _ h _ => h
theorem Keeps.mono {S T : List Addr} {H H' : Hp} (k : Keeps S H H') (h : ∀ a, a ∈ S → a ∈ T) : Keeps T H H' := fun a o e q => k a o e (q.imp id fun n m => n (h a m))
/-- steps in a row: what the second may change was there or is new -/
theorem Keeps.trans {S T : List Addr} {H H1 H2 : Hp} (k : Keeps S H H1) (k' : Keeps T H1 H2) (h : ∀ a, a ∈ T → a ∈ S ∨ H a = none) : Keeps S H H2 := fun a o e q => by
  refine k' a o (k a o e q) ?_
  rcases q with q | q
  · exact .inl q
  · refine .inr fun m => ?_
    rcases h a m with z | z
    · exact q z
    · rw [z] at e; cases e
theorem Keeps.same {H H' : Hp} (h : Same H H') (S : List Addr) : Keeps S H H' := fun a o e _ => h a o e
theorem Keeps.toSame {H H' : Hp} (k : Keeps [] H H') : Same H H' := fun a o e => k a o e (.inr (fun h => by cases h))
theorem Keeps.new {H : Hp} {p : Addr} {o : HO} (h : H p = none) (S : List Addr) : Keeps S H (upd H p o) := fun a u e _ => by
  rw [upd_ne (ne_of_none e h)]; exact e
theorem Keeps.upd {H : Hp} {p : Addr} {o u : HO} {S : List Addr} (h : H p = some u) (m : isM u = true) (hp : p ∈ S) : Keeps S H (upd H p o) := fun a w e q => by
  by_cases z : a = p
  · subst z
    rw [h] at e; cases e
    rcases q with q | q
    · rw [m] at q; cases q
    · exact absurd hp q
  · rw [upd_ne z]; exact e
theorem Keeps.none {S : List Addr} {H H' : Hp} (k : Keeps S H H') {a : Addr} (h : H' a = none) (ha : a ∉ S) : H a = none := by
  cases q : H a with
  | none => rfl
  | some o => rw [k a o q (.inr ha)] at h; cases h

/-- a tuple: tracked, or of the written part -/
def TqT (K : PySem.W.Frag) (H : Hp) (a : Addr) (xs : List V) : Prop :=
  H a = some (.tup xs) ∨ ∃ (o : Obj) (its : Array Value) (n : Nat), K.lookup a = some o ∧ o.cls = .type "tuple" ∧ o.data = .seq its n ∧ its.size ≤ sizeLine ∧ Vals xs its.toList
theorem TqT.sq {K : PySem.W.Frag} {H : Hp} {a : Addr} {xs : List V} (h : TqT K H a xs) : SqT K H a xs := by
  rcases h with h | h
  · exact .inl (.inl h)
  · exact .inr h
theorem TqT.of {K : PySem.W.Frag} {H : Hp} {a : Addr} {xs : List V} (h : H a = some (.tup xs)) : TqT K H a xs := .inl h
/-- a list that nobody changes any more: of the hand, or of the written part -/
def RoL (K : PySem.W.Frag) (H : Hp) (a : Addr) (xs : List V) : Prop :=
  (∃ o, H a = some (.frz o (.lst xs))) ∨ ∃ (o : Obj) (its : Array Value) (n : Nat), K.lookup a = some o ∧ o.cls = .type "list" ∧ o.dict = none ∧ o.data = .seq its n ∧ its.size ≤ sizeLine ∧ Vals xs its.toList
theorem RoL.sq {K : PySem.W.Frag} {H : Hp} {a : Addr} {xs : List V} (h : RoL K H a xs) : SqL K H a xs := by
  rcases h with ⟨o, h⟩ | h
  · exact .inl (.inr ⟨o, h⟩)
  · exact .inr h
def kD : Key → D
  | .inl i => .int i
  | .inr x => .str x.cps.toList
/-! ### a value shows a datum; the last list: the objects of it that may change -/
mutual
inductive Rp (K : PySem.W.Frag) (H : Hp) : V → D → List Addr → Prop
  | non : Rp K H .non .non []
  | bl {b : Bool} : Rp K H (.bl b) (.bl b) []
  | int {i : Int} : Rp K H (.int i) (.int i) []
  | str {x : Str} : x.cps.all (· < 0x110000) = true → Rp K H (.str x) (.str x.cps.toList) []
  | raw {v : V} : Rp K H v (.raw v) []
  | tup {a : Addr} {vs : List V} {ds : List D} {F : List Addr} : TqT K H a vs → Rps K H vs ds F → Rp K H (.ref a) (.tup ds) F
  | lst {a : Addr} {vs : List V} {ds : List D} {F : List Addr} : H a = some (.lst vs) → Rps K H vs ds F → Rp K H (.ref a) (.lst ds) (a :: F)
  | rol {a : Addr} {vs : List V} {ds : List D} : RoL K H a vs → Rps K H vs ds [] → Rp K H (.ref a) (.rol ds) []
  | dct {a : Addr} {kvs : List (Key × V)} {ds : List (D × D)} : H a = some (.dK kvs) → kvs.map (fun p => kD p.1) = ds.map (·.1) → Rps K H (kvs.map (·.2)) (ds.map (·.2)) [] → Rp K H (.ref a) (.dct ds) [a]
  | rdc {a : Addr} {kvs : List (Key × V)} {ds : List (D × D)} : (∃ o, H a = some (.frz o (.dK kvs))) → kvs.map (fun p => kD p.1) = ds.map (·.1) → Rps K H (kvs.map (·.2)) (ds.map (·.2)) [] → Rp K H (.ref a) (.rdc ds) []
  | ins {a C dx : Addr} {fs : List (Str × V)} {c : Str} {gs : List (Str × D)} {F : List Addr} : H a = some (.ins C dx fs) → C = He.ga K c → fs.map (·.1) = gs.map (·.1) → Rps K H (fs.map (·.2)) (gs.map (·.2)) F → Rp K H (.ref a) (.ins c gs) (a :: F)
inductive Rps (K : PySem.W.Frag) (H : Hp) : List V → List D → List Addr → Prop
  | nil : Rps K H [] [] []
  | cons {v : V} {d : D} {vs : List V} {ds : List D} {F G : List Addr} : Rp K H v d F → Rps K H vs ds G → Rps K H (v :: vs) (d :: ds) (F ++ G)
end

mutual
/-- no part may change -/
def imm : D → Bool
  | .lst _ => false
  | .dct _ => false
  | .ins _ _ => false
  | .tup ds => imms ds
  | .rol ds => imms ds
  | _ => true
def imms : List D → Bool
  | [] => true
  | d :: ds => imm d && imms ds
end

section
variable {K : PySem.W.Frag} {H H' : Hp}
theorem RoL.keep {S : List Addr} {a : Addr} {xs : List V} (k : Keeps S H H') (h : RoL K H a xs) : RoL K H' a xs := by
  rcases h with ⟨o, h⟩ | h
  · exact .inl ⟨o, k _ _ h (.inl rfl)⟩
  · exact .inr h
theorem TqT.keep {S : List Addr} {a : Addr} {xs : List V} (k : Keeps S H H') (h : TqT K H a xs) : TqT K H' a xs := by
  rcases h with h | h
  · exact .inl (k _ _ h (.inl rfl))
  · exact .inr h
mutual
theorem Rp.keep {S : List Addr} (k : Keeps S H H') : ∀ {v : V} {d : D} {F : List Addr}, Rp K H v d F → (∀ a ∈ F, a ∉ S) → Rp K H' v d F
  | _, _, _, .non, _ => .non
  | _, _, _, .bl, _ => .bl
  | _, _, _, .int, _ => .int
  | _, _, _, .str h, _ => .str h
  | _, _, _, .raw, _ => .raw
  | _, _, _, .tup h r, q => .tup (TqT.keep k h) (Rps.keep k r q)
  | _, _, _, .lst h r, q => .lst (k _ _ h (.inr (q _ List.mem_cons_self))) (Rps.keep k r fun a m => q a (List.mem_cons_of_mem _ m))
  | _, _, _, .rol h r, q => .rol (RoL.keep k h) (Rps.keep k r fun a m => by cases m)
  | _, _, _, .dct h c r, q => .dct (k _ _ h (.inr (q _ List.mem_cons_self))) c (Rps.keep k r fun a m => by cases m)
  | _, _, _, .rdc h c r, q => .rdc (by obtain ⟨o, h⟩ := h; exact ⟨o, k _ _ h (.inl rfl)⟩) c (Rps.keep k r fun a m => by cases m)
  | _, _, _, .ins h c n r, q => .ins (k _ _ h (.inr (q _ List.mem_cons_self))) c n (Rps.keep k r fun a m => q a (List.mem_cons_of_mem _ m))
theorem Rps.keep {S : List Addr} (k : Keeps S H H') : ∀ {vs : List V} {ds : List D} {F : List Addr}, Rps K H vs ds F → (∀ a ∈ F, a ∉ S) → Rps K H' vs ds F
  | _, _, _, .nil, _ => .nil
  | _, _, _, .cons h r, q => .cons (Rp.keep k h fun a m => q a (List.mem_append_left _ m)) (Rps.keep k r fun a m => q a (List.mem_append_right _ m))
end
mutual
theorem Rp.alloc : ∀ {v : V} {d : D} {F : List Addr}, Rp K H v d F → ∀ a ∈ F, ∃ o, H a = some o ∧ isM o = true
  | _, _, _, .non, a, m => by cases m
  | _, _, _, .bl, a, m => by cases m
  | _, _, _, .int, a, m => by cases m
  | _, _, _, .str h, a, m => by cases m
  | _, _, _, .raw, a, m => by cases m
  | _, _, _, .tup h r, a, m => Rps.alloc r a m
  | _, _, _, .lst h r, a, m => by
    rcases List.mem_cons.mp m with e | m
    · subst e; exact ⟨_, h, rfl⟩
    · exact Rps.alloc r a m
  | _, _, _, .rol h r, a, m => by cases m
  | _, _, _, .dct h c r, a, m => by
    rcases List.mem_cons.mp m with e | m
    · subst e; exact ⟨_, h, rfl⟩
    · cases m
  | _, _, _, .rdc h c r, a, m => by cases m
  | _, _, _, .ins h c n r, a, m => by
    rcases List.mem_cons.mp m with e | m
    · subst e; exact ⟨_, h, rfl⟩
    · exact Rps.alloc r a m
theorem Rps.alloc : ∀ {vs : List V} {ds : List D} {F : List Addr}, Rps K H vs ds F → ∀ a ∈ F, ∃ o, H a = some o ∧ isM o = true
  | _, _, _, .nil, a, m => by cases m
  | _, _, _, .cons h r, a, m => by
    rcases List.mem_append.mp m with m | m
    · exact Rp.alloc h a m
    · exact Rps.alloc r a m
end
theorem Rp.there {v : V} {d : D} {F : List Addr} (r : Rp K H v d F) {a : Addr} (m : a ∈ F) : H a ≠ none := fun e => by
  obtain ⟨o, h, _⟩ := r.alloc a m
  rw [e] at h; cases h
theorem Rps.there {vs : List V} {ds : List D} {F : List Addr} (r : Rps K H vs ds F) {a : Addr} (m : a ∈ F) : H a ≠ none := fun e => by
  obtain ⟨o, h, _⟩ := r.alloc a m
  rw [e] at h; cases h
mutual
theorem Rp.fpImm : ∀ {v : V} {d : D} {F : List Addr}, Rp K H v d F → imm d = true → F = []
  | _, _, _, .non, _ => rfl
  | _, _, _, .bl, _ => rfl
  | _, _, _, .int, _ => rfl
  | _, _, _, .str h, _ => rfl
  | _, _, _, .raw, _ => rfl
  | _, _, _, .tup h r, q => Rps.fpImm r (by simpa [imm] using q)
  | _, _, _, .lst h r, q => by simp [imm] at q
  | _, _, _, .rol h r, q => rfl
  | _, _, _, .dct h c r, q => by simp [imm] at q
  | _, _, _, .rdc h c r, q => rfl
  | _, _, _, .ins h c n r, q => by simp [imm] at q
theorem Rps.fpImm : ∀ {vs : List V} {ds : List D} {F : List Addr}, Rps K H vs ds F → imms ds = true → F = []
  | _, _, _, .nil, _ => rfl
  | _, _, _, .cons (d := d) (ds := ds) h r, q => by
    have q' : (imm d && imms ds) = true := by simpa only [imms] using q
    obtain ⟨q1, q2⟩ := Bool.and_eq_true_iff.mp q'
    rw [Rp.fpImm h q1, Rps.fpImm r q2]; rfl
end
theorem Rp.same {v : V} {d : D} {F : List Addr} (r : Rp K H v d F) (k : Keeps [] H H') : Rp K H' v d F := r.keep k fun _ _ m => by cases m
theorem Rps.same {vs : List V} {ds : List D} {F : List Addr} (r : Rps K H vs ds F) (k : Keeps [] H H') : Rps K H' vs ds F := r.keep k fun _ _ m => by cases m
theorem Rps.length {vs : List V} {ds : List D} {F : List Addr} (r : Rps K H vs ds F) : vs.length = ds.length := by
  induction ds generalizing vs F with
  | nil => cases r; rfl
  | cons d ds ih => cases r with
    | cons h r => rw [List.length_cons, List.length_cons, ih r]
theorem Rps.append {vs ws : List V} {ds es : List D} {F G : List Addr} (r : Rps K H vs ds F) (q : Rps K H ws es G) : Rps K H (vs ++ ws) (ds ++ es) (F ++ G) := by
  induction ds generalizing vs F with
  | nil => cases r; exact q
  | cons d ds ih => cases r with
    | cons h r => rw [List.append_assoc]; exact .cons h (ih r)
/-- the i-th part -/
theorem Rps.get {vs : List V} {ds : List D} {F : List Addr} (r : Rps K H vs ds F) {i : Nat} {d : D} (e : ds[i]? = some d) : ∃ v G, vs[i]? = some v ∧ Rp K H v d G ∧ ∀ a ∈ G, a ∈ F := by
  induction ds generalizing vs F i with
  | nil => simp at e
  | cons d' ds ih =>
    cases r with
    | cons h r =>
      cases i with
      | zero => simp at e; subst e; exact ⟨_, _, rfl, h, fun a m => List.mem_append_left _ m⟩
      | succ i =>
        obtain ⟨v, G, h1, h2, h3⟩ := ih r (by simpa using e)
        exact ⟨v, G, by simpa using h1, h2, fun a m => List.mem_append_right _ (h3 a m)⟩
theorem Rps.getV {vs : List V} {ds : List D} {F : List Addr} (r : Rps K H vs ds F) {i : Nat} {v : V} (e : vs[i]? = some v) : ∃ d G, ds[i]? = some d ∧ Rp K H v d G ∧ ∀ a ∈ G, a ∈ F := by
  have hl := r.length
  obtain ⟨hi, _⟩ := List.getElem?_eq_some_iff.mp e
  obtain ⟨v', G, h1, h2, h3⟩ := r.get (List.getElem?_eq_getElem (show i < ds.length by omega))
  rw [e] at h1; cases h1
  exact ⟨_, G, List.getElem?_eq_getElem (show i < ds.length by omega), h2, h3⟩
theorem Rps.takeD {vs : List V} {ds : List D} (r : Rps K H vs ds []) (n : Nat) : Rps K H (vs.take n) (ds.take n) [] ∧ Rps K H (vs.drop n) (ds.drop n) [] := by
  induction ds generalizing vs n with
  | nil => cases r; simp; exact Rps.nil
  | cons d ds ih =>
    generalize hF : ([] : List Addr) = F at r
    cases r with
    | cons h r =>
      obtain ⟨e1, e2⟩ := List.append_eq_nil_iff.mp hF.symm
      subst e1 e2
      cases n with
      | zero => exact ⟨Rps.nil, Rps.cons h r⟩
      | succ n => exact ⟨Rps.cons h (ih r n).1, (ih r n).2⟩
end
theorem imms_all : ∀ {ds : List D}, imms ds = ds.all imm
  | [] => rfl
  | d :: ds => by rw [imms, List.all_cons, imms_all]
end Mir

namespace Mir
open PySem PySem.Spec L2

abbrev E := List (Option D)
structure Ex where
  cls : Str
  fs : List (Str × D)
inductive Rs (α : Type) where | ok (a : α) | exc (x : Ex) | bad
inductive Re (α : Type) where | ok (a : α) (e : E) | exc (x : Ex) (e : E) | bad
/-- what a statement ends in -/
inductive SR where | nx (e : E) | rt (d : D) (e : E) | bk (e : E) | ct (e : E) | exc (x : Ex) (e : E) | bad
abbrev MB := E → Rs D
abbrev ME := E → Re D
abbrev MT := E → Re Bool
abbrev MS := E → SR
def Rs.bind {α β : Type} (r : Rs α) (f : α → Rs β) : Rs β := match r with
  | .ok a => f a
  | .exc x => .exc x
  | .bad => .bad
def Re.bind {α β : Type} (r : Re α) (f : α → E → Re β) : Re β := match r with
  | .ok a e => f a e
  | .exc x e => .exc x e
  | .bad => .bad
def Rs.of {α : Type} : Option α → Rs α
  | some a => .ok a
  | none => .bad
def Rs.at {α : Type} (r : Rs α) (e : E) : Re α := match r with
  | .ok a => .ok a e
  | .exc x => .exc x e
  | .bad => .bad

inductive RelS (K : PySem.W.Frag) (H : Hp) : St → E → List Addr → Prop
  | nil : RelS K H [] [] []
  | no {x : Option V} {σ : St} {e : E} {F : List Addr} : RelS K H σ e F → RelS K H (x :: σ) (none :: e) F
  | so {v : V} {d : D} {σ : St} {e : E} {G F : List Addr} : Rp K H v d G → RelS K H σ e F → RelS K H (some v :: σ) (some d :: e) (G ++ F)

section
variable {K : PySem.W.Frag} {H H' : Hp} {σ : St} {e : E} {F : List Addr}
theorem RelS.keep {S : List Addr} (r : RelS K H σ e F) (k : Keeps S H H') (h : ∀ a ∈ F, a ∉ S) : RelS K H' σ e F := by
  induction r with
  | nil => exact .nil
  | no r ih => exact .no (ih h)
  | so p r ih => exact .so (p.keep k fun a m => h a (List.mem_append_left _ m)) (ih fun a m => h a (List.mem_append_right _ m))
theorem RelS.same (r : RelS K H σ e F) (k : Keeps [] H H') : RelS K H' σ e F := r.keep k fun _ _ m => by cases m
theorem RelS.len (r : RelS K H σ e F) : σ.length = e.length := by
  induction r with
  | nil => rfl
  | no r ih => rw [List.length_cons, List.length_cons, ih]
  | so p r ih => rw [List.length_cons, List.length_cons, ih]
theorem RelS.there (r : RelS K H σ e F) {a : Addr} (m : a ∈ F) : H a ≠ none := by
  induction r with
  | nil => cases m
  | no r ih => exact ih m
  | so p r ih =>
    rcases List.mem_append.mp m with m | m
    · exact p.there m
    · exact ih m
theorem RelS.alloc (r : RelS K H σ e F) {a : Addr} (m : a ∈ F) : ∃ o, H a = some o ∧ isM o = true := by
  induction r with
  | nil => cases m
  | no r ih => exact ih m
  | so p r ih =>
    rcases List.mem_append.mp m with m | m
    · exact p.alloc a m
    · exact ih m
theorem RelS.take (r : RelS K H σ e F) {i : Nat} {d : D} (h : e[i]? = some (some d)) : ∃ v G F0, σ[i]? = some (some v) ∧ Rp K H v d G ∧ RelS K H σ (e.set i none) F0 ∧ F.Perm (G ++ F0) := by
  induction r generalizing i with
  | nil => simp at h
  | no r ih =>
    cases i with
    | zero => simp at h
    | succ i =>
      obtain ⟨v, G, F0, h1, h2, h3, h4⟩ := ih (by simpa using h)
      exact ⟨v, G, F0, by simpa using h1, h2, .no h3, h4⟩
  | @so v' d' σ' e' G' F' p r ih =>
    cases i with
    | zero =>
      have e1 : d' = d := by simpa using h
      subst e1
      exact ⟨v', G', F', rfl, p, .no r, .refl _⟩
    | succ i =>
      obtain ⟨v, G, F0, h1, h2, h3, h4⟩ := ih (by simpa using h)
      refine ⟨v, G, G' ++ F0, by simpa using h1, h2, .so p h3, ?_⟩
      have q : (G' ++ F').Perm (G' ++ (G ++ F0)) := List.Perm.append_left _ h4
      refine q.trans ?_
      rw [← List.append_assoc, ← List.append_assoc]
      exact List.Perm.append_right _ List.perm_append_comm
theorem RelS.put (r : RelS K H σ e F) {i : Nat} {v : V} {d : D} {G : List Addr} (h : e[i]? = some none) (p : Rp K H v d G) : ∃ F', RelS K H (σ.set i (some v)) (e.set i (some d)) F' ∧ F'.Perm (G ++ F) := by
  induction r generalizing i with
  | nil => simp at h
  | no r ih =>
    cases i with
    | zero => exact ⟨_, .so p r, .refl _⟩
    | succ i =>
      obtain ⟨F', h1, h2⟩ := ih (by simpa using h)
      exact ⟨F', .no h1, h2⟩
  | @so v' d' σ' e' G' F' q r ih =>
    cases i with
    | zero => simp at h
    | succ i =>
      obtain ⟨F2, h1, h2⟩ := ih (by simpa using h)
      refine ⟨G' ++ F2, .so q h1, ?_⟩
      refine (List.Perm.append_left G' h2).trans ?_
      rw [← List.append_assoc, ← List.append_assoc]
      exact List.Perm.append_right _ List.perm_append_comm
theorem set_self {α : Type} : ∀ {l : List α} {i : Nat} {a : α}, l[i]? = some a → l.set i a = l
  | [], _, _, h => by simp at h
  | x :: l, 0, a, h => by simp at h; subst h; rfl
  | x :: l, i + 1, a, h => by
    rw [List.set_cons_succ, set_self (l := l) (by simpa using h)]
theorem RelS.get (r : RelS K H σ e F) {i : Nat} {d : D} (h : e[i]? = some (some d)) : ∃ v G, σ[i]? = some (some v) ∧ Rp K H v d G ∧ ∀ a ∈ G, a ∈ F := by
  obtain ⟨v, G, F0, h1, h2, h3, h4⟩ := r.take h
  exact ⟨v, G, h1, h2, fun a m => h4.mem_iff.mpr (List.mem_append_left _ m)⟩
/-- whatever stands at a place may be given up -/
theorem RelS.drop (r : RelS K H σ e F) (i : Nat) : ∃ F0 G, RelS K H σ (e.set i none) F0 ∧ F.Perm (G ++ F0) := by
  cases q : e[i]? with
  | none =>
    rw [List.set_eq_of_length_le (List.getElem?_eq_none_iff.mp q)]
    exact ⟨F, [], r, .refl _⟩
  | some o =>
    cases o with
    | none => rw [set_self q]; exact ⟨F, [], r, .refl _⟩
    | some d =>
      obtain ⟨v, G, F0, h1, h2, h3, h4⟩ := r.take q
      exact ⟨F0, G, h3, h4⟩
end

/-! ### states in a row -/
structure Ev (K : PySem.W.Frag) (F : List Addr) (H : Hp) (σ' : St) (H' : Hp) (e' : E) (F' : List Addr) : Prop where
  k : Keeps F H H'
  r : RelS K H' σ' e' F'
  nd : F'.Nodup
  new : ∀ a ∈ F', a ∈ F ∨ H a = none
section
variable {K : PySem.W.Frag} {H H1 H2 : Hp} {σ σ1 σ2 : St} {e e1 e2 : E} {F F1 F2 : List Addr}
theorem Ev.trans (x : Ev K F H σ1 H1 e1 F1) (y : Ev K F1 H1 σ2 H2 e2 F2) : Ev K F H σ2 H2 e2 F2 where
  k := x.k.trans y.k x.new
  r := y.r
  nd := y.nd
  new := fun a m => by
    rcases y.new a m with h | h
    · exact x.new a h
    · by_cases z : a ∈ F
      · exact .inl z
      · exact .inr (x.k.none h z)
/-- nothing but new things -/
theorem Ev.grow (x : Ev K F H σ1 H1 e1 F1) (k : Keeps [] H1 H2) : Ev K F H σ1 H2 e1 F1 :=
  x.trans ⟨k.mono (fun _ m => by cases m), x.r.same k, x.nd, fun a m => Or.inl m⟩
theorem Ev.refl (r : RelS K H σ e F) (nd : F.Nodup) : Ev K F H σ H e F := ⟨.refl _ _, r, nd, fun _ m => .inl m⟩
theorem Ev.pure (r : RelS K H σ e F) (nd : F.Nodup) (k : Keeps [] H H1) : Ev K F H σ H1 e F := (Ev.refl r nd).grow k
/-- the first of the slots -/
theorem Ev.head {v : V} {d : D} (x : Ev K F H (some v :: σ1) H1 (some d :: e1) F1) : ∃ G F0, F1 = G ++ F0 ∧ Rp K H1 v d G ∧ Ev K F H σ1 H1 e1 F0 ∧ (∀ a ∈ G, a ∉ F0) ∧ G.Nodup ∧ ∀ a ∈ G, a ∈ F ∨ H a = none := by
  obtain ⟨k, r, nd, nw⟩ := x
  cases r with
  | so p r =>
    obtain ⟨n1, n2, n3⟩ := List.nodup_append.mp nd
    exact ⟨_, _, rfl, p, ⟨k, r, n2, fun a m => nw a (List.mem_append_right _ m)⟩, fun a m m' => n3 a m a m' rfl, n1, fun a m => nw a (List.mem_append_left _ m)⟩
theorem Ev.cons {v : V} {d : D} {G : List Addr} (x : Ev K F H σ1 H1 e1 F1) (p : Rp K H1 v d G) (hd : ∀ a ∈ G, a ∉ F1) (nd : G.Nodup) (nw : ∀ a ∈ G, a ∈ F ∨ H a = none) : Ev K F H (some v :: σ1) H1 (some d :: e1) (G ++ F1) where
  k := x.k
  r := .so p x.r
  nd := List.nodup_append.mpr ⟨nd, x.nd, fun a m b m' z => by subst z; exact hd a m m'⟩
  new := fun a m => by
    rcases List.mem_append.mp m with m | m
    · exact nw a m
    · exact x.new a m
/-- a new thing on top -/
theorem Ev.consNew {v : V} {d : D} {G : List Addr} (x : Ev K F H σ1 H1 e1 F1) (k : Keeps [] H1 H2) (p : Rp K H2 v d G) (nd : G.Nodup) (nw : ∀ a ∈ G, H1 a = none) : Ev K F H (some v :: σ1) H2 (some d :: e1) (G ++ F1) :=
  (x.grow k).cons p (fun a m m' => x.r.there m' (nw a m)) nd fun a m => by
    by_cases z : a ∈ F
    · exact .inl z
    · exact .inr (x.k.none (nw a m) z)
theorem Ev.consImm {v : V} {d : D} {G : List Addr} (x : Ev K F H σ1 H1 e1 F1) (p : Rp K H1 v d G) (hi : imm d = true) : Ev K F H (some v :: σ1) H1 (some d :: e1) F1 := by
  have e := p.fpImm hi
  subst e
  exact x.cons p (fun _ m => by cases m) .nil (fun _ m => by cases m)
/-- a thing that waits while the rest goes on -/
theorem Ev.frame {v : V} {d : D} (x : Ev K F H (some v :: σ1) H1 (some d :: e1) F1) {F0 : List Addr} (hF : ∀ G F', F1 = G ++ F' → RelS K H1 σ1 e1 F' → Rp K H1 v d G → F' = F0) (y : Ev K F0 H1 σ2 H2 e2 F2) : ∃ F3, Ev K F H (some v :: σ2) H2 (some d :: e2) F3 := by
  obtain ⟨G, F', eF, p, x', hd, n1, nw⟩ := x.head
  have e0 := hF G F' eF x'.r p
  subst e0
  refine ⟨_, (x'.trans y).cons (p.keep y.k hd) (fun a m m' => ?_) n1 nw⟩
  rcases y.new a m' with h | h
  · exact hd a m h
  · exact p.there m h
/-- the slot i is given a value -/
theorem Ev.store {v : V} {d : D} (x : Ev K F H (some v :: σ1) H1 (some d :: e1) F1) (i : Nat) (hi : i < e1.length) : ∃ F3, Ev K F H (σ1.set i (some v)) H1 (e1.set i (some d)) F3 := by
  obtain ⟨G, F', eF, p, x', hd, n1, nw⟩ := x.head
  obtain ⟨F0, G0, r0, pm⟩ := x'.r.drop i
  have hn : (e1.set i none)[i]? = some none := by rw [List.getElem?_set_self hi]
  obtain ⟨F3, r3, pm3⟩ := r0.put hn p
  rw [List.set_set] at r3
  have nd0 := (List.nodup_append.mp (pm.nodup_iff.mp x'.nd)).2.1
  have sub : ∀ a ∈ F0, a ∈ F' := fun a m => pm.mem_iff.mpr (List.mem_append_right _ m)
  refine ⟨F3, x'.k, r3, pm3.nodup_iff.mpr (List.nodup_append.mpr ⟨n1, nd0, fun a m b m' z => by subst z; exact hd a m (sub a m')⟩), fun a m => ?_⟩
  rcases List.mem_append.mp (pm3.mem_iff.mp m) with m | m
  · exact nw a m
  · exact x'.new a (sub a m)
/-- a slot is emptied onto the top -/
theorem Ev.move {d : D} {i : Nat} (x : Ev K F H σ1 H1 e1 F1) (h : e1[i]? = some (some d)) : ∃ v F3, σ1[i]? = some (some v) ∧ Ev K F H (some v :: σ1) H1 (some d :: e1.set i none) F3 := by
  obtain ⟨v, G, F0, h1, h2, h3, h4⟩ := x.r.take h
  exact ⟨v, _, h1, x.k, .so h2 h3, h4.nodup_iff.mp x.nd, fun a m => x.new a (h4.mem_iff.mpr m)⟩
/-- the top goes back to its own slot -/
theorem Ev.back {v : V} {d : D} {i : Nat} (x : Ev K F H (some v :: σ1) H1 (some d :: e1) F1) (hs : σ1[i]? = some (some v)) : ∃ F3, Ev K F H σ1 H1 (e1.set i (some d)) F3 := by
  have hl : σ1.length = e1.length := by
    have := x.r.len
    simpa using this
  obtain ⟨hi, _⟩ := List.getElem?_eq_some_iff.mp hs
  obtain ⟨F3, y⟩ := x.store i (by omega)
  rw [set_self hs] at y
  exact ⟨F3, y⟩
end

/-! ### exceptions -/
structure RpX (K : PySem.W.Frag) (H : Hp) (c : Value) (dx : Option Addr) (x : Ex) : Prop where
  cls : c = .ref (He.ga K x.cls)
  fs : (x.fs = [] ∧ dx = none) ∨ ∃ d vs, x.fs ≠ [] ∧ dx = some d ∧ H d = some (.xd vs) ∧ vs.map (·.1) = x.fs.map (·.1) ∧ Rps K H (vs.map (·.2)) (x.fs.map (·.2)) []
theorem RpX.same {K : PySem.W.Frag} {H H' : Hp} {c : Value} {dx : Option Addr} {x : Ex} {S : List Addr} (p : RpX K H c dx x) (k : Keeps S H H') : RpX K H' c dx x := by
  refine ⟨p.cls, p.fs.imp id ?_⟩
  rintro ⟨d, vs, h0, h1, h2, h3, h4⟩
  exact ⟨d, vs, h0, h1, k _ _ h2 (.inl rfl), h3, h4.keep k fun _ m => by cases m⟩

/-! ### the readings of mirrors -/
def tB (K : PySem.W.Frag) (W : WX) (m : MB) : TE := fun σ H Q => ∃ e F, RelS K H σ e F ∧ match m e with
  | .ok d => ∀ v H' G, Keeps [] H H' → Rp K H' v d G → Q v H'
  | .exc x => ∀ c dx H', Keeps [] H H' → RpX K H' c dx x → W c dx σ H'
  | .bad => False
def tN (K : PySem.W.Frag) (W : WX) (m : MB) : TE := fun σ H Q => ∃ e F, RelS K H σ e F ∧ match m e with
  | .ok d => ∀ v H' G, Keeps [] H H' → Rp K H' v d G → G.Nodup → (∀ a ∈ G, H a = none) → Q v H'
  | .exc x => ∀ c dx H', Keeps [] H H' → RpX K H' c dx x → W c dx σ H'
  | .bad => False
def tE (K : PySem.W.Frag) (W : WX) (m : ME) : TE := fun σ H Q => ∃ e F, RelS K H σ e F ∧ F.Nodup ∧ match m e with
  | .ok d e' => ∀ v H' F', Ev K F H (some v :: σ) H' (some d :: e') F' → Q v H'
  | .exc x e' => ∀ c dx H' F', Ev K F H σ H' e' F' → RpX K H' c dx x → W c dx σ H'
  | .bad => False
def tT (K : PySem.W.Frag) (W : WX) (m : MT) : TT := fun σ H Q => ∃ e F, RelS K H σ e F ∧ F.Nodup ∧ match m e with
  | .ok b e' => ∀ H' F', Ev K F H σ H' e' F' → Q b H'
  | .exc x e' => ∀ c dx H' F', Ev K F H σ H' e' F' → RpX K H' c dx x → W c dx σ H'
  | .bad => False
/-- the slots that keep their values -/
abbrev Zs := Nat → Bool
def Fz (Z : Zs) (σ σ' : St) : Prop := σ'.length = σ.length ∧ ∀ i, Z i = true → σ'[i]? = σ[i]?
theorem Fz.refl (Z : Zs) (σ : St) : Fz Z σ σ := ⟨rfl, fun _ _ => rfl⟩
theorem Fz.trans {Z : Zs} {σ σ1 σ2 : St} (a : Fz Z σ σ1) (b : Fz Z σ1 σ2) : Fz Z σ σ2 := ⟨b.1.trans a.1, fun i m => (b.2 i m).trans (a.2 i m)⟩
theorem Fz.sub {Z Y : Zs} {σ σ1 : St} (a : Fz Y σ σ1) (h : ∀ i, Z i = true → Y i = true) : Fz Z σ σ1 := ⟨a.1, fun i m => a.2 i (h i m)⟩
def z0 : Zs := fun _ => false
def zc (i : Nat) (Z : Zs) : Zs := fun j => j == i || Z j
def zw (vs : List Nat) : Zs := fun j => !vs.contains j
def tM (K : PySem.W.Frag) (W : WX) (Z : Zs) (m : MS) : TS := fun D σ H => ∃ e F, RelS K H σ e F ∧ F.Nodup ∧ match m e with
  | .nx e' => ∀ σ' H' F', Ev K F H σ' H' e' F' → Fz Z σ σ' → D.nx σ' H'
  | .rt d e' => ∀ v σ' H' F', Ev K F H (some v :: σ') H' (some d :: e') F' → Fz Z σ σ' → D.rt v H'
  | .bk e' => ∀ σ' H' F', Ev K F H σ' H' e' F' → Fz Z σ σ' → D.bk σ' H'
  | .ct e' => ∀ σ' H' F', Ev K F H σ' H' e' F' → Fz Z σ σ' → D.ct σ' H'
  | .exc x e' => ∀ c dx σ' H' F', Ev K F H σ' H' e' F' → Fz Z σ σ' → RpX K H' c dx x → W c dx σ' H'
  | .bad => False

theorem PE.mono {X : Cx} {e : Expr} {t t' : TE} (p : PE X e t) (h : ∀ σ H Q, t' σ H Q → t σ H Q) : PE X e t' := ⟨fun pins s σ H Q I q => p.run pins s σ H Q I (h _ _ _ q)⟩
theorem PE.or {X : Cx} {e : Expr} {t t' : TE} (p : PE X e t) (p' : PE X e t') : PE X e (fun σ H Q => t σ H Q ∨ t' σ H Q) := ⟨fun pins s σ H Q I q => q.elim (p.run pins s σ H Q I) (p'.run pins s σ H Q I)⟩
theorem PT.mono {X : Cx} {e : Expr} {t t' : TT} (p : PT X e t) (h : ∀ σ H Q, t' σ H Q → t σ H Q) : PT X e t' := ⟨fun pins s σ H Q I q => p.run pins s σ H Q I (h _ _ _ q)⟩
theorem PW.mono {X : Cx} {e : Expr} {t t' : TT} (p : PW X e t) (h : ∀ σ H Q, t' σ H Q → t σ H Q) : PW X e t' := ⟨fun wh pins s σ H Q I q => p.run wh pins s σ H Q I (h _ _ _ q)⟩
theorem PA.mono {X : Cx} {e : List Expr} {t t' : TA} (p : PA X e t) (h : ∀ σ H Q, t' σ H Q → t σ H Q) : PA X e t' := ⟨fun pos pins s σ H Q I q => p.run pos pins s σ H Q I (h _ _ _ q)⟩
theorem PS.mono {X : Cx} {e : Stmt} {t t' : TS} (p : PS X e t) (h : ∀ D σ H, t' D σ H → t D σ H) : PS X e t' := ⟨fun pins s σ H Q I q => p.run pins s σ H Q I (h _ _ _ q)⟩
theorem PSs.mono {X : Cx} {e : List Stmt} {t t' : TS} (p : PSs X e t) (h : ∀ D σ H, t' D σ H → t D σ H) : PSs X e t' := ⟨fun pins s σ H Q I q => p.run pins s σ H Q I (h _ _ _ q)⟩
theorem PI.or {X : Cx} {tg e : Expr} {t t' : TI} (p : PI X tg e t) (p' : PI X tg e t') : PI X tg e (fun σ H R => t σ H R ∨ t' σ H R) := ⟨fun pins s σ H Q I q => q.elim (p.run pins s σ H Q I) (p'.run pins s σ H Q I)⟩

section
variable {X : Cx} {W : WX} {x : Expr}
theorem nb {m : MB} (p : PE X x (tN X.K W m)) : PE X x (tB X.K W m) := PE.mono p fun σ H Q ⟨e, F, r, h⟩ => ⟨e, F, r, by
  split at h
  · exact fun v H' G k p _ _ => h v H' G k p
  · exact h
  · exact h⟩
/-- a new thing, as a step -/
def ofN (m : MB) : ME := fun e => (m e).at e
theorem ne {m : MB} (p : PE X x (tN X.K W m)) : PE X x (tE X.K W (ofN m)) := PE.mono p fun σ H Q ⟨e, F, r, nd, h⟩ => ⟨e, F, r, by
  unfold ofN Rs.at at h
  cases q : m e with
  | ok d => rw [q] at h; exact fun v H' G k p n1 n2 => h v H' _ ((Ev.refl r nd).consNew k p n1 n2)
  | exc y => rw [q] at h; exact fun c dx H' k p => h c dx H' _ (Ev.pure r nd k) p
  | bad => rw [q] at h; exact h⟩
/-- a thing that can't change, as a step -/
def own (m : MB) : ME := fun e => (m e).bind (fun d => if imm d = true then .ok d else .bad) |>.at e
theorem be {m : MB} (p : PE X x (tB X.K W m)) : PE X x (tE X.K W (own m)) := PE.mono p fun σ H Q ⟨e, F, r, nd, h⟩ => ⟨e, F, r, by
  unfold own at h
  cases q : m e with
  | ok d =>
    rw [q] at h
    by_cases hi : imm d = true
    · simp only [Rs.bind, hi, if_true, Rs.at] at h
      exact fun v H' G k p => h v H' F ((Ev.pure r nd k).consImm p hi)
    · simp only [Rs.bind, hi, Rs.at] at h
      exact h.elim
  | exc y => rw [q] at h; exact fun c dx H' k p => h c dx H' _ (Ev.pure r nd k) p
  | bad => rw [q] at h; exact h⟩
end
end Mir

namespace Mir
open PySem PySem.Spec L2

/-! ### names and constants -/
def bVar (i : Nat) : MB := fun e => match e[i]? with
  | some (some d) => .ok d
  | _ => .bad
def eMv (i : Nat) : ME := fun e => match e[i]? with
  | some (some d) => .ok d (e.set i none)
  | _ => .bad
def bC (d : D) : MB := fun _ => .ok d
/-- a text's codes -/
def lit (s : String) : List Nat := (Str.ofString s).cps.toList
theorem lit_eq (s : String) : lit s = s.toList.map Char.toNat := by
  unfold lit
  rw [Str.ofString_eq_toList]
theorem okC_of {l : List Nat} (h : ∀ c ∈ l, c < 0x110000) : (⟨l.toArray⟩ : Str).cps.all (· < 0x110000) = true := by
  rw [← Array.all_toList]
  exact List.all_eq_true.mpr fun c m => decide_eq_true (h c (by simpa using m))
theorem okC_mem {x : Str} (h : x.cps.all (· < 0x110000) = true) : ∀ c ∈ x.cps.toList, c < 0x110000 := fun c m => by
  rw [← Array.all_toList] at h
  exact of_decide_eq_true (List.all_eq_true.mp h c m)
theorem lit_ok (s : String) : (Str.ofString s).cps.all (· < 0x110000) = true := by
  rw [Str.ofString_eq_toList]
  refine okC_of fun c m => ?_
  obtain ⟨ch, _, rfl⟩ := List.mem_map.mp m
  have h := ch.valid
  simp only [UInt32.isValidChar, Nat.isValidChar] at h
  show ch.val.toNat < 0x110000
  omega
section
variable {X : Cx} {W : WX} {pos : Pos}
theorem x_var {i : Nat} {x : Str} (hN : X.N[i]? = some x := by rfl) (hv : Vis X.env.scope x := by first | exact Or.inl rfl | exact Or.inr (Or.inl rfl) | exact Or.inr (Or.inr rfl)) (hd : (x == ("__debug__" : Str)) = false := by decide)
    (hcd : (x == ("__classdict__" : Str)) = false := by decide) : PE X (.Name x pos) (tB X.K W (bVar i)) := PE.mono (pe_var hN hv hd hcd) fun σ H Q ⟨e, F, r, h⟩ => by
  unfold bVar at h
  cases q : e[i]? with
  | none => rw [q] at h; exact h.elim
  | some o =>
    rw [q] at h
    cases o with
    | none => exact h.elim
    | some d =>
      obtain ⟨v, G, h1, h2, h3⟩ := r.get q
      exact ⟨v, h1, h v H G (.refl _ _) h2⟩
theorem x_mv {i : Nat} {x : Str} (hN : X.N[i]? = some x := by rfl) (hv : Vis X.env.scope x := by first | exact Or.inl rfl | exact Or.inr (Or.inl rfl) | exact Or.inr (Or.inr rfl)) (hd : (x == ("__debug__" : Str)) = false := by decide)
    (hcd : (x == ("__classdict__" : Str)) = false := by decide) : PE X (.Name x pos) (tE X.K W (eMv i)) := PE.mono (pe_var hN hv hd hcd) fun σ H Q ⟨e, F, r, nd, h⟩ => by
  unfold eMv at h
  cases q : e[i]? with
  | none => rw [q] at h; exact h.elim
  | some o =>
    rw [q] at h
    cases o with
    | none => exact h.elim
    | some d =>
      obtain ⟨v, F3, h1, h2⟩ := (Ev.refl r nd).move q
      exact ⟨v, h1, h v H F3 h2⟩
theorem tC_N {v : V} {d : D} (p : ∀ H, Rp X.K H v d []) {σ : L2.St} {H : Hp} {Q : VK} (h : tN X.K W (bC d) σ H Q) : tC v σ H Q := by
  obtain ⟨e, F, r, h⟩ := h
  exact h v H [] (.refl _ _) (p H) .nil fun _ m => by cases m
theorem x_int {i : Int} {j : Nat} : PE X (.Constant (.int i) j pos) (tN X.K W (bC (.int i))) := PE.mono pe_int fun _ _ _ h => tC_N (fun _ => .int) h
theorem x_bl {b : Bool} {j : Nat} : PE X (.Constant (.bool b) j pos) (tN X.K W (bC (.bl b))) := PE.mono pe_bl fun _ _ _ h => tC_N (fun _ => .bl) h
theorem x_non {j : Nat} : PE X (.Constant .none j pos) (tN X.K W (bC .non)) := PE.mono pe_non fun _ _ _ h => tC_N (fun _ => .non) h
theorem x_str {s : String} {j : Nat} : PE X (.Constant (.str (Str.ofString s)) j pos) (tN X.K W (bC (.str (lit s)))) := PE.mono pe_str fun _ _ _ h => tC_N (fun _ => .str (lit_ok s)) h
theorem x_glob {x : Str} {v : V} {u : Value} {d : D} (hg : Gl X x) (hm : X.mg x = some u) (r : RelV v u) (p : ∀ H, Rp X.K H v d []) (hd : (x == ("__debug__" : Str)) = false := by decide) : PE X (.Name x pos) (tN X.K W (bC d)) :=
  PE.mono (pe_glob hg hm r hd) fun _ _ _ h => tC_N p h
theorem x_bltn {x : Str} {v : V} {u : Value} (hg : Gl X x) (hm : X.mg x = none) (hv : bootBuiltins x = some u) (r : RelV v u) (hn : x ≠ "__name__" := by decide) (hd : (x == ("__debug__" : Str)) = false := by decide) : PE X (.Name x pos) (tN X.K W (bC (.raw v))) :=
  PE.mono (pe_bltn hg hm hv r hn hd) fun _ _ _ h => tC_N (fun _ => .raw) h
end

/-! ### two operands -/
def OpN (K : PySem.W.Frag) (r : R2) (f : D → D → Option D) : Prop := ∀ {H : Hp} {v1 v2 : V} {d1 d2 : D} {G1 G2 : List Addr} {d : D} {Q : VK}, Rp K H v1 d1 G1 → Rp K H v2 d2 G2 → f d1 d2 = some d →
  (∀ v H' G, Keeps [] H H' → Rp K H' v d G → G.Nodup → (∀ a ∈ G, H a = none) → Q v H') → r v1 v2 H Q
def OpB (K : PySem.W.Frag) (r : R2) (f : D → D → Option D) : Prop := ∀ {H : Hp} {v1 v2 : V} {d1 d2 : D} {G1 G2 : List Addr} {d : D} {Q : VK}, Rp K H v1 d1 G1 → Rp K H v2 d2 G2 → f d1 d2 = some d →
  (∀ v H' G, Keeps [] H H' → Rp K H' v d G → Q v H') → r v1 v2 H Q
def immF (f : D → D → Option D) : D → D → Option D := fun a b => (f a b).bind fun d => if imm d = true then some d else none
theorem OpB.imm {K : PySem.W.Frag} {r : R2} {f : D → D → Option D} (o : OpB K r f) : OpN K r (immF f) := fun {H v1 v2 d1 d2 G1 G2 d Q} p1 p2 e h => by
  unfold immF at e
  cases q : f d1 d2 with
  | none => rw [q] at e; cases e
  | some d' =>
    rw [q] at e
    by_cases hi : Mir.imm d' = true
    · simp only [Option.bind_some, hi, if_true, Option.some.injEq] at e
      subst e
      exact o p1 p2 q fun v H' G k p => by
        have e0 := p.fpImm hi
        subst e0
        exact h v H' [] k p .nil fun _ m => by cases m
    · simp only [Option.bind_some, hi, if_false] at e
      cases e
/-- both read -/
def bin (f : D → D → Option D) (ma mb : MB) : MB := fun e => (ma e).bind fun a => (mb e).bind fun b => .of (f a b)
/-- both as steps -/
def binE (f : D → D → Option D) (ma mb : ME) : ME := fun e => (ma e).bind fun a e1 => (mb e1).bind fun b e2 => (Rs.of (f a b)).at e2
/-- a name, a step -/
def binV (f : D → D → Option D) (i : Nat) (mb : ME) : ME := fun e => match e[i]? with
  | some (some _) => (mb e).bind fun b e2 => match e2[i]? with
    | some (some a) => (Rs.of (f a b)).at e2
    | _ => .bad
  | _ => .bad
section
variable {K : PySem.W.Frag} {W : WX} {r : R2} {f : D → D → Option D} {ma mb : MB} {na nb' : ME} {σ : L2.St} {H : Hp} {Q : VK}
theorem op_bb (o : OpN K r f) (h : tN K W (bin f ma mb) σ H Q) : tOp r (tB K W ma) (tB K W mb) σ H Q := by
  obtain ⟨e, F, rl, h⟩ := h
  unfold bin at h
  refine ⟨e, F, rl, ?_⟩
  cases qa : ma e with
  | bad => rw [qa] at h; exact h
  | exc y => rw [qa] at h; exact h
  | ok a =>
    rw [qa] at h
    intro v1 H1 G1 k1 p1
    refine ⟨e, F, rl.same k1, ?_⟩
    cases qb : mb e with
    | bad => simp only [Rs.bind, qb] at h
    | exc y =>
      simp only [Rs.bind, qb] at h
      exact fun c dx H' k p => h c dx H' (k1.trans k fun _ m => by cases m) p
    | ok b =>
      simp only [Rs.bind, qb] at h
      intro v2 H2 G2 k2 p2
      cases qf : f a b with
      | none => rw [qf] at h; exact h.elim
      | some d =>
        rw [qf] at h
        have k12 : Keeps [] H H2 := k1.trans k2 fun _ m => by cases m
        exact o (p1.same k2) p2 qf fun v H' G k p n1 n2 => h v H' G (k12.trans k fun _ m => by cases m) p n1 fun z m => k12.none (n2 z m) fun m => by cases m
theorem op_bbB (o : OpB K r f) (h : tB K W (bin f ma mb) σ H Q) : tOp r (tB K W ma) (tB K W mb) σ H Q := by
  obtain ⟨e, F, rl, h⟩ := h
  unfold bin at h
  refine ⟨e, F, rl, ?_⟩
  cases qa : ma e with
  | bad => rw [qa] at h; exact h
  | exc y => rw [qa] at h; exact h
  | ok a =>
    rw [qa] at h
    intro v1 H1 G1 k1 p1
    refine ⟨e, F, rl.same k1, ?_⟩
    cases qb : mb e with
    | bad => simp only [Rs.bind, qb] at h
    | exc y =>
      simp only [Rs.bind, qb] at h
      exact fun c dx H' k p => h c dx H' (k1.trans k fun _ m => by cases m) p
    | ok b =>
      simp only [Rs.bind, qb] at h
      intro v2 H2 G2 k2 p2
      cases qf : f a b with
      | none => rw [qf] at h; exact h.elim
      | some d =>
        rw [qf] at h
        exact o (p1.same k2) p2 qf fun v H' G k p => h v H' G ((k1.trans k2 fun _ m => by cases m).trans k fun _ m => by cases m) p
/-- two steps in a row, the second's top over the first's -/
theorem ev2 {F F1 F2 : List Addr} {H1 H2 : Hp} {v1 v2 : V} {a b : D} {e1 e2 : E} (x : Ev K F H (some v1 :: σ) H1 (some a :: e1) F1)
    (y : ∀ F0, RelS K H1 σ e1 F0 → F0.Nodup → ∃ F2, Ev K F0 H1 (some v2 :: σ) H2 (some b :: e2) F2) : ∃ G1 G2 F3, Rp K H2 v1 a G1 ∧ Rp K H2 v2 b G2 ∧ Ev K F H σ H2 e2 F3 := by
  obtain ⟨G, F0, eF, p, x', hd, n1, nw⟩ := x.head
  obtain ⟨F2, y'⟩ := y F0 x'.r x'.nd
  obtain ⟨G2, F3, eF2, p2, y2, hd2, n2, nw2⟩ := y'.head
  exact ⟨G, G2, F3, p.keep y'.k hd, p2, x'.trans y2⟩
theorem op_ee (o : OpN K r f) (h : tE K W (binE f na nb') σ H Q) : tOp r (tE K W na) (tE K W nb') σ H Q := by
  obtain ⟨e, F, rl, nd, h⟩ := h
  unfold binE at h
  refine ⟨e, F, rl, nd, ?_⟩
  cases qa : na e with
  | bad => rw [qa] at h; exact h
  | exc y e1 => rw [qa] at h; exact h
  | ok a e1 =>
    rw [qa] at h
    intro v1 H1 F1 x
    obtain ⟨G, F0, eF, p, x', hd, n1, nw⟩ := x.head
    refine ⟨e1, F0, x'.r, x'.nd, ?_⟩
    cases qb : nb' e1 with
    | bad => simp only [Re.bind, qb] at h
    | exc y e2 =>
      simp only [Re.bind, qb] at h
      exact fun c dx H' F' y p => h c dx H' F' (x'.trans y) p
    | ok b e2 =>
      simp only [Re.bind, qb] at h
      intro v2 H2 F2 y
      obtain ⟨G2, F3, eF2, p2, y2, hd2, n2, nw2⟩ := y.head
      cases qf : f a b with
      | none => rw [qf] at h; exact h.elim
      | some d =>
        rw [qf] at h
        exact o (p.keep y.k hd) p2 qf fun v H' G' k p' n1' n2' => h v H' _ ((x'.trans y2).consNew k p' n1' n2')
theorem op_ve {i : Nat} (o : OpN K r f) (h : tE K W (binV f i nb') σ H Q) : tOp r (tVar i) (tE K W nb') σ H Q := by
  obtain ⟨e, F, rl, nd, h⟩ := h
  unfold binV at h
  cases q : e[i]? with
  | none => rw [q] at h; exact h.elim
  | some oo =>
    rw [q] at h
    cases oo with
    | none => exact h.elim
    | some d0 =>
      obtain ⟨v1, G0, hs, _, _⟩ := rl.get q
      refine ⟨v1, hs, e, F, rl, nd, ?_⟩
      cases qb : nb' e with
      | bad => simp only [Re.bind, qb] at h
      | exc y e2 =>
        simp only [Re.bind, qb] at h
        exact fun c dx H' F' y p => h c dx H' F' y p
      | ok b e2 =>
        simp only [Re.bind, qb] at h
        intro v2 H2 F2 y
        obtain ⟨G2, F3, eF2, p2, y2, hd2, n2, nw2⟩ := y.head
        cases q2 : e2[i]? with
        | none => rw [q2] at h; exact h.elim
        | some o2 =>
          rw [q2] at h
          cases o2 with
          | none => exact h.elim
          | some a =>
            obtain ⟨v1', G1, hs', p1, _⟩ := y2.r.get q2
            rw [hs] at hs'; cases hs'
            simp only at h
            cases qf : f a b with
            | none => rw [qf] at h; exact h.elim
            | some d =>
              rw [qf] at h
              exact o p1 p2 qf fun v H' G' k p' n1' n2' => h v H' _ (y2.consNew k p' n1' n2')
end
end Mir

namespace Mir
open PySem PySem.Spec L2

/-! ### data as the library's -/
mutual
def D.py : D → PyData
  | .non => .none
  | .bl b => .bool b
  | .int i => .int i
  | .str s => .str ⟨s.toArray⟩
  | .tup ds => .tuple (D.pys ds)
  | .lst ds => .list (D.pys ds)
  | .rol ds => .list (D.pys ds)
  | _ => .none
def D.pys : List D → List PyData
  | [] => []
  | d :: ds => d.py :: D.pys ds
end
/-- plain data of this depth -/
def sh : Nat → D → Bool
  | 0, d => match d with
    | .non => true
    | .bl _ => true
    | .int _ => true
    | .str _ => true
    | _ => false
  | n + 1, d => match d with
    | .non => true
    | .bl _ => true
    | .int _ => true
    | .str _ => true
    | .tup ds => ds.all (sh n)
    | .lst ds => ds.all (sh n)
    | .rol ds => ds.all (sh n)
    | _ => false
@[simp] theorem sh_non (n : Nat) : sh n .non = true := by cases n <;> rfl
@[simp] theorem sh_bl (n : Nat) (b : Bool) : sh n (.bl b) = true := by cases n <;> rfl
@[simp] theorem sh_int (n : Nat) (i : Int) : sh n (.int i) = true := by cases n <;> rfl
@[simp] theorem sh_str (n : Nat) (s : List Nat) : sh n (.str s) = true := by cases n <;> rfl
@[simp] theorem sh_tup (n : Nat) (ds : List D) : sh (n + 1) (.tup ds) = ds.all (sh n) := rfl
@[simp] theorem sh_lst (n : Nat) (ds : List D) : sh (n + 1) (.lst ds) = ds.all (sh n) := rfl
theorem sh_mono : ∀ {n : Nat} {d : D}, sh n d = true → sh (n + 1) d = true
  | 0, d, h => by cases d <;> first | rfl | (simp [sh] at h)
  | n + 1, d, h => by
    cases d with
    | tup ds => exact List.all_eq_true.mpr fun x m => sh_mono (List.all_eq_true.mp (show ds.all (sh n) = true from h) x m)
    | lst ds => exact List.all_eq_true.mpr fun x m => sh_mono (List.all_eq_true.mp (show ds.all (sh n) = true from h) x m)
    | rol ds => exact List.all_eq_true.mpr fun x m => sh_mono (List.all_eq_true.mp (show ds.all (sh n) = true from h) x m)
    | _ => first | rfl | (simp [sh] at h)
section
variable {K : PySem.W.Frag} {H : Hp}
theorem pys_canLay {n : Nat} (ih : ∀ {v : V} {d : D} {F : List Addr}, Rp K H v d F → sh n d = true → d.py.canLay0 = true ∧ d.py.depth ≤ n ∧ Dp K H v d.py) :
    ∀ {ds : List D} {vs : List V} {F : List Addr}, Rps K H vs ds F → ds.all (sh n) = true → PyData.canLayAll0 (D.pys ds) = true ∧ PyData.depthAll (D.pys ds) ≤ n ∧ DpAll K H vs (D.pys ds)
  | [], _, _, r, _ => by
    cases r
    simp only [D.pys, PyData.canLayAll0, PyData.depthAll]
    exact ⟨trivial, Nat.zero_le _, .nil⟩
  | d :: ds, _, _, r, h => by
    cases r with
    | cons p r =>
      obtain ⟨h1, h2⟩ := Bool.and_eq_true_iff.mp (show (sh n d && ds.all (sh n)) = true from h)
      obtain ⟨a1, a2, a3⟩ := ih p h1
      obtain ⟨b1, b2, b3⟩ := pys_canLay ih r h2
      simp only [D.pys, PyData.canLayAll0, PyData.depthAll, a1, b1]
      exact ⟨rfl, Nat.max_le.mpr ⟨a2, b2⟩, .cons a3 b3⟩
theorem sh_ok : ∀ {n : Nat} {v : V} {d : D} {F : List Addr}, Rp K H v d F → sh n d = true → d.py.canLay0 = true ∧ d.py.depth ≤ n ∧ Dp K H v d.py
  | n, _, _, _, .non, _ => by simp only [D.py, PyData.canLay0, PyData.depth]; exact ⟨trivial, Nat.zero_le _, .non⟩
  | n, _, _, _, .bl, _ => by simp only [D.py, PyData.canLay0, PyData.depth]; exact ⟨trivial, Nat.zero_le _, .bl _⟩
  | n, _, _, _, .int, _ => by simp only [D.py, PyData.canLay0, PyData.depth]; exact ⟨trivial, Nat.zero_le _, .int _⟩
  | n, _, _, _, .str (x := x) h, _ => by
    have e : (⟨x.cps.toList.toArray⟩ : Str) = x := by cases x; simp
    simp only [D.py, PyData.canLay0, PyData.depth, e]
    exact ⟨h, Nat.zero_le _, .str _⟩
  | 0, _, _, _, .raw, h => by simp [sh] at h
  | n + 1, _, _, _, .raw, h => by simp [sh] at h
  | 0, _, _, _, .tup q r, h => by simp [sh] at h
  | n + 1, _, _, _, .tup q r, h => by
    obtain ⟨a1, a2, a3⟩ := pys_canLay (fun p z => sh_ok (n := n) p z) r h
    simp only [D.py, PyData.canLay0, PyData.depth]
    exact ⟨a1, Nat.succ_le_succ a2, .tup q.sq a3⟩
  | 0, _, _, _, .lst q r, h => by simp [sh] at h
  | n + 1, _, _, _, .lst q r, h => by
    obtain ⟨a1, a2, a3⟩ := pys_canLay (fun p z => sh_ok (n := n) p z) r h
    simp only [D.py, PyData.canLay0, PyData.depth]
    exact ⟨a1, Nat.succ_le_succ a2, .lst (.of q) a3⟩
  | 0, _, _, _, .rol q r, h => by simp [sh] at h
  | n + 1, _, _, _, .rol q r, h => by
    obtain ⟨a1, a2, a3⟩ := pys_canLay (fun p z => sh_ok (n := n) p z) r h
    simp only [D.py, PyData.canLay0, PyData.depth]
    exact ⟨a1, Nat.succ_le_succ a2, .lst q.sq a3⟩
  | 0, _, _, _, .dct q c r, h => by simp [sh] at h
  | 0, _, _, _, .rdc q c r, h => by simp [sh] at h
  | 0, _, _, _, .ins q c z r, h => by simp [sh] at h
  | n + 1, _, _, _, .dct q c r, h => by simp [sh] at h
  | n + 1, _, _, _, .rdc q c r, h => by simp [sh] at h
  | n + 1, _, _, _, .ins q c z r, h => by simp [sh] at h
theorem sh_shaped {n : Nat} {v : V} {d : D} {F : List Addr} (p : Rp K H v d F) (h : sh n d = true) (hn : n ≤ 64) : SeqAt.shaped d.py = true ∧ Dp K H v d.py := by
  obtain ⟨a, b, c⟩ := sh_ok p h
  exact ⟨Bool.and_eq_true_iff.mpr ⟨a, decide_eq_true (Nat.le_trans b hn)⟩, c⟩
end
/-- == -/
@[irreducible] def D.eqv (a b : D) : Bool := PyData.eqv a.py b.py
theorem D.eqv_def (a b : D) : D.eqv a b = PyData.eqv a.py b.py := by unfold D.eqv; rfl

section
variable {K : PySem.W.Frag} {H : Hp}
theorem rp_str {x : Str} {s : List Nat} (h : x.cps.all (· < 0x110000) = true) (e : x.cps.toList = s) : Rp K H (.str x) (.str s) [] := by subst e; exact .str h
theorem Rp.same0 {v : V} {d : D} {Q : VK} (h : ∀ v H' G, Keeps [] H H' → Rp K H' v d G → G.Nodup → (∀ a ∈ G, H a = none) → Q v H') (p : Rp K H v d []) : Q v H :=
  h v H [] (.refl _ _) p .nil fun _ m => by cases m
end
def fits (n : Nat) : Bool := decide (n ≤ sizeLine)
def fAdd : D → D → Option D
  | .int i, .int j => some (.int (i + j))
  | .str s, .str t => if fits (s.length + t.length) = true then some (.str (s ++ t)) else none
  | .lst a, .lst b => if imms a = true ∧ imms b = true ∧ fits (a.length + b.length) = true then some (.lst (a ++ b)) else none
  | .tup a, .tup b => if imms a = true ∧ imms b = true ∧ fits (a.length + b.length) = true then some (.tup (a ++ b)) else none
  | .lst a, .rol b => if imms a = true ∧ imms b = true ∧ fits (a.length + b.length) = true then some (.lst (a ++ b)) else none
  | .rol a, .lst b => if imms a = true ∧ imms b = true ∧ fits (a.length + b.length) = true then some (.lst (a ++ b)) else none
  | .rol a, .rol b => if imms a = true ∧ imms b = true ∧ fits (a.length + b.length) = true then some (.lst (a ++ b)) else none
  | _, _ => none
def fSub : D → D → Option D
  | .int i, .int j => some (.int (i - j))
  | _, _ => none
def big64 (i : Int) : Bool := decide (-(2 ^ 64) < i ∧ i < 2 ^ 64)
def fMul : D → D → Option D
  | .int i, .int j => if (big64 i || big64 j) = true then some (.int (i * j)) else none
  | .str s, .int n => if -16777216 ≤ n ∧ n ≤ 16777216 ∧ fits (s.length * n.toNat) = true then some (.str (List.replicate n.toNat s).flatten) else none
  | .lst a, .int n => if 0 ≤ n ∧ n ≤ 16777216 ∧ imms a = true ∧ fits (a.length * n.toNat) = true then some (.lst (List.replicate n.toNat a).flatten) else none
  | _, _ => none
def fDiv : D → D → Option D
  | .int i, .int j => if 0 < j ∧ j < 1073741824 then some (.int (i / j)) else none
  | _, _ => none
def fMod : D → D → Option D
  | .int i, .int j => if 0 < j then some (.int (i % j)) else none
  | _, _ => none
def fPow : D → D → Option D
  | .int i, .int j => if 0 ≤ j ∧ j ≤ 1000000 ∧ i.natAbs < 2 ^ 64 then some (.int (i ^ j.toNat)) else none
  | _, _ => none
def fEq (a b : D) : Option D := if sh 40 a = true ∧ sh 40 b = true then some (.bl (D.eqv a b)) else none
def fNe (a b : D) : Option D := if sh 40 a = true ∧ sh 40 b = true then some (.bl (!D.eqv a b)) else none
def fLt : D → D → Option D
  | .int i, .int j => some (.bl (decide (i < j)))
  | .str s, .str t => some (.bl (decide (s < t)))
  | _, _ => none
def fLe : D → D → Option D
  | .int i, .int j => some (.bl (decide (i ≤ j)))
  | .str s, .str t => some (.bl (!decide (t < s)))
  | _, _ => none
def fGt : D → D → Option D
  | .int i, .int j => some (.bl (decide (j < i)))
  | .str s, .str t => some (.bl (decide (t < s)))
  | _, _ => none
def fGe : D → D → Option D
  | .int i, .int j => some (.bl (decide (j ≤ i)))
  | .str s, .str t => some (.bl (!decide (s < t)))
  | _, _ => none
def isNon : D → Bool
  | .non => true
  | _ => false
def fIsN : D → D → Option D
  | d, .non => match d with
    | .raw _ => none
    | d => some (.bl (isNon d))
  | _, _ => none
def fIsntN : D → D → Option D
  | d, .non => match d with
    | .raw _ => none
    | d => some (.bl (!isNon d))
  | _, _ => none
def anyEq (ds : List D) (d : D) : Bool := ds.any fun z => D.eqv z d
def fIn : D → D → Option D
  | .str s, .str t => match s with
    | [c] => some (.bl (decide (c ∈ t)))
    | _ => none
  | d, .tup ds => if sh 39 d = true ∧ sh 40 (.tup ds) = true then some (.bl (anyEq ds d)) else none
  | d, .lst ds => if sh 39 d = true ∧ sh 40 (.lst ds) = true then some (.bl (anyEq ds d)) else none
  | _, _ => none
def fNotIn : D → D → Option D
  | .str s, .str t => match s with
    | [c] => some (.bl (!decide (c ∈ t)))
    | _ => none
  | d, .tup ds => if sh 39 d = true ∧ sh 40 (.tup ds) = true then some (.bl (!anyEq ds d)) else none
  | d, .lst ds => if sh 39 d = true ∧ sh 40 (.lst ds) = true then some (.bl (!anyEq ds d)) else none
  | _, _ => none
def fIx : D → D → Option D
  | .tup ds, .int i => atI ds i
  | .lst ds, .int i => atI ds i
  | .rol ds, .int i => atI ds i
  | .str s, .int i => if fits s.length = true then (atI s i).map fun c => .str [c] else none
  | _, _ => none

theorem okC_append {x y : Str} (h1 : x.cps.all (· < 0x110000) = true) (h2 : y.cps.all (· < 0x110000) = true) : (x ++ y).cps.all (· < 0x110000) = true := by
  rw [← Array.all_toList] at h1 h2 ⊢
  have e : (x ++ y).cps.toList = x.cps.toList ++ y.cps.toList := by
    show (x.cps ++ y.cps).toList = _
    simp
  rw [e, List.all_append, h1, h2]
  rfl
theorem toList_append (x y : Str) : (x ++ y).cps.toList = x.cps.toList ++ y.cps.toList := by
  show (x.cps ++ y.cps).toList = _
  simp
theorem imms_append {a b : List D} : imms (a ++ b) = (imms a && imms b) := by rw [imms_all, imms_all, imms_all, List.all_append]
theorem fits_le {n : Nat} (h : fits n = true) : n ≤ sizeLine := of_decide_eq_true h
theorem Rps.rep {K : PySem.W.Frag} {H : Hp} {vs : List V} {ds : List D} (r : Rps K H vs ds []) : ∀ n : Nat, Rps K H (List.replicate n vs).flatten (List.replicate n ds).flatten []
  | 0 => .nil
  | n + 1 => by
    rw [List.replicate_succ, List.replicate_succ, List.flatten_cons, List.flatten_cons]
    exact Rps.append r (Rps.rep r n)

section
variable {X : Cx}
/-- list + list, of any kind -/
def rCatS (K : PySem.W.Frag) : R2 := fun x y H Q => ∃ l b xs zs, x = .ref l ∧ y = .ref b ∧ SqL K H l xs ∧ SqL K H b zs ∧ xs.length + zs.length ≤ sizeLine ∧ ∀ p, H p = none → Q (.ref p) (upd H p (.lst (xs ++ zs)))
theorem op_catS : OpR X (binaryOp .Add) (rCatS X.K) := by
  intro pins s σ H x y v u Q I rx ry h
  obtain ⟨l, b, xs, zs, rfl, rfl, hH, hB, hz, q⟩ := h
  cases rx
  cases ry
  obtain ⟨its, r, ⟨⟨cls, dd, data, sl⟩, n, e, hc, hd, hs⟩, z⟩ := I.list hH
  obtain ⟨its2, r2, ⟨⟨cls2, dd2, data2, sl2⟩, n2, e2, hc2, hd2, hs2⟩, z2⟩ := I.list hB
  simp only at hc hd hs hc2 hd2 hs2
  subst hc hd hs hc2 hd2 hs2
  have hl := r.length
  have hl2 := r2.length
  refine PySem.concat_meets ⟨_, e, rfl⟩ ⟨_, e2, rfl⟩ PySem.noFill_list_add PySem.seq_list_add PySem.F.slot_list_add PySem.F.entry_list_add (PySem.F.args_list_add_2 _ _) (PyProof.Rows.list_addW l b its.toArray its2.toArray n n2 none none sl sl2 (by rw [List.size_toArray, List.size_toArray]; omega)) ⟨e, e2, ?_⟩
  have ea : its.toArray ++ its2.toArray = (its ++ its2).toArray := by simp
  rw [ea]
  exact ⟨.ref _, _, I.lnew (t' := s.toks) (r.append r2) (by rw [List.length_append]; omega), rfl, q _ I.fresh⟩
abbrev rAddA (K : PySem.W.Frag) : R2 := fun x y H Q => (rI0 fun i j => .int (i + j)) x y H Q ∨ (∃ i j, x = .str i ∧ y = .str j ∧ i.length + j.length ≤ sizeLine ∧ Q (.str (i ++ j)) H) ∨ rCatS K x y H Q ∨ rCatA K x y H Q
theorem o_add : OpR X (binaryOp .Add) (rAddA X.K) := op_add.or (op_add_str.or (op_catS.or op_catA))
theorem n_add {K : PySem.W.Frag} : OpN K (rAddA K) fAdd := by
  intro H v1 v2 d1 d2 G1 G2 d Q p1 p2 e h
  unfold fAdd at e
  split at e
  · cases e; cases p1; cases p2
    exact .inl ⟨_, _, rfl, rfl, Rp.same0 h .int⟩
  · split at e
    · rename_i hf
      cases e; cases p1; cases p2
      rename_i x hx y hy
      refine .inr (.inl ⟨_, _, rfl, rfl, ?_, Rp.same0 h (rp_str (okC_append hx hy) (toList_append _ _))⟩)
      simpa [Str.length] using fits_le hf
    · cases e
  · split at e
    · rename_i hf
      cases e
      cases p1 with | lst ha ra => ?_
      cases p2 with | lst hb rb => ?_
      have e1 := Rps.fpImm ra hf.1
      have e2 := Rps.fpImm rb hf.2.1
      subst e1 e2
      refine .inr (.inr (.inl ⟨_, _, _, _, rfl, rfl, .of ha, .of hb, by rw [ra.length, rb.length]; exact fits_le hf.2.2, fun p hp => ?_⟩))
      refine h _ _ [p] (.new hp _) (.lst upd_same ((ra.append rb).same (.new hp _))) (by simp) fun a m => ?_
      rw [List.mem_singleton.mp m]; exact hp
    · cases e
  · split at e
    · rename_i hf
      cases e
      cases p1 with | tup ha ra => ?_
      cases p2 with | tup hb rb => ?_
      have e1 := Rps.fpImm ra hf.1
      have e2 := Rps.fpImm rb hf.2.1
      subst e1 e2
      refine .inr (.inr (.inr ⟨_, _, _, _, rfl, rfl, ha.sq, hb.sq, by rw [ra.length, rb.length]; exact fits_le hf.2.2, fun z => ?_, fun _ z => ?_, fun _ _ p hp => ?_⟩))
      · subst z
        cases ra
        exact Rp.same0 h (.tup hb rb)
      · subst z
        cases rb
        exact Rp.same0 h (by rw [List.append_nil]; exact .tup ha ra)
      · exact h _ _ [] (.new hp _) (.tup (.of upd_same) ((ra.append rb).same (.new hp _))) .nil fun a m => by cases m
    · cases e
  · split at e
    · rename_i hf
      cases e
      cases p1 with | lst ha ra => ?_
      cases p2 with | rol hb rb => ?_
      have e1 := Rps.fpImm ra hf.1
      have e2 := Rps.fpImm rb hf.2.1
      subst e1
      refine .inr (.inr (.inl ⟨_, _, _, _, rfl, rfl, .of ha, hb.sq, by rw [ra.length, rb.length]; exact fits_le hf.2.2, fun p hp => ?_⟩))
      refine h _ _ [p] (.new hp _) (.lst upd_same ((ra.append rb).same (.new hp _))) (by simp) fun a m => ?_
      rw [List.mem_singleton.mp m]; exact hp
    · cases e
  · split at e
    · rename_i hf
      cases e
      cases p1 with | rol ha ra => ?_
      cases p2 with | lst hb rb => ?_
      have e1 := Rps.fpImm ra hf.1
      have e2 := Rps.fpImm rb hf.2.1
      subst e2
      refine .inr (.inr (.inl ⟨_, _, _, _, rfl, rfl, ha.sq, .of hb, by rw [ra.length, rb.length]; exact fits_le hf.2.2, fun p hp => ?_⟩))
      refine h _ _ [p] (.new hp _) (.lst upd_same ((ra.append rb).same (.new hp _))) (by simp) fun a m => ?_
      rw [List.mem_singleton.mp m]; exact hp
    · cases e
  · split at e
    · rename_i hf
      cases e
      cases p1 with | rol ha ra => ?_
      cases p2 with | rol hb rb => ?_
      have e1 := Rps.fpImm ra hf.1
      have e2 := Rps.fpImm rb hf.2.1
      refine .inr (.inr (.inl ⟨_, _, _, _, rfl, rfl, ha.sq, hb.sq, by rw [ra.length, rb.length]; exact fits_le hf.2.2, fun p hp => ?_⟩))
      refine h _ _ [p] (.new hp _) (.lst upd_same ((ra.append rb).same (.new hp _))) (by simp) fun a m => ?_
      rw [List.mem_singleton.mp m]; exact hp
    · cases e
  · cases e
theorem n_sub {K : PySem.W.Frag} : OpN K (rI0 fun i j => .int (i - j)) fSub := by
  intro H v1 v2 d1 d2 G1 G2 d Q p1 p2 e h
  unfold fSub at e
  split at e
  · cases e; cases p1; cases p2
    exact ⟨_, _, rfl, rfl, Rp.same0 h .int⟩
  · cases e
/-- text times a number -/
def rMulS : R2 := fun x y H Q => ∃ z n, x = .str z ∧ y = .int n ∧ -16777216 ≤ n ∧ n ≤ 16777216 ∧ z.length * n.toNat ≤ sizeLine ∧ Q (.str ⟨(List.replicate n.toNat z.cps.toList).flatten.toArray⟩) H
theorem foldl_cat (c : Array Nat) : ∀ (n : Nat) (acc : Array Nat), ((List.replicate n c).foldl (· ++ ·) acc).toList = acc.toList ++ (List.replicate n c.toList).flatten
  | 0, acc => by simp
  | n + 1, acc => by
    rw [List.replicate_succ, List.foldl_cons, foldl_cat c n, List.replicate_succ, List.flatten_cons]
    simp
theorem o_mulS : OpR X (binaryOp .Mult) rMulS := by
  intro pins s σ H x y v u Q I rx ry h
  obtain ⟨z, n, rfl, rfl, h0, hb, hz, q⟩ := h
  obtain ⟨t, rfl⟩ := rx
  obtain ⟨t', rfl⟩ := ry
  have hsl := sizeLine_eq
  have e : Txt.mul z n = ⟨(List.replicate n.toNat z.cps.toList).flatten.toArray⟩ := by
    unfold Txt.mul
    by_cases h1 : n < 1
    · rw [if_pos h1]
      have : n.toNat = 0 := by omega
      rw [this]
      rfl
    · rw [if_neg h1]
      by_cases h2 : (n == 1 || z.length == 0) = true
      · rw [if_pos h2]
        rcases Bool.or_eq_true_iff.mp h2 with h3 | h3
        · have e3 : n = 1 := eq_of_beq h3
          subst e3
          cases z
          simp
        · have e3 : z.cps.size = 0 := eq_of_beq h3
          have e4 : z.cps.toList = [] := by
            rw [← List.length_eq_zero_iff, Array.length_toList]; exact e3
          rw [e4]
          have e5 : z = ⟨#[]⟩ := by
            cases z
            rename_i c
            congr 1
            exact Array.eq_empty_of_size_eq_zero e3
          rw [e5]
          simp
      · rw [if_neg h2]
        congr 1
        rw [← Array.toList_inj, foldl_cat]
        simp
  refine SB.mul (n := n) ⟨?_, fun h1 h2 => ?_, fun h1 h2 => ?_⟩ fun t2 k => ?_
  · have a1 : ¬ n < -(2 ^ 63 : Int) := by omega
    have a2 : ¬ n ≥ 2 ^ 63 := by omega
    rw [decide_eq_false a1, decide_eq_false a2]; rfl
  · have h0 : 0 ≤ n := by omega
    have hn1 : (z.length : Int) * n ≤ 16777216 := by
      have : ((z.length * n.toNat : Nat) : Int) ≤ 16777216 := by omega
      rw [Int.natCast_mul, Int.toNat_of_nonneg h0] at this
      exact this
    have hn2 : (z.length : Int) ≤ (2 ^ 63 - 1) / n := by
      refine Int.le_ediv_of_mul_le (by omega) (by omega)
    omega
  · show decide _ = false
    exact decide_eq_false (by omega)
  · rw [e]
    exact ⟨.str _, H, I.tok _, ⟨_, rfl⟩, q⟩
abbrev rMulA : R2 := fun x y H Q => (rI CMul fun i j => .int (i * j)) x y H Q ∨ rMulS x y H Q ∨ rRep x y H Q
theorem o_mul : OpR X (binaryOp .Mult) rMulA := op_mul.or (o_mulS.or op_rep)
theorem okC_flat {l : List Nat} (h : ∀ c ∈ l, c < 0x110000) (n : Nat) : ∀ c ∈ (List.replicate n l).flatten, c < 0x110000 := fun c m => by
  obtain ⟨x, hx, hc⟩ := List.mem_flatten.mp m
  rw [List.eq_of_mem_replicate hx] at hc
  exact h c hc
theorem n_mul {K : PySem.W.Frag} : OpN K rMulA fMul := by
  intro H v1 v2 d1 d2 G1 G2 d Q p1 p2 e h
  have hsl := sizeLine_eq
  unfold fMul at e
  split at e
  · split at e
    · rename_i hf
      cases e; cases p1; cases p2
      refine .inl ⟨_, _, rfl, rfl, ?_, Rp.same0 h .int⟩
      exact (Bool.or_eq_true_iff.mp hf).imp of_decide_eq_true of_decide_eq_true
    · cases e
  · split at e
    · rename_i hf
      cases e; cases p1; cases p2
      rename_i x hx
      refine .inr (.inl ⟨_, _, rfl, rfl, hf.1, hf.2.1, ?_, Rp.same0 h (rp_str (okC_of (okC_flat (okC_mem hx) _)) rfl)⟩)
      simpa [Str.length] using fits_le hf.2.2
    · cases e
  · split at e
    · rename_i hf
      cases e
      cases p1 with | lst ha ra => ?_
      cases p2
      have e1 := Rps.fpImm ra hf.2.2.1
      subst e1
      refine .inr (.inr ⟨_, _, _, rfl, rfl, ha, by omega, by omega, by rw [ra.length]; exact fits_le hf.2.2.2, fun p hp => ?_⟩)
      refine h _ _ [p] (.new hp _) (.lst upd_same ((ra.rep _).same (.new hp _))) (by simp) fun a m => ?_
      rw [List.mem_singleton.mp m]; exact hp
    · cases e
  · cases e
theorem n_div {K : PySem.W.Frag} : OpN K (rI CDiv fun i j => .int (i / j)) fDiv := by
  intro H v1 v2 d1 d2 G1 G2 d Q p1 p2 e h
  unfold fDiv at e
  split at e
  · split at e
    · rename_i hf
      cases e; cases p1; cases p2
      exact ⟨_, _, rfl, rfl, hf, Rp.same0 h .int⟩
    · cases e
  · cases e
theorem n_mod {K : PySem.W.Frag} : OpN K (rI (fun _ j => 0 < j) fun i j => .int (i % j)) fMod := by
  intro H v1 v2 d1 d2 G1 G2 d Q p1 p2 e h
  unfold fMod at e
  split at e
  · split at e
    · rename_i hf
      cases e; cases p1; cases p2
      exact ⟨_, _, rfl, rfl, hf, Rp.same0 h .int⟩
    · cases e
  · cases e
theorem n_pow {K : PySem.W.Frag} : OpN K (rI CPow fun i j => .int (i ^ j.toNat)) fPow := by
  intro H v1 v2 d1 d2 G1 G2 d Q p1 p2 e h
  unfold fPow at e
  split at e
  · split at e
    · rename_i hf
      cases e; cases p1; cases p2
      exact ⟨_, _, rfl, rfl, hf, Rp.same0 h .int⟩
    · cases e
  · cases e
theorem n_eq {K : PySem.W.Frag} : OpN K (rEqD K) fEq := by
  intro H v1 v2 d1 d2 G1 G2 d Q p1 p2 e h
  unfold fEq at e
  split at e
  · rename_i hf
    cases e
    obtain ⟨s1, q1⟩ := sh_shaped p1 hf.1 (by decide)
    obtain ⟨s2, q2⟩ := sh_shaped p2 hf.2 (by decide)
    exact ⟨_, _, q1, q2, s1, s2, by have z := Rp.same0 h .bl; rw [D.eqv_def] at z; exact z⟩
  · cases e
theorem n_ne {K : PySem.W.Frag} : OpN K (rNeD K) fNe := by
  intro H v1 v2 d1 d2 G1 G2 d Q p1 p2 e h
  unfold fNe at e
  split at e
  · rename_i hf
    cases e
    obtain ⟨s1, q1⟩ := sh_shaped p1 hf.1 (by decide)
    obtain ⟨s2, q2⟩ := sh_shaped p2 hf.2 (by decide)
    exact ⟨_, _, q1, q2, s1, s2, by have z := Rp.same0 h .bl; rw [D.eqv_def] at z; exact z⟩
  · cases e
abbrev rLtA : R2 := fun x y H Q => (rI0 fun i j => .bl (decide (i < j))) x y H Q ∨ ∃ i j, x = .str i ∧ y = .str j ∧ Q (.bl (decide (i.cps.toList < j.cps.toList))) H
abbrev rLeA : R2 := fun x y H Q => (rI0 fun i j => .bl (decide (i ≤ j))) x y H Q ∨ ∃ i j, x = .str i ∧ y = .str j ∧ Q (.bl (!decide (j.cps.toList < i.cps.toList))) H
abbrev rGtA : R2 := fun x y H Q => (rI0 fun i j => .bl (decide (j < i))) x y H Q ∨ ∃ i j, x = .str i ∧ y = .str j ∧ Q (.bl (decide (j.cps.toList < i.cps.toList))) H
abbrev rGeA : R2 := fun x y H Q => (rI0 fun i j => .bl (decide (j ≤ i))) x y H Q ∨ ∃ i j, x = .str i ∧ y = .str j ∧ Q (.bl (!decide (i.cps.toList < j.cps.toList))) H
theorem o_lt : OpR X (compareOp .Lt) rLtA := op_lt.or op_lt_str
theorem o_le : OpR X (compareOp .LtE) rLeA := op_le.or op_le_str
theorem o_gt : OpR X (compareOp .Gt) rGtA := op_gt.or op_gt_str
theorem o_ge : OpR X (compareOp .GtE) rGeA := op_ge.or op_ge_str
theorem n_lt {K : PySem.W.Frag} : OpN K rLtA fLt := by
  intro H v1 v2 d1 d2 G1 G2 d Q p1 p2 e h
  unfold fLt at e
  split at e
  · cases e; cases p1; cases p2; exact .inl ⟨_, _, rfl, rfl, Rp.same0 h .bl⟩
  · cases e; cases p1; cases p2; exact .inr ⟨_, _, rfl, rfl, Rp.same0 h .bl⟩
  · cases e
theorem n_le {K : PySem.W.Frag} : OpN K rLeA fLe := by
  intro H v1 v2 d1 d2 G1 G2 d Q p1 p2 e h
  unfold fLe at e
  split at e
  · cases e; cases p1; cases p2; exact .inl ⟨_, _, rfl, rfl, Rp.same0 h .bl⟩
  · cases e; cases p1; cases p2; exact .inr ⟨_, _, rfl, rfl, Rp.same0 h .bl⟩
  · cases e
theorem n_gt {K : PySem.W.Frag} : OpN K rGtA fGt := by
  intro H v1 v2 d1 d2 G1 G2 d Q p1 p2 e h
  unfold fGt at e
  split at e
  · cases e; cases p1; cases p2; exact .inl ⟨_, _, rfl, rfl, Rp.same0 h .bl⟩
  · cases e; cases p1; cases p2; exact .inr ⟨_, _, rfl, rfl, Rp.same0 h .bl⟩
  · cases e
theorem n_ge {K : PySem.W.Frag} : OpN K rGeA fGe := by
  intro H v1 v2 d1 d2 G1 G2 d Q p1 p2 e h
  unfold fGe at e
  split at e
  · cases e; cases p1; cases p2; exact .inl ⟨_, _, rfl, rfl, Rp.same0 h .bl⟩
  · cases e; cases p1; cases p2; exact .inr ⟨_, _, rfl, rfl, Rp.same0 h .bl⟩
  · cases e
theorem n_isN {K : PySem.W.Frag} : OpN K (fun x y H Q => y = .non ∧ Q (.bl (decide (x = .non))) H) fIsN := by
  intro H v1 v2 d1 d2 G1 G2 d Q p1 p2 e h
  unfold fIsN at e
  split at e
  · split at e
    · cases e
    · rename_i hne
      cases e; cases p2
      refine ⟨rfl, ?_⟩
      have q : decide (v1 = .non) = Mir.isNon d1 := by
        cases p1 <;> first | rfl | exact absurd rfl (hne _)
      rw [q]
      exact Rp.same0 h .bl
  · cases e
theorem n_isntN {K : PySem.W.Frag} : OpN K (fun x y H Q => y = .non ∧ Q (.bl (!decide (x = .non))) H) fIsntN := by
  intro H v1 v2 d1 d2 G1 G2 d Q p1 p2 e h
  unfold fIsntN at e
  split at e
  · split at e
    · cases e
    · rename_i hne
      cases e; cases p2
      refine ⟨rfl, ?_⟩
      have q : decide (v1 = .non) = Mir.isNon d1 := by
        cases p1 <;> first | rfl | exact absurd rfl (hne _)
      rw [q]
      exact Rp.same0 h .bl
  · cases e
end
end Mir

namespace Mir
open PySem PySem.Spec L2

/-! ### in, is, places -/
section
variable {X : Cx}
def rInT (K : PySem.W.Frag) (neg : Bool) : R2 := fun x y H Q => ∃ d ds, Dp K H x d ∧ Dp K H y (.tuple ds) ∧ SeqAt.shaped d = true ∧ SeqAt.shaped (.tuple ds) = true ∧ Q (.bl (if neg then !ds.any fun z => PyData.eqv z d else ds.any fun z => PyData.eqv z d)) H
theorem room_tup {A : Around} {d : PyData} {xs : List PyData} (sd : SeqAt.shaped d = true) (hu : A.units + 65 < cLine) : A.units + 1 + min (PyData.depthAll xs) d.depth < cLine := by
  have h1 := SeqAt.depth_of_shaped sd
  have h2 : min (PyData.depthAll xs) d.depth ≤ d.depth := Nat.min_le_right _ _
  omega
theorem o_inT (hu : X.A.units + 65 < cLine) : OpR X (compareOp .In) (rInT X.K false) := by
  intro pins s σ H x y v u Q I rx ry h
  obtain ⟨d, ds, hd, he, sd, se, q⟩ := h
  obtain ⟨as, r1⟩ := Dp.reads I d x v hd rx
  obtain ⟨bs, r2⟩ := Dp.reads I (.tuple ds) y u he ry
  exact SeqAt.in_tuple_reads r2 r1 (SeqAt.canLay_of_shaped se) (SeqAt.canLay_of_shaped sd) (room_tup sd hu) ⟨.bl _, H, I, rfl, q⟩
theorem o_notInT (hu : X.A.units + 65 < cLine) : OpR X (compareOp .NotIn) (rInT X.K true) := by
  intro pins s σ H x y v u Q I rx ry h
  obtain ⟨d, ds, hd, he, sd, se, q⟩ := h
  obtain ⟨as, r1⟩ := Dp.reads I d x v hd rx
  obtain ⟨bs, r2⟩ := Dp.reads I (.tuple ds) y u he ry
  exact SeqAt.notIn_tuple_reads r2 r1 (SeqAt.canLay_of_shaped se) (SeqAt.canLay_of_shaped sd) (room_tup sd hu) ⟨.bl _, H, I, rfl, q⟩
abbrev rInA (K : PySem.W.Frag) : R2 := fun x y H Q => (∃ (c : Nat) (z : Str), x = .str ⟨#[c]⟩ ∧ y = .str z ∧ Q (.bl (decide (c ∈ z.cps.toList))) H) ∨ rInT K false x y H Q ∨ rInD K x y H Q
abbrev rNotInA (K : PySem.W.Frag) : R2 := fun x y H Q => (∃ (c : Nat) (z : Str), x = .str ⟨#[c]⟩ ∧ y = .str z ∧ Q (.bl (!decide (c ∈ z.cps.toList))) H) ∨ rInT K true x y H Q ∨ rNotInD K x y H Q
theorem o_in (hu : X.A.units + 65 < cLine) : OpR X (compareOp .In) (rInA X.K) := op_in_sign.or ((o_inT hu).or (op_inD hu))
theorem o_notIn (hu : X.A.units + 65 < cLine) : OpR X (compareOp .NotIn) (rNotInA X.K) := op_notIn_sign.or ((o_notInT hu).or (op_notInD hu))
theorem any_pys (d : D) : ∀ ds : List D, ((D.pys ds).any fun z => PyData.eqv z d.py) = anyEq ds d
  | [] => rfl
  | x :: ds => by
    simp only [D.pys, List.any_cons, anyEq, D.eqv_def]
    rw [any_pys d ds]
    simp only [anyEq, D.eqv_def]
theorem str_one {x : Str} {c : Nat} (h : x.cps.toList = [c]) : x = ⟨#[c]⟩ := by
  cases x
  congr 1
  rw [← Array.toList_inj]
  simpa using h
theorem n_in {K : PySem.W.Frag} : OpN K (rInA K) fIn := by
  intro H v1 v2 d1 d2 G1 G2 d Q p1 p2 e h
  unfold fIn at e
  split at e
  · split at e
    · rename_i c
      cases e; cases p2
      generalize hs : ([c] : List Nat) = s at p1
      cases p1 with | str hx => ?_
      exact .inl ⟨c, _, by rw [str_one hs.symm], rfl, Rp.same0 h .bl⟩
    · cases e
  · split at e
    · rename_i hf
      cases e
      obtain ⟨s1, q1⟩ := sh_shaped p1 hf.1 (by decide)
      obtain ⟨s2, q2⟩ := sh_shaped p2 hf.2 (by decide)
      refine .inr (.inl ⟨_, _, q1, q2, s1, s2, ?_⟩)
      have z := Rp.same0 h .bl
      rw [← any_pys] at z
      exact z
    · cases e
  · split at e
    · rename_i hf
      cases e
      obtain ⟨s1, q1⟩ := sh_shaped p1 hf.1 (by decide)
      obtain ⟨s2, q2⟩ := sh_shaped p2 hf.2 (by decide)
      refine .inr (.inr ⟨_, _, q1, q2, s1, s2, ?_⟩)
      have z := Rp.same0 h .bl
      rw [← any_pys] at z
      exact z
    · cases e
  · cases e
theorem n_notIn {K : PySem.W.Frag} : OpN K (rNotInA K) fNotIn := by
  intro H v1 v2 d1 d2 G1 G2 d Q p1 p2 e h
  unfold fNotIn at e
  split at e
  · split at e
    · rename_i c
      cases e; cases p2
      generalize hs : ([c] : List Nat) = s at p1
      cases p1 with | str hx => ?_
      exact .inl ⟨c, _, by rw [str_one hs.symm], rfl, Rp.same0 h .bl⟩
    · cases e
  · split at e
    · rename_i hf
      cases e
      obtain ⟨s1, q1⟩ := sh_shaped p1 hf.1 (by decide)
      obtain ⟨s2, q2⟩ := sh_shaped p2 hf.2 (by decide)
      refine .inr (.inl ⟨_, _, q1, q2, s1, s2, ?_⟩)
      have z := Rp.same0 h .bl
      rw [← any_pys] at z
      exact z
    · cases e
  · split at e
    · rename_i hf
      cases e
      obtain ⟨s1, q1⟩ := sh_shaped p1 hf.1 (by decide)
      obtain ⟨s2, q2⟩ := sh_shaped p2 hf.2 (by decide)
      refine .inr (.inr ⟨_, _, q1, q2, s1, s2, ?_⟩)
      have z := Rp.same0 h .bl
      rw [← any_pys] at z
      exact z
    · cases e
  · cases e
/-- is, is not: None and truth values -/
def fIs : D → D → Option D
  | .bl a, .bl b => some (.bl (decide (a = b)))
  | a, b => fIsN a b
def fIsnt : D → D → Option D
  | .bl a, .bl b => some (.bl (!decide (a = b)))
  | a, b => fIsntN a b
abbrev rIsA : R2 := fun x y H Q => rIsB x y H Q ∨ (y = .non ∧ Q (.bl (decide (x = .non))) H)
abbrev rIsntA : R2 := fun x y H Q => rNotB x y H Q ∨ (y = .non ∧ Q (.bl (!decide (x = .non))) H)
theorem o_is : OpR X (compareOp .Is) rIsA := op_isBl.or op_isN
theorem o_isnt : OpR X (compareOp .IsNot) rIsntA := op_notBl.or op_notN
theorem n_is {K : PySem.W.Frag} : OpN K rIsA fIs := by
  intro H v1 v2 d1 d2 G1 G2 d Q p1 p2 e h
  unfold fIs at e
  split at e
  · cases e; cases p1; cases p2; exact .inl ⟨_, _, rfl, rfl, Rp.same0 h .bl⟩
  · exact .inr (n_isN p1 p2 e h)
theorem n_isnt {K : PySem.W.Frag} : OpN K rIsntA fIsnt := by
  intro H v1 v2 d1 d2 G1 G2 d Q p1 p2 e h
  unfold fIsnt at e
  split at e
  · cases e; cases p1; cases p2; exact .inl ⟨_, _, rfl, rfl, Rp.same0 h .bl⟩
  · exact .inr (n_isntN p1 p2 e h)

theorem Rps.atI {K : PySem.W.Frag} {H : Hp} {vs : List V} {ds : List D} {F : List Addr} (r : Rps K H vs ds F) {i : Int} {d : D} (e : L2.atI ds i = some d) : ∃ v G, L2.atI vs i = some v ∧ Rp K H v d G := by
  unfold L2.atI at e ⊢
  rw [r.length]
  cases q : ixN ds.length i with
  | none => rw [q] at e; cases e
  | some j =>
    rw [q] at e
    obtain ⟨v, G, h1, h2, _⟩ := r.get (show ds[j]? = some d from e)
    exact ⟨v, G, h1, h2⟩
theorem atI_mem {α : Type} {xs : List α} {i : Int} {a : α} (h : L2.atI xs i = some a) : a ∈ xs := by
  unfold L2.atI at h
  cases q : ixN xs.length i with
  | none => rw [q] at h; cases h
  | some j => rw [q] at h; exact List.mem_of_getElem? (show xs[j]? = some a from h)
theorem b_ix {K : PySem.W.Frag} : OpB K (rIx K) fIx := by
  intro H v1 v2 d1 d2 G1 G2 d Q p1 p2 e h
  unfold fIx at e
  split at e
  · cases p2
    cases p1 with | tup ha ra => ?_
    obtain ⟨v, G, h1, h2⟩ := ra.atI e
    exact .inr (.inl ⟨_, _, _, v, rfl, rfl, ha.sq, h1, h v H G (.refl _ _) h2⟩)
  · cases p2
    cases p1 with | lst ha ra => ?_
    obtain ⟨v, G, h1, h2⟩ := ra.atI e
    exact .inl ⟨_, _, _, v, rfl, rfl, .of ha, h1, h v H G (.refl _ _) h2⟩
  · cases p2
    cases p1 with | rol ha ra => ?_
    obtain ⟨v, G, h1, h2⟩ := ra.atI e
    exact .inl ⟨_, _, _, v, rfl, rfl, ha.sq, h1, h v H G (.refl _ _) h2⟩
  · split at e
    · rename_i hf
      cases p2
      cases p1 with | str hx => ?_
      obtain ⟨c, e1, e2⟩ := Option.map_eq_some_iff.mp e
      subst e2
      refine .inr (.inr ⟨_, _, c, rfl, rfl, ?_, e1, h _ H [] (.refl _ _) (rp_str (okC_of fun z m => ?_) rfl)⟩)
      · simpa [Str.length] using fits_le hf
      · rw [List.mem_singleton.mp m]; exact okC_mem hx c (atI_mem e1)
    · cases e
  · cases e
end

/-! ### rules for two operands -/
section
variable {X : Cx} {W : WX} {a b : Expr} {pos : Pos} {ma mb : MB} {na n2 : ME} {f : D → D → Option D} {r : R2}
theorem x_op {op : Operator} (o : OpR X (binaryOp op) r) (n : OpN X.K r f) (pa : PE X a (tB X.K W ma)) (pb : PE X b (tB X.K W mb)) : PE X (.BinOp a op b pos) (tN X.K W (bin f ma mb)) := PE.mono (pe_op o pa pb) fun _ _ _ => op_bb n
theorem e_op {op : Operator} (o : OpR X (binaryOp op) r) (n : OpN X.K r f) (pa : PE X a (tE X.K W na)) (pb : PE X b (tE X.K W n2)) : PE X (.BinOp a op b pos) (tE X.K W (binE f na n2)) := PE.mono (pe_op o pa pb) fun _ _ _ => op_ee n
theorem x_cmp {op : CmpOp} (o : OpR X (compareOp op) r) (n : OpN X.K r f) (pa : PE X a (tB X.K W ma)) (pb : PE X b (tB X.K W mb)) (hm : behindInMarks op b = false) : PE X (.Compare a [op] [b] pos) (tN X.K W (bin f ma mb)) := PE.mono (pe_cmpR o pa pb hm) fun _ _ _ => op_bb n
theorem e_cmp {op : CmpOp} (o : OpR X (compareOp op) r) (n : OpN X.K r f) (pa : PE X a (tE X.K W na)) (pb : PE X b (tE X.K W n2)) (hm : behindInMarks op b = false) : PE X (.Compare a [op] [b] pos) (tE X.K W (binE f na n2)) := PE.mono (pe_cmpR o pa pb hm) fun _ _ _ => op_ee n
theorem v_cmp {op : CmpOp} {i : Nat} {x : Str} {p1 : Pos} (o : OpR X (compareOp op) r) (n : OpN X.K r f) (pb : PE X b (tE X.K W n2)) (hm : behindInMarks op b = false) (hN : X.N[i]? = some x := by rfl) (hv : Vis X.env.scope x := by first | exact Or.inl rfl | exact Or.inr (Or.inl rfl) | exact Or.inr (Or.inr rfl)) (hd : (x == ("__debug__" : Str)) = false := by decide)
    (hcd : (x == ("__classdict__" : Str)) = false := by decide) : PE X (.Compare (.Name x p1) [op] [b] pos) (tE X.K W (binV f i n2)) := PE.mono (pe_cmpR o (pe_var hN hv hd hcd) pb hm) fun _ _ _ => op_ve n
/-- a[b] -/
theorem x_ix (pa : PE X a (tB X.K W ma)) (pb : PE X b (tB X.K W mb)) (hs : PlainIx b := by exact fun _ _ => rfl) : PE X (.Subscript a b pos) (tB X.K W (bin fIx ma mb)) := PE.mono (pe_ix ix_seq pa pb hs) fun _ _ _ => op_bbB b_ix
theorem e_ix (pa : PE X a (tE X.K W na)) (pb : PE X b (tE X.K W n2)) (hs : PlainIx b := by exact fun _ _ => rfl) : PE X (.Subscript a b pos) (tE X.K W (binE (immF fIx) na n2)) := PE.mono (pe_ix ix_seq pa pb hs) fun _ _ _ => op_ee b_ix.imm
theorem v_ix {i : Nat} {x : Str} {p1 : Pos} (pb : PE X b (tE X.K W n2)) (hs : PlainIx b := by exact fun _ _ => rfl) (hN : X.N[i]? = some x := by rfl) (hv : Vis X.env.scope x := by first | exact Or.inl rfl | exact Or.inr (Or.inl rfl) | exact Or.inr (Or.inr rfl)) (hd : (x == ("__debug__" : Str)) = false := by decide)
    (hcd : (x == ("__classdict__" : Str)) = false := by decide) : PE X (.Subscript (.Name x p1) b pos) (tE X.K W (binV (immF fIx) i n2)) := PE.mono (pe_ix ix_seq (pe_var hN hv hd hcd) pb hs) fun _ _ _ => op_ve b_ix.imm
theorem v_op {op : Operator} {i : Nat} {x : Str} {p1 : Pos} (o : OpR X (binaryOp op) r) (n : OpN X.K r f) (pb : PE X b (tE X.K W n2)) (hN : X.N[i]? = some x := by rfl) (hv : Vis X.env.scope x := by first | exact Or.inl rfl | exact Or.inr (Or.inl rfl) | exact Or.inr (Or.inr rfl)) (hd : (x == ("__debug__" : Str)) = false := by decide)
    (hcd : (x == ("__classdict__" : Str)) = false := by decide) : PE X (.BinOp (.Name x p1) op b pos) (tE X.K W (binV f i n2)) := PE.mono (pe_op o (pe_var hN hv hd hcd) pb) fun _ _ _ => op_ve n
end

/-! ### one operand, three operands -/
def un (f : D → Option D) (m : MB) : MB := fun e => (m e).bind fun a => .of (f a)
def unE (f : D → Option D) (m : ME) : ME := fun e => (m e).bind fun a e1 => (Rs.of (f a)).at e1
def fNeg : D → Option D
  | .int i => some (.int (-i))
  | _ => none
def UnN (K : PySem.W.Frag) (r : V → Hp → VK → Prop) (f : D → Option D) : Prop := ∀ {H : Hp} {v : V} {a d : D} {G : List Addr} {Q : VK}, Rp K H v a G → f a = some d →
  (∀ v H' G, Keeps [] H H' → Rp K H' v d G → G.Nodup → (∀ a ∈ G, H a = none) → Q v H') → r v H Q
section
variable {K : PySem.W.Frag} {W : WX} {r : V → Hp → VK → Prop} {f : D → Option D} {m : MB} {n : ME} {σ : L2.St} {H : Hp} {Q : VK}
theorem un_b (o : UnN K r f) (h : tN K W (un f m) σ H Q) : tB K W m σ H fun x H1 => r x H1 Q := by
  obtain ⟨e, F, rl, h⟩ := h
  unfold un at h
  refine ⟨e, F, rl, ?_⟩
  cases qa : m e with
  | bad => rw [qa] at h; exact h
  | exc y => rw [qa] at h; exact h
  | ok a =>
    rw [qa] at h
    intro v1 H1 G1 k1 p1
    cases qf : f a with
    | none => simp only [Rs.bind, qf, Rs.of] at h
    | some d =>
      simp only [Rs.bind, qf, Rs.of] at h
      exact o p1 qf fun v H' G k p n1 n2 => h v H' G (k1.trans k fun _ m => by cases m) p n1 fun z m => k1.none (n2 z m) fun m => by cases m
theorem un_e (o : UnN K r f) (h : tE K W (unE f n) σ H Q) : tE K W n σ H fun x H1 => r x H1 Q := by
  obtain ⟨e, F, rl, nd, h⟩ := h
  unfold unE at h
  refine ⟨e, F, rl, nd, ?_⟩
  cases qa : n e with
  | bad => rw [qa] at h; exact h
  | exc y e1 => rw [qa] at h; exact h
  | ok a e1 =>
    rw [qa] at h
    intro v1 H1 F1 x
    obtain ⟨G, F0, eF, p, x', hd, n1, nw⟩ := x.head
    cases qf : f a with
    | none => simp only [Re.bind, qf, Rs.of, Rs.at] at h
    | some d =>
      simp only [Re.bind, qf, Rs.of, Rs.at] at h
      exact o p qf fun v H' G' k p' n1' n2' => h v H' _ (x'.consNew k p' n1' n2')
end
theorem n_neg {K : PySem.W.Frag} : UnN K (rU fun i => .int (-i)) fNeg := by
  intro H v a d G Q p e h
  unfold fNeg at e
  split at e
  · cases e; cases p; exact ⟨_, rfl, Rp.same0 h .int⟩
  · cases e
section
variable {X : Cx} {W : WX} {a : Expr} {pos : Pos} {m : MB} {n : ME}
theorem x_neg (pa : PE X a (tB X.K W m)) : PE X (.UnaryOp .USub a pos) (tN X.K W (un fNeg m)) := PE.mono (pe_un un_neg pa) fun _ _ _ => un_b n_neg
theorem e_neg (pa : PE X a (tE X.K W n)) : PE X (.UnaryOp .USub a pos) (tE X.K W (unE fNeg n)) := PE.mono (pe_un un_neg pa) fun _ _ _ => un_e n_neg
end

/-! ### slices -/
def cutL {α : Type} (xs : List α) (lo hi : Option Int) : List α := (xs.drop (HT.sIx xs.length 0 lo)).take (HT.sIx xs.length xs.length hi - HT.sIx xs.length 0 lo)
def fCut (d : D) (lo hi : Option Int) : Option D := match d with
  | .str s => if fits s.length = true then some (.str (cutL s lo hi)) else none
  | .tup ds => if imms ds = true then some (.tup (cutL ds lo hi)) else none
  | .lst ds => if imms ds = true then some (.lst (cutL ds lo hi)) else none
  | .rol ds => if imms ds = true then some (.lst (cutL ds lo hi)) else none
  | _ => none
/-- an end of a slice -/
def cutP (m : Option MB) : E → Rs (Option Int) := fun e => match m with
  | none => .ok none
  | some m => (m e).bind fun d => match d with
    | .int i => .ok (some i)
    | _ => .bad
def cut (m : MB) (lo hi : Option MB) : MB := fun e => (m e).bind fun d => (cutP lo e).bind fun l => (cutP hi e).bind fun u => .of (fCut d l u)
def tPo (K : PySem.W.Frag) (W : WX) (m : Option MB) : TO := fun σ H Q => ∃ e F, RelS K H σ e F ∧ match cutP m e with
  | .ok o => ∀ H', Keeps [] H H' → Q o H'
  | .exc x => ∀ c dx H', Keeps [] H H' → RpX K H' c dx x → W c dx σ H'
  | .bad => False
theorem PO.mono {X : Cx} {e : Option Expr} {t t' : TO} (p : PO X e t) (h : ∀ σ H Q, t' σ H Q → t σ H Q) : PO X e t' := ⟨fun pins s σ H Q I q => p.run pins s σ H Q I (h _ _ _ q)⟩
section
variable {X : Cx} {W : WX} {e a : Expr} {lo hi : Option Expr} {pos p2 : Pos} {m : MB} {ml mh : Option MB}
theorem o_none : PO X none (tPo X.K W none) := PO.mono po_none fun σ H Q ⟨e, F, r, h⟩ => h H (.refl _ _)
theorem o_some (p : PE X e (tB X.K W m)) : PO X (some e) (tPo X.K W (some m)) := PO.mono (po_some p) fun σ H Q ⟨e, F, r, h⟩ => by
  refine ⟨e, F, r, ?_⟩
  unfold cutP at h
  cases q : m e with
  | bad => simp only [q, Rs.bind] at h
  | exc y => simp only [q, Rs.bind] at h; exact h
  | ok d =>
    simp only [q, Rs.bind] at h
    intro v H' G k p
    cases d with
    | int i => cases p; exact ⟨i, rfl, h H' k⟩
    | _ => exact h.elim
abbrev rSlA' (K : PySem.W.Frag) : V → Option Int → Option Int → Hp → VK → Prop := fun x lo hi H Q => rSlS x lo hi H Q ∨ rSlA K x lo hi H Q ∨ rSlL K x lo hi H Q
theorem sl_all : SlR X (rSlA' X.K) := sl_str.or (sl_tupA.or sl_list)
theorem Rps.cut {K : PySem.W.Frag} {H : Hp} {vs : List V} {ds : List D} (r : Rps K H vs ds []) (lo hi : Option Int) : Rps K H (cutV vs lo hi) (cutL ds lo hi) [] := by
  unfold cutV cutL
  rw [r.length]
  exact ((r.takeD _).2.takeD _).1
theorem cutL_whole {K : PySem.W.Frag} {H : Hp} {vs : List V} {ds : List D} {F : List Addr} {lo hi : Option Int} (ra : Rps K H vs ds F) (z : HT.sIx vs.length 0 lo = 0 ∧ HT.sIx vs.length vs.length hi = vs.length) : cutL ds lo hi = ds := by
  unfold cutL
  rw [← ra.length, z.1, z.2, List.drop_zero, Nat.sub_zero, ra.length, List.take_length]
theorem fCut_ok {K : PySem.W.Frag} {H : Hp} {v : V} {d d' : D} {G : List Addr} {lo hi : Option Int} {Q : VK} (p : Rp K H v d G) (e : fCut d lo hi = some d')
    (h : ∀ v H' G, Keeps [] H H' → Rp K H' v d' G → G.Nodup → (∀ a ∈ G, H a = none) → Q v H') : rSlA' K v lo hi H Q := by
  unfold fCut at e
  split at e
  · split at e
    · rename_i hf
      cases e
      cases p with | str hx => ?_
      rename_i x
      have ez : (cutS x lo hi).cps.toList = cutL x.cps.toList lo hi := by
        unfold cutS cutL
        rw [Array.length_toList]
        rfl
      refine .inl ⟨_, rfl, by simpa [Str.length] using fits_le hf, Rp.same0 h (rp_str ?_ ez)⟩
      rw [show cutS x lo hi = ⟨(cutL x.cps.toList lo hi).toArray⟩ by rw [← ez]]
      refine okC_of fun c m => okC_mem hx c ?_
      unfold cutL at m
      exact List.mem_of_mem_drop (List.mem_of_mem_take m)
    · cases e
  · split at e
    · rename_i hf
      cases e
      cases p with | tup ha ra => ?_
      have e1 := Rps.fpImm ra hf
      subst e1
      refine .inr (.inl ⟨_, _, rfl, ha.sq, fun z => ?_, fun _ p hp => ?_⟩)
      · rw [cutL_whole ra z] at h
        exact Rp.same0 h (.tup ha ra)
      · exact h _ _ [] (.new hp _) (.tup (.of upd_same) ((ra.cut lo hi).same (.new hp _))) .nil fun a m => by cases m
    · cases e
  · split at e
    · rename_i hf
      cases e
      cases p with | lst ha ra => ?_
      have e1 := Rps.fpImm ra hf
      subst e1
      refine .inr (.inr ⟨_, _, rfl, .of ha, fun p hp => ?_⟩)
      refine h _ _ [p] (.new hp _) (.lst upd_same ((ra.cut lo hi).same (.new hp _))) (by simp) fun a m => ?_
      rw [List.mem_singleton.mp m]; exact hp
    · cases e
  · split at e
    · rename_i hf
      cases e
      cases p with | rol ha ra => ?_
      refine .inr (.inr ⟨_, _, rfl, ha.sq, fun p hp => ?_⟩)
      refine h _ _ [p] (.new hp _) (.lst upd_same ((ra.cut lo hi).same (.new hp _))) (by simp) fun a m => ?_
      rw [List.mem_singleton.mp m]; exact hp
    · cases e
  · cases e
theorem x_cut (pa : PE X a (tB X.K W m)) (pl : PO X lo (tPo X.K W ml)) (ph : PO X hi (tPo X.K W mh)) : PE X (.Subscript a (.Slice lo hi none p2) pos) (tN X.K W (cut m ml mh)) :=
  PE.mono (pe_slice sl_all pa pl ph) fun σ H Q ⟨e, F, r, h⟩ => by
    unfold cut at h
    refine ⟨e, F, r, ?_⟩
    cases qa : m e with
    | bad => simp only [qa, Rs.bind] at h
    | exc y => simp only [qa, Rs.bind] at h; exact h
    | ok d =>
      simp only [qa, Rs.bind] at h
      intro v H1 G1 k1 p1
      refine ⟨e, F, r.same k1, ?_⟩
      cases ql : cutP ml e with
      | bad => simp only [ql] at h
      | exc y => simp only [ql] at h; exact fun c dx H' k p => h c dx H' (k1.trans k fun _ m => by cases m) p
      | ok l =>
        simp only [ql] at h
        intro H2 k2
        refine ⟨e, F, (r.same k1).same k2, ?_⟩
        have k12 : Keeps [] H H2 := k1.trans k2 fun _ m => by cases m
        cases qh : cutP mh e with
        | bad => simp only [qh] at h
        | exc y => simp only [qh] at h; exact fun c dx H' k p => h c dx H' (k12.trans k fun _ m => by cases m) p
        | ok u =>
          simp only [qh] at h
          intro H3 k3
          have k13 : Keeps [] H H3 := k12.trans k3 fun _ m => by cases m
          cases qf : fCut d l u with
          | none => simp only [qf, Rs.of] at h
          | some d' =>
            simp only [qf, Rs.of] at h
            exact fCut_ok ((p1.same k2).same k3) qf fun v H' G k p n1 n2 => h v H' G (k13.trans k fun _ m => by cases m) p n1 fun z m => k13.none (n2 z m) fun m => by cases m
end
end Mir

namespace Mir
open PySem PySem.Spec L2

abbrev MA := E → Rs (List D)
abbrev MAE := E → Re (List D)
/-! ### argument lists -/
def tAB (K : PySem.W.Frag) (W : WX) (m : MA) : TA := fun σ H Q => ∃ e F, RelS K H σ e F ∧ match m e with
  | .ok ds => ∀ vs H' G, Keeps [] H H' → Rps K H' vs ds G → Q vs H'
  | .exc x => ∀ c dx H', Keeps [] H H' → RpX K H' c dx x → W c dx σ H'
  | .bad => False
/-- values on top of the slots -/
structure EvA (K : PySem.W.Frag) (F : List Addr) (H : Hp) (vs : List V) (σ' : L2.St) (H' : Hp) (ds : List D) (e' : E) (G F' : List Addr) : Prop where
  ev : Ev K F H σ' H' e' F'
  ps : Rps K H' vs ds G
  hd : ∀ a ∈ G, a ∉ F'
  nd : G.Nodup
  new : ∀ a ∈ G, a ∈ F ∨ H a = none
def tAE (K : PySem.W.Frag) (W : WX) (m : MAE) : TA := fun σ H Q => ∃ e F, RelS K H σ e F ∧ F.Nodup ∧ match m e with
  | .ok ds e' => ∀ vs H' G F', EvA K F H vs σ H' ds e' G F' → Q vs H'
  | .exc x e' => ∀ c dx H' F', Ev K F H σ H' e' F' → RpX K H' c dx x → W c dx σ H'
  | .bad => False
def aNil : MA := fun _ => .ok []
def aCons (m : MB) (ms : MA) : MA := fun e => (m e).bind fun d => (ms e).bind fun ds => .ok (d :: ds)
def anil : MAE := fun e => .ok [] e
def acons (m : ME) (ms : MAE) : MAE := fun e => (m e).bind fun d e1 => (ms e1).bind fun ds e2 => .ok (d :: ds) e2
section
variable {X : Cx} {W : WX} {e : Expr} {es : List Expr} {m : MB} {ms : MA} {n : ME} {ns : MAE}
theorem a_nil : PA X [] (tAB X.K W aNil) := PA.mono pa_nil fun σ H Q ⟨e, F, r, h⟩ => h [] H [] (.refl _ _) .nil
theorem a_cons (p : PE X e (tB X.K W m)) (q : PA X es (tAB X.K W ms)) (hs : starEach (e :: es) X.env = (false, eval e X.env) :: starEach es X.env := by rfl) : PA X (e :: es) (tAB X.K W (aCons m ms)) := PA.mono (pa_cons p q hs) fun σ H Q ⟨e, F, r, h⟩ => by
  unfold aCons at h
  refine ⟨e, F, r, ?_⟩
  cases qa : m e with
  | bad => simp only [qa, Rs.bind] at h
  | exc y => simp only [qa, Rs.bind] at h; exact h
  | ok d =>
    simp only [qa, Rs.bind] at h
    intro v H1 G1 k1 p1
    refine ⟨e, F, r.same k1, ?_⟩
    cases qb : ms e with
    | bad => simp only [qb] at h
    | exc y => simp only [qb] at h; exact fun c dx H' k p => h c dx H' (k1.trans k fun _ m => by cases m) p
    | ok ds =>
      simp only [qb] at h
      exact fun vs H2 G2 k2 p2 => h (v :: vs) H2 _ (k1.trans k2 fun _ m => by cases m) (.cons (p1.same k2) p2)
theorem ae_nil : PA X [] (tAE X.K W anil) := PA.mono pa_nil fun σ H Q ⟨e, F, r, nd, h⟩ => h [] H [] F ⟨Ev.refl r nd, .nil, (fun _ m => by cases m), .nil, fun _ m => by cases m⟩
theorem ae_cons (p : PE X e (tE X.K W n)) (q : PA X es (tAE X.K W ns)) (hs : starEach (e :: es) X.env = (false, eval e X.env) :: starEach es X.env := by rfl) : PA X (e :: es) (tAE X.K W (acons n ns)) := PA.mono (pa_cons p q hs) fun σ H Q ⟨e, F, r, nd, h⟩ => by
  unfold acons at h
  refine ⟨e, F, r, nd, ?_⟩
  cases qa : n e with
  | bad => simp only [qa, Re.bind] at h
  | exc y e1 => simp only [qa, Re.bind] at h; exact h
  | ok d e1 =>
    simp only [qa, Re.bind] at h
    intro v H1 F1 x
    obtain ⟨G, F0, eF, p, x', hd, n1, nw⟩ := x.head
    refine ⟨e1, F0, x'.r, x'.nd, ?_⟩
    cases qb : ns e1 with
    | bad => simp only [qb] at h
    | exc y e2 => simp only [qb] at h; exact fun c dx H' F' y p => h c dx H' F' (x'.trans y) p
    | ok ds e2 =>
      simp only [qb] at h
      intro vs H2 G2 F2 y
      have dj : ∀ a ∈ G, a ∉ G2 := fun a m m' => (y.new a m').elim (hd a m) (p.there m)
      have dj2 : ∀ a ∈ G, a ∉ F2 := fun a m m' => (y.ev.new a m').elim (hd a m) (p.there m)
      refine h (v :: vs) H2 (G ++ G2) F2 ⟨x'.trans y.ev, .cons (p.keep y.ev.k hd) y.ps, fun a m => ?_, ?_, fun a m => ?_⟩
      · rcases List.mem_append.mp m with m | m
        · exact dj2 a m
        · exact y.hd a m
      · exact List.nodup_append.mpr ⟨n1, y.nd, fun a m b m' z => by subst z; exact dj a m m'⟩
      · rcases List.mem_append.mp m with m | m
        · exact nw a m
        · rcases y.new a m with z | z
          · exact x'.new a z
          · by_cases zz : a ∈ F
            · exact .inl zz
            · exact .inr (x'.k.none z zz)
end

/-! ### displays -/
def dTup (ms : MA) : MB := fun e => (ms e).bind fun ds => if imms ds = true ∧ fits ds.length = true then .ok (.tup ds) else .bad
def dLst (ms : MA) : MB := fun e => (ms e).bind fun ds => if imms ds = true ∧ fits ds.length = true then .ok (.lst ds) else .bad
def dTupE (ms : MAE) : ME := fun e => (ms e).bind fun ds e1 => if fits ds.length = true then .ok (.tup ds) e1 else .bad
def dLstE (ms : MAE) : ME := fun e => (ms e).bind fun ds e1 => if fits ds.length = true then .ok (.lst ds) e1 else .bad
section
variable {X : Cx} {W : WX} {es : List Expr} {pos : Pos} {ms : MA} {ns : MAE}
theorem x_tup {x1} (p : PA X es (tAB X.K W ms)) : PE X (.Tuple es x1 pos) (tN X.K W (dTup ms)) := PE.mono (pe_tup p) fun σ H Q ⟨e, F, r, h⟩ => by
  unfold dTup at h
  refine ⟨e, F, r, ?_⟩
  cases qa : ms e with
  | bad => simp only [qa, Rs.bind] at h
  | exc y => simp only [qa, Rs.bind] at h; exact h
  | ok ds =>
    simp only [qa, Rs.bind] at h
    intro vs H1 G k p
    by_cases hi : imms ds = true ∧ fits ds.length = true
    · rw [if_pos hi] at h
      have e1 := p.fpImm hi.1
      subst e1
      refine ⟨by rw [p.length]; exact fits_le hi.2, fun q hq => ?_⟩
      exact h _ _ [] (k.trans (.new hq []) fun _ m => by cases m) (.tup (.of upd_same) (p.same (.new hq _))) .nil fun _ m => by cases m
    · rw [if_neg hi] at h; exact h.elim
theorem x_lst (p : PA X es (tAB X.K W ms)) : PE X (.List es pos) (tN X.K W (dLst ms)) := PE.mono (pe_lst p) fun σ H Q ⟨e, F, r, h⟩ => by
  unfold dLst at h
  refine ⟨e, F, r, ?_⟩
  cases qa : ms e with
  | bad => simp only [qa, Rs.bind] at h
  | exc y => simp only [qa, Rs.bind] at h; exact h
  | ok ds =>
    simp only [qa, Rs.bind] at h
    intro vs H1 G k p
    by_cases hi : imms ds = true ∧ fits ds.length = true
    · rw [if_pos hi] at h
      have e1 := p.fpImm hi.1
      subst e1
      refine ⟨by rw [p.length]; exact fits_le hi.2, fun q hq => ?_⟩
      refine h _ _ [q] (k.trans (.new hq []) fun _ m => by cases m) (.lst upd_same (p.same (.new hq _))) (by simp) fun a m => ?_
      rw [List.mem_singleton.mp m]
      exact k.none hq fun m => by cases m
    · rw [if_neg hi] at h; exact h.elim
theorem e_tup {x1} (p : PA X es (tAE X.K W ns)) : PE X (.Tuple es x1 pos) (tE X.K W (dTupE ns)) := PE.mono (pe_tup p) fun σ H Q ⟨e, F, r, nd, h⟩ => by
  unfold dTupE at h
  refine ⟨e, F, r, nd, ?_⟩
  cases qa : ns e with
  | bad => simp only [qa, Re.bind] at h
  | exc y e1 => simp only [qa, Re.bind] at h; exact h
  | ok ds e1 =>
    simp only [qa, Re.bind] at h
    intro vs H1 G F1 x
    by_cases hi : fits ds.length = true
    · rw [if_pos hi] at h
      refine ⟨by rw [x.ps.length]; exact fits_le hi, fun q hq => ?_⟩
      exact h _ _ _ ((x.ev.grow (.new hq [])).cons (.tup (.of upd_same) (x.ps.same (.new hq _))) x.hd x.nd x.new)
    · rw [if_neg hi] at h; exact h.elim
theorem e_lst (p : PA X es (tAE X.K W ns)) : PE X (.List es pos) (tE X.K W (dLstE ns)) := PE.mono (pe_lst p) fun σ H Q ⟨e, F, r, nd, h⟩ => by
  unfold dLstE at h
  refine ⟨e, F, r, nd, ?_⟩
  cases qa : ns e with
  | bad => simp only [qa, Re.bind] at h
  | exc y e1 => simp only [qa, Re.bind] at h; exact h
  | ok ds e1 =>
    simp only [qa, Re.bind] at h
    intro vs H1 G F1 x
    by_cases hi : fits ds.length = true
    · rw [if_pos hi] at h
      refine ⟨by rw [x.ps.length]; exact fits_le hi, fun q hq => ?_⟩
      refine h _ _ _ ((x.ev.grow (.new hq [])).cons (.lst upd_same (x.ps.same (.new hq _))) (fun a m m' => ?_) ?_ fun a m => ?_)
      · rcases List.mem_cons.mp m with z | m
        · subst z; exact x.ev.r.there m' hq
        · exact x.hd a m m'
      · exact List.nodup_cons.mpr ⟨fun m => x.ps.there m hq, x.nd⟩
      · rcases List.mem_cons.mp m with z | m
        · subst z
          by_cases zz : a ∈ F
          · exact .inl zz
          · exact .inr (x.ev.k.none hq zz)
        · exact x.new a m
    · rw [if_neg hi] at h; exact h.elim
end

/-! ### built-in calls by values -/
def CallN (K : PySem.W.Frag) (r : List V → Hp → VK → Prop) (f : List D → Option D) : Prop := ∀ {H : Hp} {vs : List V} {ds : List D} {d : D} {G : List Addr} {Q : VK}, Rps K H vs ds G → f ds = some d →
  (∀ v H' G, Keeps [] H H' → Rp K H' v d G → G.Nodup → (∀ a ∈ G, H a = none) → Q v H') → r vs H Q
def cal (f : List D → Option D) (ms : MA) : MB := fun e => (ms e).bind fun ds => .of (f ds)
def calE (f : List D → Option D) (ms : MAE) : ME := fun e => (ms e).bind fun ds e1 => (Rs.of (f ds)).at e1
section
variable {K : PySem.W.Frag} {W : WX} {r : List V → Hp → VK → Prop} {f : List D → Option D} {ms : MA} {ns : MAE} {σ : L2.St} {H : Hp} {Q : VK}
theorem cal_b (o : CallN K r f) (h : tN K W (cal f ms) σ H Q) : tAB K W ms σ H fun vs H1 => r vs H1 Q := by
  obtain ⟨e, F, rl, h⟩ := h
  unfold cal at h
  refine ⟨e, F, rl, ?_⟩
  cases qa : ms e with
  | bad => rw [qa] at h; exact h
  | exc y => rw [qa] at h; exact h
  | ok ds =>
    rw [qa] at h
    intro vs H1 G1 k1 p1
    cases qf : f ds with
    | none => simp only [Rs.bind, qf, Rs.of] at h
    | some d =>
      simp only [Rs.bind, qf, Rs.of] at h
      exact o p1 qf fun v H' G k p n1 n2 => h v H' G (k1.trans k fun _ m => by cases m) p n1 fun z m => k1.none (n2 z m) fun m => by cases m
theorem cal_e (o : CallN K r f) (h : tE K W (calE f ns) σ H Q) : tAE K W ns σ H fun vs H1 => r vs H1 Q := by
  obtain ⟨e, F, rl, nd, h⟩ := h
  unfold calE at h
  refine ⟨e, F, rl, nd, ?_⟩
  cases qa : ns e with
  | bad => rw [qa] at h; exact h
  | exc y e1 => rw [qa] at h; exact h
  | ok ds e1 =>
    rw [qa] at h
    intro vs H1 G F1 x
    cases qf : f ds with
    | none => simp only [Re.bind, qf, Rs.of, Rs.at] at h
    | some d =>
      simp only [Re.bind, qf, Rs.of, Rs.at] at h
      exact o x.ps qf fun v H' G' k p' n1' n2' => h v H' _ (x.ev.consNew k p' n1' n2')
variable {X : Cx} {x : Str} {p pos : Pos} {e : Expr} {es : List Expr} {id T : String}
theorem x_callB (hc : CallR X (.builtin id) r) (o : CallN X.K r f) (hg : Gl X x) (hm : X.mg x = none) (hv : bootBuiltins x = some (.builtin id)) (ha : PA X (e :: es) (tAB X.K W ms)) : PE X (.Call (.Name x p) (e :: es) [] pos) (tCB r (tAB X.K W ms)) → PE X (.Call (.Name x p) (e :: es) [] pos) (tN X.K W (cal f ms)) :=
  fun q => PE.mono q fun _ _ _ => cal_b o
theorem x_call (o : CallN X.K r f) (q : PE X (.Call (.Name x p) (e :: es) [] pos) (tCB r (tAB X.K W ms))) : PE X (.Call (.Name x p) (e :: es) [] pos) (tN X.K W (cal f ms)) := PE.mono q fun _ _ _ => cal_b o
theorem e_call (o : CallN X.K r f) (q : PE X (.Call (.Name x p) (e :: es) [] pos) (tCB r (tAE X.K W ns))) : PE X (.Call (.Name x p) (e :: es) [] pos) (tE X.K W (calE f ns)) := PE.mono q fun _ _ _ => cal_e o
end
def lenD : D → Option Nat
  | .str s => if fits s.length = true then some s.length else none
  | .tup ds => some ds.length
  | .lst ds => some ds.length
  | .rol ds => some ds.length
  | .dct kvs => some kvs.length
  | _ => none
def fLen : List D → Option D
  | [d] => (lenD d).map fun (n : Nat) => .int (n : Int)
  | _ => none
def fInt : List D → Option D
  | [.int i] => some (.int i)
  | [.bl b] => some (.int (if b = true then 1 else 0))
  | [.str s] => if s.length ≤ 640 then (PySem.intText? ⟨s.toArray⟩).map .int else none
  | _ => none
def fStr : List D → Option D
  | [.int i] => if big64 i = true then some (.str (lit (toString i))) else none
  | [.str s] => some (.str s)
  | _ => none
def fAbs : List D → Option D
  | [.int i] => some (.int (if i < 0 then -i else i))
  | _ => none
def fMax : List D → Option D
  | [.int i, .int j] => some (.int (if j > i then j else i))
  | _ => none
def fMin : List D → Option D
  | [.int i, .int j] => some (.int (if j < i then j else i))
  | _ => none
def fOrd : List D → Option D
  | [.str [c]] => some (.int c)
  | _ => none
def fTuple : List D → Option D
  | [.tup ds] => if imms ds = true then some (.tup ds) else none
  | [.lst ds] => if imms ds = true then some (.tup ds) else none
  | [.rol ds] => if imms ds = true then some (.tup ds) else none
  | _ => none
def fList : List D → Option D
  | [.tup ds] => if imms ds = true then some (.lst ds) else none
  | [.lst ds] => if imms ds = true then some (.lst ds) else none
  | [.rol ds] => if imms ds = true then some (.lst ds) else none
  | _ => none
def fDivmod : List D → Option D
  | [.int i, .int j] => if 0 < j ∧ j < 1073741824 then some (.tup [.int (i / j), .int (i % j)]) else none
  | _ => none
def tyName : D → Option String
  | .non => some "NoneType"
  | .bl _ => some "bool"
  | .int _ => some "int"
  | .str _ => some "str"
  | .tup _ => some "tuple"
  | .lst _ => some "list"
  | .rol _ => some "list"
  | .dct _ => some "dict"
  | _ => none
def fIsi : List D → Option D
  | [d, .raw (.ty n)] => (tyName d).bind fun a => (kitB a n).map .bl
  | _ => none
/-- isinstance of one of two -/
def fIsi2 : List D → Option D
  | [d, .tup [.raw (.ty n), .raw (.ty m)]] => (tyName d).bind fun a => (kitB a n).bind fun b => (kitB a m).map fun c => .bl (b || c)
  | _ => none
section
variable {X : Cx} {K : PySem.W.Frag}
theorem SqL.rol {H : Hp} {a : Addr} {o : Obj} {vs : List V} (h : H a = some (.frz o (.lst vs))) : SqL K H a vs := .inl (.inr ⟨o, h⟩)
abbrev rLenA (K : PySem.W.Frag) : List V → Hp → VK → Prop := fun xs H Q => (∃ (x : V) (n : Nat), xs = [x] ∧ LenV K x H n ∧ Q (.int n) H) ∨ ∃ a kvs, xs = [V.ref a] ∧ H a = some (.dK kvs) ∧ Q (.int kvs.length) H
theorem c_len : CallR X (.builtin "len") (rLenA X.K) := call_len.or call_lenD
theorem n_len : CallN K (rLenA K) fLen := by
  intro H vs ds d G Q p e h
  unfold fLen at e
  split at e
  · obtain ⟨n, e1, e2⟩ := Option.map_eq_some_iff.mp e
    subst e2
    cases p with | cons p q => ?_
    cases q
    unfold lenD at e1
    split at e1
    · split at e1
      · rename_i hf
        cases e1; cases p
        exact .inl ⟨_, _, rfl, ⟨by simpa [Str.length] using fits_le hf, by simp [Str.length]⟩, Rp.same0 h .int⟩
      · cases e1
    · cases e1
      cases p with | tup ha ra => ?_
      exact .inl ⟨_, _, rfl, .inr ⟨_, ha.sq, ra.length.symm⟩, Rp.same0 h .int⟩
    · cases e1
      cases p with | lst ha ra => ?_
      exact .inl ⟨_, _, rfl, .inl ⟨_, .of ha, ra.length.symm⟩, Rp.same0 h .int⟩
    · cases e1
      cases p with | rol ha ra => ?_
      exact .inl ⟨_, _, rfl, .inl ⟨_, ha.sq, ra.length.symm⟩, Rp.same0 h .int⟩
    · cases e1
      cases p with | dct ha hk ra => ?_
      refine .inr ⟨_, _, rfl, ha, ?_⟩
      have z := congrArg List.length hk
      simp only [List.length_map] at z
      rw [z]
      exact Rp.same0 h .int
    · cases e1
  · cases e
abbrev rIntA : List V → Hp → VK → Prop := fun xs H Q => ((∃ i, xs = [.int i] ∧ Q (.int i) H) ∨ ∃ k, xs = [.bl k] ∧ Q (.int (if k then 1 else 0)) H) ∨ ∃ a n, xs = [.str a] ∧ PySem.intText? a = some n ∧ a.length ≤ 640 ∧ Q (.int n) H
theorem c_int : CallR X (.type "int") rIntA := call_int1.or call_int_str
theorem n_int : CallN K rIntA fInt := by
  intro H vs ds d G Q p e h
  unfold fInt at e
  split at e
  · cases e
    cases p with | cons p q => ?_
    cases q; cases p
    exact .inl (.inl ⟨_, rfl, Rp.same0 h .int⟩)
  · cases e
    cases p with | cons p q => ?_
    cases q; cases p
    exact .inl (.inr ⟨_, rfl, Rp.same0 h .int⟩)
  · split at e
    · rename_i hl
      obtain ⟨n, e1, e2⟩ := Option.map_eq_some_iff.mp e
      subst e2
      cases p with | cons p q => ?_
      cases q
      cases p with | str hx => ?_
      refine .inr ⟨_, n, rfl, ?_, by simpa [Str.length] using hl, Rp.same0 h .int⟩
      rw [← e1]
    · cases e
  · cases e
abbrev rStrA : List V → Hp → VK → Prop := fun xs H Q => (∃ i, xs = [.int i] ∧ i.natAbs.log2 < 1920 ∧ Q (.str (toString i)) H) ∨ ∃ a, xs = [.str a] ∧ Q (.str a) H
theorem c_str : CallR X (.type "str") rStrA := call_str_int.or SkE.call_str_str
theorem n_str : CallN K rStrA fStr := by
  intro H vs ds d G Q p e h
  unfold fStr at e
  split at e
  · split at e
    · rename_i i hi
      cases e
      cases p with | cons p q => ?_
      cases q; cases p
      have hb : -(2 ^ 64) < i ∧ i < 2 ^ 64 := of_decide_eq_true hi
      refine .inl ⟨_, rfl, ?_, Rp.same0 h (.str (lit_ok _))⟩
      have h1 : i.natAbs < 2 ^ 64 := by omega
      by_cases hz : i.natAbs = 0
      · rw [hz]; decide
      · exact Nat.lt_trans ((Nat.log2_lt hz).mpr h1) (by decide)
    · cases e
  · cases e
    cases p with | cons p q => ?_
    cases q
    cases p with | str hx => ?_
    exact .inr ⟨_, rfl, Rp.same0 h (.str hx)⟩
  · cases e
theorem n_abs : CallN K (fun xs H Q => ∃ i, xs = [.int i] ∧ Q (.int (if i < 0 then -i else i)) H) fAbs := by
  intro H vs ds d G Q p e h
  unfold fAbs at e
  split at e
  · cases e
    cases p with | cons p q => ?_
    cases q; cases p
    exact ⟨_, rfl, Rp.same0 h .int⟩
  · cases e
theorem n_max : CallN K (fun xs H Q => ∃ i j, xs = [.int i, .int j] ∧ Q (.int (if j > i then j else i)) H) fMax := by
  intro H vs ds d G Q p e h
  unfold fMax at e
  split at e
  · cases e
    cases p with | cons p q => ?_
    cases q with | cons q z => ?_
    cases z; cases p; cases q
    exact ⟨_, _, rfl, Rp.same0 h .int⟩
  · cases e
theorem n_min : CallN K (fun xs H Q => ∃ i j, xs = [.int i, .int j] ∧ Q (.int (if j < i then j else i)) H) fMin := by
  intro H vs ds d G Q p e h
  unfold fMin at e
  split at e
  · cases e
    cases p with | cons p q => ?_
    cases q with | cons q z => ?_
    cases z; cases p; cases q
    exact ⟨_, _, rfl, Rp.same0 h .int⟩
  · cases e
theorem n_ord : CallN K (fun xs H Q => ∃ x, xs = [.str x] ∧ x.length = 1 ∧ Q (.int (x.cps.getD 0 0 : Nat)) H) fOrd := by
  intro H vs ds d G Q p e h
  unfold fOrd at e
  split at e
  · rename_i c
    cases e
    cases p with | cons p q => ?_
    cases q
    generalize hs : ([c] : List Nat) = s at p
    cases p with | str hx => ?_
    refine ⟨_, rfl, ?_, ?_⟩
    · rw [str_one hs.symm]; rfl
    · rw [str_one hs.symm]; exact Rp.same0 h .int
  · cases e
abbrev rTupleA (K : PySem.W.Frag) : List V → Hp → VK → Prop := fun xs H Q => ∃ p ys, xs = [.ref p] ∧ ((SqL K H p ys ∧ ∀ l, H l = none → Q (.ref l) (upd H l (.tup ys))) ∨ (SqT K H p ys ∧ Q (.ref p) H))
theorem n_tuple : CallN K (rTupleA K) fTuple := by
  intro H vs ds d G Q p e h
  have newT : ∀ {vs : List V} {ds : List D} (r : Rps K H vs ds []), (∀ v H' G, Keeps [] H H' → Rp K H' v (.tup ds) G → G.Nodup → (∀ a ∈ G, H a = none) → Q v H') → ∀ l, H l = none → Q (.ref l) (upd H l (.tup vs)) :=
    fun r h l hl => h _ _ [] (.new hl _) (.tup (.of upd_same) (r.same (.new hl _))) .nil fun _ m => by cases m
  unfold fTuple at e
  split at e
  · split at e
    · rename_i hi
      cases e
      cases p with | cons p q => ?_
      cases q
      cases p with | tup ha ra => ?_
      have e1 := Rps.fpImm ra hi
      subst e1
      exact ⟨_, _, rfl, .inr ⟨ha.sq, Rp.same0 h (.tup ha ra)⟩⟩
    · cases e
  · split at e
    · rename_i hi
      cases e
      cases p with | cons p q => ?_
      cases q
      cases p with | lst ha ra => ?_
      have e1 := Rps.fpImm ra hi
      subst e1
      exact ⟨_, _, rfl, .inl ⟨.of ha, newT ra h⟩⟩
    · cases e
  · split at e
    · rename_i hi
      cases e
      cases p with | cons p q => ?_
      cases q
      cases p with | rol ha ra => ?_
      exact ⟨_, _, rfl, .inl ⟨ha.sq, newT ra h⟩⟩
    · cases e
  · cases e
abbrev rListA (K : PySem.W.Frag) : List V → Hp → VK → Prop := fun xs H Q => ∃ p ys, xs = [.ref p] ∧ (SqL K H p ys ∨ SqT K H p ys) ∧ ∀ l, H l = none → Q (.ref l) (upd H l (.lst ys))
theorem n_list : CallN K (rListA K) fList := by
  intro H vs ds d G Q p e h
  have newL : ∀ {vs : List V} {ds : List D} (r : Rps K H vs ds []), (∀ v H' G, Keeps [] H H' → Rp K H' v (.lst ds) G → G.Nodup → (∀ a ∈ G, H a = none) → Q v H') → ∀ l, H l = none → Q (.ref l) (upd H l (.lst vs)) :=
    fun r h l hl => h _ _ [l] (.new hl _) (.lst upd_same (r.same (.new hl _))) (by simp) fun a m => by rw [List.mem_singleton.mp m]; exact hl
  unfold fList at e
  split at e
  · split at e
    · rename_i hi
      cases e
      cases p with | cons p q => ?_
      cases q
      cases p with | tup ha ra => ?_
      have e1 := Rps.fpImm ra hi
      subst e1
      exact ⟨_, _, rfl, .inr ha.sq, newL ra h⟩
    · cases e
  · split at e
    · rename_i hi
      cases e
      cases p with | cons p q => ?_
      cases q
      cases p with | lst ha ra => ?_
      have e1 := Rps.fpImm ra hi
      subst e1
      exact ⟨_, _, rfl, .inl (.of ha), newL ra h⟩
    · cases e
  · split at e
    · rename_i hi
      cases e
      cases p with | cons p q => ?_
      cases q
      cases p with | rol ha ra => ?_
      exact ⟨_, _, rfl, .inl (ha.sq), newL ra h⟩
    · cases e
  · cases e
theorem n_divmod : CallN K (fun xs H Q => ∃ i j, xs = [.int i, .int j] ∧ CDiv i j ∧ ∀ p, H p = none → Q (.ref p) (upd H p (.tup [.int (i / j), .int (i % j)]))) fDivmod := by
  intro H vs ds d G Q p e h
  unfold fDivmod at e
  split at e
  · split at e
    · rename_i hf
      cases e
      cases p with | cons p q => ?_
      cases q with | cons q z => ?_
      cases z; cases p; cases q
      exact ⟨_, _, rfl, hf, fun l hl => h _ _ [] (.new hl _) (.tup (.of upd_same) (.cons .int (.cons .int .nil))) .nil fun _ m => by cases m⟩
    · cases e
  · cases e
theorem tyX {H : Hp} {v : V} {d : D} {G : List Addr} {a : String} (p : Rp K H v d G) (e : tyName d = some a) : TyX K H v (.type a) := by
  cases p with
  | non => cases e; exact .base .non
  | bl => cases e; exact .base (.bl _)
  | int => cases e; exact .base (.int _)
  | str h => cases e; exact .base (.str _)
  | raw => cases e
  | tup h r =>
    cases e
    rcases h with h | ⟨o, its, n, h, c, _⟩
    · exact .base (.tup h)
    · exact .kTuple h c
  | lst h r => cases e; exact .base (.lst h)
  | rol h r =>
    cases e
    rcases h with ⟨o, h⟩ | ⟨o, its, n, h, c, _⟩
    · exact .base (.frz h)
    · exact .kList h c
  | dct h c r => cases e; exact .base (.dK h)
  | rdc h c r => cases e
  | ins _ _ _ _ => cases e
theorem n_isi : CallN K (rIsi K) fIsi := by
  intro H vs ds d G Q p e h
  unfold fIsi at e
  split at e
  · rename_i x n
    cases p with | cons p q => ?_
    cases q with | cons q z => ?_
    cases z; cases q
    obtain ⟨a, e1, e2⟩ := Option.bind_eq_some_iff.mp e
    obtain ⟨b, e3, e4⟩ := Option.map_eq_some_iff.mp e2
    subst e4
    exact ⟨_, _, _, _, b, rfl, .ty n, tyX p e1, kit_ty e3, Rp.same0 h .bl⟩
  · cases e
abbrev rIsi2A (K : PySem.W.Frag) : List V → Hp → VK → Prop := fun xs H Q => rIsiT K xs H Q ∨ rIsiK K xs H Q
theorem c_isi2 : CallR X (.builtin "isinstance") (rIsi2A X.K) := call_isiT.or call_isiK
theorem n_isi2 : CallN K (rIsi2A K) fIsi2 := by
  intro H vs ds d G Q p e h
  unfold fIsi2 at e
  split at e
  · rename_i x n m
    cases p with | cons p q => ?_
    cases q with | cons q z => ?_
    cases z
    cases q with | tup ht rt => ?_
    cases rt with | cons r1 r2 => ?_
    cases r2 with | cons r2 r3 => ?_
    cases r1; cases r2; cases r3
    obtain ⟨a, e1, e2⟩ := Option.bind_eq_some_iff.mp e
    obtain ⟨b, e3, e4⟩ := Option.bind_eq_some_iff.mp e2
    obtain ⟨c, e5, e6⟩ := Option.map_eq_some_iff.mp e4
    subst e6
    have any : PySem.W.kitAny K (.type a) [.type n, .type m] = some (b || c) := by
      refine kitAny_cons (kit_ty e3) (fun z => ?_) fun z => by rw [z]; rfl
      subst z
      exact kitAny_cons (kit_ty e5) (fun z => by rw [z]; exact kitAny_nil) fun z => by rw [z]; rfl
    rcases ht with ht | ⟨o, its, n', hk, hc, hd, hz, hv⟩
    · exact .inl ⟨_, _, _, _, _, _, rfl, ht, .cons (.ty n) (.cons (.ty m) .nil), tyX p e1, any, Rp.same0 h .bl⟩
    · have e7 : its.toList = [.type n, .type m] := ClsV.all (.cons (.ty n) (.cons (.ty m) .nil)) hv
      obtain ⟨oc, od, dt, sl⟩ := o
      simp only at hc hd
      subst hc hd
      have e8 : its = [Value.type n, Value.type m].toArray := by rw [← e7]
      subst e8
      exact .inr ⟨_, _, _, _, _, _, _, _, rfl, hk, tyX p e1, any, Rp.same0 h .bl⟩
  · cases e
end
end Mir

namespace Mir
open PySem PySem.Spec L2

section
variable {K : PySem.W.Frag} {W : WX} {σ : L2.St} {H : Hp} {Q : VK}
theorem ofN_N {m : MB} (h : tE K W (ofN m) σ H Q) : tN K W m σ H Q := by
  obtain ⟨e, F, r, nd, h⟩ := h
  refine ⟨e, F, r, ?_⟩
  unfold ofN Rs.at at h
  cases q : m e with
  | ok d => rw [q] at h; exact fun v H' G k p n1 n2 => h v H' _ ((Ev.refl r nd).consNew k p n1 n2)
  | exc y => rw [q] at h; exact fun c dx H' k p => h c dx H' _ (Ev.pure r nd k) p
  | bad => rw [q] at h; exact h
theorem own_B {m : MB} (h : tE K W (own m) σ H Q) : tB K W m σ H Q := by
  obtain ⟨e, F, r, nd, h⟩ := h
  refine ⟨e, F, r, ?_⟩
  unfold own at h
  cases q : m e with
  | ok d =>
    rw [q] at h
    by_cases hi : imm d = true
    · simp only [Rs.bind, hi, if_true, Rs.at] at h
      exact fun v H' G k p => h v H' F ((Ev.pure r nd k).consImm p hi)
    · simp only [Rs.bind, hi, Rs.at] at h
      exact h.elim
  | exc y => rw [q] at h; exact fun c dx H' k p => h c dx H' _ (Ev.pure r nd k) p
  | bad => rw [q] at h; exact h
end
/-! ### tests -/
def tst (n : ME) : MT := fun e => (n e).bind fun d e1 => match d with
  | .bl b => .ok b e1
  | _ => .bad
def andT (t u : MT) : MT := fun e => (t e).bind fun c e1 => if c = true then u e1 else .ok false e1
def orT (t u : MT) : MT := fun e => (t e).bind fun c e1 => if c = true then .ok true e1 else u e1
def notT (t : MT) : MT := fun e => (t e).bind fun c e1 => .ok (!c) e1
section
variable {K : PySem.W.Frag} {W : WX} {σ : L2.St} {H : Hp}
theorem tst_of {n : ME} {Q : Bool → Hp → Prop} (h : tT K W (tst n) σ H Q) : tE K W n σ H fun x H' => ∃ k, x = .bl k ∧ Q k H' := by
  obtain ⟨e, F, r, nd, h⟩ := h
  refine ⟨e, F, r, nd, ?_⟩
  unfold tst at h
  cases q : n e with
  | bad => simp only [q, Re.bind] at h
  | exc y e1 => simp only [q, Re.bind] at h; exact h
  | ok d e1 =>
    simp only [q, Re.bind] at h
    intro v H' F' x
    obtain ⟨G, F0, eF, p, x', hd, n1, nw⟩ := x.head
    cases d with
    | bl b => cases p; exact ⟨b, rfl, h H' F0 x'⟩
    | _ => exact h.elim
theorem and_of {t u : MT} {Q : Bool → Hp → Prop} (h : tT K W (andT t u) σ H Q) : tAnd (tT K W t) (tT K W u) σ H Q := by
  obtain ⟨e, F, r, nd, h⟩ := h
  refine ⟨e, F, r, nd, ?_⟩
  unfold andT at h
  cases q : t e with
  | bad => simp only [q, Re.bind] at h
  | exc y e1 => simp only [q, Re.bind] at h; exact h
  | ok c e1 =>
    simp only [q, Re.bind] at h
    intro H1 F1 x
    cases c with
    | false => exact h H1 F1 x
    | true =>
      simp only [if_true] at h ⊢
      refine ⟨e1, F1, x.r, x.nd, ?_⟩
      cases q2 : u e1 with
      | bad => rw [q2] at h; exact h
      | exc y e2 => rw [q2] at h; exact fun c dx H' F' y p => h c dx H' F' (x.trans y) p
      | ok b e2 => rw [q2] at h; exact fun H' F' y => h H' F' (x.trans y)
theorem or_of {t u : MT} {Q : Bool → Hp → Prop} (h : tT K W (orT t u) σ H Q) : tOr (tT K W t) (tT K W u) σ H Q := by
  obtain ⟨e, F, r, nd, h⟩ := h
  refine ⟨e, F, r, nd, ?_⟩
  unfold orT at h
  cases q : t e with
  | bad => simp only [q, Re.bind] at h
  | exc y e1 => simp only [q, Re.bind] at h; exact h
  | ok c e1 =>
    simp only [q, Re.bind] at h
    intro H1 F1 x
    cases c with
    | true => exact h H1 F1 x
    | false =>
      simp only [Bool.false_eq_true, if_false] at h ⊢
      refine ⟨e1, F1, x.r, x.nd, ?_⟩
      cases q2 : u e1 with
      | bad => rw [q2] at h; exact h
      | exc y e2 => rw [q2] at h; exact fun c dx H' F' y p => h c dx H' F' (x.trans y) p
      | ok b e2 => rw [q2] at h; exact fun H' F' y => h H' F' (x.trans y)
theorem not_of {t : MT} {Q : Bool → Hp → Prop} (h : tT K W (notT t) σ H Q) : tNot (tT K W t) σ H Q := by
  obtain ⟨e, F, r, nd, h⟩ := h
  refine ⟨e, F, r, nd, ?_⟩
  unfold notT at h
  cases q : t e with
  | bad => simp only [q, Re.bind] at h
  | exc y e1 => simp only [q, Re.bind] at h; exact h
  | ok c e1 =>
    simp only [q, Re.bind] at h
    exact fun H1 F1 x => h H1 F1 x
variable {X : Cx} {a b : Expr} {pos : Pos} {ma mb : MB} {na n2 : ME} {f : D → D → Option D} {r : R2} {t u : MT} {rest : List Expr}
theorem t_val {e : Expr} {n : ME} (h : PE X e (tE X.K W n)) (he : ∀ whole, isTrue e X.env whole = (do let v ← whole; standAt e.pos; holding [v] (truthy v)) := by intro _; rfl) : PT X e (tT X.K W (tst n)) := PT.mono (pt_val h he) fun _ _ _ h => tst_of h
theorem t_cmp {op : CmpOp} (o : OpR X (compareOp op) r) (n : OpN X.K r f) (pa : PE X a (tB X.K W ma)) (pb : PE X b (tB X.K W mb)) (hm : behindInMarks op b = false) : PT X (.Compare a [op] [b] pos) (tT X.K W (tst (ofN (bin f ma mb)))) := PT.mono (pt_cmpR o pa pb hm) fun _ _ _ h => op_bb n (ofN_N (tst_of h))
theorem te_cmp {op : CmpOp} (o : OpR X (compareOp op) r) (n : OpN X.K r f) (pa : PE X a (tE X.K W na)) (pb : PE X b (tE X.K W n2)) (hm : behindInMarks op b = false) : PT X (.Compare a [op] [b] pos) (tT X.K W (tst (binE f na n2))) := PT.mono (pt_cmpR o pa pb hm) fun _ _ _ h => op_ee n (tst_of h)
theorem tv_cmp {op : CmpOp} {i : Nat} {x : Str} {p1 : Pos} (o : OpR X (compareOp op) r) (n : OpN X.K r f) (pb : PE X b (tE X.K W n2)) (hm : behindInMarks op b = false) (hN : X.N[i]? = some x := by rfl) (hv : Vis X.env.scope x := by first | exact Or.inl rfl | exact Or.inr (Or.inl rfl) | exact Or.inr (Or.inr rfl)) (hd : (x == ("__debug__" : Str)) = false := by decide)
    (hcd : (x == ("__classdict__" : Str)) = false := by decide) : PT X (.Compare (.Name x p1) [op] [b] pos) (tT X.K W (tst (binV f i n2))) := PT.mono (pt_cmpR o (pe_var hN hv hd hcd) pb hm) fun _ _ _ h => op_ve n (tst_of h)
theorem t_and1 (ha : PT X a (tT X.K W t)) : PW X (.BoolOp .And [a] pos) (tT X.K W t) := pw_and1 ha
theorem t_or1 (ha : PT X a (tT X.K W t)) : PW X (.BoolOp .Or [a] pos) (tT X.K W t) := pw_or1 ha
theorem t_and (ha : PT X a (tT X.K W t)) (hb : PW X (.BoolOp .And (b :: rest) pos) (tT X.K W u)) : PW X (.BoolOp .And (a :: b :: rest) pos) (tT X.K W (andT t u)) := PW.mono (pw_and ha hb) fun _ _ _ h => and_of h
theorem t_or (ha : PT X a (tT X.K W t)) (hb : PW X (.BoolOp .Or (b :: rest) pos) (tT X.K W u)) : PW X (.BoolOp .Or (a :: b :: rest) pos) (tT X.K W (orT t u)) := PW.mono (pw_or ha hb) fun _ _ _ h => or_of h
theorem t_not (ha : PT X a (tT X.K W t)) : PT X (.UnaryOp .Not a pos) (tT X.K W (notT t)) := PT.mono (pt_not ha) fun _ _ _ h => not_of h
end

/-! ### and, or, not as values -/
def bl1 {α : Type} (d : D) (k : Bool → Rs α) : Rs α := match d with
  | .bl b => k b
  | _ => .bad
def bl2 {α : Type} (d : D) (k : Bool → Re α) : Re α := match d with
  | .bl b => k b
  | _ => .bad
def andB (ma mb : MB) : MB := fun e => (ma e).bind fun a => bl1 a fun k => if k = true then (mb e).bind fun b => bl1 b fun c => .ok (.bl c) else .ok (.bl false)
def orB (ma mb : MB) : MB := fun e => (ma e).bind fun a => bl1 a fun k => if k = true then .ok (.bl true) else (mb e).bind fun b => bl1 b fun c => .ok (.bl c)
def notB (ma : MB) : MB := fun e => (ma e).bind fun a => bl1 a fun k => .ok (.bl (!k))
def andE (ma mb : ME) : ME := fun e => (ma e).bind fun a e1 => bl2 a fun k => if k = true then (mb e1).bind fun b e2 => bl2 b fun c => .ok (.bl c) e2 else .ok (.bl false) e1
def orE (ma mb : ME) : ME := fun e => (ma e).bind fun a e1 => bl2 a fun k => if k = true then .ok (.bl true) e1 else (mb e1).bind fun b e2 => bl2 b fun c => .ok (.bl c) e2
def notE (ma : ME) : ME := fun e => (ma e).bind fun a e1 => bl2 a fun k => .ok (.bl (!k)) e1
section
variable {K : PySem.W.Frag} {W : WX} {σ : L2.St} {H : Hp} {Q : VK}
theorem bl_B {m : MB} (h : tN K W (fun e => (m e).bind fun b => bl1 b fun c => .ok (.bl c)) σ H Q) : tB K W m σ H Q := by
  obtain ⟨e, F, r, h⟩ := h
  refine ⟨e, F, r, ?_⟩
  cases q : m e with
  | bad => simp only [q, Rs.bind] at h
  | exc y => simp only [q, Rs.bind] at h; exact h
  | ok d =>
    simp only [q, Rs.bind] at h
    intro v H' G k p
    cases d with
    | bl b => cases p; exact h _ H' [] k .bl .nil fun _ m => by cases m
    | _ => exact h.elim
theorem bl_E {m : ME} (h : tE K W (fun e => (m e).bind fun b e2 => bl2 b fun c => .ok (.bl c) e2) σ H Q) : tE K W m σ H Q := by
  obtain ⟨e, F, r, nd, h⟩ := h
  refine ⟨e, F, r, nd, ?_⟩
  cases q : m e with
  | bad => simp only [q, Re.bind] at h
  | exc y e1 => simp only [q, Re.bind] at h; exact h
  | ok d e1 =>
    simp only [q, Re.bind] at h
    cases d with
    | bl b => exact h
    | _ => exact h.elim
theorem andB_of {ma mb : MB} (h : tN K W (andB ma mb) σ H Q) : tAndV (tB K W ma) (tB K W mb) σ H Q := by
  obtain ⟨e, F, r, h⟩ := h
  refine ⟨e, F, r, ?_⟩
  unfold andB at h
  cases q : ma e with
  | bad => simp only [q, Rs.bind] at h
  | exc y => simp only [q, Rs.bind] at h; exact h
  | ok d =>
    simp only [q, Rs.bind] at h
    intro v H' G k p
    cases d with
    | bl b =>
      cases p
      refine ⟨b, rfl, ?_⟩
      cases b with
      | true =>
        simp only [bl1, if_true] at h ⊢
        refine bl_B ⟨e, F, r.same k, ?_⟩
        cases q2 : mb e with
        | bad => simp only [q2] at h
        | exc y =>
          simp only [q2, Rs.bind] at h ⊢
          exact fun c dx H2 k2 p => h c dx H2 (k.trans k2 (fun _ m => by cases m)) p
        | ok d2 =>
          simp only [q2, Rs.bind] at h ⊢
          cases d2 with
          | bl c => exact fun v H2 G2 k2 p2 n1 n2 => h v H2 G2 (k.trans k2 (fun _ m => by cases m)) p2 n1 (fun z m => k.none (n2 z m) (fun m => by cases m))
          | _ => exact h.elim
      | false =>
        simp only [bl1] at h
        exact h _ H' [] k .bl .nil fun _ m => by cases m
    | _ => exact h.elim
theorem orB_of {ma mb : MB} (h : tN K W (orB ma mb) σ H Q) : tOrV (tB K W ma) (tB K W mb) σ H Q := by
  obtain ⟨e, F, r, h⟩ := h
  refine ⟨e, F, r, ?_⟩
  unfold orB at h
  cases q : ma e with
  | bad => simp only [q, Rs.bind] at h
  | exc y => simp only [q, Rs.bind] at h; exact h
  | ok d =>
    simp only [q, Rs.bind] at h
    intro v H' G k p
    cases d with
    | bl b =>
      cases p
      refine ⟨b, rfl, ?_⟩
      cases b with
      | false =>
        simp only [bl1, Bool.false_eq_true, if_false] at h ⊢
        refine bl_B ⟨e, F, r.same k, ?_⟩
        cases q2 : mb e with
        | bad => simp only [q2] at h
        | exc y =>
          simp only [q2, Rs.bind] at h ⊢
          exact fun c dx H2 k2 p => h c dx H2 (k.trans k2 (fun _ m => by cases m)) p
        | ok d2 =>
          simp only [q2, Rs.bind] at h ⊢
          cases d2 with
          | bl c => exact fun v H2 G2 k2 p2 n1 n2 => h v H2 G2 (k.trans k2 (fun _ m => by cases m)) p2 n1 (fun z m => k.none (n2 z m) (fun m => by cases m))
          | _ => exact h.elim
      | true =>
        simp only [bl1] at h
        exact h _ H' [] k .bl .nil fun _ m => by cases m
    | _ => exact h.elim
theorem notB_of {ma : MB} (h : tN K W (notB ma) σ H Q) : tNotV (tB K W ma) σ H Q := by
  obtain ⟨e, F, r, h⟩ := h
  refine ⟨e, F, r, ?_⟩
  unfold notB at h
  cases q : ma e with
  | bad => simp only [q, Rs.bind] at h
  | exc y => simp only [q, Rs.bind] at h; exact h
  | ok d =>
    simp only [q, Rs.bind] at h
    intro v H' G k p
    cases d with
    | bl b => cases p; exact ⟨b, rfl, h _ H' [] k .bl .nil fun _ m => by cases m⟩
    | _ => exact h.elim
theorem andE_of {ma mb : ME} (h : tE K W (andE ma mb) σ H Q) : tAndV (tE K W ma) (tE K W mb) σ H Q := by
  obtain ⟨e, F, r, nd, h⟩ := h
  refine ⟨e, F, r, nd, ?_⟩
  unfold andE at h
  cases q : ma e with
  | bad => simp only [q, Re.bind] at h
  | exc y e1 => simp only [q, Re.bind] at h; exact h
  | ok d e1 =>
    simp only [q, Re.bind] at h
    intro v H1 F1 x
    obtain ⟨G, F0, eF, p, x', hd, n1, nw⟩ := x.head
    cases d with
    | bl b =>
      cases p
      refine ⟨b, rfl, ?_⟩
      cases b with
      | true =>
        simp only [bl2, if_true] at h ⊢
        refine bl_E ⟨e1, F0, x'.r, x'.nd, ?_⟩
        cases q2 : mb e1 with
        | bad => simp only [q2] at h
        | exc y e2 =>
          simp only [q2, Re.bind] at h ⊢
          exact fun c dx H2 F2 y p => h c dx H2 F2 (x'.trans y) p
        | ok d2 e2 =>
          simp only [q2, Re.bind] at h ⊢
          cases d2 with
          | bl c => exact fun v H2 F2 y => h v H2 F2 (x'.trans y)
          | _ => exact h.elim
      | false =>
        simp only [bl2] at h
        exact h _ H1 _ (x'.consImm .bl rfl)
    | _ => exact h.elim
theorem orE_of {ma mb : ME} (h : tE K W (orE ma mb) σ H Q) : tOrV (tE K W ma) (tE K W mb) σ H Q := by
  obtain ⟨e, F, r, nd, h⟩ := h
  refine ⟨e, F, r, nd, ?_⟩
  unfold orE at h
  cases q : ma e with
  | bad => simp only [q, Re.bind] at h
  | exc y e1 => simp only [q, Re.bind] at h; exact h
  | ok d e1 =>
    simp only [q, Re.bind] at h
    intro v H1 F1 x
    obtain ⟨G, F0, eF, p, x', hd, n1, nw⟩ := x.head
    cases d with
    | bl b =>
      cases p
      refine ⟨b, rfl, ?_⟩
      cases b with
      | false =>
        simp only [bl2, Bool.false_eq_true, if_false] at h ⊢
        refine bl_E ⟨e1, F0, x'.r, x'.nd, ?_⟩
        cases q2 : mb e1 with
        | bad => simp only [q2] at h
        | exc y e2 =>
          simp only [q2, Re.bind] at h ⊢
          exact fun c dx H2 F2 y p => h c dx H2 F2 (x'.trans y) p
        | ok d2 e2 =>
          simp only [q2, Re.bind] at h ⊢
          cases d2 with
          | bl c => exact fun v H2 F2 y => h v H2 F2 (x'.trans y)
          | _ => exact h.elim
      | true =>
        simp only [bl2] at h
        exact h _ H1 _ (x'.consImm .bl rfl)
    | _ => exact h.elim
theorem notE_of {ma : ME} (h : tE K W (notE ma) σ H Q) : tNotV (tE K W ma) σ H Q := by
  obtain ⟨e, F, r, nd, h⟩ := h
  refine ⟨e, F, r, nd, ?_⟩
  unfold notE at h
  cases q : ma e with
  | bad => simp only [q, Re.bind] at h
  | exc y e1 => simp only [q, Re.bind] at h; exact h
  | ok d e1 =>
    simp only [q, Re.bind] at h
    intro v H1 F1 x
    obtain ⟨G, F0, eF, p, x', hd, n1, nw⟩ := x.head
    cases d with
    | bl b => cases p; exact ⟨b, rfl, h _ H1 _ (x'.consImm .bl rfl)⟩
    | _ => exact h.elim
variable {X : Cx} {a b : Expr} {pos : Pos} {ma mb : MB} {na nb' : ME} {rest : List Expr}
theorem x_one {op} {t : TE} (h : PE X a t) : PE X (.BoolOp op [a] pos) t := pe_one h
theorem x_and (ha : PE X a (tB X.K W ma)) (hb : PE X (.BoolOp .And (b :: rest) pos) (tB X.K W mb)) : PE X (.BoolOp .And (a :: b :: rest) pos) (tN X.K W (andB ma mb)) := PE.mono (pe_and ha hb) fun _ _ _ h => andB_of h
theorem x_or (ha : PE X a (tB X.K W ma)) (hb : PE X (.BoolOp .Or (b :: rest) pos) (tB X.K W mb)) : PE X (.BoolOp .Or (a :: b :: rest) pos) (tN X.K W (orB ma mb)) := PE.mono (pe_or ha hb) fun _ _ _ h => orB_of h
theorem x_not (ha : PE X a (tB X.K W ma)) : PE X (.UnaryOp .Not a pos) (tN X.K W (notB ma)) := PE.mono (pe_not ha) fun _ _ _ h => notB_of h
theorem e_and (ha : PE X a (tE X.K W na)) (hb : PE X (.BoolOp .And (b :: rest) pos) (tE X.K W nb')) : PE X (.BoolOp .And (a :: b :: rest) pos) (tE X.K W (andE na nb')) := PE.mono (pe_and ha hb) fun _ _ _ h => andE_of h
theorem e_or (ha : PE X a (tE X.K W na)) (hb : PE X (.BoolOp .Or (b :: rest) pos) (tE X.K W nb')) : PE X (.BoolOp .Or (a :: b :: rest) pos) (tE X.K W (orE na nb')) := PE.mono (pe_or ha hb) fun _ _ _ h => orE_of h
theorem e_not (ha : PE X a (tE X.K W na)) : PE X (.UnaryOp .Not a pos) (tE X.K W (notE na)) := PE.mono (pe_not ha) fun _ _ _ h => notE_of h
end

/-! ### a chain of two comparisons -/
def chB (f g : D → D → Option D) (ma mb mc : MB) : MB := fun e => (ma e).bind fun a => (mb e).bind fun b => (Rs.of (f a b)).bind fun z => bl1 z fun k => if k = true then (mc e).bind fun c => (Rs.of (g b c)).bind fun y => bl1 y fun q => .ok (.bl q) else .ok (.bl false)
section
variable {K : PySem.W.Frag} {W : WX} {σ : L2.St} {H : Hp} {Q : VK} {r r' : R2} {f g : D → D → Option D} {ma mb mc : MB}
theorem ch_of (o : OpN K r f) (o' : OpN K r' g) (h : tN K W (chB f g ma mb mc) σ H Q) : tChain r r' (tB K W ma) (tB K W mb) (tB K W mc) σ H Q := by
  obtain ⟨e, F, rl, h⟩ := h
  unfold chB at h
  refine ⟨e, F, rl, ?_⟩
  cases qa : ma e with
  | bad => simp only [qa, Rs.bind] at h
  | exc y => simp only [qa, Rs.bind] at h; exact h
  | ok a =>
    simp only [qa, Rs.bind] at h
    intro v1 H1 G1 k1 p1
    refine ⟨e, F, rl.same k1, ?_⟩
    cases qb : mb e with
    | bad => simp only [qb] at h
    | exc y => simp only [qb] at h; exact fun c dx H' k p => h c dx H' (k1.trans k fun _ m => by cases m) p
    | ok b =>
      simp only [qb] at h
      intro v2 H2 G2 k2 p2
      have k12 : Keeps [] H H2 := k1.trans k2 fun _ m => by cases m
      cases qf : f a b with
      | none => simp only [qf, Rs.of] at h
      | some z =>
        simp only [qf, Rs.of] at h
        refine o (p1.same k2) p2 qf fun v H3 G k3 p n1 n2 => ?_
        have k13 : Keeps [] H H3 := k12.trans k3 fun _ m => by cases m
        cases z with
        | bl k =>
          cases p
          refine ⟨k, rfl, ?_⟩
          cases k with
          | false => exact h _ H3 [] k13 .bl .nil fun _ m => by cases m
          | true =>
            simp only [bl1, if_true] at h ⊢
            refine ⟨e, F, ((rl.same k1).same k2).same k3, ?_⟩
            cases qc : mc e with
            | bad => simp only [qc] at h
            | exc y => simp only [qc] at h; exact fun c dx H' k p => h c dx H' (k13.trans k fun _ m => by cases m) p
            | ok c =>
              simp only [qc] at h
              intro v4 H4 G4 k4 p4
              cases qg : g b c with
              | none => simp only [qg] at h
              | some y =>
                simp only [qg] at h
                refine o' ((p2.same k3).same k4) p4 qg fun v H5 G k5 p n1 n2 => ?_
                cases y with
                | bl q => cases p; exact h _ H5 [] ((k13.trans k4 fun _ m => by cases m).trans k5 fun _ m => by cases m) .bl .nil fun _ m => by cases m
                | _ => exact h.elim
        | _ => exact h.elim
variable {X : Cx} {a b c : Expr} {pos : Pos}
theorem x_chain {op op' : CmpOp} (ho : OpR X (compareOp op) r) (o : OpN X.K r f) (ho' : OpR X (compareOp op') r') (o' : OpN X.K r' g) (pa : PE X a (tB X.K W ma)) (pb : PE X b (tB X.K W mb)) (pc : PE X c (tB X.K W mc))
    (q : PE X (.Compare a [op, op'] [b, c] pos) (tChain r r' (tB X.K W ma) (tB X.K W mb) (tB X.K W mc))) : PE X (.Compare a [op, op'] [b, c] pos) (tN X.K W (chB f g ma mb mc)) := PE.mono q fun _ _ _ h => ch_of o o' h
theorem t_chain {op op' : CmpOp} (o : OpN X.K r f) (o' : OpN X.K r' g)
    (q : PT X (.Compare a [op, op'] [b, c] pos) (tTest (tChain r r' (tB X.K W ma) (tB X.K W mb) (tB X.K W mc)))) : PT X (.Compare a [op, op'] [b, c] pos) (tT X.K W (tst (ofN (chB f g ma mb mc)))) := PT.mono q fun _ _ _ h => ch_of o o' (ofN_N (tst_of h))
end
end Mir

namespace Mir
open PySem PySem.Spec L2

/-! ### statements -/
section
variable {K : PySem.W.Frag} {H H1 : Hp} {σ σ1 : L2.St} {e e1 : E} {F F1 : List Addr}
theorem set_over {α : Type} {l : List α} {i : Nat} (h : l.length ≤ i) (a : α) : l.set i a = l := List.set_eq_of_length_le h
/-- a store at any place -/
theorem Ev.put {v : V} {d : D} (x : Ev K F H (some v :: σ1) H1 (some d :: e1) F1) (i : Nat) : ∃ F3, Ev K F H (σ1.set i (some v)) H1 (e1.set i (some d)) F3 := by
  by_cases hi : i < e1.length
  · exact x.store i hi
  · obtain ⟨G, F0, eF, p, x', hd, n1, nw⟩ := x.head
    have hl := x'.r.len
    rw [set_over (by omega), set_over (by omega)]
    exact ⟨F0, x'⟩
/-- what stands in the slot i is changed where it stands -/
theorem Ev.update {d : D} {i : Nat} (x : Ev K F H σ H1 e1 F1) (h : e1[i]? = some (some d)) :
    ∃ v G, σ[i]? = some (some v) ∧ Rp K H1 v d G ∧ (∀ a ∈ G, a ∈ F1) ∧ G.Nodup ∧ ∀ H2 d' G', Keeps G H1 H2 → Rp K H2 v d' G' → G'.Nodup → (∀ a ∈ G', a ∈ G ∨ ((a ∈ F ∨ H a = none) ∧ a ∉ F1)) → ∃ F', Ev K F H σ H2 (e1.set i (some d')) F' := by
  obtain ⟨v, G, F0, h1, h2, h3, h4⟩ := x.r.take h
  obtain ⟨n1, n2, n3⟩ := List.nodup_append.mp (h4.nodup_iff.mp x.nd)
  have sub : ∀ a ∈ G, a ∈ F1 := fun a m => h4.mem_iff.mpr (List.mem_append_left _ m)
  have sub0 : ∀ a ∈ F0, a ∈ F1 := fun a m => h4.mem_iff.mpr (List.mem_append_right _ m)
  refine ⟨v, G, h1, h2, sub, n1, fun H2 d' G' k p nd hG => ?_⟩
  have dj : ∀ a ∈ F0, a ∉ G := fun a m m' => n3 a m' a m rfl
  have r0 := h3.keep k dj
  have hi : i < e1.length := (List.getElem?_eq_some_iff.mp h).1
  obtain ⟨F', r1, pm⟩ := r0.put (i := i) (by rw [List.getElem?_set_self hi]) p
  rw [List.set_set, set_self h1] at r1
  refine ⟨F', x.k.trans k fun a m => x.new a (sub a m), r1, pm.nodup_iff.mpr (List.nodup_append.mpr ⟨nd, n2, fun a m b m' z => ?_⟩), fun a m => ?_⟩
  · subst z
    rcases hG a m with z | z
    · exact dj a m' z
    · exact z.2 (sub0 a m')
  · rcases List.mem_append.mp (pm.mem_iff.mp m) with m | m
    · rcases hG a m with z | z
      · exact x.new a (sub a z)
      · exact z.1
    · exact x.new a (sub0 a m)
end
def mNil : MS := fun e => .nx e
def mSeq (a b : MS) : MS := fun e => match a e with
  | .nx e1 => b e1
  | r => r
def mSet (i : Nat) (n : ME) : MS := fun e => match n e with
  | .ok d e1 => .nx (e1.set i (some d))
  | .exc x e1 => .exc x e1
  | .bad => .bad
def mExpr (n : ME) : MS := fun e => match n e with
  | .ok _ e1 => .nx e1
  | .exc x e1 => .exc x e1
  | .bad => .bad
def mIf (t : MT) (a b : MS) : MS := fun e => match t e with
  | .ok c e1 => if c = true then a e1 else b e1
  | .exc x e1 => .exc x e1
  | .bad => .bad
def mRet (n : ME) : MS := fun e => match n e with
  | .ok d e1 => .rt d e1
  | .exc x e1 => .exc x e1
  | .bad => .bad
def mRetN : MS := fun e => .rt .non e
def mBreak : MS := fun e => .bk e
def mCont : MS := fun e => .ct e
/-- name op= expression -/
def mAug (i : Nat) (f : D → D → Option D) (n : ME) : MS := fun e => match e[i]? with
  | some (some a) => if imm a = true then (match n e with
    | .ok b e1 => (match f a b with
      | some d => .nx (e1.set i (some d))
      | none => .bad)
    | .exc x e1 => .exc x e1
    | .bad => .bad) else .bad
  | _ => .bad
theorem Fz.set {Z : Zs} {σ : L2.St} {i : Nat} {v : Option V} (h : Z i = false) : Fz Z σ (σ.set i v) := ⟨List.length_set, fun j m => by
  rw [List.getElem?_set_ne]
  intro z
  rw [← z, h] at m
  cases m⟩
section
variable {X : Cx} {W : WX} {Z : Zs}
/-- the rest of a row, from a later state -/
theorem tM_next {m : MS} {D : Ends} {σ σ1 : L2.St} {H H1 : Hp} {e1 : E} {F F1 : List Addr} {K : PySem.W.Frag} (x : Ev K F H σ1 H1 e1 F1) (z : Fz Z σ σ1)
    (h : match m e1 with
      | .nx e' => ∀ σ' H' F', Ev K F H σ' H' e' F' → Fz Z σ σ' → D.nx σ' H'
      | .rt d e' => ∀ v σ' H' F', Ev K F H (some v :: σ') H' (some d :: e') F' → Fz Z σ σ' → D.rt v H'
      | .bk e' => ∀ σ' H' F', Ev K F H σ' H' e' F' → Fz Z σ σ' → D.bk σ' H'
      | .ct e' => ∀ σ' H' F', Ev K F H σ' H' e' F' → Fz Z σ σ' → D.ct σ' H'
      | .exc x e' => ∀ c dx σ' H' F', Ev K F H σ' H' e' F' → Fz Z σ σ' → RpX K H' c dx x → W c dx σ' H'
      | .bad => False) : tM K W Z m D σ1 H1 := by
  refine ⟨e1, F1, x.r, x.nd, ?_⟩
  cases q : m e1 with
  | nx e' => rw [q] at h; exact fun σ' H' F' y w => h σ' H' F' (x.trans y) (z.trans w)
  | rt d e' => rw [q] at h; exact fun v σ' H' F' y w => h v σ' H' F' (x.trans y) (z.trans w)
  | bk e' => rw [q] at h; exact fun σ' H' F' y w => h σ' H' F' (x.trans y) (z.trans w)
  | ct e' => rw [q] at h; exact fun σ' H' F' y w => h σ' H' F' (x.trans y) (z.trans w)
  | exc y e' => rw [q] at h; exact fun c dx σ' H' F' y w p => h c dx σ' H' F' (x.trans y) (z.trans w) p
  | bad => rw [q] at h; exact h
theorem m_nil : PSs X [] (tM X.K W Z mNil) := PSs.mono pss_nil fun D σ H ⟨e, F, r, nd, h⟩ => h σ H F (.refl r nd) (.refl _ _)
theorem m_cons {st : Stmt} {rest : List Stmt} {a b : MS} (p : PS X st (tM X.K W Z a)) (q : PSs X rest (tM X.K W Z b)) : PSs X (st :: rest) (tM X.K W Z (mSeq a b)) := PSs.mono (pss_cons p q) fun D σ H ⟨e, F, r, nd, h⟩ => by
  refine ⟨e, F, r, nd, ?_⟩
  unfold mSeq at h
  cases qa : a e with
  | nx e1 => rw [qa] at h; exact fun σ' H' F' x z => tM_next x z h
  | rt d e' => rw [qa] at h; exact h
  | bk e' => rw [qa] at h; exact h
  | ct e' => rw [qa] at h; exact h
  | exc y e' => rw [qa] at h; exact h
  | bad => rw [qa] at h; exact h
theorem m_one {st : Stmt} {a : MS} (p : PS X st (tM X.K W Z a)) : PSs X [st] (tM X.K W Z a) := pss_one p
theorem m_pass {pos : Pos} : PS X (.Pass pos) (tM X.K W Z mNil) := PS.mono ps_pass fun D σ H ⟨e, F, r, nd, h⟩ => h σ H F (.refl r nd) (.refl _ _)
theorem m_break {pos : Pos} : PS X (.Break pos) (tM X.K W Z mBreak) := PS.mono ps_break fun D σ H ⟨e, F, r, nd, h⟩ => h σ H F (.refl r nd) (.refl _ _)
theorem m_cont {pos : Pos} : PS X (.Continue pos) (tM X.K W Z mCont) := PS.mono ps_continue fun D σ H ⟨e, F, r, nd, h⟩ => h σ H F (.refl r nd) (.refl _ _)
theorem tSet_of {K : PySem.W.Frag} {i : Nat} {n : ME} {D : Ends} {σ : L2.St} {H : Hp} (hz : Z i = false) (h : tM K W Z (mSet i n) D σ H) : tAsg (tE K W n) (gName i) D σ H := by
  obtain ⟨e, F, r, nd, h⟩ := h
  refine ⟨e, F, r, nd, ?_⟩
  unfold mSet at h
  cases q : n e with
  | bad => rw [q] at h; exact h
  | exc y e1 => rw [q] at h; exact fun c dx H' F' x p => h c dx σ H' F' x (.refl _ _) p
  | ok d e1 =>
    rw [q] at h
    intro v H' F' x
    obtain ⟨F3, y⟩ := x.put i
    exact h _ H' F3 y (.set hz)
theorem m_set {i : Nat} {x : Str} {e : Expr} {n : ME} {pos pos' : Pos} (he : PE X e (tE X.K W n)) (hN : X.N.Nodup) (hz : Z i = false := by rfl) (hi : X.N[i]? = some x := by rfl) (hx : Loc X.env.scope x := by first | exact Or.inl rfl | exact Or.inr rfl)
    (hs : swapsWith e (some (.Name x pos')) pos.line X.env = pure false := by rfl) (hf : X.fn x = true ∨ X.env.scope.names.lookup x = some .local := by first | exact .inl rfl | exact .inr rfl | assumption) :
    PS X (.Assign [.Name x pos'] e pos) (tM X.K W Z (mSet i n)) := PS.mono (ps_set hN hi hx he hs hf) fun D σ H => tSet_of hz
theorem m_expr {e : Expr} {n : ME} {pos : Pos} (he : PE X e (tE X.K W n)) (hs : swapsWith e none pos.line X.env = pure false := by rfl) : PS X (.Expr e pos) (tM X.K W Z (mExpr n)) := PS.mono (ps_expr he hs) fun D σ H ⟨e, F, r, nd, h⟩ => by
  refine ⟨e, F, r, nd, ?_⟩
  unfold mExpr at h
  cases q : n e with
  | bad => rw [q] at h; exact h
  | exc y e1 => rw [q] at h; exact fun c dx H' F' x p => h c dx σ H' F' x (.refl _ _) p
  | ok d e1 =>
    rw [q] at h
    intro v H' F' x
    obtain ⟨G, F0, eF, p, x', hd, n1, nw⟩ := x.head
    exact h _ H' F0 x' (.refl _ _)
theorem m_if {c : Expr} {t : MT} {ss us : List Stmt} {a b : MS} {pos : Pos} (hc : PT X c (tT X.K W t)) (ha : PSs X ss (tM X.K W Z a)) (hb : PSs X us (tM X.K W Z b)) : PS X (.If c ss us pos) (tM X.K W Z (mIf t a b)) := PS.mono (ps_if hc ha hb) fun D σ H ⟨e, F, r, nd, h⟩ => by
  refine ⟨e, F, r, nd, ?_⟩
  unfold mIf at h
  cases q : t e with
  | bad => rw [q] at h; exact h
  | exc y e1 => rw [q] at h; exact fun c dx H' F' x p => h c dx σ H' F' x (.refl _ _) p
  | ok k e1 =>
    rw [q] at h
    intro H1 F1 x
    cases k with
    | true => exact tM_next x (.refl _ _) h
    | false => exact tM_next x (.refl _ _) h
theorem m_ret {e : Expr} {n : ME} {pos : Pos} (he : PE X e (tE X.K W n)) : PS X (.Return (some e) pos) (tM X.K W Z (mRet n)) := PS.mono (ps_ret he) fun D σ H ⟨e, F, r, nd, h⟩ => by
  refine ⟨e, F, r, nd, ?_⟩
  unfold mRet at h
  cases q : n e with
  | bad => rw [q] at h; exact h
  | exc y e1 => rw [q] at h; exact fun c dx H' F' x p => h c dx σ H' F' x (.refl _ _) p
  | ok d e1 => rw [q] at h; exact fun v H' F' x => h v σ H' F' x (.refl _ _)
theorem m_retN {pos : Pos} : PS X (.Return none pos) (tM X.K W Z mRetN) := PS.mono ps_retN fun D σ H ⟨e, F, r, nd, h⟩ => h .non σ H F ((Ev.refl r nd).consImm .non rfl) (.refl _ _)
theorem m_aug {i : Nat} {x : Str} {e : Expr} {n : ME} {op : Operator} {f : D → D → Option D} {ti : TIp} {pos pos' : Pos} (ho : PIp X op ti) (o : OpN X.K ti f) (he : PE X e (tE X.K W n)) (hN : X.N.Nodup) (hz : Z i = false := by rfl) (hi : X.N[i]? = some x := by rfl) (hx : Loc X.env.scope x := by first | exact Or.inl rfl | exact Or.inr rfl)
    (hf : X.fn x = true ∨ X.env.scope.names.lookup x = some .local := by first | exact .inl rfl | exact .inr rfl | assumption) : PS X (.AugAssign (.Name x pos') op e pos) (tM X.K W Z (mAug i f n)) := PS.mono (ps_aug hN hi hx he ho hf) fun D σ H ⟨e, F, r, nd, h⟩ => by
  unfold mAug at h
  cases q : e[i]? with
  | none => rw [q] at h; exact h.elim
  | some oo =>
    rw [q] at h
    cases oo with
    | none => exact h.elim
    | some a =>
      simp only at h
      obtain ⟨v1, G0, hs, p1, _⟩ := r.get q
      by_cases hi : imm a = true
      · rw [if_pos hi] at h
        have e0 := p1.fpImm hi
        subst e0
        refine ⟨v1, hs, e, F, r, nd, ?_⟩
        cases qb : n e with
        | bad => rw [qb] at h; exact h
        | exc y e1 => rw [qb] at h; exact fun c dx H' F' x p => h c dx σ H' F' x (.refl _ _) p
        | ok b e1 =>
          rw [qb] at h
          intro v2 H2 F2 y
          obtain ⟨G2, F3, eF2, p2, y2, hd2, n2, nw2⟩ := y.head
          simp only at h
          cases qf : f a b with
          | none => rw [qf] at h; exact h.elim
          | some d =>
            rw [qf] at h
            refine o (p1.keep y.k fun _ m => by cases m) p2 qf fun v H' G' k p' n1' n2' => ?_
            obtain ⟨F4, w⟩ := (y2.consNew k p' n1' n2').put i
            exact h _ H' F4 w (.set hz)
      · rw [if_neg hi] at h; exact h.elim
end
abbrev rAug : TIp := fun x y H Q => (rI0 fun i j => .int (i + j)) x y H Q ∨ ∃ i j, x = .str i ∧ y = .str j ∧ i.length + j.length ≤ sizeLine ∧ Q (.str (i ++ j)) H
def fAug : D → D → Option D
  | .int i, .int j => some (.int (i + j))
  | .str s, .str t => if fits (s.length + t.length) = true then some (.str (s ++ t)) else none
  | _, _ => none
theorem PIp.of {X : Cx} {op : Operator} {r : R2} (h : OpR X (inplaceOp op) r) : PIp X op r := fun pins s σ H x y v u Q I rx ry q => h pins s σ H x y v u Q I rx ry q
theorem i_add {X : Cx} : PIp X .Add rAug := PIp.of (iop_add.or iop_add_str)
theorem i_sub {X : Cx} : PIp X .Sub (rI0 fun i j => .int (i - j)) := PIp.of iop_sub
theorem i_mul {X : Cx} : PIp X .Mult (rI CMul fun i j => .int (i * j)) := PIp.of iop_mul
theorem i_fdiv {X : Cx} : PIp X .FloorDiv (rI CDiv fun i j => .int (i / j)) := PIp.of iop_fdiv
theorem n_aug {K : PySem.W.Frag} : OpN K rAug fAug := by
  intro H v1 v2 d1 d2 G1 G2 d Q p1 p2 e h
  unfold fAug at e
  split at e
  · cases e; cases p1; cases p2
    exact .inl ⟨_, _, rfl, rfl, Rp.same0 h .int⟩
  · split at e
    · rename_i hf
      cases e; cases p1; cases p2
      rename_i x hx y hy
      refine .inr ⟨_, _, rfl, rfl, ?_, Rp.same0 h (rp_str (okC_append hx hy) (toList_append _ _))⟩
      simpa [Str.length] using fits_le hf
    · cases e
  · cases e

/-! ### targets -/
abbrev MG := D → E → Option E
def gN (i : Nat) : MG := fun d e => some (e.set i (some d))
def gNs : List Nat → List D → E → Option E
  | [], [], e => some e
  | i :: is, d :: ds, e => gNs is ds (e.set i (some d))
  | _, _, _ => none
def gT (is : List Nat) : MG := fun d e => match d with
  | .tup ds => if imms ds = true then gNs is ds e else none
  | _ => none
/-- a target's reading: an immutable thing comes -/
def tG (K : PySem.W.Frag) (Z : Zs) (g : MG) : TG := fun v σ H Q => ∃ d e F e', Rp K H v d [] ∧ RelS K H σ e F ∧ F.Nodup ∧ g d e = some e' ∧ ∀ σ' H' F', Ev K F H σ' H' e' F' → Fz Z σ σ' → Q σ' H'
def tGs (K : PySem.W.Frag) (Z : Zs) (is : List Nat) : TGs := fun vs σ H Q => ∃ ds e F e', Rps K H vs ds [] ∧ RelS K H σ e F ∧ F.Nodup ∧ gNs is ds e = some e' ∧ ∀ σ' H' F', Ev K F H σ' H' e' F' → Fz Z σ σ' → Q σ' H'
theorem PG.mono {X : Cx} {e : Expr} {t t' : TG} (p : PG X e t) (h : ∀ v σ H Q, t' v σ H Q → t v σ H Q) : PG X e t' := ⟨fun pins s σ H v u Q I r q => p.run pins s σ H v u Q I r (h _ _ _ _ q)⟩
theorem PGs.mono {X : Cx} {e : List Expr} {t t' : TGs} (p : PGs X e t) (h : ∀ v σ H Q, t' v σ H Q → t v σ H Q) : PGs X e t' := ⟨fun pins s σ H v u Q I r q => p.run pins s σ H v u Q I r (h _ _ _ _ q)⟩
section
variable {X : Cx} {W : WX} {Z : Zs} {pos : Pos}
theorem g_name {i : Nat} {x : Str} (hN : X.N.Nodup) (hz : Z i = false := by rfl) (hi : X.N[i]? = some x := by rfl) (hx : Loc X.env.scope x := by first | exact Or.inl rfl | exact Or.inr rfl) (hf : X.fn x = true ∨ X.env.scope.names.lookup x = some .local := by first | exact .inl rfl | exact .inr rfl | assumption) :
    PG X (.Name x pos) (tG X.K Z (gN i)) := PG.mono (pg_name hN hi hx hf) fun v σ H Q ⟨d, e, F, e', p, r, nd, h1, h⟩ => by
  cases h1
  obtain ⟨F3, y⟩ := ((Ev.refl r nd).cons p (fun _ m => by cases m) .nil fun _ m => by cases m).put i
  exact h _ H F3 y (.set hz)
theorem gs_nil : PGs X [] (tGs X.K Z []) := PGs.mono pgs_nil fun vs σ H Q ⟨ds, e, F, e', p, r, nd, h1, h⟩ => by
  cases ds with
  | nil => cases p; cases h1; exact ⟨rfl, h σ H F (.refl r nd) (.refl _ _)⟩
  | cons _ _ => cases h1
theorem gs_cons {i : Nat} {is : List Nat} {x : Str} {px : Pos} {es : List Expr} (hN : X.N.Nodup) (q : PGs X es (tGs X.K Z is)) (hz : Z i = false := by rfl) (hi : X.N[i]? = some x := by rfl) (hx : Loc X.env.scope x := by first | exact Or.inl rfl | exact Or.inr rfl) (hf : X.fn x = true ∨ X.env.scope.names.lookup x = some .local := by first | exact .inl rfl | exact .inr rfl | assumption)
    (hs : (assignEach (.Name x px :: es) X.env).map (·.2) = assign (.Name x px) X.env :: (assignEach es X.env).map (·.2) := by rfl) : PGs X (.Name x px :: es) (tGs X.K Z (i :: is)) := PGs.mono (pgs_cons (g_name (Z := Z) hN hz hi hx hf) q hs) fun vs σ H Q ⟨ds, e, F, e', p, r, nd, h1, h⟩ => by
  cases ds with
  | nil => cases h1
  | cons d ds =>
    generalize hG : ([] : List Addr) = G at p
    cases p with | cons p ps => ?_
    obtain ⟨z1, z2⟩ := List.append_eq_nil_iff.mp hG.symm
    subst z1 z2
    refine ⟨_, _, rfl, d, e, F, _, p, r, nd, rfl, fun σ1 H1 F1 x w => ?_⟩
    exact ⟨ds, _, F1, e', ps.keep x.k (fun _ m => by cases m), x.r, x.nd, h1, fun σ2 H2 F2 y w2 => h σ2 H2 F2 (x.trans y) (w.trans w2)⟩
theorem g_tup {es : List Expr} {k : Nat} {is : List Nat} (hc : X.calm = true) (q : PGs X es (tGs X.K Z is)) (hn : (assignEach es X.env).length = is.length := by rfl) (hst : (assignEach es X.env).findIdx? (·.1) = none := by rfl) : PG X (.Tuple es k pos) (tG X.K Z (gT is)) :=
  PG.mono (pg_tup hc q hn hst) fun v σ H Q ⟨d, e, F, e', p, r, nd, h1, h⟩ => by
    unfold gT at h1
    cases d with
    | tup ds =>
      by_cases hi : imms ds = true
      · simp only [hi, if_true] at h1
        cases p with | tup ht rp => ?_
        refine ⟨_, _, rfl, ht.sq, ?_, ds, e, F, e', rp, r, nd, h1, h⟩
        rw [rp.length]
        have len : ∀ (is : List Nat) (ds : List D) (e : E), gNs is ds e = some e' → ds.length = is.length := by
          intro is
          induction is with
          | nil => intro ds e h; cases ds with
            | nil => rfl
            | cons _ _ => cases h
          | cons i is ih => intro ds e h; cases ds with
            | nil => cases h
            | cons d ds => rw [List.length_cons, List.length_cons, ih ds _ h]
        exact len is ds e h1
      · simp only [hi] at h1
        cases h1
    | _ => cases h1
/-- target = value, for what can't change -/
def mAsg (g : MG) (n : ME) : MS := fun e => match n e with
  | .ok d e1 => if imm d = true then (match g d e1 with
    | some e2 => .nx e2
    | none => .bad) else .bad
  | .exc x e1 => .exc x e1
  | .bad => .bad
theorem m_asg {tg e : Expr} {g : MG} {n : ME} (he : PE X e (tE X.K W n)) (hg : PG X tg (tG X.K Z g)) (hs : swapsWithSole [tg] e pos.line X.env = pure false := by rfl) (hw : swappedStores [tg] e X.env = pure none := by rfl)
    (h1 : (assignEach [tg] X.env).map (·.2) = [assign tg X.env] := by rfl) : PS X (.Assign [tg] e pos) (tM X.K W Z (mAsg g n)) := PS.mono (ps_asg he hg hs hw h1) fun D σ H ⟨e, F, r, nd, h⟩ => by
  refine ⟨e, F, r, nd, ?_⟩
  unfold mAsg at h
  cases q : n e with
  | bad => rw [q] at h; exact h
  | exc y e1 => rw [q] at h; exact fun c dx H' F' x p => h c dx σ H' F' x (.refl _ _) p
  | ok d e1 =>
    rw [q] at h
    simp only at h
    intro v H' F' x
    obtain ⟨G, F0, eF, p, x', hd, n1, nw⟩ := x.head
    by_cases hi : imm d = true
    · rw [if_pos hi] at h
      have e0 := p.fpImm hi
      subst e0
      cases qg : g d e1 with
      | none => rw [qg] at h; exact h.elim
      | some e2 =>
        rw [qg] at h
        exact ⟨d, e1, F0, e2, p, x'.r, x'.nd, qg, fun σ2 H2 F2 y w => h σ2 H2 F2 (x'.trans y) w⟩
    · rw [if_neg hi] at h; exact h.elim
/-- a, b = x, y of plain local names -/
def mPar (i j : Nat) (ns : MAE) : MS := fun e => match ns e with
  | .ok ds e1 => (match ds with
    | [a, b] => if imm a = true ∧ imm b = true then .nx ((e1.set i (some a)).set j (some b)) else .bad
    | _ => .bad)
  | .exc x e1 => .exc x e1
  | .bad => .bad
theorem m_par {i j : Nat} {x y : Str} {a b : Expr} {ns : MAE} {px py pt : Pos} {kt k2 pt2} (ha : PA X [a, b] (tAE X.K W ns)) (hc : X.calm = true) (hN : X.N.Nodup) (hzi : Z i = false := by rfl) (hzj : Z j = false := by rfl) (hi : X.N[i]? = some x := by rfl) (hj : X.N[j]? = some y := by rfl) (hij : i ≠ j := by decide)
    (hx : X.env.scope.names.lookup x = some .local := by rfl) (hy : X.env.scope.names.lookup y = some .local := by rfl)
    (hw : swappedStores [.Tuple [.Name x px, .Name y py] kt pt] (.Tuple [a, b] k2 pt2) X.env = pure (some [x, y]) := by rfl)
    (hs : swapsWithSole [.Tuple [.Name x px, .Name y py] kt pt] (.Tuple [a, b] k2 pt2) pos.line X.env = pure false := by rfl) :
    PS X (.Assign [.Tuple [.Name x px, .Name y py] kt pt] (.Tuple [a, b] k2 pt2) pos) (tM X.K W Z (mPar i j ns)) := PS.mono (ps_par hc hN hi hj hij hx hy ha hw hs) fun D σ H ⟨e, F, r, nd, h⟩ => by
  refine ⟨e, F, r, nd, ?_⟩
  unfold mPar at h
  cases q : ns e with
  | bad => rw [q] at h; exact h
  | exc y e1 => rw [q] at h; exact fun c dx H' F' x p => h c dx σ H' F' x (.refl _ _) p
  | ok ds e1 =>
    rw [q] at h
    simp only at h
    intro vs H' G F' x
    cases ds with
    | nil => exact h.elim
    | cons a ds =>
      cases ds with
      | nil => exact h.elim
      | cons b ds =>
        cases ds with
        | cons _ _ => exact h.elim
        | nil =>
          by_cases hi : imm a = true ∧ imm b = true
          · simp only [hi, and_self, if_true] at h
            obtain ⟨ev, ps, hd, n1, nw⟩ := x
            cases ps with | cons pa ps => ?_
            cases ps with | cons pb ps => ?_
            cases ps
            obtain ⟨F3, y1⟩ := (ev.consImm pa hi.1).put i
            obtain ⟨F4, y2⟩ := (y1.consImm pb hi.2).put j
            exact ⟨_, _, rfl, h _ H' F4 y2 ((Fz.set hzi).trans (.set hzj))⟩
          · simp only [hi, if_false] at h
end

/-! ### loops -/
def mLoop (g : MG) (b : MS) : List D → E → SR
  | [], e => .nx e
  | d :: ds, e => match g d e with
    | some e1 => (match b e1 with
      | .nx e2 => mLoop g b ds e2
      | .ct e2 => mLoop g b ds e2
      | .bk e2 => .nx e2
      | r => r)
    | none => .bad
def mWhile (t : MT) (b : MS) : Nat → E → SR
  | 0, _ => .bad
  | n + 1, e => match t e with
    | .ok c e1 => if c = true then (match b e1 with
      | .nx e2 => mWhile t b n e2
      | .ct e2 => mWhile t b n e2
      | .bk e2 => .nx e2
      | r => r) else .nx e1
    | .exc x e1 => .exc x e1
    | .bad => .bad
/-- what is walked -/
structure Src (K : PySem.W.Frag) (J : It) (items : List D) (P : Hp → Prop) (A : List Addr) : Prop where
  go : ∀ i H, P H → i < items.length → J.go i H
  yld : ∀ i H x H', P H → (h : i < items.length) → J.yld i H x H' → Keeps [] H H' ∧ Rp K H' x items[i] []
  stop : ∀ H, P H → J.stop items.length H
  st : ∀ S H H', (∀ a ∈ A, a ∉ S) → Keeps S H H' → P H → P H'
section
variable {K : PySem.W.Frag} {W : WX} {Z : Zs}
/-- the post of a statement, from (σ, H, F) -/
def Post (K : PySem.W.Frag) (W : WX) (Z : Zs) (D : Ends) (F : List Addr) (σ : L2.St) (H : Hp) : SR → Prop
  | .nx e' => ∀ σ' H' F', Ev K F H σ' H' e' F' → Fz Z σ σ' → D.nx σ' H'
  | .rt d e' => ∀ v σ' H' F', Ev K F H (some v :: σ') H' (some d :: e') F' → Fz Z σ σ' → D.rt v H'
  | .bk e' => ∀ σ' H' F', Ev K F H σ' H' e' F' → Fz Z σ σ' → D.bk σ' H'
  | .ct e' => ∀ σ' H' F', Ev K F H σ' H' e' F' → Fz Z σ σ' → D.ct σ' H'
  | .exc x e' => ∀ c dx σ' H' F', Ev K F H σ' H' e' F' → Fz Z σ σ' → RpX K H' c dx x → W c dx σ' H'
  | .bad => False
theorem Post.tM {D : Ends} {m : MS} {σ σ1 : L2.St} {H H1 : Hp} {e1 : E} {F F1 : List Addr} (x : Ev K F H σ1 H1 e1 F1) (z : Fz Z σ σ1) (h : Post K W Z D F σ H (m e1)) : tM K W Z m D σ1 H1 := tM_next x z h
theorem tM.post {D : Ends} {m : MS} {σ : L2.St} {H : Hp} (h : tM K W Z m D σ H) : ∃ e F, RelS K H σ e F ∧ F.Nodup ∧ Post K W Z D F σ H (m e) := h
/-- the post with what the walked thing is -/
def PostP (K : PySem.W.Frag) (W : WX) (Z : Zs) (P : Hp → Prop) (A : List Addr) (D : Ends) (F : List Addr) (σ : L2.St) (H : Hp) : SR → Prop
  | .nx e' => ∀ σ' H' F', Ev K F H σ' H' e' F' → Fz Z σ σ' → P H' → (∀ a ∈ A, a ∉ F') → D.nx σ' H'
  | .rt d e' => ∀ v σ' H' F', Ev K F H (some v :: σ') H' (some d :: e') F' → Fz Z σ σ' → P H' → (∀ a ∈ A, a ∉ F') → D.rt v H'
  | .bk e' => ∀ σ' H' F', Ev K F H σ' H' e' F' → Fz Z σ σ' → P H' → (∀ a ∈ A, a ∉ F') → D.bk σ' H'
  | .ct e' => ∀ σ' H' F', Ev K F H σ' H' e' F' → Fz Z σ σ' → P H' → (∀ a ∈ A, a ∉ F') → D.ct σ' H'
  | .exc x e' => ∀ c dx σ' H' F', Ev K F H σ' H' e' F' → Fz Z σ σ' → P H' → (∀ a ∈ A, a ∉ F') → RpX K H' c dx x → W c dx σ' H'
  | .bad => False
theorem Post.toP {P : Hp → Prop} {A : List Addr} {D : Ends} {F : List Addr} {σ : L2.St} {H : Hp} {s : SR} (h : Post K W Z D F σ H s) : PostP K W Z P A D F σ H s := by
  cases s with
  | nx e' => exact fun σ' H' F' x z _ _ => h σ' H' F' x z
  | rt d e' => exact fun v σ' H' F' x z _ _ => h v σ' H' F' x z
  | bk e' => exact fun σ' H' F' x z _ _ => h σ' H' F' x z
  | ct e' => exact fun σ' H' F' x z _ _ => h σ' H' F' x z
  | exc y e' => exact fun c dx σ' H' F' x z _ _ p => h c dx σ' H' F' x z p
  | bad => exact h
theorem loop_okP {J : It} {items : List D} {P : Hp → Prop} {A : List Addr} (src : Src K J items P A) {g : MG} {b : MS} {D : Ends} {σ σ0 : L2.St} {H H0 : Hp} {e : E} {F F0 : List Addr} (x0 : Ev K F0 H0 σ H e F) (z0 : Fz Z σ0 σ) (hA : ∀ a ∈ A, a ∉ F ∧ H a ≠ none) (hp : P H)
    (h : PostP K W Z P A D F0 σ0 H0 (mLoop g b items e)) :
    ∃ V : Nat → Nat → L2.St → Hp → Prop, (∃ m, V 0 m σ H) ∧ ∀ i m σ' H', V i m σ' H' → (J.stop i H' ∧ D.nx σ' H') ∨ (J.go i H' ∧ ∃ N : L2.St → Hp → Prop, (∀ σ2 H2, N σ2 H2 → ∃ m', m' < m ∧ V (i + 1) m' σ2 H2) ∧
      ∀ y H2, J.yld i H' y H2 → tG K Z g y σ' H2 fun σ3 H3 => tM K W Z b { D with nx := N, ct := N, bk := D.nx } σ3 H3) := by
  refine ⟨fun i m σ' H' => i + m = items.length ∧ P H' ∧ ∃ e' F', Ev K F H σ' H' e' F' ∧ Fz Z σ σ' ∧ mLoop g b (items.drop i) e' = mLoop g b items e, ⟨items.length, by omega, hp, e, F, .refl x0.r x0.nd, .refl _ _, by rw [List.drop_zero]⟩, fun i m σ' H' hV => ?_⟩
  obtain ⟨him, hp', e', F', ev, fz, hl⟩ := hV
  have hA' : ∀ a ∈ A, a ∉ F' := fun a m z => (ev.new a z).elim (hA a m).1 (hA a m).2
  by_cases hi : i < items.length
  · refine .inr ⟨src.go i H' hp' hi, fun σ2 H2 => P H2 ∧ ∃ e2 F2, Ev K F H σ2 H2 e2 F2 ∧ Fz Z σ σ2 ∧ mLoop g b (items.drop (i + 1)) e2 = mLoop g b items e, fun σ2 H2 hN => ?_, fun y H2 hy => ?_⟩
    · obtain ⟨q1, e2, F2, q2, q3, q4⟩ := hN
      exact ⟨m - 1, by omega, by omega, q1, e2, F2, q2, q3, q4⟩
    · obtain ⟨ky, py⟩ := src.yld i H' y H2 hp' hi hy
      rw [List.drop_eq_getElem_cons hi, mLoop] at hl
      cases qg : g items[i] e' with
      | none => rw [qg] at hl; rw [← hl] at h; exact h.elim
      | some e1 =>
        rw [qg] at hl
        simp only at hl
        refine ⟨items[i], e', F', e1, py, ev.r.same ky, ev.nd, qg, fun σ3 H3 F3 ev3 fz3 => ?_⟩
        have evA : Ev K F H σ3 H3 e1 F3 := (ev.grow ky).trans ev3
        refine ⟨e1, F3, evA.r, evA.nd, ?_⟩
        have P3 : P H3 := src.st F' H2 H3 hA' ev3.k (src.st [] H' H2 (fun _ _ m => by cases m) ky hp')
        have hA3 : ∀ a ∈ A, a ∉ F3 := fun a m z => (evA.new a z).elim (hA a m).1 (hA a m).2
        have nin : ∀ {σ4 : L2.St} {H4 : Hp} {e4 : E} {F4 : List Addr}, Ev K F3 H3 σ4 H4 e4 F4 → ∀ a ∈ A, a ∉ F4 := fun ev4 a m z => ((evA.trans ev4).new a z).elim (hA a m).1 (hA a m).2
        cases qb : b e1 with
        | nx e2 =>
          rw [qb] at hl
          exact fun σ4 H4 F4 ev4 fz4 => ⟨src.st F3 H3 H4 hA3 ev4.k P3, e2, F4, evA.trans ev4, fz.trans (fz3.trans fz4), hl⟩
        | ct e2 =>
          rw [qb] at hl
          exact fun σ4 H4 F4 ev4 fz4 => ⟨src.st F3 H3 H4 hA3 ev4.k P3, e2, F4, evA.trans ev4, fz.trans (fz3.trans fz4), hl⟩
        | bk e2 =>
          rw [qb] at hl
          rw [← hl] at h
          exact fun σ4 H4 F4 ev4 fz4 => h σ4 H4 F4 (x0.trans (evA.trans ev4)) (z0.trans (fz.trans (fz3.trans fz4))) (src.st F3 H3 H4 hA3 ev4.k P3) (nin ev4)
        | rt d e2 =>
          rw [qb] at hl
          rw [← hl] at h
          exact fun v σ4 H4 F4 ev4 fz4 => h v σ4 H4 F4 (x0.trans (evA.trans ev4)) (z0.trans (fz.trans (fz3.trans fz4))) (src.st F3 H3 H4 hA3 ev4.k P3) (nin ev4)
        | exc w e2 =>
          rw [qb] at hl
          rw [← hl] at h
          exact fun c dx σ4 H4 F4 ev4 fz4 p => h c dx σ4 H4 F4 (x0.trans (evA.trans ev4)) (z0.trans (fz.trans (fz3.trans fz4))) (src.st F3 H3 H4 hA3 ev4.k P3) (nin ev4) p
        | bad =>
          rw [qb] at hl
          rw [← hl] at h
          exact h.elim
  · have ei : i = items.length := by omega
    subst ei
    rw [List.drop_length, mLoop] at hl
    rw [← hl] at h
    exact .inl ⟨src.stop H' hp', h σ' H' F' (x0.trans ev) (z0.trans fz) hp' hA'⟩
theorem loop_ok {J : It} {items : List D} {P : Hp → Prop} {A : List Addr} (src : Src K J items P A) {g : MG} {b : MS} {D : Ends} {σ σ0 : L2.St} {H H0 : Hp} {e : E} {F F0 : List Addr} (x0 : Ev K F0 H0 σ H e F) (z0 : Fz Z σ0 σ) (hA : ∀ a ∈ A, a ∉ F ∧ H a ≠ none) (hp : P H)
    (h : Post K W Z D F0 σ0 H0 (mLoop g b items e)) :
    ∃ V : Nat → Nat → L2.St → Hp → Prop, (∃ m, V 0 m σ H) ∧ ∀ i m σ' H', V i m σ' H' → (J.stop i H' ∧ D.nx σ' H') ∨ (J.go i H' ∧ ∃ N : L2.St → Hp → Prop, (∀ σ2 H2, N σ2 H2 → ∃ m', m' < m ∧ V (i + 1) m' σ2 H2) ∧
      ∀ y H2, J.yld i H' y H2 → tG K Z g y σ' H2 fun σ3 H3 => tM K W Z b { D with nx := N, ct := N, bk := D.nx } σ3 H3) := loop_okP src x0 z0 hA hp h.toP
def fuel : Nat := 1000000000
def mWh (t : MT) (b : MS) : MS := fun e => mWhile t b fuel e
theorem tWhile_of {t : MT} {b : MS} {D : Ends} {σ : L2.St} {H : Hp} (h : tM K W Z (mWh t b) D σ H) : tWhile (tT K W t) (tM K W Z b) D σ H := by
  obtain ⟨e, F, r, nd, h⟩ := tM.post h
  unfold mWh at h
  refine ⟨fun m σ' H' => ∃ e' F', Ev K F H σ' H' e' F' ∧ Fz Z σ σ' ∧ mWhile t b m e' = mWhile t b fuel e, ⟨fuel, e, F, .refl r nd, .refl _ _, rfl⟩, fun m σ' H' hV => ?_⟩
  obtain ⟨e', F', ev, fz, hl⟩ := hV
  refine ⟨e', F', ev.r, ev.nd, ?_⟩
  cases m with
  | zero => rw [mWhile] at hl; rw [← hl] at h; exact h.elim
  | succ m =>
    rw [mWhile] at hl
    cases qt : t e' with
    | bad => rw [qt] at hl; rw [← hl] at h; exact h.elim
    | exc y e1 => rw [qt] at hl; rw [← hl] at h; exact fun c dx H2 F2 ev2 p => h c dx σ' H2 F2 (ev.trans ev2) fz p
    | ok c e1 =>
      rw [qt] at hl
      simp only at hl
      intro H2 F2 ev2
      have evA : Ev K F H σ' H2 e1 F2 := ev.trans ev2
      cases c with
      | false =>
        simp only [Bool.false_eq_true, if_false] at hl ⊢
        rw [← hl] at h
        exact h σ' H2 F2 evA fz
      | true =>
        simp only [if_true] at hl ⊢
        refine ⟨fun σ2 H2 => ∃ e2 F2, Ev K F H σ2 H2 e2 F2 ∧ Fz Z σ σ2 ∧ mWhile t b m e2 = mWhile t b fuel e, fun σ2 H2 hN => ⟨m, Nat.lt_succ_self m, hN⟩, e1, F2, evA.r, evA.nd, ?_⟩
        cases qb : b e1 with
        | nx e2 =>
          rw [qb] at hl
          exact fun σ4 H4 F4 ev4 fz4 => ⟨e2, F4, evA.trans ev4, fz.trans fz4, hl⟩
        | ct e2 =>
          rw [qb] at hl
          exact fun σ4 H4 F4 ev4 fz4 => ⟨e2, F4, evA.trans ev4, fz.trans fz4, hl⟩
        | bk e2 =>
          rw [qb] at hl
          rw [← hl] at h
          exact fun σ4 H4 F4 ev4 fz4 => h σ4 H4 F4 (evA.trans ev4) (fz.trans fz4)
        | rt d e2 =>
          rw [qb] at hl
          rw [← hl] at h
          exact fun v σ4 H4 F4 ev4 fz4 => h v σ4 H4 F4 (evA.trans ev4) (fz.trans fz4)
        | exc w e2 =>
          rw [qb] at hl
          rw [← hl] at h
          exact fun c dx σ4 H4 F4 ev4 fz4 p => h c dx σ4 H4 F4 (evA.trans ev4) (fz.trans fz4) p
        | bad =>
          rw [qb] at hl
          rw [← hl] at h
          exact h.elim
end
theorem m_while {X : Cx} {W : WX} {Z : Zs} {c : Expr} {t : MT} {body : List Stmt} {b : MS} {pos : Pos} (hc : PT X c (tT X.K W t)) (hb : PSs X body (tM X.K W Z b)) (hp : PassesOwn (model X.prog X.w) X.A X.env X.xe) : PS X (.While c body [] pos) (tM X.K W Z (mWh t b)) :=
  PS.mono (ps_while hp hc hb) fun D σ H h => tWhile_of h
end Mir

namespace Mir
open PySem PySem.Spec L2

/-! ### what is walked -/
abbrev MW := E → Re (List D)
def tW (K : PySem.W.Frag) (W : WX) (m : MW) : TI := fun σ H R => ∃ e F, RelS K H σ e F ∧ F.Nodup ∧ match m e with
  | .ok items e1 => ∀ J H1 F1 A P, Src K J items P A → P H1 → Ev K F H σ H1 e1 F1 → (∀ a ∈ A, a ∉ F1 ∧ H1 a ≠ none) → R J H1
  | .exc x e1 => ∀ c dx H' F', Ev K F H σ H' e1 F' → RpX K H' c dx x → W c dx σ H'
  | .bad => False
theorem PI.mono {X : Cx} {tg e : Expr} {t t' : TI} (p : PI X tg e t) (h : ∀ σ H R, t' σ H R → t σ H R) : PI X tg e t' := ⟨fun pins s σ H Q I q => p.run pins s σ H Q I (h _ _ _ q)⟩
def itemsOf : D → Option (List D)
  | .tup ds => if imms ds = true then some ds else none
  | .lst ds => if imms ds = true then some ds else none
  | .rol ds => if imms ds = true then some ds else none
  | .str s => some (s.map fun c => .str [c])
  | _ => none
section
variable {K : PySem.W.Frag} {H : Hp}
theorem src_lst {a : Addr} {vs : List V} {ds : List D} : Src K (Itl K a) ds (fun H => H a = some (.lst vs) ∧ Rps K H vs ds []) [a] where
  go := fun i H hp hi => by
    obtain ⟨v, G, h1, h2, _⟩ := hp.2.get (List.getElem?_eq_getElem hi)
    exact ⟨_, v, .of hp.1, h1⟩
  yld := fun i H x H' hp hi hy => by
    obtain ⟨rfl, hx⟩ := hy
    obtain ⟨v, G, h1, h2, h3⟩ := hp.2.get (List.getElem?_eq_getElem hi)
    have e1 := hx _ (SqL.of hp.1)
    rw [h1] at e1; cases e1
    cases G with
    | nil => exact ⟨.refl _ _, h2⟩
    | cons b G => exact absurd (h3 b List.mem_cons_self) (fun m => by cases m)
  stop := fun H hp => ⟨_, .of hp.1, by rw [hp.2.length]; exact Nat.le_refl _⟩
  st := fun S H H' hA k hp => ⟨k _ _ hp.1 (.inr (hA a List.mem_cons_self)), hp.2.keep k fun _ m => by cases m⟩
theorem src_rol {a : Addr} {vs : List V} {ds : List D} : Src K (Itl K a) ds (fun H => RoL K H a vs ∧ Rps K H vs ds []) [] where
  go := fun i H hp hi => by
    obtain ⟨v, G, h1, h2, _⟩ := hp.2.get (List.getElem?_eq_getElem hi)
    exact ⟨_, v, hp.1.sq, h1⟩
  yld := fun i H x H' hp hi hy => by
    obtain ⟨rfl, hx⟩ := hy
    obtain ⟨v, G, h1, h2, h3⟩ := hp.2.get (List.getElem?_eq_getElem hi)
    have e1 := hx _ (hp.1.sq)
    rw [h1] at e1; cases e1
    cases G with
    | nil => exact ⟨.refl _ _, h2⟩
    | cons b G => exact absurd (h3 b List.mem_cons_self) (fun m => by cases m)
  stop := fun H hp => ⟨_, hp.1.sq, by rw [hp.2.length]; exact Nat.le_refl _⟩
  st := fun S H H' hA k hp => ⟨RoL.keep k hp.1, hp.2.keep k fun _ m => by cases m⟩
theorem src_tup {a : Addr} {vs : List V} {ds : List D} : Src K (Itt K a) ds (fun H => TqT K H a vs ∧ Rps K H vs ds []) [] where
  go := fun i H hp hi => by
    obtain ⟨v, G, h1, h2, _⟩ := hp.2.get (List.getElem?_eq_getElem hi)
    exact ⟨_, v, hp.1.sq, h1⟩
  yld := fun i H x H' hp hi hy => by
    obtain ⟨rfl, hx⟩ := hy
    obtain ⟨v, G, h1, h2, h3⟩ := hp.2.get (List.getElem?_eq_getElem hi)
    have e1 := hx _ hp.1.sq
    rw [h1] at e1; cases e1
    cases G with
    | nil => exact ⟨.refl _ _, h2⟩
    | cons b G => exact absurd (h3 b List.mem_cons_self) (fun m => by cases m)
  stop := fun H hp => ⟨_, hp.1.sq, by rw [hp.2.length]; exact Nat.le_refl _⟩
  st := fun S H H' hA k hp => ⟨hp.1.keep k, hp.2.keep k fun _ m => by cases m⟩
theorem src_str {x : Str} (h : x.cps.all (· < 0x110000) = true) : Src K (Its x) (x.cps.toList.map fun c => .str [c]) (fun _ => True) [] where
  go := fun i H hp hi => by show i < x.cps.size; simpa using hi
  yld := fun i H v H' hp hi hy => by
    obtain ⟨rfl, c, hc, rfl⟩ := hy
    have hm : c ∈ x.cps.toList := by
      have := Array.mem_of_getElem? hc
      simpa using this
    have e1 : (x.cps.toList.map fun c => D.str [c])[i] = .str [c] := by
      rw [List.getElem_map]
      congr 2
      have : x.cps.toList[i]? = some c := by simpa using hc
      rw [List.getElem?_eq_getElem (by simpa using hi)] at this
      exact Option.some.inj this
    rw [e1]
    exact ⟨.refl _ _, rp_str (okC_of fun z m => by rw [List.mem_singleton.mp m]; exact okC_mem h c hm) rfl⟩
  stop := fun H hp => by show x.cps.size ≤ _; simp
  st := fun _ _ _ _ _ _ => trivial
/-- lo, lo + 1, .. -/
def rangeD (lo : Int) (n : Nat) : List D := (List.range n).map fun k => .int (lo + (k : Nat))
theorem src_rng {lo : Int} {n : Nat} : Src K (Itr lo n) (rangeD lo n) (fun _ => True) [] where
  go := fun i H hp hi => by show i < n; simpa [rangeD] using hi
  yld := fun i H v H' hp hi hy => by
    obtain ⟨rfl, rfl⟩ := hy
    have e1 : (rangeD lo n)[i] = .int (lo + (i : Nat)) := by simp [rangeD]
    rw [e1]
    exact ⟨.refl _ _, .int⟩
  stop := fun H hp => by show n ≤ _; simp [rangeD]
  st := fun _ _ _ _ _ _ => trivial
end
def wV (n : ME) : MW := fun e => match n e with
  | .ok d e1 => (match itemsOf d with
    | some ds => .ok ds e1
    | none => .bad)
  | .exc x e1 => .exc x e1
  | .bad => .bad
def small62 (j : Int) : Bool := decide (-(2 ^ 62) ≤ j ∧ j < 2 ^ 62)
def wR (ns : MAE) : MW := fun e => match ns e with
  | .ok ds e1 => (match ds with
    | [.int j] => if small62 j = true then .ok (rangeD 0 j.toNat) e1 else .bad
    | [.int i, .int j] => if small62 i = true ∧ small62 j = true then .ok (rangeD i (j - i).toNat) e1 else .bad
    | _ => .bad)
  | .exc x e1 => .exc x e1
  | .bad => .bad
section
variable {X : Cx} {W : WX} {Z : Zs} {tg : Expr} {pos : Pos}
theorem w_val {it : Expr} {n : ME} (p : PE X it (tE X.K W n)) : PI X tg it (tW X.K W (wV n)) := PI.mono (PI.or (pi_list p) (PI.or (pi_tup p) (pi_str p))) fun σ H R ⟨e, F, r, nd, h⟩ => by
  unfold wV at h
  cases q : n e with
  | bad => rw [q] at h; exact h.elim
  | exc y e1 => rw [q] at h; exact .inl ⟨e, F, r, nd, by rw [q]; exact h⟩
  | ok d e1 =>
    rw [q] at h
    simp only at h
    cases qi : itemsOf d with
    | none => rw [qi] at h; exact h.elim
    | some ds =>
      rw [qi] at h
      simp only at h
      unfold itemsOf at qi
      split at qi
      · split at qi
        · rename_i hi
          cases qi
          refine .inr (.inl ⟨e, F, r, nd, ?_⟩)
          rw [q]
          intro v H' F' x
          obtain ⟨G, F0, eF, p, x', hd, n1, nw⟩ := x.head
          cases p with | tup ht rp => ?_
          have e0 := rp.fpImm hi
          subst e0
          exact ⟨_, rfl, ⟨_, ht.sq⟩, h _ H' F0 [] _ src_tup ⟨ht, rp⟩ x' fun _ m => by cases m⟩
        · cases qi
      · split at qi
        · rename_i hi
          cases qi
          refine .inl ⟨e, F, r, nd, ?_⟩
          rw [q]
          intro v H' F' x
          obtain ⟨G, F0, eF, p, x', hd, n1, nw⟩ := x.head
          cases p with | lst ht rp => ?_
          have e0 := rp.fpImm hi
          subst e0
          exact ⟨_, rfl, ⟨_, .of ht⟩, h _ H' F0 [_] _ src_lst ⟨ht, rp⟩ x' fun a m => ⟨hd a m, by rw [List.mem_singleton.mp m, ht]; exact fun z => by cases z⟩⟩
        · cases qi
      · split at qi
        · rename_i hi
          cases qi
          refine .inl ⟨e, F, r, nd, ?_⟩
          rw [q]
          intro v H' F' x
          obtain ⟨G, F0, eF, p, x', hd, n1, nw⟩ := x.head
          cases p with | rol ht rp => ?_
          exact ⟨_, rfl, ⟨_, ht.sq⟩, h _ H' F0 [] _ src_rol ⟨ht, rp⟩ x' fun _ m => by cases m⟩
        · cases qi
      · cases qi
        refine .inr (.inr ⟨e, F, r, nd, ?_⟩)
        rw [q]
        intro v H' F' x
        obtain ⟨G, F0, eF, p, x', hd, n1, nw⟩ := x.head
        cases p with | str hx => ?_
        exact ⟨_, rfl, h _ H' F0 [] _ (src_str hx) trivial x' fun _ m => by cases m⟩
      · cases qi
theorem w_rng1 {a : Expr} {ns : MAE} {p : Pos} (hg : Gl X "range") (hm : X.mg "range" = none) (ha : PA X [a] (tAE X.K W ns)) (h1 : ∀ e ds e1, ns e = .ok ds e1 → ds.length = 1) (hs : starEach [a] X.env = [(false, eval a X.env)] := by rfl) : PI X tg (.Call (.Name "range" p) [a] [] pos) (tW X.K W (wR ns)) :=
  PI.mono (pi_range1 hg hm ha hs) fun σ H R ⟨e, F, r, nd, h⟩ => by
    refine ⟨e, F, r, nd, ?_⟩
    unfold wR at h
    cases q : ns e with
    | bad => rw [q] at h; exact h
    | exc y e1 => rw [q] at h; exact h
    | ok ds e1 =>
      rw [q] at h
      have hl := h1 e ds e1 q
      intro vs H' G F' x
      obtain ⟨ev, ps, hd, n1, nw⟩ := x
      cases ds with
      | nil => cases hl
      | cons d ds =>
        cases ds with
        | cons _ _ => cases hl
        | nil =>
          cases d with
          | int j =>
            simp only at h
            by_cases hj : small62 j = true
            · simp only [hj, if_true] at h
              cases ps with | cons p1 p2 => ?_
              cases p2; cases p1
              have hb : -(2 ^ 62) ≤ j ∧ j < 2 ^ 62 := of_decide_eq_true hj
              exact ⟨j, rfl, hb.1, hb.2, h _ H' F' [] _ src_rng trivial ev fun _ m => by cases m⟩
            · simp only [hj] at h
              exact h.elim
          | _ => exact h.elim
theorem w_rng2 {a b : Expr} {ns : MAE} {p : Pos} (ha : PA X [a, b] (tAE X.K W ns)) (h1 : ∀ e ds e1, ns e = .ok ds e1 → ds.length = 2) (q : PI X tg (.Call (.Name "range" p) [a, b] [] pos) (iRng2 (tAE X.K W ns))) : PI X tg (.Call (.Name "range" p) [a, b] [] pos) (tW X.K W (wR ns)) :=
  PI.mono q fun σ H R ⟨e, F, r, nd, h⟩ => by
    refine ⟨e, F, r, nd, ?_⟩
    unfold wR at h
    cases q : ns e with
    | bad => rw [q] at h; exact h
    | exc y e1 => rw [q] at h; exact h
    | ok ds e1 =>
      rw [q] at h
      have hl := h1 e ds e1 q
      intro vs H' G F' x
      obtain ⟨ev, ps, hd, n1, nw⟩ := x
      cases ds with
      | nil => cases hl
      | cons d ds =>
        cases ds with
        | nil => cases hl
        | cons d2 ds =>
          cases ds with
          | cons _ _ => cases hl
          | nil =>
            cases d with
            | int i =>
              cases d2 with
              | int j =>
                simp only at h
                by_cases hj : small62 i = true ∧ small62 j = true
                · simp only [hj, and_self, if_true] at h
                  cases ps with | cons p1 p2 => ?_
                  cases p2 with | cons p2 p3 => ?_
                  cases p3; cases p1; cases p2
                  have hb : -(2 ^ 62) ≤ i ∧ i < 2 ^ 62 := of_decide_eq_true hj.1
                  have hb2 : -(2 ^ 62) ≤ j ∧ j < 2 ^ 62 := of_decide_eq_true hj.2
                  exact ⟨i, j, rfl, ⟨hb.1, hb.2, hb2.1, hb2.2⟩, h _ H' F' [] _ src_rng trivial ev fun _ m => by cases m⟩
                · simp only [hj, if_false] at h
              | _ => exact h.elim
            | _ => exact h.elim
/-- for -/
def mFor (w : MW) (g : MG) (b : MS) : MS := fun e => match w e with
  | .ok items e1 => mLoop g b items e1
  | .exc x e1 => .exc x e1
  | .bad => .bad
theorem m_for {it : Expr} {w : MW} {g : MG} {b : MS} {body : List Stmt} (hw : PI X tg it (tW X.K W w)) (hg : PG X tg (tG X.K Z g)) (hb : PSs X body (tM X.K W Z b)) (hp : PassesOwn (model X.prog X.w) X.A X.env X.xe) (hc : X.calm = true) (hs : ∀ x, foldedSetIterable it X.env x = pure x := by intro _; rfl) : PS X (.For tg it body [] pos) (tM X.K W Z (mFor w g b)) :=
  PS.mono (ps_for hp hc hw hg hb hs) fun D σ H h => by
    obtain ⟨e, F, r, nd, h⟩ := tM.post h
    refine ⟨e, F, r, nd, ?_⟩
    unfold mFor at h
    cases q : w e with
    | bad => rw [q] at h; exact h
    | exc y e1 => rw [q] at h; exact fun c dx H' F' x p => h c dx σ H' F' x (.refl _ _) p
    | ok items e1 =>
      rw [q] at h
      exact fun J H1 F1 A P src hP x hA => loop_ok src x (.refl _ _) hA hP h
/-- an outcome with the slot i filled again -/
def SR.fill (i : Nat) (d : D) : SR → SR
  | .nx e => .nx (e.set i (some d))
  | .rt x e => .rt x (e.set i (some d))
  | .bk e => .bk (e.set i (some d))
  | .ct e => .ct (e.set i (some d))
  | .exc x e => .exc x (e.set i (some d))
  | .bad => .bad
/-- for over a name's thing, which the body leaves alone -/
def mForV (i : Nat) (g : MG) (b : MS) : MS := fun e => match e[i]? with
  | some (some d) => (match itemsOf d with
    | some items => if imm d = true then mLoop g b items e else (mLoop g b items (e.set i none)).fill i d
    | none => .bad)
  | _ => .bad
theorem m_forV {i : Nat} {x : Str} {px : Pos} {g : MG} {b : MS} {body : List Stmt} (hg : PG X tg (tG X.K (zc i Z) g)) (hb : PSs X body (tM X.K W (zc i Z) b)) (hp : PassesOwn (model X.prog X.w) X.A X.env X.xe) (hc : X.calm = true) (hN : X.N[i]? = some x := by rfl) (hv : Vis X.env.scope x := by first | exact Or.inl rfl | exact Or.inr (Or.inl rfl) | exact Or.inr (Or.inr rfl)) (hd : (x == ("__debug__" : Str)) = false := by decide)
    (hcd : (x == ("__classdict__" : Str)) = false := by decide) : PS X (.For tg (.Name x px) body [] pos) (tM X.K W Z (mForV i g b)) :=
  PS.mono (ps_for hp hc (PI.or (pi_list (pe_var hN hv hd hcd)) (PI.or (pi_tup (pe_var hN hv hd hcd)) (pi_str (pe_var hN hv hd hcd)))) hg hb) fun D σ H h => by
    obtain ⟨e, F, r, nd, h⟩ := tM.post h
    have zi : zc i Z i = true := by simp [zc]
    have sub : ∀ j, Z j = true → zc i Z j = true := fun j m => by simp [zc, m]
    have weak : ∀ {s : SR}, Post X.K W Z D F σ H s → Post X.K W (zc i Z) D F σ H s := by
      intro s h
      cases s with
      | nx e' => exact fun σ' H' F' x z => h σ' H' F' x (z.sub sub)
      | rt d e' => exact fun v σ' H' F' x z => h v σ' H' F' x (z.sub sub)
      | bk e' => exact fun σ' H' F' x z => h σ' H' F' x (z.sub sub)
      | ct e' => exact fun σ' H' F' x z => h σ' H' F' x (z.sub sub)
      | exc y e' => exact fun c dx σ' H' F' x z p => h c dx σ' H' F' x (z.sub sub) p
      | bad => exact h
    unfold mForV at h
    cases q : e[i]? with
    | none => rw [q] at h; exact h.elim
    | some oo =>
      rw [q] at h
      cases oo with
      | none => exact h.elim
      | some d =>
        simp only at h
        cases qi : itemsOf d with
        | none => rw [qi] at h; exact h.elim
        | some items =>
          rw [qi] at h
          simp only at h
          obtain ⟨v, G, hs, p, hGF⟩ := r.get q
          have x0 : Ev X.K F H σ H e F := .refl r nd
          unfold itemsOf at qi
          split at qi
          · split at qi
            · rename_i hi
              cases qi
              cases p with | tup ht rp => ?_
              have e0 := rp.fpImm hi
              subst e0
              rw [if_pos (show imm (.tup _) = true by simpa [imm] using hi)] at h
              exact .inr (.inl ⟨_, hs, _, rfl, ⟨_, ht.sq⟩, loop_ok src_tup x0 (.refl _ _) (fun _ m => by cases m) ⟨ht, rp⟩ (weak h)⟩)
            · cases qi
          · split at qi
            · rename_i ds hi
              cases qi
              rw [if_neg (show ¬ imm (.lst _) = true by simp [imm])] at h
              obtain ⟨v', F3, hs', y⟩ := x0.move q
              rw [hs] at hs'; cases hs'
              obtain ⟨G1, F0, eF, p1, y', hd1, n1, nw1⟩ := y.head
              cases p with | lst ht rp => ?_
              cases p1 with | lst ht1 rp1 => ?_
              rw [ht] at ht1; cases ht1
              have e0 := rp1.fpImm hi
              subst e0
              have e1 := rp.fpImm hi
              subst e1
              rename_i a vs
              have hA : ∀ b ∈ [a], b ∉ F0 ∧ H b ≠ none := fun b m => ⟨hd1 b m, by rw [List.mem_singleton.mp m, ht]; exact fun z => by cases z⟩
              have back : ∀ {σ' : L2.St} {H' : Hp} {e' : E} {F' : List Addr}, Ev X.K F H σ' H' e' F' → Fz (zc i Z) σ σ' → (H' a = some (.lst vs) ∧ Rps X.K H' vs items []) → (∀ b ∈ [a], b ∉ F') → ∃ F2, Ev X.K F H σ' H' (e'.set i (some (.lst items))) F2 := by
                intro σ' H' e' F' x z hP ha
                refine (x.cons (v := .ref a) (d := .lst items) (G := [a]) (.lst hP.1 hP.2) ha (by simp) (fun b m => .inl (by rw [List.mem_singleton.mp m]; exact hGF a List.mem_cons_self))).back ?_
                rw [z.2 i zi]
                exact hs
              have backR : ∀ {v : V} {d : Mir.D} {σ' : L2.St} {H' : Hp} {e' : E} {F' : List Addr}, Ev X.K F H (some v :: σ') H' (some d :: e') F' → Fz (zc i Z) σ σ' → (H' a = some (.lst vs) ∧ Rps X.K H' vs items []) → (∀ b ∈ [a], b ∉ F') → ∃ F2, Ev X.K F H (some v :: σ') H' (some d :: e'.set i (some (.lst items))) F2 := by
                intro v d σ' H' e' F' x z hP ha
                have y := (x.cons (v := .ref a) (d := .lst items) (G := [a]) (.lst hP.1 hP.2) ha (by simp) (fun b m => .inl (by rw [List.mem_singleton.mp m]; exact hGF a List.mem_cons_self))).back (i := i + 1) (by
                  rw [List.getElem?_cons_succ, z.2 i zi]
                  exact hs)
                exact y
              refine .inl ⟨_, hs, a, rfl, ⟨_, .of ht⟩, loop_okP src_lst y' (.refl _ _) hA ⟨ht, rp1⟩ ?_⟩
              cases qs : mLoop g b items (e.set i none) with
              | nx e' =>
                rw [qs] at h
                intro σ' H' F' x z hP ha
                obtain ⟨F2, w⟩ := back x z hP ha
                exact h σ' H' F2 w (z.sub sub)
              | bk e' =>
                rw [qs] at h
                intro σ' H' F' x z hP ha
                obtain ⟨F2, w⟩ := back x z hP ha
                exact h σ' H' F2 w (z.sub sub)
              | ct e' =>
                rw [qs] at h
                intro σ' H' F' x z hP ha
                obtain ⟨F2, w⟩ := back x z hP ha
                exact h σ' H' F2 w (z.sub sub)
              | rt d e' =>
                rw [qs] at h
                intro v σ' H' F' x z hP ha
                obtain ⟨F2, w⟩ := backR x z hP ha
                exact h v σ' H' F2 w (z.sub sub)
              | exc y e' =>
                rw [qs] at h
                intro c dx σ' H' F' x z hP ha p
                obtain ⟨F2, w⟩ := back x z hP ha
                exact h c dx σ' H' F2 w (z.sub sub) p
              | bad => rw [qs] at h; exact h
            · cases qi
          · split at qi
            · rename_i hi
              cases qi
              cases p with | rol ht rp => ?_
              rw [if_pos (show imm (.rol _) = true by simpa [imm] using hi)] at h
              exact .inl ⟨_, hs, _, rfl, ⟨_, ht.sq⟩, loop_ok src_rol x0 (.refl _ _) (fun _ m => by cases m) ⟨ht, rp⟩ (weak h)⟩
            · cases qi
          · cases qi
            cases p with | str hx => ?_
            rw [if_pos (show imm (.str _) = true by rfl)] at h
            exact .inr (.inr ⟨_, hs, _, rfl, loop_ok (src_str hx) x0 (.refl _ _) (fun _ m => by cases m) trivial (weak h)⟩)
          · cases qi
end
end Mir

namespace Mir
open PySem PySem.Spec L2

/-! ### comprehensions -/
def wipeE (e : E) : List Nat → E
  | [] => e
  | v :: vs => (wipeE e vs).set v none
def mComp (g : MG) (tt : MT) (te : ME) (vs : List Nat) : List D → E → List D → Re (List D)
  | [], e, acc => .ok acc e
  | d :: ds, e, acc => match g d e with
    | some e1 => (match tt e1 with
      | .ok b e2 => if b = true then (match te e2 with
          | .ok y e3 => mComp g tt te vs ds (wipeE e3 vs) (acc ++ [y])
          | _ => .bad) else mComp g tt te vs ds (wipeE e2 vs) acc
      | _ => .bad)
    | none => .bad
/-- [te for g in w if tt] -/
def eComp (w : MW) (g : MG) (tt : MT) (te : ME) (vs : List Nat) : ME := fun e => match w e with
  | .ok items e1 => if fits items.length = true then (match mComp g tt te vs items (wipeE e1 vs) [] with
    | .ok acc e2 => .ok (.lst acc) e2
    | _ => .bad) else .bad
  | .exc x e1 => .exc x e1
  | .bad => .bad
def tY : MT := fun e => .ok true e
def wF : WX := fun _ _ _ _ => False
section
variable {K : PySem.W.Frag} {H : Hp}
theorem wipeE_len (e : E) : ∀ vs : List Nat, (wipeE e vs).length = e.length
  | [] => rfl
  | v :: vs => by rw [wipeE, List.length_set, wipeE_len e vs]
theorem wipeE_in {e : E} {i : Nat} {d : D} : ∀ {vs : List Nat}, (wipeE e vs)[i]? = some (some d) → i ∉ vs ∧ e[i]? = some (some d)
  | [], h => ⟨by simp, h⟩
  | v :: vs, h => by
    rw [wipeE] at h
    by_cases hv : v = i
    · subst hv
      by_cases hl : v < (wipeE e vs).length
      · rw [List.getElem?_set_self hl] at h; cases h
      · rw [List.getElem?_eq_none (by simpa using hl)] at h; cases h
    · rw [List.getElem?_set_ne hv] at h
      obtain ⟨h1, h2⟩ := wipeE_in h
      exact ⟨fun m => (List.mem_cons.mp m).elim (fun z => hv z.symm) h1, h2⟩
theorem RelS.wipe {σ : L2.St} {e : E} {F : List Addr} (r : RelS K H σ e F) (nd : F.Nodup) : ∀ vs : List Nat, ∃ F0, RelS K H σ (wipeE e vs) F0 ∧ F0.Nodup ∧ ∀ a ∈ F0, a ∈ F
  | [] => ⟨F, r, nd, fun _ m => m⟩
  | v :: vs => by
    obtain ⟨F0, h1, h2, h3⟩ := RelS.wipe r nd vs
    obtain ⟨F1, G, q1, q2⟩ := h1.drop v
    exact ⟨F1, q1, (List.nodup_append.mp (q2.nodup_iff.mp h2)).2.1, fun a m => h3 a (q2.mem_iff.mpr (List.mem_append_right _ m))⟩
theorem RelS.agree {σ σ' : L2.St} {e : E} {F : List Addr} (r : RelS K H σ e F) (hl : σ'.length = σ.length) (h : ∀ (i : Nat) (d : D), e[i]? = some (some d) → σ'[i]? = σ[i]?) : RelS K H σ' e F := by
  induction r generalizing σ' with
  | nil =>
    have : σ' = [] := List.length_eq_zero_iff.mp hl
    subst this
    exact .nil
  | no r ih =>
    cases σ' with
    | nil => simp at hl
    | cons x σ' => exact .no (ih (by simpa using hl) fun i d q => by simpa using h (i + 1) d (by simpa using q))
  | so p r ih =>
    cases σ' with
    | nil => simp at hl
    | cons x σ' =>
      have e0 := h 0 _ rfl
      simp only [List.getElem?_cons_zero, Option.some.injEq] at e0
      subst e0
      exact .so p (ih (by simpa using hl) fun i d q => by simpa using h (i + 1) d (by simpa using q))
theorem wipe_at {σ : L2.St} {i : Nat} : ∀ {vs : List Nat}, i ∈ vs → (L2.wipe σ vs)[i]? = if i < σ.length then some none else none
  | [], m => by cases m
  | v :: vs, m => by
    rw [L2.wipe]
    by_cases hv : v = i
    · subst hv
      by_cases hl : v < σ.length
      · rw [List.getElem?_set_self (by rw [L2.wipe_length]; exact hl), if_pos hl]
      · rw [List.getElem?_eq_none (by rw [List.length_set, L2.wipe_length]; omega), if_neg hl]
    · rw [List.getElem?_set_ne hv]
      exact wipe_at ((List.mem_cons.mp m).elim (fun z => absurd z.symm hv) id)
theorem wipe_same {σ σ2 : L2.St} {vs : List Nat} (hl : σ2.length = σ.length) (h : ∀ i, i ∉ vs → σ2[i]? = σ[i]?) : L2.wipe σ2 vs = L2.wipe σ vs := by
  refine List.ext_getElem? fun i => ?_
  by_cases m : i ∈ vs
  · rw [wipe_at m, wipe_at m, hl]
  · rw [wipe_out m, wipe_out m, h i m]
theorem wipe_agree {σ : L2.St} {e : E} {F : List Addr} {vs : List Nat} (r : RelS K H σ e F) (hw : ∀ i d, e[i]? = some (some d) → i ∉ vs) : RelS K H (L2.wipe σ vs) e F :=
  r.agree (L2.wipe_length _ _) fun i d q => wipe_out (hw i d q)
end
/-- the list so far, at L -/
structure Acc (K : PySem.W.Frag) (F : List Addr) (H H' : Hp) (L : Addr) (acc : List D) (F' : List Addr) : Prop where
  ex : ∃ vs G, H' L = some (.lst vs) ∧ Rps K H' vs acc G ∧ (∀ a ∈ G, a ∉ F') ∧ L ∉ G ∧ G.Nodup ∧ ∀ a ∈ G, a ∈ F ∨ H a = none
  nin : L ∉ F'
  new : L ∈ F ∨ H L = none
section
variable {K : PySem.W.Frag}
theorem Acc.keep {F F' F2 : List Addr} {H H' H2 : Hp} {L : Addr} {acc : List D} {σ2 : L2.St} {e2 : E} (a : Acc K F H H' L acc F') (y : Ev K F' H' σ2 H2 e2 F2) : Acc K F H H2 L acc F2 := by
  obtain ⟨⟨vs, G, h1, h2, h3, h4, h5, h6⟩, n1, n2⟩ := a
  refine ⟨⟨vs, G, y.k _ _ h1 (.inr n1), h2.keep y.k h3, fun b m m' => ?_, h4, h5, h6⟩, fun m => ?_, n2⟩
  · exact (y.new b m').elim (h3 b m) (h2.there m)
  · exact (y.new L m).elim n1 (by rw [h1]; exact fun z => by cases z)
theorem Acc.less {F F' F2 : List Addr} {H H' : Hp} {L : Addr} {acc : List D} (a : Acc K F H H' L acc F') (h : ∀ b ∈ F2, b ∈ F') : Acc K F H H' L acc F2 := by
  obtain ⟨⟨vs, G, h1, h2, h3, h4, h5, h6⟩, n1, n2⟩ := a
  exact ⟨⟨vs, G, h1, h2, fun b m m' => h3 b m (h b m'), h4, h5, h6⟩, fun m => n1 (h L m), n2⟩
end
theorem comp_ok {K : PySem.W.Frag} {J : It} {items : List D} {P : Hp → Prop} {A : List Addr} (src : Src K J items P A) {g : MG} {tt : MT} {te : ME} {vs : List Nat} {σ : L2.St} {H0 H1 : Hp} {F0 F1 : List Addr} {e1 : E} {Q : VK}
    (x0 : Ev K F0 H0 σ H1 e1 F1) (hA : ∀ a ∈ A, a ∉ F1 ∧ H1 a ≠ none) (hp : P H1) (hfit : fits items.length = true) (hw0 : ∀ i d, e1[i]? = some (some d) → i ∉ vs)
    (h : match mComp g tt te vs items e1 [] with
      | .ok acc e2 => ∀ v H' F', Ev K F0 H0 (some v :: σ) H' (some (.lst acc) :: e2) F' → Q v H'
      | _ => False) (L : Addr) (hL : H1 L = none) :
    ∃ V : Nat → Nat → Hp → Prop, (∃ m, V 0 m (upd H1 L (.lst []))) ∧ ∀ i m H, V i m H → (J.stop i H ∧ Q (.ref L) H) ∨ (J.go i H ∧ ∃ Nx : Hp → Prop, (∀ H', Nx H' → ∃ m', m' < m ∧ V (i + 1) m' H') ∧ ∀ x H', J.yld i H x H' →
      tG K (zw vs) g x (L2.wipe σ vs) H' fun σ2 H2 => L2.wipe σ2 vs = L2.wipe σ vs ∧ tT K wF tt σ2 H2 fun b H3 =>
        if b = true then tE K wF te σ2 H3 fun y H4 => ∃ acc, H4 L = some (.lst acc) ∧ acc.length < sizeLine ∧ Nx (upd H4 L (.lst (acc ++ [y]))) else Nx H3) := by
  have k0 : Keeps [] H1 (upd H1 L (.lst [])) := .new hL []
  have x1 : Ev K F0 H0 σ (upd H1 L (.lst [])) e1 F1 := x0.grow k0
  have LA : L ∉ A := fun m => (hA L m).2 hL
  have newL : L ∈ F0 ∨ H0 L = none := by
    by_cases z : L ∈ F0
    · exact .inl z
    · exact .inr (x0.k.none hL z)
  have a0 : Acc K F0 H0 (upd H1 L (.lst [])) L [] F1 := ⟨⟨[], [], upd_same, .nil, (fun _ m => by cases m), (fun m => by cases m), .nil, fun _ m => by cases m⟩, fun m => x0.r.there m hL, newL⟩
  have hA1 : ∀ a ∈ A, a ∉ F1 ∧ (upd H1 L (.lst [])) a ≠ none := fun a m => ⟨(hA a m).1, by rw [upd_ne (fun z => LA (by rw [← z]; exact m))]; exact (hA a m).2⟩
  refine ⟨fun i m H' => i + m = items.length ∧ P H' ∧ ∃ e' F' acc, Ev K F0 H0 σ H' e' F' ∧ Acc K F0 H0 H' L acc F' ∧ (∀ a ∈ A, a ∉ F' ∧ H' a ≠ none) ∧ (∀ j d, e'[j]? = some (some d) → j ∉ vs) ∧ acc.length ≤ i ∧ mComp g tt te vs (items.drop i) e' acc = mComp g tt te vs items e1 [],
    ⟨items.length, by omega, src.st [] _ _ (fun _ _ m => by cases m) k0 hp, e1, F1, [], x1, a0, hA1, hw0, Nat.le_refl _, by rw [List.drop_zero]⟩, fun i m H' hV => ?_⟩
  obtain ⟨him, hp', e', F', acc, ev, ac, hA', hw, hlen, hl⟩ := hV
  by_cases hi : i < items.length
  · refine .inr ⟨src.go i H' hp' hi, fun H2 => P H2 ∧ ∃ e2 F2 acc, Ev K F0 H0 σ H2 e2 F2 ∧ Acc K F0 H0 H2 L acc F2 ∧ (∀ a ∈ A, a ∉ F2 ∧ H2 a ≠ none) ∧ (∀ j d, e2[j]? = some (some d) → j ∉ vs) ∧ acc.length ≤ i + 1 ∧ mComp g tt te vs (items.drop (i + 1)) e2 acc = mComp g tt te vs items e1 [],
      fun H2 hN => ?_, fun y H2 hy => ?_⟩
    · obtain ⟨q1, e2, F2, acc2, q2, q3, q4, q5, q6, q7⟩ := hN
      exact ⟨m - 1, by omega, by omega, q1, e2, F2, acc2, q2, q3, q4, q5, q6, q7⟩
    · obtain ⟨ky, py⟩ := src.yld i H' y H2 hp' hi hy
      rw [List.drop_eq_getElem_cons hi, mComp] at hl
      cases qg : g items[i] e' with
      | none => rw [qg] at hl; rw [← hl] at h; exact h.elim
      | some e2 =>
        rw [qg] at hl
        simp only at hl
        have evy : Ev K F0 H0 σ H2 e' F' := ev.grow ky
        have acy : Acc K F0 H0 H2 L acc F' := ac.keep ⟨ky.mono (fun _ m => by cases m), ev.r.same ky, ev.nd, fun a m => .inl m⟩
        have py' : P H2 := src.st [] _ _ (fun _ _ m => by cases m) ky hp'
        have there : ∀ {S : List Addr} {Ha Hb : Hp}, (∀ a ∈ A, a ∉ S) → Keeps S Ha Hb → (∀ a ∈ A, Ha a ≠ none) → ∀ a ∈ A, Hb a ≠ none := fun {S Ha Hb} hs k ht a m z => by
          cases q : Ha a with
          | none => exact ht a m q
          | some o => rw [k a o q (.inr (hs a m))] at z; cases z
        refine ⟨items[i], e', F', e2, py, wipe_agree evy.r hw, evy.nd, qg, fun σ2 H3 F3 ev3 fz3 => ⟨?_, ?_⟩⟩
        · have w1 : L2.wipe (L2.wipe σ vs) vs = L2.wipe σ vs := wipe_same (L2.wipe_length _ _) fun i m => wipe_out m
          rw [wipe_same fz3.1 fun i m => fz3.2 i (by simp [zw, m]), w1]
        · have P3 : P H3 := src.st F' H2 H3 (fun a m => (hA' a m).1) ev3.k py'
          have ac3 := acy.keep ev3
          have at2 : ∀ a ∈ A, H2 a ≠ none := there (S := []) (fun _ _ m => by cases m) ky fun a m => (hA' a m).2
          have at3 : ∀ a ∈ A, a ∉ F3 ∧ H3 a ≠ none := fun a m => ⟨fun z => (ev3.new a z).elim (hA' a m).1 (at2 a m), there (fun a m => (hA' a m).1) ev3.k at2 a m⟩
          -- the outer slots again
          have outer : ∀ {σ4 : L2.St} {H4 : Hp} {e4 : E} {F4 : List Addr}, Ev K F' H2 σ4 H4 e4 F4 → Fz (zw vs) (L2.wipe σ vs) σ4 → ∃ F5, Ev K F0 H0 σ H4 (wipeE e4 vs) F5 ∧ ∀ a ∈ F5, a ∈ F4 := by
            intro σ4 H4 e4 F4 ev4 fz4
            obtain ⟨F5, r5, n5, s5⟩ := ev4.r.wipe ev4.nd vs
            refine ⟨F5, ⟨evy.k.trans ev4.k evy.new, r5.agree (by rw [fz4.1, L2.wipe_length]) fun j d q => ?_, n5, fun a m => ?_⟩, s5⟩
            · obtain ⟨m1, _⟩ := wipeE_in q
              rw [fz4.2 j (by simp [zw, m1]), wipe_out m1]
            · rcases ev4.new a (s5 a m) with z | z
              · exact evy.new a z
              · by_cases zz : a ∈ F0
                · exact .inl zz
                · exact .inr (evy.k.none z zz)
          refine ⟨e2, F3, ev3.r, ev3.nd, ?_⟩
          cases qt : tt e2 with
          | bad => rw [qt] at hl; rw [← hl] at h; exact h.elim
          | exc z e3 => rw [qt] at hl; rw [← hl] at h; exact h.elim
          | ok b e3 =>
            rw [qt] at hl
            simp only at hl
            intro H4 F4 ev4
            have evB := ev3.trans ev4
            have ac4 := ac3.keep ev4
            have P4 : P H4 := src.st F3 H3 H4 (fun a m => (at3 a m).1) ev4.k P3
            have at4 : ∀ a ∈ A, a ∉ F4 ∧ H4 a ≠ none := fun a m => ⟨fun z => (ev4.new a z).elim (at3 a m).1 (at3 a m).2, there (fun a m => (at3 a m).1) ev4.k (fun a m => (at3 a m).2) a m⟩
            cases b with
            | false =>
              simp only [Bool.false_eq_true, if_false] at hl ⊢
              obtain ⟨F5, ev5, s5⟩ := outer evB fz3
              exact ⟨P4, _, F5, acc, ev5, ac4.less s5, fun a m => ⟨fun z => (at4 a m).1 (s5 a z), (at4 a m).2⟩, fun j d q => (wipeE_in q).1, by omega, hl⟩
            | true =>
              simp only [if_true] at hl ⊢
              refine ⟨e3, F4, ev4.r, ev4.nd, ?_⟩
              cases qe : te e3 with
              | bad => rw [qe] at hl; rw [← hl] at h; exact h.elim
              | exc z e4 => rw [qe] at hl; rw [← hl] at h; exact h.elim
              | ok d e4 =>
                rw [qe] at hl
                simp only at hl
                intro v H5 F5 ev5
                obtain ⟨Gv, F6, eF, pv, ev6, hd6, n6, nw6⟩ := ev5.head
                obtain ⟨⟨ws, G, g1, g2, g3, h4, h5, h6⟩, n4, nL2⟩ := ac4
                have L4 : H4 L ≠ none := by rw [g1]; exact fun z => by cases z
                have h1 := ev6.k _ _ g1 (.inr n4)
                have h2 := g2.keep ev6.k g3
                have h3 : ∀ a ∈ G, a ∉ F6 := fun a m m' => (ev6.new a m').elim (g3 a m) (g2.there m)
                have nL : L ∉ F6 := fun m => (ev6.new L m).elim n4 L4
                have P5 : P H5 := src.st F4 H4 H5 (fun a m => (at4 a m).1) ev6.k P4
                have at5 : ∀ a ∈ A, a ∉ F6 ∧ H5 a ≠ none := fun a m => ⟨fun z => (ev6.new a z).elim (at4 a m).1 (at4 a m).2, there (fun a m => (at4 a m).1) ev6.k (fun a m => (at4 a m).2) a m⟩
                have lw : ws.length < sizeLine := by
                  rw [h2.length]
                  have := fits_le hfit
                  omega
                refine ⟨ws, h1, lw, ?_⟩
                have LGv : L ∉ Gv := fun m => (nw6 L m).elim n4 L4
                have dGv : ∀ a ∈ Gv, a ∉ G := fun a m m' => (nw6 a m).elim (g3 a m') (g2.there m')
                have kL : Keeps [L] H5 (upd H5 L (.lst (ws ++ [v]))) := .upd h1 rfl List.mem_cons_self
                obtain ⟨F7, ev7, s7⟩ := outer (evB.trans ev6) fz3
                have L7 : L ∉ F7 := fun m => nL (s7 L m)
                have kF : Keeps F0 H0 (upd H5 L (.lst (ws ++ [v]))) := fun a o q z => by
                  by_cases y : a = L
                  · subst y
                    rcases nL2 with n | n
                    · rcases z with z | z
                      · have := ev7.k a o q (.inl z)
                        rw [h1] at this; cases this; cases z
                      · exact absurd n z
                    · rw [n] at q; cases q
                  · rw [upd_ne y]; exact ev7.k a o q z
                have ev8 : Ev K F0 H0 σ (upd H5 L (.lst (ws ++ [v]))) (wipeE e4 vs) F7 := ⟨kF, ev7.r.keep kL fun a m z => L7 (by rw [← List.mem_singleton.mp z]; exact m), ev7.nd, ev7.new⟩
                refine ⟨src.st [L] _ _ (fun a m z => LA (by rw [← List.mem_singleton.mp z]; exact m)) kL P5, _, F7, acc ++ [d], ev8, ⟨⟨ws ++ [v], G ++ (Gv ++ []), upd_same, (h2.keep kL fun a m z => h4 (by rw [← List.mem_singleton.mp z]; exact m)).append (.cons (pv.keep kL fun a m z => LGv (by rw [← List.mem_singleton.mp z]; exact m)) .nil), fun a m m' => ?_, fun m => ?_, ?_, fun a m => ?_⟩, L7, nL2⟩,
                  fun a m => ⟨fun z => (at5 a m).1 (s7 a z), by rw [upd_ne (fun z => LA (by rw [← z]; exact m))]; exact (at5 a m).2⟩, fun j d q => (wipeE_in q).1, by rw [List.length_append, List.length_singleton]; omega, hl⟩
                · rw [List.append_nil] at m
                  rcases List.mem_append.mp m with m | m
                  · exact h3 a m (s7 a m')
                  · exact hd6 a m (s7 a m')
                · rw [List.append_nil] at m
                  exact (List.mem_append.mp m).elim h4 LGv
                · rw [List.append_nil]
                  exact List.nodup_append.mpr ⟨h5, n6, fun a m b m' z => by subst z; exact dGv a m' m⟩
                · rw [List.append_nil] at m
                  rcases List.mem_append.mp m with m | m
                  · exact h6 a m
                  · rcases nw6 a m with z | z
                    · rcases evB.new a z with z | z
                      · exact evy.new a z
                      · by_cases zz : a ∈ F0
                        · exact .inl zz
                        · exact .inr (evy.k.none z zz)
                    · by_cases zz : a ∈ F0
                      · exact .inl zz
                      · exact .inr ((evy.k.trans evB.k evy.new).none z zz)
  · have ei : i = items.length := by omega
    subst ei
    rw [List.drop_length, mComp] at hl
    rw [← hl] at h
    obtain ⟨⟨ws, G, h1, h2, h3, h4, h5, h6⟩, nL, nL2⟩ := ac
    refine .inl ⟨src.stop H' hp', h (.ref L) H' _ (ev.cons (.lst h1 h2) (fun a m => ?_) (List.nodup_cons.mpr ⟨h4, h5⟩) fun a m => ?_)⟩
    · rcases List.mem_cons.mp m with z | m
      · subst z; exact nL
      · exact h3 a m
    · rcases List.mem_cons.mp m with z | m
      · subst z; exact nL2
      · exact h6 a m

theorem PTs.mono {X : Cx} {e : List Expr} {t t' : TT} (p : PTs X e t) (h : ∀ σ H Q, t' σ H Q → t σ H Q) : PTs X e t' := ⟨fun pins s σ H Q I q => p.run pins s σ H Q I (h _ _ _ q)⟩
section
variable {K : PySem.W.Frag} {W : WX} {σ : L2.St} {H : Hp} {Q : VK} {w : MW} {g : MG} {tt : MT} {te : ME} {vs : List Nat}
theorem lc_of (h : tE K W (eComp w g tt te vs) σ H Q) : tLc (tW K W w) (tG K (zw vs) g) (tT K wF tt) (tE K wF te) vs σ H Q := by
  obtain ⟨e, F, r, nd, h⟩ := h
  refine ⟨e, F, r, nd, ?_⟩
  unfold eComp at h
  cases q : w e with
  | bad => rw [q] at h; exact h
  | exc y e1 => rw [q] at h; exact h
  | ok items e1 =>
    rw [q] at h
    simp only at h
    by_cases hf : fits items.length = true
    · rw [if_pos hf] at h
      intro J H1 F1 A P src hp x hA L hL
      obtain ⟨F2, r2, n2, s2⟩ := x.r.wipe x.nd vs
      have x2 : Ev K F H σ H1 (wipeE e1 vs) F2 := ⟨x.k, r2, n2, fun a m => x.new a (s2 a m)⟩
      refine comp_ok src x2 (fun a m => ⟨fun z => (hA a m).1 (s2 a z), (hA a m).2⟩) hp hf (fun i d q => (wipeE_in q).1) ?_ L hL
      cases qc : mComp g tt te vs items (wipeE e1 vs) [] with
      | ok acc e2 => rw [qc] at h; exact h
      | exc y e2 => rw [qc] at h; exact h
      | bad => rw [qc] at h; exact h
    · rw [if_neg hf] at h; exact h.elim
end
section
variable {X : Cx} {W : WX} {Z : Zs} {w : MW} {g : MG} {tt : MT} {te : ME}
theorem ts_nil : PTs X [] (tT X.K wF tY) := PTs.mono pts_nil fun σ H Q ⟨e, F, r, nd, h⟩ => h H F (.refl r nd)
theorem ts_one {c : Expr} {t : MT} (h : PT X c (tT X.K wF t)) : PTs X [c] (tT X.K wF t) := pts_one h
theorem e_comp {elt tg iter : Expr} {ifs : List Expr} {scope : Scope} {own : List (Str × Nat)} {pos : Pos} (hi : PI X tg iter (tW X.K W w)) (hc : X.calm = true) (hN : X.N.Nodup) (ok : BlkOk X.N X.env.scope scope own)
    (hg : ∀ (s : Shared) (H : Hp) (C : Addr) (cl : List (Str × Addr)) (fp : List Addr), PG (X.blk s H scope (compEnvC scope cl C X.env) fp) tg (tG X.K (zw (own.map (·.2))) g)) (ht : ∀ (s : Shared) (H : Hp) (C : Addr) (cl : List (Str × Addr)) (fp : List Addr), PTs (X.blk s H scope (compEnvC scope cl C X.env) fp) ifs (tT X.K wF tt))
    (he : ∀ (s : Shared) (H : Hp) (C : Addr) (cl : List (Str × Addr)) (fp : List Addr), PE (X.blk s H scope (compEnvC scope cl C X.env) fp) elt (tE X.K wF te)) (hs : ∀ x, foldedSetIterable iter X.env x = pure x := by intro _; rfl) :
    PE X (.ListComp elt [⟨tg, iter, ifs, 0⟩] scope pos) (tE X.K W (eComp w g tt te (own.map (·.2)))) := PE.mono (pe_lc hc hN hi ok hg ht he hs) fun _ _ _ h => lc_of h
theorem m_setLc {i : Nat} {y : Str} {py : Pos} {elt tg iter : Expr} {ifs : List Expr} {scope : Scope} {own : List (Str × Nat)} {pos spos : Pos} (hi : PI X tg iter (tW X.K W w)) (hc : X.calm = true) (hN : X.N.Nodup)
    (hsw : swapsWith (.ListComp elt [⟨tg, iter, ifs, 0⟩] scope pos) (some (.Name y py)) spos.line X.env = pure true) (ok : BlkOk X.N X.env.scope scope own)
    (hg : ∀ (s : Shared) (H : Hp) (C : Addr) (cl : List (Str × Addr)) (fp : List Addr), PG (X.blk s H scope (compEnvC scope cl C X.env) fp) tg (tG X.K (zw (own.map (·.2))) g)) (ht : ∀ (s : Shared) (H : Hp) (C : Addr) (cl : List (Str × Addr)) (fp : List Addr), PTs (X.blk s H scope (compEnvC scope cl C X.env) fp) ifs (tT X.K wF tt))
    (he : ∀ (s : Shared) (H : Hp) (C : Addr) (cl : List (Str × Addr)) (fp : List Addr), PE (X.blk s H scope (compEnvC scope cl C X.env) fp) elt (tE X.K wF te)) (hz : Z i = false := by rfl) (hy : X.N[i]? = some y := by rfl) (hyl : X.env.scope.names.lookup y = some .local := by rfl) (hs : ∀ x, foldedSetIterable iter X.env x = pure x := by intro _; rfl) :
    PS X (.Assign [.Name y py] (.ListComp elt [⟨tg, iter, ifs, 0⟩] scope pos) spos) (tM X.K W Z (mSet i (eComp w g tt te (own.map (·.2))))) := PS.mono (ps_setLc hc hN hy hyl hsw hi ok hg ht he hs) fun D σ H h => by
  obtain ⟨e, F, r, nd, h⟩ := h
  refine lc_of (Q := fun x H1 => gName i x σ H1 D.nx) (W := W) ⟨e, F, r, nd, ?_⟩
  unfold mSet at h
  cases q : eComp w g tt te (own.map (·.2)) e with
  | bad => rw [q] at h; exact h
  | exc y e1 => rw [q] at h; exact fun c dx H' F' x p => h c dx σ H' F' x (.refl _ _) p
  | ok d e1 =>
    rw [q] at h
    intro v H' F' x
    obtain ⟨F3, y⟩ := x.put i
    exact h _ H' F3 y (.set hz)
end
end Mir

namespace Mir
open PySem PySem.Spec L2

/-! ### defs whose arguments can't change -/
abbrev MD := List D → Rs D
def spN (K : PySem.W.Frag) (n : Nat) (m : MD) : Sp := fun vs H Q E => vs.length = n ∧ ∃ ds, Rps K H vs ds [] ∧ match m ds with
  | .ok d => ∀ v H' G, Keeps [] H H' → Rp K H' v d G → G.Nodup → (∀ a ∈ G, H a = none) → Q v H'
  | .exc x => ∀ c dx H', Keeps [] H H' → RpX K H' c dx x → E c dx H'
  | .bad => False
def mRes : SR → Rs D
  | .rt d _ => .ok d
  | .nx _ => .ok .non
  | .exc x _ => .exc x
  | _ => .bad
def mDef (k : Nat) (mb : MS) : MD := fun ds => if imms ds = true then mRes (mb (ds.map some ++ List.replicate k none)) else .bad
theorem RelS.nones {K : PySem.W.Frag} {H : Hp} : ∀ k : Nat, RelS K H (List.replicate k none) (List.replicate k none) []
  | 0 => .nil
  | k + 1 => .no (RelS.nones k)
theorem RelS.start {K : PySem.W.Frag} {H : Hp} {k : Nat} : ∀ {vs : List V} {ds : List D} {F : List Addr}, Rps K H vs ds F → RelS K H (vs.map some ++ List.replicate k none) (ds.map some ++ List.replicate k none) F
  | _, _, _, .nil => RelS.nones k
  | _, _, _, .cons p r => .so p (RelS.start r)
section
variable {P : Program} {w : World} {K : PySem.W.Frag} {mg : Str → Option Value} {base : Heap}
theorem body_ok {W : WX} {mb : MS} {N : List Str} {vs : List V} {ds : List D} {H : Hp} {Q : VK} {E : XK} {n : Nat} (hN : N.length - vs.length = n) (hW : ∀ c dx σ H', E c dx H' → W c dx σ H')
    (r : Rps K H vs ds []) (h : match mDef n mb ds with
      | .ok d => ∀ v H' G, Keeps [] H H' → Rp K H' v d G → G.Nodup → (∀ a ∈ G, H a = none) → Q v H'
      | .exc x => ∀ c dx H', Keeps [] H H' → RpX K H' c dx x → E c dx H'
      | .bad => False) : tM K W z0 mb { nx := fun _ H' => Q .non H', rt := Q } (L2.start N vs) H := by
  unfold mDef at h
  by_cases hi : imms ds = true
  · rw [if_pos hi] at h
    unfold L2.start
    rw [hN]
    refine ⟨_, _, RelS.start r, .nil, ?_⟩
    cases q : mb (ds.map some ++ List.replicate n none) with
    | nx e' => rw [q] at h; exact fun σ' H' F' x _ => h .non H' [] x.k .non .nil fun _ m => by cases m
    | rt d e' =>
      rw [q] at h
      intro v σ' H' F' x _
      obtain ⟨G, F0, eF, p, x', hd, n1, nw⟩ := x.head
      exact h v H' G x.k p n1 fun a m => (nw a m).elim (fun z => by cases z) id
    | exc y e' =>
      rw [q] at h
      exact fun c dx σ' H' F' x _ p => hW c dx σ' H' (h c dx H' x.k p)
    | bk e' => rw [q] at h; exact h.elim
    | ct e' => rw [q] at h; exact h.elim
    | bad => rw [q] at h; exact h.elim
  · rw [if_neg hi] at h; exact h.elim
/-- a def that lets nothing out -/
theorem ok_def {x qual : Str} {st : Stmt} {f : Addr} {fd : FuncData} {N ps : List Str} {k : Nat} {mb : MS} (F : Fun K x qual st f fd) (S : FnScope N ps (defScope st)) {n q : Nat} (hn : ps.length = n) (hq : N.length - n = q)
    (hb : ∀ (cdv : Value) (A : Around) (outer : List Env) (s : Shared) (H : Hp) (E : XK), Room k (A.deeper (PyProof.Rows.envOfC qual (defScope st) s.heap.objs.size f cdv)) →
      PSs (cxOf CX0 P w K mg base N qual (defScope st) f cdv A outer s H E).nox (defBody st) (tM K wF z0 mb))
    (hx : ∀ ds x, mDef q mb ds ≠ .exc x) : FnOk P w K mg base CX0 (k + 1) f fd ps (spN K n (mDef q mb)) :=
  F.ok S (fun vs H Q E h => h.1.trans hn.symm) fun cdv A outer s H vs Q E hr h => ⟨_, hb cdv A outer s H E hr, by
    obtain ⟨hl, ds, r, h⟩ := h
    refine body_ok (n := q) (E := fun _ _ _ => False) (by rw [hl]; exact hq) (fun _ _ _ _ z => z.elim) r ?_
    cases e : mDef q mb ds with
    | ok d => rw [e] at h; exact h
    | exc x => exact absurd e (hx ds x)
    | bad => rw [e] at h; exact h⟩
/-- a def that may raise -/
theorem ok_defX {x qual : Str} {st : Stmt} {f : Addr} {fd : FuncData} {N ps : List Str} {k : Nat} {mb : MS} (F : Fun K x qual st f fd) (S : FnScope N ps (defScope st)) {n q : Nat} (hn : ps.length = n) (hq : N.length - n = q)
    (hb : ∀ (cdv : Value) (A : Around) (outer : List Env) (s : Shared) (H : Hp) (E : XK), Room k (A.deeper (PyProof.Rows.envOfC qual (defScope st) s.heap.objs.size f cdv)) →
      PSs (cxOf (L2.CX P w) P w K mg base N qual (defScope st) f cdv A outer s H E) (defBody st) (tM K (fun c dx _ H' => E c dx H') z0 mb)) : FnOk P w K mg base (L2.CX P w) (k + 1) f fd ps (spN K n (mDef q mb)) :=
  F.okX S (fun vs H Q E h => h.1.trans hn.symm) fun cdv A outer s H vs Q E hr h => ⟨_, hb cdv A outer s H E hr, by
    obtain ⟨hl, ds, r, h⟩ := h
    exact body_ok (n := q) (by rw [hl]; exact hq) (fun _ _ _ _ z => z) r h⟩
end
/-! ### their calls -/
def cN (m : MD) (ms : MA) : MB := fun e => (ms e).bind fun ds => if imms ds = true then m ds else .bad
def cE (m : MD) (ns : MAE) : ME := fun e => (ns e).bind fun ds e1 => if imms ds = true then (m ds).at e1 else .bad
section
variable {K : PySem.W.Frag} {W : WX} {σ : L2.St} {H : Hp} {Q : VK} {n : Nat} {m : MD} {ms : MA} {ns : MAE} {E : St → XK}
theorem def_b (hl : ∀ e ds, ms e = .ok ds → ds.length = n) (hE : ∀ c dx H', W c dx σ H' → E σ c dx H') (h : tN K W (cN m ms) σ H Q) : tAB K W ms σ H fun vs H1 => spN K n m vs H1 Q (E σ) := by
  obtain ⟨e, F, r, h⟩ := h
  refine ⟨e, F, r, ?_⟩
  unfold cN at h
  cases q : ms e with
  | bad => rw [q] at h; exact h
  | exc y => rw [q] at h; exact h
  | ok ds =>
    simp only [q, Rs.bind] at h
    intro vs H1 G k p
    by_cases hi : imms ds = true
    · rw [if_pos hi] at h
      have e0 := p.fpImm hi
      subst e0
      refine ⟨p.length.trans (hl e ds q), ds, p, ?_⟩
      cases qm : m ds with
      | ok d => rw [qm] at h; exact fun v H' G k' p' n1 n2 => h v H' G (k.trans k' fun _ m => by cases m) p' n1 fun z m => k.none (n2 z m) fun m => by cases m
      | exc y => rw [qm] at h; exact fun c dx H' k' p' => hE _ _ _ (h c dx H' (k.trans k' fun _ m => by cases m) p')
      | bad => rw [qm] at h; exact h
    · rw [if_neg hi] at h; exact h.elim
theorem def_e (hl : ∀ e ds e1, ns e = .ok ds e1 → ds.length = n) (hE : ∀ c dx H', W c dx σ H' → E σ c dx H') (h : tE K W (cE m ns) σ H Q) : tAE K W ns σ H fun vs H1 => spN K n m vs H1 Q (E σ) := by
  obtain ⟨e, F, r, nd, h⟩ := h
  refine ⟨e, F, r, nd, ?_⟩
  unfold cE at h
  cases q : ns e with
  | bad => rw [q] at h; exact h
  | exc y e1 => rw [q] at h; exact h
  | ok ds e1 =>
    simp only [q, Re.bind] at h
    intro vs H1 G F1 x
    by_cases hi : imms ds = true
    · rw [if_pos hi] at h
      have e0 := x.ps.fpImm hi
      subst e0
      refine ⟨x.ps.length.trans (hl e ds e1 q), ds, x.ps, ?_⟩
      cases qm : m ds with
      | ok d => rw [qm] at h; exact fun v H' G k' p' n1 n2 => h v H' _ (x.ev.consNew k' p' n1 n2)
      | exc y => rw [qm] at h; exact fun c dx H' k' p' => hE _ _ _ (h c dx H' F1 (x.ev.grow k') p')
      | bad => rw [qm] at h; exact h
    · rw [if_neg hi] at h; exact h.elim
variable {X : Cx} {k : Nat} {f : Addr} {fd : FuncData} {ps : List Str} {x : Str} {p pos : Pos} {e : Expr} {es : List Expr}
/-- a call of a def that lets nothing out -/
theorem x_def (F : FnOk X.prog X.w X.K X.mg X.base CX0 k f fd ps (spN X.K n m)) (hr : Room k X.A) (hm : X.mg x = some (.ref f)) (hk : PySem.W.keepIn X.K (.ref f) = true) (hb : Binds X.K fd ps []) (hg : Gl X x) (hl : ∀ e ds, ms e = .ok ds → ds.length = n) (hx : ∀ ds y, m ds ≠ .exc y)
    (ha : PA X (e :: es) (tAB X.K W ms)) (q : PE X (.Call (.Name x p) (e :: es) [] pos) (tCall (spN X.K n m) [] E0 (tAB X.K W ms))) : PE X (.Call (.Name x p) (e :: es) [] pos) (tN X.K W (cN m ms)) := PE.mono q fun σ H Q ⟨e, F, r, h⟩ => by
  refine ⟨e, F, r, ?_⟩
  unfold cN at h
  cases q : ms e with
  | bad => rw [q] at h; exact h
  | exc y => rw [q] at h; exact h
  | ok ds =>
    simp only [q, Rs.bind] at h
    intro vs H1 G k p
    by_cases hi : imms ds = true
    · rw [if_pos hi] at h
      have e0 := p.fpImm hi
      subst e0
      rw [List.append_nil]
      refine ⟨p.length.trans (hl e ds q), ds, p, ?_⟩
      cases qm : m ds with
      | ok d => rw [qm] at h; exact fun v H' G k' p' n1 n2 => h v H' G (k.trans k' fun _ m => by cases m) p' n1 fun z m => k.none (n2 z m) fun m => by cases m
      | exc y => exact absurd qm (hx ds y)
      | bad => rw [qm] at h; exact h
    · rw [if_neg hi] at h; exact h.elim
theorem e_def (hl : ∀ e ds e1, ns e = .ok ds e1 → ds.length = n) (hx : ∀ ds y, m ds ≠ .exc y)
    (q : PE X (.Call (.Name x p) (e :: es) [] pos) (tCall (spN X.K n m) [] E0 (tAE X.K W ns))) : PE X (.Call (.Name x p) (e :: es) [] pos) (tE X.K W (cE m ns)) := PE.mono q fun σ H Q ⟨e, F, r, nd, h⟩ => by
  refine ⟨e, F, r, nd, ?_⟩
  unfold cE at h
  cases q : ns e with
  | bad => rw [q] at h; exact h
  | exc y e1 => rw [q] at h; exact h
  | ok ds e1 =>
    simp only [q, Re.bind] at h
    intro vs H1 G F1 x
    by_cases hi : imms ds = true
    · rw [if_pos hi] at h
      have e0 := x.ps.fpImm hi
      subst e0
      rw [List.append_nil]
      refine ⟨x.ps.length.trans (hl e ds e1 q), ds, x.ps, ?_⟩
      cases qm : m ds with
      | ok d => rw [qm] at h; exact fun v H' G k' p' n1 n2 => h v H' _ (x.ev.consNew k' p' n1 n2)
      | exc y => exact absurd qm (hx ds y)
      | bad => rw [qm] at h; exact h
    · rw [if_neg hi] at h; exact h.elim
/-- a call of a def that may raise -/
theorem x_defX (hl : ∀ e ds, ms e = .ok ds → ds.length = n) (q : PE X (.Call (.Name x p) (e :: es) [] pos) (tCallS (spN X.K n m) (WE W) (tAB X.K W ms))) : PE X (.Call (.Name x p) (e :: es) [] pos) (tN X.K W (cN m ms)) :=
  PE.mono q fun σ H Q h => def_b hl (fun _ _ _ z => z) h
theorem e_defX (hl : ∀ e ds e1, ns e = .ok ds e1 → ds.length = n) (q : PE X (.Call (.Name x p) (e :: es) [] pos) (tCallS (spN X.K n m) (WE W) (tAE X.K W ns))) : PE X (.Call (.Name x p) (e :: es) [] pos) (tE X.K W (cE m ns)) :=
  PE.mono q fun σ H Q h => def_e hl (fun _ _ _ z => z) h
end

/-! ### defs that change what they are handed -/
inductive DR where | rt (d : D) (os : List D) | exc (x : Ex) (os : List D) | bad
abbrev MI := List D → DR
def spI (K : PySem.W.Frag) (n : Nat) (m : MI) : Sp := fun vs H Q E => vs.length = n ∧ ∃ ds F, Rps K H vs ds F ∧ F.Nodup ∧ match m ds with
  | .rt d os => ∀ v H' G F', Keeps F H H' → Rps K H' vs os F' → Rp K H' v d G → F'.Nodup → G.Nodup → (∀ a ∈ G, a ∉ F') → (∀ a ∈ F', a ∈ F ∨ H a = none) → (∀ a ∈ G, a ∈ F ∨ H a = none) → Q v H'
  | .exc x os => ∀ c dx H' F', Keeps F H H' → Rps K H' vs os F' → F'.Nodup → (∀ a ∈ F', a ∈ F ∨ H a = none) → RpX K H' c dx x → E c dx H'
  | .bad => False
/-- what the changed arguments are at the end -/
def outsOf (Z : Zs) : Nat → List D → E → Option (List D)
  | _, [], _ => some []
  | j, d :: ds, e => if Z j = true then (match e[j]? with
      | some (some d') => (outsOf Z (j + 1) ds (e.set j none)).map (d' :: ·)
      | _ => none) else if imm d = true then (outsOf Z (j + 1) ds e).map (d :: ·) else none
def mResI (Z : Zs) (ds : List D) : SR → DR
  | .rt d e => match outsOf Z 0 ds e with
    | some os => .rt d os
    | none => .bad
  | .nx e => match outsOf Z 0 ds e with
    | some os => .rt .non os
    | none => .bad
  | .exc x e => match outsOf Z 0 ds e with
    | some os => .exc x os
    | none => .bad
  | _ => .bad
def mDefI (k : Nat) (Z : Zs) (mb : MS) : MI := fun ds => mResI Z ds (mb (ds.map some ++ List.replicate k none))
theorem outs_ok {K : PySem.W.Frag} {H H' : Hp} {Z : Zs} {σ' : L2.St} {S : List Addr} (k : Keeps S H H') : ∀ {vs : List V} {ds os : List D} {F F' : List Addr} {e' : E} (j : Nat), Rps K H vs ds F → RelS K H' σ' e' F' → F'.Nodup →
    (∀ i v, vs[i]? = some v → Z (j + i) = true → σ'[j + i]? = some (some v)) → outsOf Z j ds e' = some os → ∃ Fo, Rps K H' vs os Fo ∧ Fo.Nodup ∧ ∀ a ∈ Fo, a ∈ F'
  | _, _, os, _, F', e', j, .nil, r, nd, hs, h => by
    cases h
    exact ⟨[], .nil, .nil, fun _ m => by cases m⟩
  | _, _, os, _, F', e', j, .cons (v := v) (d := d) (vs := vs) (ds := ds) (F := F1) (G := G1) p rs, r, nd, hs, h => by
    unfold outsOf at h
    by_cases hz : Z j = true
    · rw [if_pos hz] at h
      cases q : e'[j]? with
      | none => rw [q] at h; cases h
      | some oo =>
        rw [q] at h
        cases oo with
        | none => cases h
        | some d' =>
          obtain ⟨os', h1, h2⟩ := Option.map_eq_some_iff.mp h
          subst h2
          obtain ⟨v', G, F0, q1, q2, q3, q4⟩ := r.take q
          have e0 := hs 0 v rfl (by rw [Nat.add_zero]; exact hz)
          rw [Nat.add_zero, q1] at e0
          injection e0 with e0
          injection e0 with e0
          subst e0
          have n0 := q4.nodup_iff.mp nd
          obtain ⟨n1, n2, n3⟩ := List.nodup_append.mp n0
          obtain ⟨Fo, r1, r2, r3⟩ := outs_ok k (j + 1) rs q3 n2 (fun i w hw hz' => by
            have := hs (i + 1) w (by simpa using hw) (by rw [show j + (i + 1) = j + 1 + i by omega]; exact hz')
            rw [show j + (i + 1) = j + 1 + i by omega] at this
            exact this) h1
          refine ⟨G ++ Fo, .cons q2 r1, List.nodup_append.mpr ⟨n1, r2, fun a m b m' z => by subst z; exact n3 a m a (r3 a m') rfl⟩, fun a m => q4.mem_iff.mpr ?_⟩
          rcases List.mem_append.mp m with m | m
          · exact List.mem_append_left _ m
          · exact List.mem_append_right _ (r3 a m)
    · rw [if_neg hz] at h
      by_cases hi : imm d = true
      · rw [if_pos hi] at h
        obtain ⟨os', h1, h2⟩ := Option.map_eq_some_iff.mp h
        subst h2
        have e0 := p.fpImm hi
        subst e0
        obtain ⟨Fo, r1, r2, r3⟩ := outs_ok k (j + 1) rs r nd (fun i w hw hz' => by
          have := hs (i + 1) w (by simpa using hw) (by rw [show j + (i + 1) = j + 1 + i by omega]; exact hz')
          rw [show j + (i + 1) = j + 1 + i by omega] at this
          exact this) h1
        exact ⟨[] ++ Fo, .cons (p.keep k fun _ m => by cases m) r1, r2, r3⟩
      · rw [if_neg hi] at h; cases h
section
variable {P : Program} {w : World} {K : PySem.W.Frag} {mg : Str → Option Value} {base : Heap}
theorem start_at {N : List Str} {vs : List V} {i : Nat} {v : V} (h : vs[i]? = some v) : (L2.start N vs)[i]? = some (some v) := by
  unfold L2.start
  obtain ⟨hi, _⟩ := List.getElem?_eq_some_iff.mp h
  rw [List.getElem?_append_left (by simpa using hi), List.getElem?_map, h]
  rfl
theorem bodyI_ok {W : WX} {mb : MS} {N : List Str} {Z : Zs} {vs : List V} {ds : List D} {F : List Addr} {H : Hp} {Q : VK} {E : XK} {n : Nat} (hN : N.length - vs.length = n) (hW : ∀ c dx σ H', E c dx H' → W c dx σ H')
    (r : Rps K H vs ds F) (nd : F.Nodup) (h : match mDefI n Z mb ds with
      | .rt d os => ∀ v H' G F', Keeps F H H' → Rps K H' vs os F' → Rp K H' v d G → F'.Nodup → G.Nodup → (∀ a ∈ G, a ∉ F') → (∀ a ∈ F', a ∈ F ∨ H a = none) → (∀ a ∈ G, a ∈ F ∨ H a = none) → Q v H'
      | .exc x os => ∀ c dx H' F', Keeps F H H' → Rps K H' vs os F' → F'.Nodup → (∀ a ∈ F', a ∈ F ∨ H a = none) → RpX K H' c dx x → E c dx H'
      | .bad => False) : tM K W Z mb { nx := fun _ H' => Q .non H', rt := Q } (L2.start N vs) H := by
  unfold mDefI at h
  have r0 : RelS K H (L2.start N vs) (ds.map some ++ List.replicate n none) F := by
    unfold L2.start
    rw [hN]
    exact RelS.start r
  have at_ : ∀ {σ' : L2.St}, Fz Z (L2.start N vs) σ' → ∀ i v, vs[i]? = some v → Z (0 + i) = true → σ'[0 + i]? = some (some v) := fun fz i v hv hz => by
    rw [Nat.zero_add] at hz ⊢
    rw [fz.2 i hz]
    exact start_at hv
  refine ⟨_, F, r0, nd, ?_⟩
  cases q : mb (ds.map some ++ List.replicate n none) with
  | nx e' =>
    rw [q] at h
    intro σ' H' F' x fz
    simp only [mResI] at h
    cases qo : outsOf Z 0 ds e' with
    | none => simp only [qo] at h
    | some os =>
      simp only [qo] at h
      obtain ⟨Fo, r1, r2, r3⟩ := outs_ok x.k 0 r x.r x.nd (at_ fz) qo
      exact h .non H' [] Fo x.k r1 .non r2 .nil (fun _ m => by cases m) (fun a m => x.new a (r3 a m)) fun _ m => by cases m
  | rt d e' =>
    rw [q] at h
    intro v σ' H' F' x fz
    obtain ⟨G, F0, eF, p, x', hd, n1, nw⟩ := x.head
    simp only [mResI] at h
    cases qo : outsOf Z 0 ds e' with
    | none => simp only [qo] at h
    | some os =>
      simp only [qo] at h
      obtain ⟨Fo, r1, r2, r3⟩ := outs_ok x'.k 0 r x'.r x'.nd (at_ fz) qo
      exact h v H' G Fo x'.k r1 p r2 n1 (fun a m m' => hd a m (r3 a m')) (fun a m => x'.new a (r3 a m)) nw
  | exc y e' =>
    rw [q] at h
    intro c dx σ' H' F' x fz p
    simp only [mResI] at h
    cases qo : outsOf Z 0 ds e' with
    | none => simp only [qo] at h
    | some os =>
      simp only [qo] at h
      obtain ⟨Fo, r1, r2, r3⟩ := outs_ok x.k 0 r x.r x.nd (at_ fz) qo
      exact hW c dx σ' H' (h c dx H' Fo x.k r1 r2 (fun a m => x.new a (r3 a m)) p)
  | bk e' => rw [q] at h; exact h.elim
  | ct e' => rw [q] at h; exact h.elim
  | bad => rw [q] at h; exact h.elim
theorem ok_defI {x qual : Str} {st : Stmt} {f : Addr} {fd : FuncData} {N ps : List Str} {k : Nat} {Z : Zs} {mb : MS} (F : Fun K x qual st f fd) (S : FnScope N ps (defScope st)) {n q : Nat} (hn : ps.length = n) (hq : N.length - n = q)
    (hb : ∀ (cdv : Value) (A : Around) (outer : List Env) (s : Shared) (H : Hp) (E : XK), Room k (A.deeper (PyProof.Rows.envOfC qual (defScope st) s.heap.objs.size f cdv)) →
      PSs (cxOf CX0 P w K mg base N qual (defScope st) f cdv A outer s H E).nox (defBody st) (tM K wF Z mb))
    (hx : ∀ ds x os, mDefI q Z mb ds ≠ .exc x os) : FnOk P w K mg base CX0 (k + 1) f fd ps (spI K n (mDefI q Z mb)) :=
  F.ok S (fun vs H Q E h => h.1.trans hn.symm) fun cdv A outer s H vs Q E hr h => ⟨_, hb cdv A outer s H E hr, by
    obtain ⟨hl, ds, F, r, nd, h⟩ := h
    refine bodyI_ok (n := q) (E := fun _ _ _ => False) (by rw [hl]; exact hq) (fun _ _ _ _ z => z.elim) r nd ?_
    cases e : mDefI q Z mb ds with
    | rt d os => rw [e] at h; exact h
    | exc x os => exact absurd e (hx ds x os)
    | bad => rw [e] at h; exact h⟩
theorem ok_defIX {x qual : Str} {st : Stmt} {f : Addr} {fd : FuncData} {N ps : List Str} {k : Nat} {Z : Zs} {mb : MS} (F : Fun K x qual st f fd) (S : FnScope N ps (defScope st)) {n q : Nat} (hn : ps.length = n) (hq : N.length - n = q)
    (hb : ∀ (cdv : Value) (A : Around) (outer : List Env) (s : Shared) (H : Hp) (E : XK), Room k (A.deeper (PyProof.Rows.envOfC qual (defScope st) s.heap.objs.size f cdv)) →
      PSs (cxOf (L2.CX P w) P w K mg base N qual (defScope st) f cdv A outer s H E) (defBody st) (tM K (fun c dx _ H' => E c dx H') Z mb)) : FnOk P w K mg base (L2.CX P w) (k + 1) f fd ps (spI K n (mDefI q Z mb)) :=
  F.okX S (fun vs H Q E h => h.1.trans hn.symm) fun cdv A outer s H vs Q E hr h => ⟨_, hb cdv A outer s H E hr, by
    obtain ⟨hl, ds, F, r, nd, h⟩ := h
    exact bodyI_ok (n := q) (by rw [hl]; exact hq) (fun _ _ _ _ z => z) r nd h⟩
end
end Mir

namespace Mir
open PySem PySem.Spec L2

/-! ### names handed on, to be changed -/
def slotV (σ : L2.St) (i : Nat) : V := match σ[i]? with
  | some (some v) => v
  | _ => .non
def tVars : List Nat → TA → TA
  | [], t => t
  | k :: ks, t => tCons (tVar k) (tVars ks t)
def there : List Nat → E → Bool
  | [], _ => true
  | k :: ks, e => match e[k]? with
    | some (some _) => there ks e
    | _ => false
def takeS : List Nat → E → Option (List D × E)
  | [], e => some ([], e)
  | k :: ks, e => match e[k]? with
    | some (some d) => (takeS ks (e.set k none)).map fun p => (d :: p.1, p.2)
    | _ => none
def putS : List Nat → List D → E → Option E
  | [], _, e => some e
  | k :: ks, d :: os, e => putS ks os (e.set k (some d))
  | _ :: _, [], _ => none
section
variable {K : PySem.W.Frag} {W : WX} {σ : L2.St} {H : Hp} {e : E} {F : List Addr}
theorem there_at (r : RelS K H σ e F) : ∀ {ks : List Nat}, there ks e = true → ∀ k ∈ ks, σ[k]? = some (some (slotV σ k))
  | [], _, k, m => by cases m
  | j :: ks, h, k, m => by
    unfold there at h
    cases q : e[j]? with
    | none => rw [q] at h; cases h
    | some oo =>
      rw [q] at h
      cases oo with
      | none => cases h
      | some d =>
        rcases List.mem_cons.mp m with z | m
        · subst z
          obtain ⟨v, G, h1, _, _⟩ := r.get q
          unfold slotV
          rw [h1]
        · exact there_at r h k m
theorem tVars_of {t : TA} : ∀ {ks : List Nat} {Q : List V → Hp → Prop}, (∀ k ∈ ks, σ[k]? = some (some (slotV σ k))) → t σ H (fun vs H1 => Q (ks.map (slotV σ) ++ vs) H1) → tVars ks t σ H Q
  | [], Q, _, h => h
  | k :: ks, Q, hk, h => ⟨slotV σ k, hk k List.mem_cons_self, tVars_of (fun j m => hk j (List.mem_cons_of_mem _ m)) h⟩
theorem takeS_ok : ∀ {ks : List Nat} {e e2 : E} {dk : List D} {F : List Addr}, RelS K H σ e F → takeS ks e = some (dk, e2) →
    ∃ Gk F2, Rps K H (ks.map (slotV σ)) dk Gk ∧ RelS K H σ e2 F2 ∧ F.Perm (Gk ++ F2) ∧ ∀ k ∈ ks, e2[k]? = some none
  | [], e, e2, dk, F, r, h => by
    cases h
    exact ⟨[], F, .nil, r, .refl _, fun _ m => by cases m⟩
  | k :: ks, e, e2, dk, F, r, h => by
    unfold takeS at h
    cases q : e[k]? with
    | none => rw [q] at h; cases h
    | some oo =>
      rw [q] at h
      cases oo with
      | none => cases h
      | some d =>
        obtain ⟨p, h1, h2⟩ := Option.map_eq_some_iff.mp h
        obtain ⟨ds, e3⟩ := p
        cases h2
        obtain ⟨v, G, F0, q1, q2, q3, q4⟩ := r.take q
        obtain ⟨Gk, F2, r1, r2, r3, r4⟩ := takeS_ok q3 h1
        have ev : slotV σ k = v := by unfold slotV; rw [q1]
        refine ⟨G ++ Gk, F2, ?_, r2, ?_, fun j m => ?_⟩
        · rw [List.map_cons, ev]
          exact .cons q2 r1
        · rw [List.append_assoc]
          exact q4.trans (List.Perm.append_left G r3)
        · rcases List.mem_cons.mp m with z | m
          · subst z
            have kl : j < e.length := (List.getElem?_eq_some_iff.mp q).1
            have keepn : ∀ {ks : List Nat} {e e2 : E} {dk : List D}, takeS ks e = some (dk, e2) → e[j]? = some none → e2[j]? = some none := by
              intro ks
              induction ks with
              | nil => intro e e2 dk h hn; cases h; exact hn
              | cons k ks ih =>
                intro e e2 dk h hn
                unfold takeS at h
                cases qq : e[k]? with
                | none => rw [qq] at h; cases h
                | some oo =>
                  rw [qq] at h
                  cases oo with
                  | none => cases h
                  | some d =>
                    obtain ⟨p, h1, h2⟩ := Option.map_eq_some_iff.mp h
                    obtain ⟨ds, e3⟩ := p
                    cases h2
                    refine ih h1 ?_
                    by_cases z : k = j
                    · subst z; rw [hn] at qq; cases qq
                    · rw [List.getElem?_set_ne z]; exact hn
            exact keepn h1 (by rw [List.getElem?_set_self kl])
          · exact r4 j m
theorem putS_ok : ∀ {ks : List Nat} {e e3 : E} {vr : List V} {os : List D} {F Fo : List Addr}, ks.Nodup → RelS K H σ e F → (∀ k ∈ ks, e[k]? = some none) → (∀ k ∈ ks, σ[k]? = some (some (slotV σ k))) → Rps K H (ks.map (slotV σ) ++ vr) os Fo → putS ks os e = some e3 →
    ∃ F3 Fr, RelS K H σ e3 F3 ∧ (F3 ++ Fr).Perm (Fo ++ F)
  | [], e, e3, vr, os, F, Fo, _, r, _, _, ro, h => by
    cases h
    exact ⟨F, Fo, r, List.perm_append_comm⟩
  | k :: ks, e, e3, vr, os, F, Fo, nd, r, hn, hs, ro, h => by
    obtain ⟨nk, nd'⟩ := List.nodup_cons.mp nd
    cases ro with | cons p ro => ?_
    rename_i d ds F1 G1
    unfold putS at h
    obtain ⟨F2, r2, pm⟩ := r.put (hn k List.mem_cons_self) p
    rw [set_self (hs k List.mem_cons_self)] at r2
    obtain ⟨F3, Fr, r3, pm3⟩ := putS_ok nd' r2 (fun j m => by
      have hne : k ≠ j := fun z => nk (z ▸ m)
      rw [List.getElem?_set_ne hne]
      exact hn j (List.mem_cons_of_mem _ m)) (fun j m => hs j (List.mem_cons_of_mem _ m)) ro h
    refine ⟨F3, Fr, r3, pm3.trans ((List.Perm.append_left _ pm).trans ?_)⟩
    rw [← List.append_assoc]
    exact List.Perm.append_right _ List.perm_append_comm
end
/-- f(x, .., e, ..): the first arguments are names -/
def eIO (ks : List Nat) (m : MI) (ns : MAE) : ME := fun e => if there ks e = true then (ns e).bind fun ds e1 => match takeS ks e1 with
  | some (dk, e2) => (match m (dk ++ ds) with
    | .rt d os => (match putS ks os e2 with
      | some e3 => .ok d e3
      | none => .bad)
    | .exc x os => (match putS ks os e2 with
      | some e3 => .exc x e3
      | none => .bad)
    | .bad => .bad)
  | none => .bad else .bad
section
variable {K : PySem.W.Frag} {W : WX} {σ : L2.St} {H : Hp} {Q : VK} {n : Nat} {m : MI} {ns : MAE} {E : XK} {ks : List Nat}
theorem io_of (nk : ks.Nodup) (hl : ∀ e ds e1, ns e = .ok ds e1 → ks.length + ds.length = n) (hE : ∀ c dx H', W c dx σ H' → E c dx H') (h : tE K W (eIO ks m ns) σ H Q) : tVars ks (tAE K W ns) σ H fun vs H1 => spI K n m vs H1 Q E := by
  obtain ⟨e, F, r, nd, h⟩ := h
  unfold eIO at h
  by_cases ht : there ks e = true
  · rw [if_pos ht] at h
    have hs := there_at r ht
    refine tVars_of hs ⟨e, F, r, nd, ?_⟩
    cases q : ns e with
    | bad => rw [q] at h; exact h
    | exc y e1 => rw [q] at h; exact h
    | ok ds e1 =>
      simp only [q, Re.bind] at h
      intro vs H1 G F1 x
      cases qt : takeS ks e1 with
      | none => rw [qt] at h; exact h.elim
      | some pr =>
        obtain ⟨dk, e2⟩ := pr
        rw [qt] at h
        simp only at h
        obtain ⟨Gk, F2, t1, t2, t3, t4⟩ := takeS_ok x.ev.r qt
        obtain ⟨n1, n2, n3⟩ := List.nodup_append.mp (t3.nodup_iff.mp x.ev.nd)
        have inF1 : ∀ a ∈ Gk, a ∈ F1 := fun a m => t3.mem_iff.mpr (List.mem_append_left _ m)
        have inF2 : ∀ a ∈ F2, a ∈ F1 := fun a m => t3.mem_iff.mpr (List.mem_append_right _ m)
        refine ⟨?_, dk ++ ds, Gk ++ G, t1.append x.ps, List.nodup_append.mpr ⟨n1, x.nd, fun a m b m' z => by subst z; exact x.hd a m' (inF1 a m)⟩, ?_⟩
        · rw [List.length_append, List.length_map, x.ps.length]; exact hl e ds e1 q
        · have dj2 : ∀ a ∈ F2, a ∉ Gk ++ G := fun a m m' => by
            rcases List.mem_append.mp m' with m' | m'
            · exact n3 a m' a m rfl
            · exact x.hd a m' (inF2 a m)
          have newS : ∀ a ∈ Gk ++ G, a ∈ F ∨ H a = none := fun a m => by
            rcases List.mem_append.mp m with m | m
            · exact x.ev.new a (inF1 a m)
            · exact x.new a m
          -- the state behind the call
          have fin : ∀ {H' : Hp} {F' : List Addr} {os : List D} {e3 : List (Option D)}, Keeps (Gk ++ G) H1 H' → Rps K H' (ks.map (slotV σ) ++ vs) os F' → F'.Nodup → (∀ a ∈ F', a ∈ Gk ++ G ∨ H1 a = none) → putS ks os e2 = some e3 → ∃ F3, Ev K F H σ H' e3 F3 ∧ ∀ a ∈ F3, a ∈ F' ∨ a ∈ F2 := by
            intro H' F' os e3 k ro no new hp
            have r2 := t2.keep k dj2
            obtain ⟨F3, Fr, r3, pm⟩ := putS_ok nk r2 t4 hs ro hp
            have nF : (F' ++ F2).Nodup := List.nodup_append.mpr ⟨no, n2, fun a m b m' z => by
              subst z
              rcases new a m with z | z
              · exact dj2 a m' z
              · exact t2.there m' z⟩
            have sub : ∀ a ∈ F3, a ∈ F' ∨ a ∈ F2 := fun a m => List.mem_append.mp (pm.mem_iff.mp (List.mem_append_left _ m))
            refine ⟨F3, ⟨x.ev.k.trans k newS, r3, (List.nodup_append.mp (pm.nodup_iff.mpr nF)).1, fun a m => ?_⟩, sub⟩
            rcases sub a m with m | m
            · rcases new a m with z | z
              · exact newS a z
              · by_cases zz : a ∈ F
                · exact .inl zz
                · exact .inr (x.ev.k.none z zz)
            · exact x.ev.new a (inF2 a m)
          cases qm : m (dk ++ ds) with
          | bad => rw [qm] at h; exact h.elim
          | exc y os =>
            rw [qm] at h
            simp only at h
            intro c dx H' F' k ro no new px
            cases qp : putS ks os e2 with
            | none => rw [qp] at h; exact h.elim
            | some e3 =>
              rw [qp] at h
              obtain ⟨F3, w, _⟩ := fin k ro no new qp
              exact hE c dx H' (h c dx H' F3 w px)
          | rt d os =>
            rw [qm] at h
            simp only at h
            intro v H' Gv F' k ro p no nv hd new nw
            cases qp : putS ks os e2 with
            | none => rw [qp] at h; exact h.elim
            | some e3 =>
              rw [qp] at h
              obtain ⟨F3, w, sub⟩ := fin k ro no new qp
              refine h v H' _ (w.cons p (fun a m m' => ?_) nv fun a m => ?_)
              · rcases sub a m' with z | z
                · exact hd a m z
                · rcases nw a m with y | y
                  · exact dj2 a z y
                  · exact t2.there z y
              · rcases nw a m with z | z
                · exact newS a z
                · by_cases zz : a ∈ F
                  · exact .inl zz
                  · exact .inr (x.ev.k.none z zz)
  · rw [if_neg ht] at h; exact h.elim
variable {X : Cx} {x : Str} {p pos px : Pos} {e : Expr} {es : List Expr} {t : TA}
theorem av_cons {i : Nat} {y : Str} (q : PA X es (tVars ks t)) (hN : X.N[i]? = some y := by rfl) (hv : Vis X.env.scope y := by first | exact Or.inl rfl | exact Or.inr (Or.inl rfl) | exact Or.inr (Or.inr rfl)) (hd : (y == ("__debug__" : Str)) = false := by decide)
    (hcd : (y == ("__classdict__" : Str)) = false := by decide) (hs : starEach (.Name y px :: es) X.env = (false, eval (.Name y px) X.env) :: starEach es X.env := by rfl) : PA X (.Name y px :: es) (tVars (i :: ks) t) := pa_cons (pe_var hN hv hd hcd) q hs
theorem av_nil (q : PA X es t) : PA X es (tVars [] t) := q
theorem e_io (nk : ks.Nodup) (hl : ∀ e ds e1, ns e = .ok ds e1 → ks.length + ds.length = n) (hx : ∀ ds y os, m ds ≠ .exc y os)
    (q : PE X (.Call (.Name x p) (e :: es) [] pos) (tCall (spI X.K n m) [] E0 (tVars ks (tAE X.K W ns)))) : PE X (.Call (.Name x p) (e :: es) [] pos) (tE X.K W (eIO ks m ns)) := PE.mono q fun σ H Q h => by
  have h2 := io_of (K := X.K) (W := W) (E := fun _ _ _ => True) nk hl (fun _ _ _ _ => trivial) h
  have mono : ∀ (ks : List Nat) {Q Q' : List V → Hp → Prop} {σ H}, (∀ vs H, Q vs H → Q' vs H) → tVars ks (tAE X.K W ns) σ H Q → tVars ks (tAE X.K W ns) σ H Q' := by
    intro ks
    induction ks with
    | nil =>
      intro Q Q' σ H hq ⟨e, F, r, nd, h⟩
      refine ⟨e, F, r, nd, ?_⟩
      cases q : ns e with
      | ok ds e1 => rw [q] at h; exact fun vs H' G F' x => hq _ _ (h vs H' G F' x)
      | exc y e1 => rw [q] at h; exact h
      | bad => rw [q] at h; exact h
    | cons k ks ih =>
      intro Q Q' σ H hq ⟨v, h1, h⟩
      exact ⟨v, h1, ih (fun vs H => hq (v :: vs) H) h⟩
  refine mono ks (fun vs H1 h => ?_) h2
  rw [List.append_nil]
  obtain ⟨hv, ds, F, r, nd, h⟩ := h
  refine ⟨hv, ds, F, r, nd, ?_⟩
  cases qm : m ds with
  | rt d os => rw [qm] at h; exact h
  | exc y os => exact absurd qm (hx ds y os)
  | bad => rw [qm] at h; exact h
theorem e_ioX (nk : ks.Nodup) (hl : ∀ e ds e1, ns e = .ok ds e1 → ks.length + ds.length = n)
    (q : PE X (.Call (.Name x p) (e :: es) [] pos) (tCallS (spI X.K n m) (WE W) (tVars ks (tAE X.K W ns)))) : PE X (.Call (.Name x p) (e :: es) [] pos) (tE X.K W (eIO ks m ns)) := PE.mono q fun σ H Q h => io_of nk hl (fun _ _ _ z => z) h
end

/-! ### methods that change a name's thing -/
def MutM (K : PySem.W.Frag) (T : String) (r : V → List V → Hp → VK → Prop) (f : D → List D → Option (D × D)) : Prop := ∀ {H : Hp} {v : V} {vs : List V} {d : D} {as : List D} {G Ga : List Addr} {res d' : D} {Q : VK},
  Rp K H v d G → Rps K H vs as Ga → G.Nodup → Ga.Nodup → (∀ a ∈ Ga, a ∉ G) → f d as = some (res, d') →
  (∀ u H' G' Gr, Keeps G H H' → Rp K H' v d' G' → Rp K H' u res Gr → G'.Nodup → Gr.Nodup → (∀ a ∈ Gr, a ∉ G') → (∀ a ∈ G', a ∈ G ∨ a ∈ Ga ∨ H a = none) → (∀ a ∈ Gr, a ∈ G ∨ a ∈ Ga ∨ H a = none) → Q u H') → r v vs H Q
def isLst : D → Bool
  | .lst _ => true
  | _ => false
/-- x.m(e, ..), x the list in the slot i -/
def eMut (i : Nat) (f : D → List D → Option (D × D)) (ns : MAE) : ME := fun e => match e[i]? with
  | some (some d0) => if isLst d0 = true then (ns e).bind fun as e1 => match e1[i]? with
    | some (some d) => (match f d as with
      | some p => .ok p.1 (e1.set i (some p.2))
      | none => .bad)
    | _ => .bad else .bad
  | _ => .bad
section
variable {K : PySem.W.Frag} {W : WX} {σ : L2.St} {H : Hp} {Q : VK} {i : Nat} {f : D → List D → Option (D × D)} {ns : MAE} {r : V → List V → Hp → VK → Prop}
theorem Ev.update2 {H1 : Hp} {e1 : E} {F F1 : List Addr} {d : D} (x : Ev K F H σ H1 e1 F1) (h : e1[i]? = some (some d)) :
    ∃ v G, σ[i]? = some (some v) ∧ Rp K H1 v d G ∧ (∀ a ∈ G, a ∈ F1) ∧ G.Nodup ∧ ∀ H2 d' G' u res Gr, Keeps G H1 H2 → Rp K H2 v d' G' → Rp K H2 u res Gr → G'.Nodup → Gr.Nodup → (∀ a ∈ Gr, a ∉ G') →
      (∀ a ∈ G', a ∈ G ∨ ((a ∈ F ∨ H a = none) ∧ a ∉ F1)) → (∀ a ∈ Gr, a ∈ G ∨ ((a ∈ F ∨ H a = none) ∧ a ∉ F1)) → ∃ F', Ev K F H (some u :: σ) H2 (some res :: e1.set i (some d')) F' := by
  obtain ⟨v, G, F0, h1, h2, h3, h4⟩ := x.r.take h
  obtain ⟨n1, n2, n3⟩ := List.nodup_append.mp (h4.nodup_iff.mp x.nd)
  have sub : ∀ a ∈ G, a ∈ F1 := fun a m => h4.mem_iff.mpr (List.mem_append_left _ m)
  have sub0 : ∀ a ∈ F0, a ∈ F1 := fun a m => h4.mem_iff.mpr (List.mem_append_right _ m)
  refine ⟨v, G, h1, h2, sub, n1, fun H2 d' G' u res Gr k p pr nd nr dj hG hR => ?_⟩
  have dj0 : ∀ a ∈ F0, a ∉ G := fun a m m' => n3 a m' a m rfl
  have r0 := h3.keep k dj0
  have hi : i < e1.length := (List.getElem?_eq_some_iff.mp h).1
  obtain ⟨F', r1, pm⟩ := r0.put (i := i) (by rw [List.getElem?_set_self hi]) p
  rw [List.set_set, set_self h1] at r1
  have out : ∀ a, a ∈ G ∨ ((a ∈ F ∨ H a = none) ∧ a ∉ F1) → a ∉ F0 := fun a z m => z.elim (dj0 a m) fun z => z.2 (sub0 a m)
  have nw : ∀ a, a ∈ G ∨ ((a ∈ F ∨ H a = none) ∧ a ∉ F1) → a ∈ F ∨ H a = none := fun a z => z.elim (fun z => x.new a (sub a z)) fun z => z.1
  have w : Ev K F H σ H2 (e1.set i (some d')) F' := ⟨x.k.trans k fun a m => x.new a (sub a m), r1, pm.nodup_iff.mpr (List.nodup_append.mpr ⟨nd, n2, fun a m b m' z => by subst z; exact out a (hG a m) m'⟩), fun a m => by
    rcases List.mem_append.mp (pm.mem_iff.mp m) with m | m
    · exact nw a (hG a m)
    · exact x.new a (sub0 a m)⟩
  exact ⟨_, w.cons pr (fun a m m' => by
    rcases List.mem_append.mp (pm.mem_iff.mp m') with m' | m'
    · exact dj a m m'
    · exact out a (hR a m) m') nr fun a m => nw a (hR a m)⟩
theorem tyV_lst {v : V} {d : D} {G : List Addr} (p : Rp K H v d G) (h : isLst d = true) : tyV K "list" v H := by
  cases p with
  | lst ha ra => exact .inl ⟨rfl, _, .of ha⟩
  | _ => cases h
theorem mut_of (o : MutM K "list" r f) (h : tE K W (eMut i f ns) σ H Q) : tVar i σ H fun x H1 => tyV K "list" x H1 ∧ tAE K W ns σ H1 fun xs H2 => r x xs H2 Q := by
  obtain ⟨e, F, rl, nd, h⟩ := h
  unfold eMut at h
  cases q : e[i]? with
  | none => rw [q] at h; exact h.elim
  | some oo =>
    rw [q] at h
    cases oo with
    | none => exact h.elim
    | some d0 =>
      simp only at h
      by_cases hl : isLst d0 = true
      · rw [if_pos hl] at h
        obtain ⟨v, G0, hs, p0, _⟩ := rl.get q
        refine ⟨v, hs, tyV_lst p0 hl, e, F, rl, nd, ?_⟩
        cases qn : ns e with
        | bad => rw [qn] at h; exact h
        | exc y e1 => rw [qn] at h; exact h
        | ok as e1 =>
          simp only [qn, Re.bind] at h
          intro vs H1 Ga F1 x
          cases q1 : e1[i]? with
          | none => rw [q1] at h; exact h.elim
          | some oo =>
            rw [q1] at h
            cases oo with
            | none => exact h.elim
            | some d =>
              simp only at h
              cases qf : f d as with
              | none => rw [qf] at h; exact h.elim
              | some pr =>
                obtain ⟨res, d'⟩ := pr
                rw [qf] at h
                simp only at h
                obtain ⟨v2, G2, k1, k2, k3, k4, k5⟩ := x.ev.update2 q1
                rw [hs] at k1; cases k1
                refine o k2 x.ps k4 x.nd (fun a m m' => x.hd a m (k3 a m')) qf fun u H' G' Gr k p' pr ng ngr hdr hG hR => ?_
                have inF : ∀ a, a ∈ G2 ∨ a ∈ Ga ∨ H1 a = none → a ∈ G2 ∨ ((a ∈ F ∨ H a = none) ∧ a ∉ F1) := fun a z => by
                  rcases z with z | z | z
                  · exact .inl z
                  · exact .inr ⟨x.new a z, x.hd a z⟩
                  · refine .inr ⟨?_, fun m => x.ev.r.there m z⟩
                    by_cases zz : a ∈ F
                    · exact .inl zz
                    · exact .inr (x.ev.k.none z zz)
                obtain ⟨F', w⟩ := k5 H' d' G' u res Gr k p' pr ng ngr hdr (fun a m => inF a (hG a m)) fun a m => inF a (hR a m)
                exact h u H' F' w
      · rw [if_neg hl] at h; exact h.elim
end
end Mir

namespace Mir
open PySem PySem.Spec L2

def fAppend : D → List D → Option (D × D)
  | .lst ds, [d] => if ds.length < sizeLine then some (.non, .lst (ds ++ [d])) else none
  | _, _ => none
def fExtend : D → List D → Option (D × D)
  | .lst ds, [.lst es] => if imms es = true ∧ fits (ds.length + es.length) = true then some (.non, .lst (ds ++ es)) else none
  | _, _ => none
def fPop : D → List D → Option (D × D)
  | .lst ds, [] => if imms ds = true then (ds[ds.length - 1]?).map fun d => (d, .lst ds.dropLast) else none
  | _, _ => none
section
variable {K : PySem.W.Frag}
theorem n_append : MutM K "list" rAppend fAppend := by
  intro H v vs d as G Ga res d' Q p ps n1 n2 dj e h
  unfold fAppend at e
  split at e
  · split at e
    · rename_i ds x hlt
      cases e
      cases p with | lst ha ra => ?_
      cases ps with | cons px pn => ?_
      cases pn
      rename_i a ws F1 v0 F0
      obtain ⟨m1, m2⟩ := List.nodup_cons.mp n1
      refine ⟨a, ws, v0, rfl, rfl, ha, by rw [ra.length]; exact hlt, ?_⟩
      have k : Keeps (a :: F1) H (upd H a (.lst (ws ++ [v0]))) := .upd ha rfl List.mem_cons_self
      have k1 : Keeps [a] H (upd H a (.lst (ws ++ [v0]))) := .upd ha rfl List.mem_cons_self
      rw [List.append_nil] at dj n2
      refine h .non _ (a :: (F1 ++ (F0 ++ []))) [] k (.lst upd_same ((ra.keep k1 fun b m z => m1 (by rw [← List.mem_singleton.mp z]; exact m)).append (.cons (px.keep k1 fun b m z => dj b m (by rw [List.mem_singleton.mp z]; exact List.mem_cons_self)) .nil))) .non ?_ .nil (fun _ m => by cases m) (fun b m => ?_) fun _ m => by cases m
      · rw [List.append_nil]
        refine List.nodup_cons.mpr ⟨fun m => ?_, List.nodup_append.mpr ⟨m2, n2, fun b m c m' z => by subst z; exact dj b m' (List.mem_cons_of_mem _ m)⟩⟩
        rcases List.mem_append.mp m with m | m
        · exact m1 m
        · exact dj a m List.mem_cons_self
      · rw [List.append_nil] at m
        rcases List.mem_cons.mp m with z | m
        · exact .inl (z ▸ List.mem_cons_self)
        · rcases List.mem_append.mp m with m | m
          · exact .inl (List.mem_cons_of_mem _ m)
          · exact .inr (.inl (by rw [List.append_nil]; exact m))
    · cases e
  · cases e
theorem n_extend : MutM K "list" rExtend fExtend := by
  intro H v vs d as G Ga res d' Q p ps n1 n2 dj e h
  unfold fExtend at e
  split at e
  · split at e
    · rename_i ds es hf
      cases e
      cases p with | lst ha ra => ?_
      cases ps with | cons px pn => ?_
      cases pn
      cases px with | lst hb rb => ?_
      have e0 := rb.fpImm hf.1
      subst e0
      rename_i a ws F1 b zs
      obtain ⟨m1, m2⟩ := List.nodup_cons.mp n1
      refine ⟨a, b, ws, zs, rfl, rfl, ha, hb, by rw [ra.length, rb.length]; exact fits_le hf.2, ?_⟩
      have k : Keeps (a :: F1) H (upd H a (.lst (ws ++ zs))) := .upd ha rfl List.mem_cons_self
      have k1 : Keeps [a] H (upd H a (.lst (ws ++ zs))) := .upd ha rfl List.mem_cons_self
      refine h .non _ (a :: (F1 ++ [])) [] k (.lst upd_same ((ra.keep k1 fun b m z => m1 (by rw [← List.mem_singleton.mp z]; exact m)).append (rb.keep k1 fun _ m => by cases m))) .non (by rw [List.append_nil]; exact n1) .nil (fun _ m => by cases m) (fun c m => .inl (by rw [List.append_nil] at m; exact m)) fun _ m => by cases m
    · cases e
  · cases e
theorem Rps.dropLast {H : Hp} {vs : List V} {ds : List D} (r : Rps K H vs ds []) : Rps K H vs.dropLast ds.dropLast [] := by
  rw [List.dropLast_eq_take, List.dropLast_eq_take, r.length]
  exact (r.takeD _).1
theorem n_pop : MutM K "list" rPop fPop := by
  intro H v vs d as G Ga res d' Q p ps n1 n2 dj e h
  unfold fPop at e
  split at e
  · split at e
    · rename_i ds hi
      obtain ⟨x, e1, e2⟩ := Option.map_eq_some_iff.mp e
      cases e2
      cases p with | lst ha ra => ?_
      cases ps
      have e0 := ra.fpImm hi
      subst e0
      obtain ⟨y, Gy, h1, h2, h3⟩ := ra.get e1
      have e3 : Gy = [] := by
        cases Gy with
        | nil => rfl
        | cons b Gy => exact absurd (h3 b List.mem_cons_self) (fun m => by cases m)
      subst e3
      rename_i a ws
      rw [← ra.length] at h1
      refine ⟨a, ws, y, rfl, rfl, ha, h1, ?_⟩
      have k1 : Keeps [a] H (upd H a (.lst ws.dropLast)) := .upd ha rfl List.mem_cons_self
      exact h y _ [a] [] k1 (.lst upd_same (ra.dropLast.keep k1 fun _ m => by cases m)) (h2.keep k1 fun _ m => by cases m) (by simp) .nil (fun _ m => by cases m) (fun c m => .inl m) fun _ m => by cases m
    · cases e
  · cases e
end
section
variable {X : Cx} {W : WX} {i : Nat} {x : Str} {p apos cpos : Pos} {e : Expr} {es : List Expr} {ns : MAE}
theorem e_append (q : PE X (.Call (.Attribute (.Name x p) "append" apos) (e :: es) [] cpos) (tBM X.K "list" rAppend (tVar i) (tAE X.K W ns))) : PE X (.Call (.Attribute (.Name x p) "append" apos) (e :: es) [] cpos) (tE X.K W (eMut i fAppend ns)) := PE.mono q fun _ _ _ h => mut_of n_append h
theorem e_extend (q : PE X (.Call (.Attribute (.Name x p) "extend" apos) (e :: es) [] cpos) (tBM X.K "list" rExtend (tVar i) (tAE X.K W ns))) : PE X (.Call (.Attribute (.Name x p) "extend" apos) (e :: es) [] cpos) (tE X.K W (eMut i fExtend ns)) := PE.mono q fun _ _ _ h => mut_of n_extend h
theorem e_pop (q : PE X (.Call (.Attribute (.Name x p) "pop" apos) [] [] cpos) (tBM0 X.K "list" rPop (tVar i))) : PE X (.Call (.Attribute (.Name x p) "pop" apos) [] [] cpos) (tE X.K W (eMut i fPop anil)) := PE.mono q fun σ H Q h => by
  obtain ⟨v, h1, h2, e, F, r, nd, h⟩ := mut_of n_pop h
  exact ⟨v, h1, h2, h [] H [] F ⟨.refl r nd, .nil, (fun _ m => by cases m), .nil, fun _ m => by cases m⟩⟩
end
/-- x[k] = e, x a list of things that can't change -/
def mSetIx (i : Nat) (mk : MB) (n : ME) : MS := fun e => match n e with
  | .ok y e1 => if imm y = true then (match e1[i]? with
    | some (some (.lst ds)) => if imms ds = true then (match mk e1 with
      | .ok (.int k) => (match ixN ds.length k with
        | some j => .nx (e1.set i (some (.lst (ds.set j y))))
        | none => .bad)
      | .exc x => .exc x e1
      | _ => .bad) else .bad
    | _ => .bad) else .bad
  | .exc x e1 => .exc x e1
  | .bad => .bad
theorem Rps.setI {K : PySem.W.Frag} {H : Hp} : ∀ {vs : List V} {ds : List D} {v : V} {d : D} (j : Nat), Rps K H vs ds [] → Rp K H v d [] → Rps K H (vs.set j v) (ds.set j d) []
  | vs, ds, v, d, j, r, p => by
    generalize hF : ([] : List Addr) = F at r
    induction ds generalizing vs j F with
    | nil => cases r; exact .nil
    | cons x ds ih =>
      cases r with | cons q r => ?_
      obtain ⟨e1, e2⟩ := List.append_eq_nil_iff.mp hF.symm
      subst e1 e2
      cases j with
      | zero => exact Rps.cons p r
      | succ j => exact Rps.cons q (ih _ j _ rfl r)
theorem m_setIx {X : Cx} {W : WX} {Z : Zs} {i : Nat} {x : Str} {px pos tpos : Pos} {k e : Expr} {mk : MB} {n : ME} (he : PE X e (tE X.K W n)) (hk : PE X k (tB X.K W mk)) (hN : X.N[i]? = some x := by rfl) (hv : Vis X.env.scope x := by first | exact Or.inl rfl | exact Or.inr (Or.inl rfl) | exact Or.inr (Or.inr rfl)) (hd : (x == ("__debug__" : Str)) = false := by decide)
    (hcd : (x == ("__classdict__" : Str)) = false := by decide) (ha : ∀ v, assign (.Subscript (.Name x px) k tpos) X.env v = (do
      let ov ← holding [v] (eval (.Name x px) X.env)
      let iv ← holding [v, ov] (eval k X.env)
      standAt tpos
      holding [v, ov, iv] (setItem ov iv v)
      release [v, ov, iv] []) := by intro _; rfl) (hs : swapsWithSole [.Subscript (.Name x px) k tpos] e pos.line X.env = pure false := by rfl) (hw : swappedStores [.Subscript (.Name x px) k tpos] e X.env = pure none := by rfl)
    (h1 : (assignEach [.Subscript (.Name x px) k tpos] X.env).map (·.2) = [assign (.Subscript (.Name x px) k tpos) X.env] := by rfl) :
    PS X (.Assign [.Subscript (.Name x px) k tpos] e pos) (tM X.K W Z (mSetIx i mk n)) := PS.mono (ps_asg he (pg_sub (pe_var hN hv hd hcd) hk set_list ha) hs hw h1) fun D σ H ⟨e, F, r, nd, h⟩ => by
  refine ⟨e, F, r, nd, ?_⟩
  unfold mSetIx at h
  cases q : n e with
  | bad => rw [q] at h; exact h
  | exc y e1 => rw [q] at h; exact fun c dx H' F' x p => h c dx σ H' F' x (.refl _ _) p
  | ok y e1 =>
    rw [q] at h
    simp only at h
    by_cases hi : imm y = true
    · rw [if_pos hi] at h
      intro v H1 F1 x0
      obtain ⟨G, F0, eF, p, x', hdj, n1, nw⟩ := x0.head
      have e0 := p.fpImm hi
      subst e0
      cases q1 : e1[i]? with
      | none => rw [q1] at h; exact h.elim
      | some oo =>
        rw [q1] at h
        cases oo with
        | none => exact h.elim
        | some d =>
          cases d with
          | lst ds =>
            simp only at h
            by_cases hds : imms ds = true
            · rw [if_pos hds] at h
              obtain ⟨w, G2, k1, k2, k3, k4, k5⟩ := x'.update q1
              cases k2 with | lst ha2 ra => ?_
              have e1' := ra.fpImm hds
              subst e1'
              rename_i a ws
              refine ⟨.ref a, k1, e1, F0, x'.r, ?_⟩
              cases qk : mk e1 with
              | bad => rw [qk] at h; exact h.elim
              | exc z => rw [qk] at h; exact fun c dx H' k px => h c dx σ H' F0 (x'.grow k) (.refl _ _) px
              | ok dk =>
                rw [qk] at h
                intro vk H2 Gk kk pk
                cases dk with
                | int j =>
                  cases pk
                  simp only at h
                  cases qj : ixN ds.length j with
                  | none => rw [qj] at h; exact h.elim
                  | some j' =>
                    rw [qj] at h
                    simp only at h
                    have hb : H2 a = some (.lst ws) := kk _ _ ha2 (.inr fun m => by cases m)
                    refine ⟨a, ws, j, j', rfl, rfl, hb, by rw [ra.length]; exact qj, ?_⟩
                    have kU : Keeps [a] H2 (upd H2 a (.lst (ws.set j' v))) := .upd hb rfl List.mem_cons_self
                    have kA : Keeps [a] H1 (upd H2 a (.lst (ws.set j' v))) := (kk.mono (fun _ m => by cases m)).trans kU fun b m => .inl m
                    obtain ⟨F9, w9⟩ := k5 _ (.lst (ds.set j' y)) [a] kA (.lst upd_same ((Rps.setI j' (ra.same kk) (p.same kk)).keep kU fun _ m => by cases m)) (by simp) fun b m => .inl m
                    exact h σ _ F9 w9 (.refl _ _)
                | _ => exact h.elim
            · rw [if_neg hds] at h; exact h.elim
          | _ => exact h.elim
    · rw [if_neg hi] at h; exact h.elim
end Mir

namespace Mir
open PySem PySem.Spec L2

/-! ### a thing that is never changed again -/
def frz (n : ME) : ME := fun e => match n e with
  | .ok d e1 => (match d with
    | .lst ds => if imms ds = true then .ok (.rol ds) e1 else .bad
    | _ => .bad)
  | .exc x e1 => .exc x e1
  | .bad => .bad
theorem e_frz {X : Cx} {W : WX} {x : Expr} {n : ME} (p : PE X x (tE X.K W n)) : PE X x (tE X.K W (frz n)) := by
  refine ⟨fun pins s σ H Q I ⟨e, F, r, nd, h⟩ => ?_⟩
  unfold frz at h
  cases q : n e with
  | bad => rw [q] at h; exact h.elim
  | exc y e1 =>
    rw [q] at h
    exact p.run pins s σ H Q I ⟨e, F, r, nd, by rw [q]; exact h⟩
  | ok d e1 =>
    rw [q] at h
    cases d with
    | lst ds =>
      simp only at h
      by_cases hi : imms ds = true
      · rw [if_pos hi] at h
        refine thn (p.run pins s σ H (fun v H' => ∃ F', Ev X.K F H (some v :: σ) H' (some (.lst ds) :: e1) F') I ⟨e, F, r, nd, by rw [q]; exact fun v H' F' x => ⟨F', x⟩⟩) fun u s1 hq => ?_
        obtain ⟨v, H1, I1, rv, F', x⟩ := hq
        obtain ⟨G, F0, eF, pv, x', hd, n1, nw⟩ := x.head
        cases pv with | lst ha ra => ?_
        have e0 := ra.fpImm hi
        subst e0
        rename_i a vs
        obtain ⟨od, I2⟩ := I1.lock ha trivial
        refine ⟨.ref a, _, I2, rv, ?_⟩
        have na : a ∉ F0 := hd a List.mem_cons_self
        have k : Keeps [a] H1 (upd H1 a (.frz od (.lst vs))) := .upd ha rfl List.mem_cons_self
        have kF : Keeps F H (upd H1 a (.frz od (.lst vs))) := fun b o hb z => by
          by_cases y : b = a
          · subst y
            rcases nw b List.mem_cons_self with n | n
            · rcases z with z | z
              · have := x'.k b o hb (.inl z)
                rw [ha] at this; cases this; cases z
              · exact absurd n z
            · rw [n] at hb; cases hb
          · rw [upd_ne y]; exact x'.k b o hb z
        have w : Ev X.K F H σ (upd H1 a (.frz od (.lst vs))) e1 F0 := ⟨kF, x'.r.keep k fun b m z => na (by rw [← List.mem_singleton.mp z]; exact m), x'.nd, x'.new⟩
        exact h (.ref a) _ F0 (w.consImm (.rol (.inl ⟨_, upd_same⟩) (ra.keep k fun _ m => by cases m)) (by simpa [imm] using hi))
      · rw [if_neg hi] at h; exact h.elim
    | _ => exact h.elim

/-! ### the text's defs, as they stand -/
structure DefAt (K : PySem.W.Frag) (mg : Str → Option Value) (x qual : Str) (st : Stmt) (ps : List Str) (f : Addr) (fd : FuncData) : Prop where
  F : Fun K x qual st f fd
  b : Binds K fd ps []
  g : mg x = some (.ref f)
/-- a def keeps a promise, by at most k levels -/
def Okd (P : Program) (w : World) (K : PySem.W.Frag) (mg : Str → Option Value) (base : Heap) (CX : CXT) (k : Nat) (x : Str) (sp : Sp) : Prop :=
  ∃ (f : Addr) (fd : FuncData) (ps : List Str), FnOk P w K mg base CX k f fd ps sp ∧ PySem.W.keepIn K (.ref f) = true ∧ Binds K fd ps [] ∧ mg x = some (.ref f)
def noX {α : Type} : Rs α → Rs α
  | .exc _ => .bad
  | r => r
def noI : DR → DR
  | .exc _ _ => .bad
  | r => r
theorem noX_ne {α : Type} {r : Rs α} {y : Ex} : noX r ≠ .exc y := by cases r <;> simp [noX]
theorem noI_ne {r : DR} {y : Ex} {os : List D} : noI r ≠ .exc y os := by cases r <;> simp [noI]
def mDef0 (k : Nat) (mb : MS) : MD := fun ds => noX (mDef k mb ds)
def mDefI0 (k : Nat) (Z : Zs) (mb : MS) : MI := fun ds => noI (mDefI k Z mb ds)
section
variable {P : Program} {w : World} {K : PySem.W.Frag} {mg : Str → Option Value} {base : Heap}
theorem okd {x qual : Str} {st : Stmt} {N ps : List Str} {k : Nat} {mb : MS} {n q : Nat} (D : ∃ f fd, DefAt K mg x qual st ps f fd) (S : FnScope N ps (defScope st)) (hn : ps.length = n) (hq : N.length - n = q)
    (hb : ∀ (f : Addr) (cdv : Value) (A : Around) (outer : List Env) (s : Shared) (H : Hp) (E : XK), Room k (A.deeper (PyProof.Rows.envOfC qual (defScope st) s.heap.objs.size f cdv)) →
      PSs (cxOf CX0 P w K mg base N qual (defScope st) f cdv A outer s H E).nox (defBody st) (tM K wF z0 mb)) : Okd P w K mg base CX0 (k + 1) x (spN K n (mDef0 q mb)) := by
  obtain ⟨f, fd, D⟩ := D
  refine ⟨f, fd, ps, D.F.ok S (fun vs H Q E h => h.1.trans hn.symm) fun cdv A outer s H vs Q E hr h => ⟨_, hb f cdv A outer s H E hr, ?_⟩, D.F.kp, D.b, D.g⟩
  obtain ⟨hl, ds, r, h⟩ := h
  refine body_ok (n := q) (E := fun _ _ _ => False) (by rw [hl]; exact hq) (fun _ _ _ _ z => z.elim) r ?_
  unfold mDef0 at h
  cases e : mDef q mb ds with
  | ok d => rw [e] at h; exact h
  | exc x => rw [e] at h; exact h.elim
  | bad => rw [e] at h; exact h
theorem okdI {x qual : Str} {st : Stmt} {N ps : List Str} {k : Nat} {Z : Zs} {mb : MS} {n q : Nat} (D : ∃ f fd, DefAt K mg x qual st ps f fd) (S : FnScope N ps (defScope st)) (hn : ps.length = n) (hq : N.length - n = q)
    (hb : ∀ (f : Addr) (cdv : Value) (A : Around) (outer : List Env) (s : Shared) (H : Hp) (E : XK), Room k (A.deeper (PyProof.Rows.envOfC qual (defScope st) s.heap.objs.size f cdv)) →
      PSs (cxOf CX0 P w K mg base N qual (defScope st) f cdv A outer s H E).nox (defBody st) (tM K wF Z mb)) : Okd P w K mg base CX0 (k + 1) x (spI K n (mDefI0 q Z mb)) := by
  obtain ⟨f, fd, D⟩ := D
  refine ⟨f, fd, ps, D.F.ok S (fun vs H Q E h => h.1.trans hn.symm) fun cdv A outer s H vs Q E hr h => ⟨_, hb f cdv A outer s H E hr, ?_⟩, D.F.kp, D.b, D.g⟩
  obtain ⟨hl, ds, F, r, nd, h⟩ := h
  refine bodyI_ok (n := q) (E := fun _ _ _ => False) (by rw [hl]; exact hq) (fun _ _ _ _ z => z.elim) r nd ?_
  unfold mDefI0 at h
  cases e : mDefI q Z mb ds with
  | rt d os => rw [e] at h; exact h
  | exc x os => rw [e] at h; exact h.elim
  | bad => rw [e] at h; exact h
/-- a def may raise -/
theorem okdX {x qual : Str} {st : Stmt} {N ps : List Str} {k : Nat} {mb : MS} {n q : Nat} (D : ∃ f fd, DefAt K mg x qual st ps f fd) (S : FnScope N ps (defScope st)) (hn : ps.length = n) (hq : N.length - n = q)
    (hb : ∀ (f : Addr) (cdv : Value) (A : Around) (outer : List Env) (s : Shared) (H : Hp) (E : XK), Room k (A.deeper (PyProof.Rows.envOfC qual (defScope st) s.heap.objs.size f cdv)) →
      PSs (cxOf (L2.CX P w) P w K mg base N qual (defScope st) f cdv A outer s H E) (defBody st) (tM K (fun c dx _ H' => E c dx H') z0 mb)) : Okd P w K mg base (L2.CX P w) (k + 1) x (spN K n (mDef q mb)) := by
  obtain ⟨f, fd, D⟩ := D
  exact ⟨f, fd, ps, ok_defX D.F S hn hq fun cdv A outer s H E hr => hb f cdv A outer s H E hr, D.F.kp, D.b, D.g⟩
theorem okdIX {x qual : Str} {st : Stmt} {N ps : List Str} {k : Nat} {Z : Zs} {mb : MS} {n q : Nat} (D : ∃ f fd, DefAt K mg x qual st ps f fd) (S : FnScope N ps (defScope st)) (hn : ps.length = n) (hq : N.length - n = q)
    (hb : ∀ (f : Addr) (cdv : Value) (A : Around) (outer : List Env) (s : Shared) (H : Hp) (E : XK), Room k (A.deeper (PyProof.Rows.envOfC qual (defScope st) s.heap.objs.size f cdv)) →
      PSs (cxOf (L2.CX P w) P w K mg base N qual (defScope st) f cdv A outer s H E) (defBody st) (tM K (fun c dx _ H' => E c dx H') Z mb)) : Okd P w K mg base (L2.CX P w) (k + 1) x (spI K n (mDefI q Z mb)) := by
  obtain ⟨f, fd, D⟩ := D
  exact ⟨f, fd, ps, ok_defIX D.F S hn hq fun cdv A outer s H E hr => hb f cdv A outer s H E hr, D.F.kp, D.b, D.g⟩
/-- no turn left -/
theorem okd0 {x qual : Str} {st : Stmt} {ps : List Str} {k n : Nat} {CX : CXT} (D : ∃ f fd, DefAt K mg x qual st ps f fd) (hn : ps.length = n) : Okd P w K mg base CX k x (spN K n fun _ => .bad) := by
  obtain ⟨f, fd, D⟩ := D
  refine ⟨f, fd, ps, ⟨fun vs H Q E h => h.1.trans hn.symm, fun A outer s H args us vs Q E _ _ _ _ h => ?_⟩, D.F.kp, D.b, D.g⟩
  obtain ⟨_, ds, _, h⟩ := h
  exact h.elim
theorem okdI0 {x qual : Str} {st : Stmt} {ps : List Str} {k n : Nat} {CX : CXT} (D : ∃ f fd, DefAt K mg x qual st ps f fd) (hn : ps.length = n) : Okd P w K mg base CX k x (spI K n fun _ => .bad) := by
  obtain ⟨f, fd, D⟩ := D
  refine ⟨f, fd, ps, ⟨fun vs H Q E h => h.1.trans hn.symm, fun A outer s H args us vs Q E _ _ _ _ h => ?_⟩, D.F.kp, D.b, D.g⟩
  obtain ⟨_, ds, F, _, _, h⟩ := h
  exact h.elim
theorem Okd.mono {CX : CXT} {j k : Nat} {x : Str} {sp : Sp} (o : Okd P w K mg base CX j x sp) (h : j ≤ k) : Okd P w K mg base CX k x sp := by
  obtain ⟨f, fd, ps, F, r⟩ := o
  exact ⟨f, fd, ps, F.mono h, r⟩
end
/-! ### calls by name -/
theorem ln {e : E} {ds : List D} (h : aNil e = .ok ds) : ds.length = 0 := by cases h; rfl
theorem lc {m : MB} {ms : MA} {n : Nat} (h : ∀ e ds, ms e = .ok ds → ds.length = n) : ∀ e ds, aCons m ms e = .ok ds → ds.length = n + 1 := fun e ds q => by
  unfold aCons at q
  cases q1 : m e with
  | ok d =>
    simp only [q1, Rs.bind] at q
    cases q2 : ms e with
    | ok ds2 => simp only [q2] at q; cases q; rw [List.length_cons, h e ds2 q2]
    | exc y => simp only [q2] at q; cases q
    | bad => simp only [q2] at q; cases q
  | exc y => simp only [q1, Rs.bind] at q; cases q
  | bad => simp only [q1, Rs.bind] at q; cases q
theorem len0 : ∀ e ds e1, anil e = .ok ds e1 → ds.length = 0 := fun e ds e1 h => by cases h; rfl
theorem lec {m : ME} {ms : MAE} {n : Nat} (h : ∀ e ds e1, ms e = .ok ds e1 → ds.length = n) : ∀ e ds e1, acons m ms e = .ok ds e1 → ds.length = n + 1 := fun e ds e1 q => by
  unfold acons at q
  cases q1 : m e with
  | ok d e2 =>
    simp only [q1, Re.bind] at q
    cases q2 : ms e2 with
    | ok ds2 e3 => simp only [q2] at q; cases q; rw [List.length_cons, h e2 ds2 _ q2]
    | exc y e3 => simp only [q2] at q; cases q
    | bad => simp only [q2] at q; cases q
  | exc y e2 => simp only [q1, Re.bind] at q; cases q
  | bad => simp only [q1, Re.bind] at q; cases q
section
variable {X : Cx} {W : WX} {k j n : Nat} {x : Str} {p pos : Pos} {e : Expr} {es : List Expr} {m : MD} {mi : MI} {ms : MA} {ns : MAE} {ks : List Nat}
theorem xd (o : Okd X.prog X.w X.K X.mg X.base CX0 k x (spN X.K n m)) (hr : Room j X.A) (hl : ∀ e ds, ms e = .ok ds → ds.length = n) (hx : ∀ ds y, m ds ≠ .exc y) (ha : PA X (e :: es) (tAB X.K W ms)) (hk : k ≤ j := by first | decide | omega | (simp only [Nat.add_eq]; omega)) (hg : Gl X x := by rfl) (hdb : (x == ("__debug__" : Str)) = false := by decide)
    (he : starEach (e :: es) X.env = (false, eval e X.env) :: starEach es X.env := by rfl) (hpl : (backTo pos (starEach es X.env)).any (·.1) = false := by rfl) : PE X (.Call (.Name x p) (e :: es) [] pos) (tN X.K W (cN m ms)) := by
  obtain ⟨f, fd, ps, F, hkp, b, g⟩ := o
  exact x_def F (hr.mono hk) g hkp b hg hl hx ha (pe_call F (hr.mono hk) hg g hkp b .nil pass0 ha hdb he hpl)
theorem ed (o : Okd X.prog X.w X.K X.mg X.base CX0 k x (spN X.K n m)) (hr : Room j X.A) (hl : ∀ e ds e1, ns e = .ok ds e1 → ds.length = n) (hx : ∀ ds y, m ds ≠ .exc y) (ha : PA X (e :: es) (tAE X.K W ns)) (hk : k ≤ j := by first | decide | omega | (simp only [Nat.add_eq]; omega)) (hg : Gl X x := by rfl) (hdb : (x == ("__debug__" : Str)) = false := by decide)
    (he : starEach (e :: es) X.env = (false, eval e X.env) :: starEach es X.env := by rfl) (hpl : (backTo pos (starEach es X.env)).any (·.1) = false := by rfl) : PE X (.Call (.Name x p) (e :: es) [] pos) (tE X.K W (cE m ns)) := by
  obtain ⟨f, fd, ps, F, hkp, b, g⟩ := o
  exact e_def hl hx (pe_call F (hr.mono hk) hg g hkp b .nil pass0 ha hdb he hpl)
theorem ei (o : Okd X.prog X.w X.K X.mg X.base CX0 k x (spI X.K n mi)) (hr : Room j X.A) (nk : ks.Nodup) (hl : ∀ e ds e1, ns e = .ok ds e1 → ks.length + ds.length = n) (hx : ∀ ds y os, mi ds ≠ .exc y os) (ha : PA X (e :: es) (tVars ks (tAE X.K W ns))) (hk : k ≤ j := by first | decide | omega | (simp only [Nat.add_eq]; omega)) (hg : Gl X x := by rfl) (hdb : (x == ("__debug__" : Str)) = false := by decide)
    (he : starEach (e :: es) X.env = (false, eval e X.env) :: starEach es X.env := by rfl) (hpl : (backTo pos (starEach es X.env)).any (·.1) = false := by rfl) : PE X (.Call (.Name x p) (e :: es) [] pos) (tE X.K W (eIO ks mi ns)) := by
  obtain ⟨f, fd, ps, F, hkp, b, g⟩ := o
  exact e_io nk hl hx (pe_call F (hr.mono hk) hg g hkp b .nil pass0 ha hdb he hpl)
theorem xdX (o : Okd X.prog X.w X.K X.mg X.base (L2.CX X.prog X.w) k x (spN X.K n m)) (hr : Room j X.A) (tk : Takes X W) (hl : ∀ e ds, ms e = .ok ds → ds.length = n) (ha : PA X (e :: es) (tAB X.K W ms)) (hk : k ≤ j := by first | decide | omega | (simp only [Nat.add_eq]; omega)) (hg : Gl X x := by rfl) (hdb : (x == ("__debug__" : Str)) = false := by decide)
    (he : starEach (e :: es) X.env = (false, eval e X.env) :: starEach es X.env := by rfl) (hpl : (backTo pos (starEach es X.env)).any (·.1) = false := by rfl) : PE X (.Call (.Name x p) (e :: es) [] pos) (tN X.K W (cN m ms)) := by
  obtain ⟨f, fd, ps, F, hkp, b, g⟩ := o
  exact x_defX hl (pe_callS F (hr.mono hk) hg g hkp b (fun σ => passAt tk σ) ha hdb he hpl)
theorem edX (o : Okd X.prog X.w X.K X.mg X.base (L2.CX X.prog X.w) k x (spN X.K n m)) (hr : Room j X.A) (tk : Takes X W) (hl : ∀ e ds e1, ns e = .ok ds e1 → ds.length = n) (ha : PA X (e :: es) (tAE X.K W ns)) (hk : k ≤ j := by first | decide | omega | (simp only [Nat.add_eq]; omega)) (hg : Gl X x := by rfl) (hdb : (x == ("__debug__" : Str)) = false := by decide)
    (he : starEach (e :: es) X.env = (false, eval e X.env) :: starEach es X.env := by rfl) (hpl : (backTo pos (starEach es X.env)).any (·.1) = false := by rfl) : PE X (.Call (.Name x p) (e :: es) [] pos) (tE X.K W (cE m ns)) := by
  obtain ⟨f, fd, ps, F, hkp, b, g⟩ := o
  exact e_defX hl (pe_callS F (hr.mono hk) hg g hkp b (fun σ => passAt tk σ) ha hdb he hpl)
theorem eiX (o : Okd X.prog X.w X.K X.mg X.base (L2.CX X.prog X.w) k x (spI X.K n mi)) (hr : Room j X.A) (tk : Takes X W) (nk : ks.Nodup) (hl : ∀ e ds e1, ns e = .ok ds e1 → ks.length + ds.length = n) (ha : PA X (e :: es) (tVars ks (tAE X.K W ns))) (hk : k ≤ j := by first | decide | omega | (simp only [Nat.add_eq]; omega)) (hg : Gl X x := by rfl) (hdb : (x == ("__debug__" : Str)) = false := by decide)
    (he : starEach (e :: es) X.env = (false, eval e X.env) :: starEach es X.env := by rfl) (hpl : (backTo pos (starEach es X.env)).any (·.1) = false := by rfl) : PE X (.Call (.Name x p) (e :: es) [] pos) (tE X.K W (eIO ks mi ns)) := by
  obtain ⟨f, fd, ps, F, hkp, b, g⟩ := o
  exact e_ioX nk hl (pe_callS F (hr.mono hk) hg g hkp b (fun σ => passAt tk σ) ha hdb he hpl)
/-- a module's constant -/
def ConAt (K : PySem.W.Frag) (mg : Str → Option Value) (x : Str) (d : D) : Prop := ∃ v u, mg x = some u ∧ RelV v u ∧ ∀ H, Rp K H v d []
theorem xc {d : D} (c : ConAt X.K X.mg x d) (hg : Gl X x := by rfl) (hd : (x == ("__debug__" : Str)) = false := by decide) : PE X (.Name x pos) (tN X.K W (bC d)) := by
  obtain ⟨v, u, h1, h2, h3⟩ := c
  exact x_glob hg h1 h2 h3 hd
end
theorem bb_len : bootBuiltins "len" = some (.builtin "len") := by decide +kernel
theorem bb_isinstance : bootBuiltins "isinstance" = some (.builtin "isinstance") := by decide +kernel
theorem bb_min : bootBuiltins "min" = some (.builtin "min") := by decide +kernel
theorem bb_max : bootBuiltins "max" = some (.builtin "max") := by decide +kernel
theorem bb_abs : bootBuiltins "abs" = some (.builtin "abs") := by decide +kernel
theorem bb_ord : bootBuiltins "ord" = some (.builtin "ord") := by decide +kernel
theorem bb_divmod : bootBuiltins "divmod" = some (.builtin "divmod") := by decide +kernel
theorem bb_int : bootBuiltins "int" = some (.type "int") := by decide +kernel
theorem bb_str : bootBuiltins "str" = some (.type "str") := by decide +kernel
theorem bb_bool : bootBuiltins "bool" = some (.type "bool") := by decide +kernel
theorem bb_tuple : bootBuiltins "tuple" = some (.type "tuple") := by decide +kernel
theorem bb_list : bootBuiltins "list" = some (.type "list") := by decide +kernel
theorem bb_dict : bootBuiltins "dict" = some (.type "dict") := by decide +kernel
end Mir

namespace Mir
open PySem PySem.Spec L2

/-! ### calls of no arguments -/
section
variable {X : Cx} {W : WX} {k j : Nat} {x : Str} {p pos : Pos} {m : MD}
theorem xd0 (o : Okd X.prog X.w X.K X.mg X.base CX0 k x (spN X.K 0 m)) (hr : Room j X.A) (hx : ∀ ds y, m ds ≠ .exc y) (hk : k ≤ j := by first | decide | omega | (simp only [Nat.add_eq]; omega)) (hg : Gl X x := by rfl) (hdb : (x == ("__debug__" : Str)) = false := by decide) : PE X (.Call (.Name x p) [] [] pos) (tN X.K W (cN m aNil)) := by
  obtain ⟨f, fd, ps, F, hkp, b, g⟩ := o
  refine PE.mono (pe_call0 F (hr.mono hk) hg g hkp b .nil (pass0 (X := X)) hdb) fun σ H Q ⟨e, F, r, h⟩ => ?_
  unfold cN at h
  have e1 : aNil e = .ok [] := rfl
  rw [e1] at h
  simp only [Rs.bind, imms, if_true] at h
  refine ⟨rfl, [], .nil, ?_⟩
  cases qm : m [] with
  | ok d => rw [qm] at h; exact h
  | exc y => exact absurd qm (hx [] y)
  | bad => rw [qm] at h; exact h
end

/-! ### a slice of a step's value -/
def cutE (n : ME) (lo hi : Option MB) : ME := fun e => (n e).bind fun d e1 => ((cutP lo e1).bind fun l => (cutP hi e1).bind fun u => .of (fCut d l u)).at e1
section
variable {X : Cx} {W : WX} {e a : Expr} {lo hi : Option Expr} {pos p2 : Pos} {n : ME} {ml mh : Option MB}
theorem e_cut (pa : PE X a (tE X.K W n)) (pl : PO X lo (tPo X.K W ml)) (ph : PO X hi (tPo X.K W mh)) : PE X (.Subscript a (.Slice lo hi none p2) pos) (tE X.K W (cutE n ml mh)) :=
  PE.mono (pe_slice sl_all pa pl ph) fun σ H Q ⟨e, F, r, nd, h⟩ => by
    unfold cutE at h
    refine ⟨e, F, r, nd, ?_⟩
    cases qa : n e with
    | bad => simp only [qa, Re.bind] at h
    | exc y e1 => simp only [qa, Re.bind] at h; exact h
    | ok d e1 =>
      simp only [qa, Re.bind] at h
      intro v H1 F1 x
      obtain ⟨G, F0, eF, p, x', hd, n1, nw⟩ := x.head
      refine ⟨e1, F0, x'.r, ?_⟩
      cases ql : cutP ml e1 with
      | bad => simp only [ql, Rs.bind, Rs.at] at h
      | exc y => simp only [ql, Rs.bind, Rs.at] at h; exact fun c dx H' k p => h c dx H' F0 (x'.grow k) p
      | ok l =>
        simp only [ql, Rs.bind] at h
        intro H2 k2
        refine ⟨e1, F0, x'.r.same k2, ?_⟩
        cases qh : cutP mh e1 with
        | bad => simp only [qh, Rs.at] at h
        | exc y => simp only [qh, Rs.at] at h; exact fun c dx H' k p => h c dx H' F0 ((x'.grow k2).grow k) p
        | ok u =>
          simp only [qh] at h
          intro H3 k3
          cases qf : fCut d l u with
          | none => simp only [qf, Rs.of, Rs.at] at h
          | some d' =>
            simp only [qf, Rs.of, Rs.at] at h
            exact fCut_ok ((p.same k2).same k3) qf fun v H' G' k p' n1' n2' => h v H' _ (((x'.grow k2).grow k3).consNew k p' n1' n2')
end
end Mir

namespace Mir
open PySem PySem.Spec L2

/-! ### the law's own end -/
section
variable {P : Program} {w : World} {K : PySem.W.Frag} {mg : Str → Option Value} {base : Heap}
/-- the law's def, by its own function object -/
theorem okdF {x qual : Str} {st : Stmt} {N ps : List Str} {k : Nat} {mb : MS} {n q : Nat} {f : Addr} {fd : FuncData} (D : DefAt K mg x qual st ps f fd) (S : FnScope N ps (defScope st)) (hn : ps.length = n) (hq : N.length - n = q)
    (hb : ∀ (f : Addr) (cdv : Value) (A : Around) (outer : List Env) (s : Shared) (H : Hp) (E : XK), Room k (A.deeper (PyProof.Rows.envOfC qual (defScope st) s.heap.objs.size f cdv)) →
      PSs (cxOf CX0 P w K mg base N qual (defScope st) f cdv A outer s H E).nox (defBody st) (tM K wF z0 mb)) : FnOk P w K mg base CX0 (k + 1) f fd ps (spN K n (mDef0 q mb)) :=
  D.F.ok S (fun vs H Q E h => h.1.trans hn.symm) fun cdv A outer s H vs Q E hr h => ⟨_, hb f cdv A outer s H E hr, by
    obtain ⟨hl, ds, r, h⟩ := h
    refine body_ok (n := q) (E := fun _ _ _ => False) (by rw [hl]; exact hq) (fun _ _ _ _ z => z.elim) r ?_
    unfold mDef0 at h
    cases e : mDef q mb ds with
    | ok d => rw [e] at h; exact h
    | exc x => rw [e] at h; exact h.elim
    | bad => rw [e] at h; exact h⟩
theorem rps_ints {K : PySem.W.Frag} {H : Hp} : ∀ {ns : List Int}, Rps K H (ns.map V.int) (ns.map D.int) []
  | [] => .nil
  | n :: ns => .cons .int rps_ints
theorem rol_start {K : PySem.W.Frag} {H : Hp} {a : Addr} {ns : List Int} (ho : Only H) (hS : SqL K H a (ns.map V.int)) : Rp K H (.ref a) (.rol (ns.map D.int)) [] := by
  refine .rol ?_ rps_ints
  rcases hS with (h | ⟨o, h⟩) | h
  · rcases ho a with z | ⟨o, xs, z⟩ <;> (rw [h] at z; cases z)
  · exact .inl ⟨o, h⟩
  · exact .inr h
theorem law_start {K : PySem.W.Frag} {H : Hp} {a : Addr} {ns : List Int} {m : MD} {E : XK} (ho : Only H) (hS : SqL K H a (ns.map V.int)) (hm : m [.rol (ns.map D.int)] = .ok (.bl true)) :
    spN K 1 m [.ref a] H (fun v _ => v = .bl true) E := by
  refine ⟨rfl, [.rol (ns.map D.int)], .cons (rol_start ho hS) .nil, ?_⟩
  rw [hm]
  intro v H' G _ p _ _
  cases p
  rfl
end
/-! ### facts of the top -/
theorem defAt {K : PySem.W.Frag} {mg : Str → Option Value} {h : Heap} {x : Str} {st : Stmt} {ps : List Str} {f : Addr} {fd : FuncData} (X : K.In h) (G : h.Ns mainGlobals mg) (F : Fun K x x st f fd) (b : Binds K fd ps []) (a : PySem.W.nsIn K mainGlobals x = some (some (.ref f))) : DefAt K mg x x st ps f fd := ⟨F, b, PySem.W.mg_of X G a⟩
theorem conInt {K : PySem.W.Frag} {mg : Str → Option Value} {h : Heap} {x : Str} {i : Int} {t : Tok} (X : K.In h) (G : h.Ns mainGlobals mg) (a : PySem.W.nsIn K mainGlobals x = some (some (.int i t))) : ConAt K mg x (.int i) := ⟨.int i, .int i t, PySem.W.mg_of X G a, ⟨t, rfl⟩, fun _ => .int⟩
theorem conStr {K : PySem.W.Frag} {mg : Str → Option Value} {h : Heap} {x : Str} {s : String} {t : Tok} (X : K.In h) (G : h.Ns mainGlobals mg) (a : PySem.W.nsIn K mainGlobals x = some (some (.str (Str.ofString s) t))) : ConAt K mg x (.str (lit s)) := ⟨.str (Str.ofString s), .str (Str.ofString s) t, PySem.W.mg_of X G a, ⟨t, rfl⟩, fun _ => .str (lit_ok s)⟩
/-- a value of the written part shows a datum -/
def RpK (K : PySem.W.Frag) (u : Value) (d : D) : Prop := ∃ v, RelV v u ∧ ∀ H, Rp K H v d []
theorem kInt {K : PySem.W.Frag} {i : Int} {t : Tok} : RpK K (.int i t) (.int i) := ⟨.int i, ⟨t, rfl⟩, fun _ => .int⟩
theorem kStr {K : PySem.W.Frag} {s : String} {t : Tok} : RpK K (.str (Str.ofString s) t) (.str (lit s)) := ⟨.str (Str.ofString s), ⟨t, rfl⟩, fun _ => .str (lit_ok s)⟩
theorem kNon {K : PySem.W.Frag} : RpK K .none .non := ⟨.non, rfl, fun _ => .non⟩
theorem kBl {K : PySem.W.Frag} {b : Bool} : RpK K (.bool b) (.bl b) := ⟨.bl b, rfl, fun _ => .bl⟩
def RpKs (K : PySem.W.Frag) (us : List Value) (ds : List D) : Prop := ∃ vs, Vals vs us ∧ ∀ H, Rps K H vs ds []
theorem kNil {K : PySem.W.Frag} : RpKs K [] [] := ⟨[], .nil, fun _ => .nil⟩
theorem kCons {K : PySem.W.Frag} {u : Value} {d : D} {us : List Value} {ds : List D} (p : RpK K u d) (q : RpKs K us ds) : RpKs K (u :: us) (d :: ds) := by
  obtain ⟨v, h1, h2⟩ := p
  obtain ⟨vs, h3, h4⟩ := q
  exact ⟨v :: vs, .cons h1 h3, fun H => .cons (h2 H) (h4 H)⟩
theorem kTup {K : PySem.W.Frag} {a : Addr} {us : List Value} {ds : List D} {od : Option Addr} {n : Nat} {sl : Array (Option Value)} (l : K.lookup a = some ⟨.type "tuple", od, .seq us.toArray n, sl⟩) (p : RpKs K us ds) (hl : us.length ≤ 1000 := by exact Nat.le_of_ble_eq_true rfl) : RpK K (.ref a) (.tup ds) := by
  obtain ⟨vs, h3, h4⟩ := p
  exact ⟨.ref a, rfl, fun H => .tup (.inr ⟨_, us.toArray, n, l, rfl, rfl, Nat.le_trans (by simpa using hl) (by decide), by simpa using h3⟩) (h4 H)⟩
theorem kLst {K : PySem.W.Frag} {a : Addr} {us : List Value} {ds : List D} {n : Nat} {sl : Array (Option Value)} (l : K.lookup a = some ⟨.type "list", none, .seq us.toArray n, sl⟩) (p : RpKs K us ds) (hl : us.length ≤ 1000 := by exact Nat.le_of_ble_eq_true rfl) : RpK K (.ref a) (.rol ds) := by
  obtain ⟨vs, h3, h4⟩ := p
  exact ⟨.ref a, rfl, fun H => .rol (.inr ⟨_, us.toArray, n, l, rfl, rfl, rfl, Nat.le_trans (by simpa using hl) (by decide), by simpa using h3⟩) (h4 H)⟩
theorem conOf {K : PySem.W.Frag} {mg : Str → Option Value} {h : Heap} {x : Str} {u : Value} {d : D} (X : K.In h) (G : h.Ns mainGlobals mg) (a : PySem.W.nsIn K mainGlobals x = some (some u)) (p : RpK K u d) : ConAt K mg x d := by
  obtain ⟨v, h1, h2⟩ := p
  exact ⟨v, u, PySem.W.mg_of X G a, h1, h2⟩
end Mir

namespace Mir
open PySem PySem.Spec L2

/-! ### what comes out of a mirror -/
inductive w0 {α : Type} : Option α → (α → Prop) → Prop
  | mk {a : α} {Q : α → Prop} : Q a → w0 (some a) Q
inductive w1 {α : Type} : Rs α → (α → Prop) → Prop
  | mk {a : α} {Q : α → Prop} : Q a → w1 (.ok a) Q
inductive w2 {α : Type} : Re α → (α → E → Prop) → Prop
  | mk {a : α} {e : E} {Q : α → E → Prop} : Q a e → w2 (.ok a e) Q
inductive wD : DR → (D → List D → Prop) → Prop
  | mk {d : D} {os : List D} {Q : D → List D → Prop} : Q d os → wD (.rt d os) Q
/-- N the rest, R return, B break, C continue -/
inductive wS : SR → (E → Prop) → (D → E → Prop) → (E → Prop) → (E → Prop) → Prop
  | nx {e : E} {N B C : E → Prop} {R : D → E → Prop} : N e → wS (.nx e) N R B C
  | rt {d : D} {e : E} {N B C : E → Prop} {R : D → E → Prop} : R d e → wS (.rt d e) N R B C
  | bk {e : E} {N B C : E → Prop} {R : D → E → Prop} : B e → wS (.bk e) N R B C
  | ct {e : E} {N B C : E → Prop} {R : D → E → Prop} : C e → wS (.ct e) N R B C
/-- a word that the steps leave alone -/
def Hold (p : Prop) : Prop := p
section
variable {α β : Type} {e e1 : E} {d : D}
theorem w0_of {o : Option α} {a : α} {Q : α → Prop} (h : o = some a) (q : Q a) : w0 o Q := by rw [h]; exact .mk q
theorem w0_mono {o : Option α} {P Q : α → Prop} (h : w0 o P) (q : ∀ a, P a → Q a) : w0 o Q := by cases h with | mk h => exact .mk (q _ h)
theorem w1_mono {r : Rs α} {P Q : α → Prop} (h : w1 r P) (q : ∀ a, P a → Q a) : w1 r Q := by cases h with | mk h => exact .mk (q _ h)
theorem w2_mono {r : Re α} {P Q : α → E → Prop} (h : w2 r P) (q : ∀ a e, P a e → Q a e) : w2 r Q := by cases h with | mk h => exact .mk (q _ _ h)
theorem wD_mono {r : DR} {P Q : D → List D → Prop} (h : wD r P) (q : ∀ a e, P a e → Q a e) : wD r Q := by cases h with | mk h => exact .mk (q _ _ h)
theorem wS_mono {s : SR} {N N' B B' C C' : E → Prop} {R R' : D → E → Prop} (h : wS s N R B C) (n : ∀ e, N e → N' e) (r : ∀ d e, R d e → R' d e) (b : ∀ e, B e → B' e) (c : ∀ e, C e → C' e) : wS s N' R' B' C' := by
  cases h with
  | nx h => exact .nx (n _ h)
  | rt h => exact .rt (r _ _ h)
  | bk h => exact .bk (b _ h)
  | ct h => exact .ct (c _ h)
theorem w1_ok {a : α} {Q : α → Prop} (q : Q a) : w1 (.ok a) Q := .mk q
theorem w1_eq {r : Rs α} {a : α} {Q : α → Prop} (h : r = .ok a) (q : Q a) : w1 r Q := by rw [h]; exact .mk q
theorem w1_is {r : Rs α} {a : α} (h : w1 r (· = a)) : r = .ok a := by
  cases h with
  | mk h => rw [h]
theorem w1_bind {r : Rs α} {f : α → Rs β} {Q : β → Prop} (h : w1 r fun a => w1 (f a) Q) : w1 (r.bind f) Q := by cases h with | mk h => exact h
theorem w1_of {o : Option α} {Q : α → Prop} (h : w0 o Q) : w1 (.of o) Q := by cases h with | mk h => exact .mk h
theorem w2_bind {r : Re α} {f : α → E → Re β} {Q : β → E → Prop} (h : w2 r fun a e => w2 (f a e) Q) : w2 (r.bind f) Q := by cases h with | mk h => exact h
theorem w2_at {r : Rs α} {Q : α → E → Prop} (h : w1 r fun a => Q a e) : w2 (r.at e) Q := by cases h with | mk h => exact .mk h
/-! reads -/
variable {Q : D → Prop} {Q2 : D → E → Prop} {ma mb mc : MB} {na n2 : ME} {f g : D → D → Option D}
theorem w1_var {i : Nat} (h : e[i]? = some (some d)) (q : Q d) : w1 (bVar i e) Q := by unfold bVar; rw [h]; exact .mk q
theorem w1_C (q : Q d) : w1 (bC d e) Q := .mk q
theorem w1_bin (h : w1 (ma e) fun a => w1 (mb e) fun b => w0 (f a b) Q) : w1 (bin f ma mb e) Q := w1_bind (w1_mono h fun _ h => w1_bind (w1_mono h fun _ h => w1_of h))
theorem w1_un {f : D → Option D} (h : w1 (ma e) fun a => w0 (f a) Q) : w1 (un f ma e) Q := w1_bind (w1_mono h fun _ h => w1_of h)
theorem w1_bl1 {k : Bool → Rs α} {Q : α → Prop} {b : Bool} (h : w1 (k b) Q) : w1 (bl1 (.bl b) k) Q := h
theorem w1_ch (h : w1 (ma e) fun a => w1 (mb e) fun b => w0 (f a b) fun z => ∃ k, z = .bl k ∧ (k = true → w1 (mc e) fun c => w0 (g b c) fun y => ∃ q, y = .bl q ∧ Q (.bl q)) ∧ (k = false → Q (.bl false))) : w1 (chB f g ma mb mc e) Q := by
  refine w1_bind (w1_mono h fun a h => w1_bind (w1_mono h fun b h => w1_bind (w1_of (w0_mono h fun z ⟨k, e1, h1, h2⟩ => ?_))))
  subst e1
  refine w1_bl1 ?_
  cases k with
  | true =>
    rw [if_pos rfl]
    refine w1_bind (w1_mono (h1 rfl) fun c h => w1_bind (w1_of (w0_mono h fun y ⟨q, e2, h⟩ => ?_)))
    subst e2
    exact .mk h
  | false => exact .mk (h2 rfl)
theorem w1_and (h : w1 (ma e) fun a => ∃ k, a = .bl k ∧ (k = true → w1 (mb e) fun b => ∃ c, b = .bl c ∧ Q (.bl c)) ∧ (k = false → Q (.bl false))) : w1 (andB ma mb e) Q := by
  refine w1_bind (w1_mono h fun a ⟨k, e1, h1, h2⟩ => ?_)
  subst e1
  refine w1_bl1 ?_
  cases k with
  | true =>
    rw [if_pos rfl]
    refine w1_bind (w1_mono (h1 rfl) fun b ⟨c, e2, h⟩ => ?_)
    subst e2
    exact .mk h
  | false => exact .mk (h2 rfl)
theorem w1_or (h : w1 (ma e) fun a => ∃ k, a = .bl k ∧ (k = true → Q (.bl true)) ∧ (k = false → w1 (mb e) fun b => ∃ c, b = .bl c ∧ Q (.bl c))) : w1 (orB ma mb e) Q := by
  refine w1_bind (w1_mono h fun a ⟨k, e1, h1, h2⟩ => ?_)
  subst e1
  refine w1_bl1 ?_
  cases k with
  | true => exact .mk (h1 rfl)
  | false =>
    rw [if_neg (by decide)]
    refine w1_bind (w1_mono (h2 rfl) fun b ⟨c, e2, h⟩ => ?_)
    subst e2
    exact .mk h
theorem w1_not (h : w1 (ma e) fun a => ∃ k, a = .bl k ∧ Q (.bl (!k))) : w1 (notB ma e) Q := by
  refine w1_bind (w1_mono h fun a ⟨k, e1, h1⟩ => ?_)
  subst e1
  exact .mk h1
theorem w1_nil {Q : List D → Prop} (q : Q []) : w1 (aNil e) Q := .mk q
theorem w1_cons {ms : MA} {Q : List D → Prop} (h : w1 (ma e) fun d => w1 (ms e) fun ds => Q (d :: ds)) : w1 (aCons ma ms e) Q := w1_bind (w1_mono h fun _ h => w1_bind (w1_mono h fun _ h => .mk h))
theorem w1_tup {ms : MA} (h : w1 (ms e) fun ds => imms ds = true ∧ fits ds.length = true ∧ Q (.tup ds)) : w1 (dTup ms e) Q := w1_bind (w1_mono h fun ds h => by rw [if_pos ⟨h.1, h.2.1⟩]; exact .mk h.2.2)
theorem w1_lst {ms : MA} (h : w1 (ms e) fun ds => imms ds = true ∧ fits ds.length = true ∧ Q (.lst ds)) : w1 (dLst ms e) Q := w1_bind (w1_mono h fun ds h => by rw [if_pos ⟨h.1, h.2.1⟩]; exact .mk h.2.2)
theorem w1_cal {f : List D → Option D} {ms : MA} (h : w1 (ms e) fun ds => w0 (f ds) Q) : w1 (cal f ms e) Q := w1_bind (w1_mono h fun _ h => w1_of h)
theorem w1_call {m : MD} {ms : MA} (h : w1 (ms e) fun ds => imms ds = true ∧ w1 (m ds) Q) : w1 (cN m ms e) Q := w1_bind (w1_mono h fun ds h => by rw [if_pos h.1]; exact h.2)
theorem w1_cp0 {Q : Option Int → Prop} (q : Q none) : w1 (cutP none e) Q := .mk q
theorem w1_cp {Q : Option Int → Prop} (h : w1 (ma e) fun d => ∃ i, d = .int i ∧ Q (some i)) : w1 (cutP (some ma) e) Q := w1_bind (w1_mono h fun d ⟨i, e1, q⟩ => by subst e1; exact .mk q)
theorem w1_cut {l u : Option MB} (h : w1 (ma e) fun d => w1 (cutP l e) fun a => w1 (cutP u e) fun b => w0 (fCut d a b) Q) : w1 (cut ma l u e) Q := w1_bind (w1_mono h fun _ h => w1_bind (w1_mono h fun _ h => w1_bind (w1_mono h fun _ h => w1_of h)))
/-! steps -/
theorem w2_ofN (h : w1 (ma e) fun d => Q2 d e) : w2 (ofN ma e) Q2 := w2_at h
theorem w2_own (h : w1 (ma e) fun d => imm d = true ∧ Q2 d e) : w2 (own ma e) Q2 := w2_at (w1_bind (w1_mono h fun d h => by rw [if_pos h.1]; exact .mk h.2))
theorem w2_mv {i : Nat} (h : e[i]? = some (some d)) (q : Q2 d (e.set i none)) : w2 (eMv i e) Q2 := by unfold eMv; rw [h]; exact .mk q
theorem w2_bin (h : w2 (na e) fun a e1 => w2 (n2 e1) fun b e2 => w0 (f a b) fun d => Q2 d e2) : w2 (binE f na n2 e) Q2 := w2_bind (w2_mono h fun _ _ h => w2_bind (w2_mono h fun _ _ h => w2_at (w1_of h)))
theorem w2_binV {i : Nat} {d0 : D} (h0 : e[i]? = some (some d0)) (h : w2 (n2 e) fun b e2 => ∃ a, e2[i]? = some (some a) ∧ w0 (f a b) fun d => Q2 d e2) : w2 (binV f i n2 e) Q2 := by
  unfold binV
  rw [h0]
  refine w2_bind (w2_mono h fun b e2 ⟨a, h1, h⟩ => ?_)
  rw [h1]
  exact w2_at (w1_of h)
theorem w2_un {f : D → Option D} (h : w2 (na e) fun a e1 => w0 (f a) fun d => Q2 d e1) : w2 (unE f na e) Q2 := w2_bind (w2_mono h fun _ _ h => w2_at (w1_of h))
theorem w2_nil {Q : List D → E → Prop} (q : Q [] e) : w2 (anil e) Q := .mk q
theorem w2_cons {ms : MAE} {Q : List D → E → Prop} (h : w2 (na e) fun d e1 => w2 (ms e1) fun ds e2 => Q (d :: ds) e2) : w2 (acons na ms e) Q := w2_bind (w2_mono h fun _ _ h => w2_bind (w2_mono h fun _ _ h => .mk h))
theorem w2_tup {ms : MAE} (h : w2 (ms e) fun ds e1 => fits ds.length = true ∧ Q2 (.tup ds) e1) : w2 (dTupE ms e) Q2 := w2_bind (w2_mono h fun ds e1 h => by rw [if_pos h.1]; exact .mk h.2)
theorem w2_lst {ms : MAE} (h : w2 (ms e) fun ds e1 => fits ds.length = true ∧ Q2 (.lst ds) e1) : w2 (dLstE ms e) Q2 := w2_bind (w2_mono h fun ds e1 h => by rw [if_pos h.1]; exact .mk h.2)
theorem w2_cal {f : List D → Option D} {ms : MAE} (h : w2 (ms e) fun ds e1 => w0 (f ds) fun d => Q2 d e1) : w2 (calE f ms e) Q2 := w2_bind (w2_mono h fun _ _ h => w2_at (w1_of h))
theorem w2_call {m : MD} {ms : MAE} (h : w2 (ms e) fun ds e1 => imms ds = true ∧ w1 (m ds) fun d => Q2 d e1) : w2 (cE m ms e) Q2 := w2_bind (w2_mono h fun ds e1 h => by rw [if_pos h.1]; exact w2_at h.2)
theorem w2_frz (h : w2 (na e) fun d e1 => ∃ ds, d = .lst ds ∧ imms ds = true ∧ Q2 (.rol ds) e1) : w2 (frz na e) Q2 := by
  unfold frz
  generalize na e = r at h ⊢
  cases h with
  | mk h =>
    obtain ⟨ds, h1, h2, h3⟩ := h
    subst h1
    show w2 (if imms ds = true then _ else _) Q2
    rw [if_pos h2]
    exact .mk h3
theorem w2_cut {l u : Option MB} (h : w2 (na e) fun d e1 => w1 (cutP l e1) fun a => w1 (cutP u e1) fun b => w0 (fCut d a b) fun d => Q2 d e1) : w2 (cutE na l u e) Q2 := w2_bind (w2_mono h fun _ _ h => w2_at (w1_bind (w1_mono h fun _ h => w1_bind (w1_mono h fun _ h => w1_of h))))
theorem w2_mut {i : Nat} {f : D → List D → Option (D × D)} {ms : MAE} {d0 : List D} (h0 : e[i]? = some (some (.lst d0))) (h : w2 (ms e) fun as e1 => ∃ d, e1[i]? = some (some d) ∧ w0 (f d as) fun p => Q2 p.1 (e1.set i (some p.2))) : w2 (eMut i f ms e) Q2 := by
  unfold eMut
  rw [h0]
  simp only [isLst, if_true]
  refine w2_bind (w2_mono h fun as e1 ⟨d, h1, h⟩ => ?_)
  rw [h1]
  simp only
  generalize f d as = r at h ⊢
  cases h with
  | mk h => exact .mk h
/-- a call that changes the thing in one slot -/
theorem w2_io {i : Nat} {m : MI} {ms : MAE} {d0 : D} (h0 : e[i]? = some (some d0)) (h : w2 (ms e) fun ds e1 => ∃ d1, e1[i]? = some (some d1) ∧ wD (m (d1 :: ds)) fun d os => ∃ o r, os = o :: r ∧ Q2 d ((e1.set i none).set i (some o))) : w2 (eIO [i] m ms e) Q2 := by
  unfold eIO
  have e0 : there [i] e = true := by simp only [there, h0]
  rw [if_pos e0]
  refine w2_bind (w2_mono h fun ds e1 ⟨d1, h1, h⟩ => ?_)
  simp only [takeS, h1, Option.map_some, List.cons_append, List.nil_append]
  generalize m (d1 :: ds) = r at h ⊢
  cases h with
  | mk h =>
    obtain ⟨o, r, rfl, h⟩ := h
    exact .mk h
/-! tests -/
variable {QT : Bool → E → Prop} {t u : MT}
theorem w2_tst (h : w2 (na e) fun d e1 => ∃ b, d = .bl b ∧ QT b e1) : w2 (tst na e) QT := w2_bind (w2_mono h fun d e1 ⟨b, e2, q⟩ => by subst e2; exact .mk q)
theorem w2_and (h : w2 (t e) fun c e1 => (c = true → w2 (u e1) QT) ∧ (c = false → QT false e1)) : w2 (andT t u e) QT := w2_bind (w2_mono h fun c e1 h => by cases c with | true => exact h.1 rfl | false => exact .mk (h.2 rfl))
theorem w2_or (h : w2 (t e) fun c e1 => (c = true → QT true e1) ∧ (c = false → w2 (u e1) QT)) : w2 (orT t u e) QT := w2_bind (w2_mono h fun c e1 h => by cases c with | true => exact .mk (h.1 rfl) | false => exact h.2 rfl)
theorem w2_not (h : w2 (t e) fun c e1 => QT (!c) e1) : w2 (notT t e) QT := w2_bind (w2_mono h fun c e1 h => .mk h)
theorem w2_tY (h : QT true e) : w2 (tY e) QT := .mk h
/-! statements -/
variable {N B C : E → Prop} {R : D → E → Prop} {a b : MS}
theorem wS_nil (h : N e) : wS (mNil e) N R B C := .nx h
theorem wS_seq (h : wS (a e) (fun e1 => wS (b e1) N R B C) R B C) : wS (mSeq a b e) N R B C := by
  unfold mSeq
  generalize a e = r at h ⊢
  cases h with
  | nx h => exact h
  | rt h => exact .rt h
  | bk h => exact .bk h
  | ct h => exact .ct h
theorem wS_set {i : Nat} (h : w2 (na e) fun d e1 => N (e1.set i (some d))) : wS (mSet i na e) N R B C := by
  unfold mSet
  generalize na e = r at h ⊢
  cases h with
  | mk h => exact .nx h
theorem wS_expr (h : w2 (na e) fun _ e1 => N e1) : wS (mExpr na e) N R B C := by
  unfold mExpr
  generalize na e = r at h ⊢
  cases h with
  | mk h => exact .nx h
theorem wS_if (h : w2 (t e) fun c e1 => (c = true → wS (a e1) N R B C) ∧ (c = false → wS (b e1) N R B C)) : wS (mIf t a b e) N R B C := by
  unfold mIf
  generalize t e = r at h ⊢
  cases h with
  | @mk c e1 _ h =>
    cases c with
    | true => exact h.1 rfl
    | false => exact h.2 rfl
theorem wS_ret (h : w2 (na e) fun d e1 => R d e1) : wS (mRet na e) N R B C := by
  unfold mRet
  generalize na e = r at h ⊢
  cases h with
  | mk h => exact .rt h
theorem wS_retN (h : R .non e) : wS (mRetN e) N R B C := .rt h
theorem wS_brk (h : B e) : wS (mBreak e) N R B C := .bk h
theorem wS_cnt (h : C e) : wS (mCont e) N R B C := .ct h
theorem wS_aug {i : Nat} {d0 : D} (h0 : e[i]? = some (some d0)) (hi : imm d0 = true) (h : w2 (na e) fun d e1 => w0 (f d0 d) fun d => N (e1.set i (some d))) : wS (mAug i f na e) N R B C := by
  unfold mAug
  rw [h0]
  simp only [hi, if_true]
  generalize na e = r at h ⊢
  cases h with
  | @mk d e1 _ h =>
    simp only
    generalize f d0 d = r at h ⊢
    cases h with
    | mk h => exact .nx h
theorem wS_asg {g : MG} (h : w2 (na e) fun d e1 => imm d = true ∧ w0 (g d e1) N) : wS (mAsg g na e) N R B C := by
  unfold mAsg
  generalize na e = r at h ⊢
  cases h with
  | @mk d e1 _ h =>
    obtain ⟨h1, h2⟩ := h
    simp only [h1, if_true]
    generalize g d e1 = r at h2 ⊢
    cases h2 with
    | mk h => exact .nx h
theorem wS_par {i j : Nat} {ns : MAE} (h : w2 (ns e) fun ds e1 => ∃ a b, ds = [a, b] ∧ (imm a = true ∧ imm b = true) ∧ N ((e1.set i (some a)).set j (some b))) : wS (mPar i j ns e) N R B C := by
  unfold mPar
  generalize ns e = r at h ⊢
  cases h with
  | mk h =>
    obtain ⟨a, b, rfl, h1, h2⟩ := h
    simp only [h1, and_self, if_true]
    exact .nx h2
theorem wS_setIx {i : Nat} (h : w2 (na e) fun y e1 => imm y = true ∧ ∃ ds, e1[i]? = some (some (.lst ds)) ∧ imms ds = true ∧ w1 (ma e1) fun k => ∃ z, k = .int z ∧ ∃ j, ixN ds.length z = some j ∧ N (e1.set i (some (.lst (ds.set j y))))) : wS (mSetIx i ma na e) N R B C := by
  unfold mSetIx
  generalize na e = r at h ⊢
  cases h with
  | @mk y e1 _ h =>
    obtain ⟨h1, ds, h2, h3, h4⟩ := h
    simp only [h1, if_true, h2, h3]
    generalize ma e1 = r at h4 ⊢
    cases h4 with
    | mk h4 =>
      obtain ⟨z, rfl, j, h5, h6⟩ := h4
      simp only [h5]
      exact .nx h6
/-! operations on ints -/
theorem w0_mulI {i j : Int} {Q : D → Prop} (h : big64 i = true ∨ big64 j = true) (q : Q (.int (i * j))) : w0 (fMul (.int i) (.int j)) Q := by
  show w0 (if (big64 i || big64 j) = true then some (D.int (i * j)) else none) Q
  rw [if_pos (by rcases h with h | h <;> simp [h])]
  exact .mk q
theorem fits_of {n : Nat} (h : n ≤ 16777216) : fits n = true := decide_eq_true h
theorem big64_of {i : Int} (h : -18446744073709551616 < i ∧ i < 18446744073709551616) : big64 i = true := decide_eq_true h
theorem w0_modI {i j : Int} {Q : D → Prop} (h : 0 < j) (q : Q (.int (i % j))) : w0 (fMod (.int i) (.int j)) Q := by
  show w0 (if 0 < j then some (D.int (i % j)) else none) Q
  rw [if_pos h]
  exact .mk q
theorem w0_divI {i j : Int} {Q : D → Prop} (h : 0 < j ∧ j < 1073741824) (q : Q (.int (i / j))) : w0 (fDiv (.int i) (.int j)) Q := by
  show w0 (if 0 < j ∧ j < 1073741824 then some (D.int (i / j)) else none) Q
  rw [if_pos h]
  exact .mk q
theorem w0_powI {i j : Int} {Q : D → Prop} (h : 0 ≤ j ∧ j ≤ 1000000 ∧ i.natAbs < 2 ^ 64) (q : Q (.int (i ^ j.toNat))) : w0 (fPow (.int i) (.int j)) Q := by
  show w0 (if 0 ≤ j ∧ j ≤ 1000000 ∧ i.natAbs < 2 ^ 64 then some (D.int (i ^ j.toNat)) else none) Q
  rw [if_pos h]
  exact .mk q
theorem atI_in {α : Type} {ds : List α} {i : Int} (h : 0 ≤ i) (h1 : i < ds.length) : ∃ d, atI ds i = some d ∧ ds[i.toNat]? = some d := by
  have e : i.toNat < ds.length := by omega
  refine ⟨ds[i.toNat], ?_, List.getElem?_eq_getElem e⟩
  unfold atI ixN
  rw [if_pos h, if_pos h1]
  exact List.getElem?_eq_getElem e
theorem w0_ixR {ds : List D} {i : Int} {Q : D → Prop} (h : 0 ≤ i) (h1 : i < ds.length) (q : ∀ d, ds[i.toNat]? = some d → Q d) : w0 (fIx (.rol ds) (.int i)) Q := by
  obtain ⟨d, e1, e2⟩ := atI_in h h1
  exact w0_of (show fIx (.rol ds) (.int i) = some d from e1) (q d e2)
theorem w0_ixL {ds : List D} {i : Int} {Q : D → Prop} (h : 0 ≤ i) (h1 : i < ds.length) (q : ∀ d, ds[i.toNat]? = some d → Q d) : w0 (fIx (.lst ds) (.int i)) Q := by
  obtain ⟨d, e1, e2⟩ := atI_in h h1
  exact w0_of (show fIx (.lst ds) (.int i) = some d from e1) (q d e2)
theorem w0_ixT {ds : List D} {i : Int} {Q : D → Prop} (h : 0 ≤ i) (h1 : i < ds.length) (q : ∀ d, ds[i.toNat]? = some d → Q d) : w0 (fIx (.tup ds) (.int i)) Q := by
  obtain ⟨d, e1, e2⟩ := atI_in h h1
  exact w0_of (show fIx (.tup ds) (.int i) = some d from e1) (q d e2)
theorem w0_ixS {s : List Nat} {i : Int} {Q : D → Prop} (hf : fits s.length = true) (h : 0 ≤ i) (h1 : i < s.length) (q : ∀ c, s[i.toNat]? = some c → Q (.str [c])) : w0 (fIx (.str s) (.int i)) Q := by
  obtain ⟨c, e1, e2⟩ := atI_in h h1
  refine w0_of (show (if fits s.length = true then (atI s i).map fun c => D.str [c] else none) = some (.str [c]) from ?_) (q c e2)
  rw [if_pos hf, e1]
  rfl
theorem w0_addS {s t : List Nat} {Q : D → Prop} (h : s.length + t.length ≤ 16777216) (q : Q (.str (s ++ t))) : w0 (fAdd (.str s) (.str t)) Q :=
  w0_of (show (if fits (s.length + t.length) = true then some (D.str (s ++ t)) else none) = _ by rw [if_pos (fits_of h)]) q
theorem w0_lenS {s : List Nat} {Q : D → Prop} (h : s.length ≤ 16777216) (q : Q (.int s.length)) : w0 (fLen [.str s]) Q :=
  w0_of (show ((if fits s.length = true then some s.length else none).map fun (n : Nat) => D.int (n : Int)) = _ by rw [if_pos (fits_of h)]; rfl) q
theorem w0_mulS {s : List Nat} {n : Int} {Q : D → Prop} (h : 0 ≤ n ∧ n ≤ 16777216) (h1 : s.length * n.toNat ≤ 16777216) (q : Q (.str (List.replicate n.toNat s).flatten)) : w0 (fMul (.str s) (.int n)) Q :=
  w0_of (show (if -16777216 ≤ n ∧ n ≤ 16777216 ∧ fits (s.length * n.toNat) = true then some (D.str (List.replicate n.toNat s).flatten) else none) = _ by rw [if_pos ⟨by omega, h.2, fits_of h1⟩]) q
/-- nothing, no times or less -/
theorem w0_mulS0 {s : List Nat} {n : Int} {Q : D → Prop} (h : -16777216 ≤ n ∧ n ≤ 0) (q : Q (.str [])) : w0 (fMul (.str s) (.int n)) Q :=
  w0_of (show (if -16777216 ≤ n ∧ n ≤ 16777216 ∧ fits (s.length * n.toNat) = true then some (D.str (List.replicate n.toNat s).flatten) else none) = _ by
    have e : n.toNat = 0 := by omega
    rw [e, if_pos ⟨h.1, by omega, fits_of (by omega)⟩]; rfl) q
theorem w0_cutS {s : List Nat} {lo hi : Option Int} {Q : D → Prop} (h : s.length ≤ 16777216) (q : Q (.str (cutL s lo hi))) : w0 (fCut (.str s) lo hi) Q :=
  w0_of (show (if fits s.length = true then some (D.str (cutL s lo hi)) else none) = _ by rw [if_pos (fits_of h)]) q
theorem w0_cutT {ds : List D} {lo hi : Option Int} {Q : D → Prop} (h : imms ds = true) (q : Q (.tup (cutL ds lo hi))) : w0 (fCut (.tup ds) lo hi) Q :=
  w0_of (show (if imms ds = true then some (D.tup (cutL ds lo hi)) else none) = _ by rw [if_pos h]) q
theorem cutL_to {α : Type} {s : List α} {k : Int} (h : 0 ≤ k) : cutL s none (some k) = s.take k.toNat := by
  obtain ⟨n, rfl⟩ := Int.eq_ofNat_of_zero_le h
  unfold cutL
  rw [HT.sIx_none, HT.sIx_nat, List.drop_zero, Nat.sub_zero, Int.toNat_natCast]
  rcases Nat.le_total n s.length with z | z
  · rw [Nat.min_eq_left z]
  · rw [Nat.min_eq_right z, List.take_of_length_le (Nat.le_refl _), List.take_of_length_le z]
theorem cutL_from {α : Type} {s : List α} {k : Int} (h : 0 ≤ k) : cutL s (some k) none = s.drop k.toNat := by
  obtain ⟨n, rfl⟩ := Int.eq_ofNat_of_zero_le h
  unfold cutL
  rw [HT.sIx_none, HT.sIx_nat, Int.toNat_natCast]
  rcases Nat.le_total n s.length with z | z
  · rw [Nat.min_eq_left z, List.take_of_length_le (by rw [List.length_drop]; exact Nat.le_refl _)]
  · rw [Nat.min_eq_right z, Nat.sub_self, List.take_zero, List.drop_of_length_le z]
/-- an element of a short list by a drawn number -/
theorem w0_imm {f : D → D → Option D} {a b : D} {Q : D → Prop} (h : w0 (f a b) fun d => imm d = true ∧ Q d) : w0 (immF f a b) Q := by
  unfold immF
  generalize f a b = r at h ⊢
  cases h with
  | mk h =>
    obtain ⟨h1, h2⟩ := h
    simp only [Option.bind_some, h1, if_true]
    exact .mk h2
theorem imms_ints {ns : List Int} : imms (ns.map D.int) = true := by
  rw [imms_all, List.all_map]
  exact List.all_eq_true.mpr fun _ _ => rfl
theorem mem_get {α : Type} {l : List α} {i : Nat} {a : α} (h : l[i]? = some a) : a ∈ l := List.mem_of_getElem? h
theorem get_ints {ns : List Int} {i : Nat} {d : D} (h : (ns.map D.int)[i]? = some d) : ∃ n ∈ ns, d = .int n := by
  rw [List.getElem?_map] at h
  obtain ⟨n, h1, h2⟩ := Option.map_eq_some_iff.mp h
  exact ⟨n, mem_get h1, h2.symm⟩
/-! loops -/
variable {gg : MG}
theorem wS_loop {b : MS} (I : Nat → E → Prop) : ∀ (ds : List D) (j : Nat) {e : E}, I j e → (∀ i d e, ds[i]? = some d → I (j + i) e → w0 (gg d e) fun e1 => wS (b e1) (I (j + i + 1)) R N (I (j + i + 1))) → (∀ e, I (j + ds.length) e → N e) → wS (mLoop gg b ds e) N R B C
  | [], j, e, h, _, hN => .nx (hN e h)
  | d :: ds, j, e, h, hs, hN => by
    have h1 := hs 0 d e rfl h
    unfold mLoop
    generalize gg d e = r at h1 ⊢
    cases h1 with
    | @mk e1 _ h1 =>
      simp only
      have rec_ : ∀ e2, I (j + 0 + 1) e2 → wS (mLoop gg b ds e2) N R B C := fun e2 h2 => wS_loop I ds (j + 1) h2 (fun i d e hd hI => by
        have := hs (i + 1) d e (by simpa using hd) (by rw [show j + (i + 1) = j + 1 + i by omega]; exact hI)
        rw [show j + (i + 1) = j + 1 + i by omega] at this
        exact this) fun e he => hN e (by rw [List.length_cons, show j + (ds.length + 1) = j + 1 + ds.length by omega]; exact he)
      generalize b e1 = r at h1 ⊢
      cases h1 with
      | nx h1 => exact rec_ _ h1
      | ct h1 => exact rec_ _ h1
      | bk h1 => exact .nx h1
      | rt h1 => exact .rt h1
theorem wS_loop0 {b : MS} (I : Nat → E → Prop) (ds : List D) {e : E} (h : I 0 e) (hs : ∀ i d e, ds[i]? = some d → I i e → w0 (gg d e) fun e1 => wS (b e1) (I (i + 1)) R N (I (i + 1))) (hN : ∀ e, I ds.length e → N e) : wS (mLoop gg b ds e) N R B C :=
  wS_loop I ds 0 h (fun i d e hd hI => by rw [Nat.zero_add] at hI ⊢; exact hs i d e hd hI) fun e hI => by rw [Nat.zero_add] at hI; exact hN e hI
/-- an invariant with no count -/
theorem wS_inv {b : MS} (I : E → Prop) (ds : List D) {e : E} (h : I e) (hs : ∀ d e, d ∈ ds → I e → w0 (gg d e) fun e1 => wS (b e1) I R N I) (hN : ∀ e, I e → N e) : wS (mLoop gg b ds e) N R B C :=
  wS_loop0 (fun _ => I) ds h (fun i d e hd hI => hs d e (mem_get hd) hI) hN
theorem wS_for {w : MW} {b : MS} (h : w2 (w e) fun ds e1 => wS (mLoop gg b ds e1) N R B C) : wS (mFor w gg b e) N R B C := by
  unfold mFor
  generalize w e = r at h ⊢
  cases h with
  | mk h => exact h
theorem wS_fill {s : SR} {i : Nat} {d : D} (h : wS s (fun e => N (e.set i (some d))) (fun x e => R x (e.set i (some d))) (fun e => B (e.set i (some d))) (fun e => C (e.set i (some d)))) : wS (s.fill i d) N R B C := by
  cases h with
  | nx h => exact .nx h
  | rt h => exact .rt h
  | bk h => exact .bk h
  | ct h => exact .ct h
theorem wS_forV {i : Nat} {b : MS} {ds : List D} (h0 : e[i]? = some (some d)) (hd : itemsOf d = some ds) (hi : imm d = true) (h : wS (mLoop gg b ds e) N R B C) : wS (mForV i gg b e) N R B C := by
  unfold mForV
  rw [h0]
  simp only [hd, hi, if_true]
  exact h
/-- over a list that stays as it is -/
theorem wS_forL {i : Nat} {b : MS} {ds : List D} (h0 : e[i]? = some (some (.lst ds))) (hi : imms ds = true) (h : wS (mLoop gg b ds (e.set i none)) (fun e => N (e.set i (some (.lst ds)))) (fun x e => R x (e.set i (some (.lst ds)))) (fun e => B (e.set i (some (.lst ds)))) (fun e => C (e.set i (some (.lst ds))))) : wS (mForV i gg b e) N R B C := by
  unfold mForV
  rw [h0]
  simp only [itemsOf, hi, if_true, imm, Bool.false_eq_true, if_false]
  exact wS_fill h
theorem wS_while {b : MS} (I : Nat → E → Prop) (hs : ∀ n e, I n e → w2 (t e) fun c e1 => (c = true → wS (b e1) (fun e2 => ∃ m, m < n ∧ I m e2) R N (fun e2 => ∃ m, m < n ∧ I m e2)) ∧ (c = false → N e1)) : ∀ (k n : Nat) (e : E), n < k → I n e → wS (mWhile t b k e) N R B C
  | 0, n, e, hk, _ => by omega
  | k + 1, n, e, hk, h => by
    have h1 := hs n e h
    unfold mWhile
    generalize t e = r at h1 ⊢
    cases h1 with
    | @mk c e1 _ h1 =>
      cases c with
      | false => exact .nx (h1.2 rfl)
      | true =>
        have h2 := h1.1 rfl
        simp only [if_true]
        generalize b e1 = r at h2 ⊢
        cases h2 with
        | nx h2 => obtain ⟨m, hm, hI⟩ := h2; exact wS_while I hs k m _ (by omega) hI
        | ct h2 => obtain ⟨m, hm, hI⟩ := h2; exact wS_while I hs k m _ (by omega) hI
        | bk h2 => exact .nx h2
        | rt h2 => exact .rt h2
theorem wS_wh {b : MS} (I : Nat → E → Prop) (n : Nat) (hn : n < fuel) (h0 : I n e) (hs : ∀ n e, I n e → w2 (t e) fun c e1 => (c = true → wS (b e1) (fun e2 => ∃ m, m < n ∧ I m e2) R N (fun e2 => ∃ m, m < n ∧ I m e2)) ∧ (c = false → N e1)) : wS (mWh t b e) N R B C := wS_while I hs fuel n e hn h0
theorem w2_wV {QL : List D → E → Prop} (h : w2 (na e) fun d e1 => ∃ ds, itemsOf d = some ds ∧ QL ds e1) : w2 (wV na e) QL := by
  unfold wV
  generalize na e = r at h ⊢
  cases h with
  | mk h => obtain ⟨ds, h1, h2⟩ := h; simp only [h1]; exact .mk h2
theorem w2_wR {ns : MAE} {QL : List D → E → Prop} (h : w2 (ns e) fun ds e1 => (∃ j, ds = [.int j] ∧ small62 j = true ∧ QL (rangeD 0 j.toNat) e1) ∨ ∃ i j, ds = [.int i, .int j] ∧ (small62 i = true ∧ small62 j = true) ∧ QL (rangeD i (j - i).toNat) e1) : w2 (wR ns e) QL := by
  unfold wR
  generalize ns e = r at h ⊢
  cases h with
  | mk h =>
    rcases h with ⟨j, rfl, h1, h2⟩ | ⟨i, j, rfl, h1, h2⟩
    · simp only [h1, if_true]; exact .mk h2
    · simp only [h1, and_self, if_true]; exact .mk h2
theorem small62_of {j : Int} (h : -4611686018427387904 ≤ j ∧ j < 4611686018427387904) : small62 j = true := decide_eq_true h
theorem w2_wR1 {QL : List D → E → Prop} (h : w2 (na e) fun d e1 => ∃ j, d = .int j ∧ small62 j = true ∧ QL (rangeD 0 j.toNat) e1) : w2 (wR (acons na anil) e) QL :=
  w2_wR (w2_cons (w2_mono h fun d e1 ⟨j, h1, h2⟩ => w2_nil (.inl ⟨j, by rw [h1], h2⟩)))
theorem w2_wR2 {QL : List D → E → Prop} (h : w2 (na e) fun d e1 => ∃ i, d = .int i ∧ small62 i = true ∧ w2 (n2 e1) fun d e1 => ∃ j, d = .int j ∧ small62 j = true ∧ QL (rangeD i (j - i).toNat) e1) : w2 (wR (acons na (acons n2 anil)) e) QL :=
  w2_wR (w2_cons (w2_mono h fun d e1 ⟨i, h1, h2, h3⟩ => w2_cons (w2_mono h3 fun d e1 ⟨j, h4, h5, h6⟩ => w2_nil (.inr ⟨i, j, by rw [h1, h4], ⟨h2, h5⟩, h6⟩))))
theorem range_at {lo : Int} {n i : Nat} {d : D} (h : (rangeD lo n)[i]? = some d) : i < n ∧ d = .int (lo + i) := by
  unfold rangeD at h
  rw [List.getElem?_map] at h
  obtain ⟨k, h1, h2⟩ := Option.map_eq_some_iff.mp h
  obtain ⟨h3, h4⟩ := List.getElem?_eq_some_iff.mp h1
  rw [List.getElem_range] at h4
  subst h4
  exact ⟨by simpa using h3, h2.symm⟩
theorem range_len {lo : Int} {n : Nat} : (rangeD lo n).length = n := by simp [rangeD]
/-! defs -/
theorem w1_def {k : Nat} {mb : MS} {ds : List D} {Q : D → Prop} (hi : imms ds = true) (h : wS (mb (ds.map some ++ List.replicate k none)) (fun _ => Q .non) (fun d _ => Q d) (fun _ => False) (fun _ => False)) : w1 (mDef0 k mb ds) Q := by
  unfold mDef0 mDef
  rw [if_pos hi]
  generalize mb (ds.map some ++ List.replicate k none) = r at h ⊢
  cases h with
  | nx h => exact .mk h
  | rt h => exact .mk h
  | bk h => exact h.elim
  | ct h => exact h.elim
theorem wD_def {k : Nat} {Z : Zs} {mb : MS} {ds : List D} {Q : D → List D → Prop} (h : wS (mb (ds.map some ++ List.replicate k none)) (fun e => w0 (outsOf Z 0 ds e) (Q .non)) (fun d e => w0 (outsOf Z 0 ds e) (Q d)) (fun _ => False) (fun _ => False)) : wD (mDefI0 k Z mb ds) Q := by
  unfold mDefI0 mDefI
  generalize mb (ds.map some ++ List.replicate k none) = r at h ⊢
  cases h with
  | @nx e _ _ _ _ h =>
    simp only [mResI]
    generalize outsOf Z 0 ds e = r at h ⊢
    cases h with
    | mk h => exact .mk h
  | @rt d e _ _ _ _ h =>
    simp only [mResI]
    generalize outsOf Z 0 ds e = r at h ⊢
    cases h with
    | mk h => exact .mk h
  | bk h => exact h.elim
  | ct h => exact h.elim
end
end Mir

namespace Mir
open PySem PySem.Spec L2

/-! ### == of data -/
theorem str_beq (s t : List Nat) : ((⟨s.toArray⟩ : Str) == ⟨t.toArray⟩) = decide (s = t) := by
  by_cases h : s = t
  · subst h; simp
  · rw [decide_eq_false h]
    refine beq_eq_false_iff_ne.mpr fun z => h ?_
    have := congrArg (fun x : Str => x.cps.toList) z
    simpa using this
@[simp] theorem eqv_str (s t : List Nat) : D.eqv (.str s) (.str t) = decide (s = t) := by
  simp only [D.eqv, D.py, PyData.eqv]; exact str_beq s t
@[simp] theorem eqv_int (i j : Int) : D.eqv (.int i) (.int j) = decide (i = j) := by simp only [D.eqv, D.py, PyData.eqv]; rfl
@[simp] theorem eqv_bl (a b : Bool) : D.eqv (.bl a) (.bl b) = (a == b) := by simp only [D.eqv, D.py, PyData.eqv]
@[simp] theorem eqv_non : D.eqv .non .non = true := by simp only [D.eqv, D.py, PyData.eqv]
@[simp] theorem eqv_intbl (i : Int) (b : Bool) : D.eqv (.int i) (.bl b) = (i == (if b then 1 else 0)) := by simp only [D.eqv, D.py, PyData.eqv]
@[simp] theorem eqv_blint (i : Int) (b : Bool) : D.eqv (.bl b) (.int i) = ((if b then 1 else 0) == i) := by simp only [D.eqv, D.py, PyData.eqv]
@[simp] theorem eqv_strint (s : List Nat) (i : Int) : D.eqv (.str s) (.int i) = false := by simp only [D.eqv, D.py, PyData.eqv]
@[simp] theorem eqv_intstr (s : List Nat) (i : Int) : D.eqv (.int i) (.str s) = false := by simp only [D.eqv, D.py, PyData.eqv]
@[simp] theorem eqv_strbl (s : List Nat) (i : Bool) : D.eqv (.str s) (.bl i) = false := by simp only [D.eqv, D.py, PyData.eqv]
@[simp] theorem eqv_blstr (s : List Nat) (i : Bool) : D.eqv (.bl i) (.str s) = false := by simp only [D.eqv, D.py, PyData.eqv]
@[simp] theorem eqv_nonint (i : Int) : D.eqv .non (.int i) = false := by simp only [D.eqv, D.py, PyData.eqv]
@[simp] theorem eqv_intnon (i : Int) : D.eqv (.int i) .non = false := by simp only [D.eqv, D.py, PyData.eqv]
@[simp] theorem eqv_nonstr (i : List Nat) : D.eqv .non (.str i) = false := by simp only [D.eqv, D.py, PyData.eqv]
@[simp] theorem eqv_strnon (i : List Nat) : D.eqv (.str i) .non = false := by simp only [D.eqv, D.py, PyData.eqv]
@[simp] theorem eqv_nonbl (i : Bool) : D.eqv .non (.bl i) = false := by simp only [D.eqv, D.py, PyData.eqv]
@[simp] theorem eqv_blnon (i : Bool) : D.eqv (.bl i) .non = false := by simp only [D.eqv, D.py, PyData.eqv]
@[simp] theorem eqv_tupstr (ds : List D) (s : List Nat) : D.eqv (.tup ds) (.str s) = false := by simp only [D.eqv, D.py, PyData.eqv]
@[simp] theorem eqv_strtup (ds : List D) (s : List Nat) : D.eqv (.str s) (.tup ds) = false := by simp only [D.eqv, D.py, PyData.eqv]
@[simp] theorem eqv_rolstr (ds : List D) (s : List Nat) : D.eqv (.rol ds) (.str s) = false := by simp only [D.eqv, D.py, PyData.eqv]
@[simp] theorem eqv_strrol (ds : List D) (s : List Nat) : D.eqv (.str s) (.rol ds) = false := by simp only [D.eqv, D.py, PyData.eqv]
@[simp] theorem eqv_rolint (ds : List D) (s : Int) : D.eqv (.rol ds) (.int s) = false := by simp only [D.eqv, D.py, PyData.eqv]
@[simp] theorem eqv_introl (ds : List D) (s : Int) : D.eqv (.int s) (.rol ds) = false := by simp only [D.eqv, D.py, PyData.eqv]
@[simp] theorem eqv_rolbl (ds : List D) (s : Bool) : D.eqv (.rol ds) (.bl s) = false := by simp only [D.eqv, D.py, PyData.eqv]
@[simp] theorem eqv_blrol (ds : List D) (s : Bool) : D.eqv (.bl s) (.rol ds) = false := by simp only [D.eqv, D.py, PyData.eqv]
@[simp] theorem eqv_rolnon (ds : List D) : D.eqv (.rol ds) .non = false := by simp only [D.eqv, D.py, PyData.eqv]
@[simp] theorem eqv_nonrol (ds : List D) : D.eqv .non (.rol ds) = false := by simp only [D.eqv, D.py, PyData.eqv]
@[simp] theorem eqv_tupint (ds : List D) (s : Int) : D.eqv (.tup ds) (.int s) = false := by simp only [D.eqv, D.py, PyData.eqv]
@[simp] theorem eqv_inttup (ds : List D) (s : Int) : D.eqv (.int s) (.tup ds) = false := by simp only [D.eqv, D.py, PyData.eqv]
@[simp] theorem eqv_tupbl (ds : List D) (s : Bool) : D.eqv (.tup ds) (.bl s) = false := by simp only [D.eqv, D.py, PyData.eqv]
@[simp] theorem eqv_bltup (ds : List D) (s : Bool) : D.eqv (.bl s) (.tup ds) = false := by simp only [D.eqv, D.py, PyData.eqv]
@[simp] theorem eqv_tupnon (ds : List D) : D.eqv (.tup ds) .non = false := by simp only [D.eqv, D.py, PyData.eqv]
@[simp] theorem eqv_nontup (ds : List D) : D.eqv .non (.tup ds) = false := by simp only [D.eqv, D.py, PyData.eqv]
@[simp] theorem eqv_tuprol (ds es : List D) : D.eqv (.tup ds) (.rol es) = false := by simp only [D.eqv, D.py, PyData.eqv]
@[simp] theorem eqv_roltup (ds es : List D) : D.eqv (.rol es) (.tup ds) = false := by simp only [D.eqv, D.py, PyData.eqv]
def eqvs (as bs : List D) : Bool := PyData.eqvAll (D.pys as) (D.pys bs)
@[simp] theorem eqvs_nil : eqvs [] [] = true := rfl
@[simp] theorem eqvs_cons (a b : D) (as bs : List D) : eqvs (a :: as) (b :: bs) = (D.eqv a b && eqvs as bs) := by simp only [eqvs, D.pys, PyData.eqvAll, D.eqv]
@[simp] theorem eqvs_nc (b : D) (bs : List D) : eqvs [] (b :: bs) = false := by simp only [eqvs, D.pys, PyData.eqvAll]
@[simp] theorem eqvs_cn (b : D) (bs : List D) : eqvs (b :: bs) [] = false := by simp only [eqvs, D.pys, PyData.eqvAll]
@[simp] theorem eqv_tup (as bs : List D) : D.eqv (.tup as) (.tup bs) = eqvs as bs := by simp only [eqvs, D.eqv, D.py, PyData.eqv]
@[simp] theorem eqv_rol (as bs : List D) : D.eqv (.rol as) (.rol bs) = eqvs as bs := by simp only [eqvs, D.eqv, D.py, PyData.eqv]
@[simp] theorem eqv_lst (as bs : List D) : D.eqv (.lst as) (.lst bs) = eqvs as bs := by simp only [eqvs, D.eqv, D.py, PyData.eqv]
/-- texts written out -/
theorem toNat_inj {a b : Char} (h : a.toNat = b.toNat) : a = b := by
  apply Char.ext
  exact UInt32.toNat_inj.mp h
@[simp] theorem lit_inj (s t : String) : (lit s = lit t) ↔ s = t := by
  constructor
  · intro h
    rw [lit_eq, lit_eq] at h
    have : s.toList = t.toList := by
      generalize s.toList = a at h ⊢
      generalize t.toList = b at h ⊢
      induction a generalizing b with
      | nil => cases b with
        | nil => rfl
        | cons y b => simp at h
      | cons x a ih => cases b with
        | nil => simp at h
        | cons y b =>
          simp only [List.map_cons, List.cons.injEq] at h
          rw [toNat_inj h.1, ih _ h.2]
    exact String.toList_inj.mp this
  · intro h; rw [h]
/-! ### isinstance -/
def isTup : D → Bool
  | .tup _ => true
  | _ => false
theorem w0_isTup {d : D} {Q : D → Prop} (h : (tyName d).isSome = true) (q : Q (.bl (isTup d))) : w0 (fIsi [d, .raw (.ty "tuple")]) Q := by
  refine w0_of ?_ q
  cases d <;> first | rfl | (exact nomatch h)
def isLstD : D → Bool
  | .lst _ => true
  | .rol _ => true
  | _ => false
theorem w0_isLstD {d : D} {Q : D → Prop} (h : (tyName d).isSome = true) (q : Q (.bl (isLstD d))) : w0 (fIsi [d, .raw (.ty "list")]) Q := by
  refine w0_of ?_ q
  cases d <;> first | rfl | (exact nomatch h)
def isBl : D → Bool
  | .bl _ => true
  | _ => false
theorem w0_isBl {d : D} {Q : D → Prop} (h : (tyName d).isSome = true) (q : Q (.bl (isBl d))) : w0 (fIsi [d, .raw (.ty "bool")]) Q := by
  refine w0_of ?_ q
  cases d <;> first | rfl | (exact nomatch h)
def isStr : D → Bool
  | .str _ => true
  | _ => false
theorem w0_isStr {d : D} {Q : D → Prop} (h : (tyName d).isSome = true) (q : Q (.bl (isStr d))) : w0 (fIsi [d, .raw (.ty "str")]) Q := by
  refine w0_of ?_ q
  cases d <;> first | rfl | (exact nomatch h)
def isInt : D → Bool
  | .int _ => true
  | .bl _ => true
  | _ => false
theorem w0_isInt {d : D} {Q : D → Prop} (h : (tyName d).isSome = true) (q : Q (.bl (isInt d))) : w0 (fIsi [d, .raw (.ty "int")]) Q := by
  refine w0_of ?_ q
  cases d <;> first | rfl | (exact nomatch h)
/-! ### plain trees: None, truth values, ints, texts, tuples of these -/
def pt : Nat → D → Bool
  | 0, d => match d with
    | .non => true
    | .bl _ => true
    | .int _ => true
    | .str _ => true
    | _ => false
  | n + 1, d => match d with
    | .non => true
    | .bl _ => true
    | .int _ => true
    | .str _ => true
    | .tup ds => decide (ds.length ≤ 1000) && ds.all (pt n)
    | _ => false
@[simp] theorem pt_non (n : Nat) : pt n .non = true := by cases n <;> rfl
@[simp] theorem pt_bl (n : Nat) (b : Bool) : pt n (.bl b) = true := by cases n <;> rfl
@[simp] theorem pt_int (n : Nat) (i : Int) : pt n (.int i) = true := by cases n <;> rfl
@[simp] theorem pt_str (n : Nat) (s : List Nat) : pt n (.str s) = true := by cases n <;> rfl
@[simp] theorem pt_tup (n : Nat) (ds : List D) : pt (n + 1) (.tup ds) = (decide (ds.length ≤ 1000) && ds.all (pt n)) := rfl
theorem pt_tup_iff {n : Nat} {ds : List D} : pt (n + 1) (.tup ds) = true ↔ ds.length ≤ 1000 ∧ ∀ x ∈ ds, pt n x = true := by
  rw [pt_tup, Bool.and_eq_true, decide_eq_true_iff, List.all_eq_true]
@[simp] theorem pt_tup0 (ds : List D) : pt 0 (.tup ds) = false := rfl
@[simp] theorem pt_lst (n : Nat) (ds : List D) : pt n (.lst ds) = false := by cases n <;> rfl
@[simp] theorem pt_rol (n : Nat) (ds : List D) : pt n (.rol ds) = false := by cases n <;> rfl
@[simp] theorem pt_dct (n : Nat) (ds : List (D × D)) : pt n (.dct ds) = false := by cases n <;> rfl
@[simp] theorem pt_rdc (n : Nat) (ds : List (D × D)) : pt n (.rdc ds) = false := by cases n <;> rfl
@[simp] theorem pt_ins (n : Nat) (c : Str) (ds : List (Str × D)) : pt n (.ins c ds) = false := by cases n <;> rfl
@[simp] theorem pt_raw (n : Nat) (v : V) : pt n (.raw v) = false := by cases n <;> rfl
theorem pt_up : ∀ {n m : Nat} {d : D}, pt n d = true → n ≤ m → pt m d = true
  | 0, m, d, h, _ => by cases d <;> simp_all
  | n + 1, 0, d, h, hl => by omega
  | n + 1, m + 1, d, h, hl => by
    cases d with
    | tup ds =>
      have h' := pt_tup_iff.mp h
      exact pt_tup_iff.mpr ⟨h'.1, fun x hx => pt_up (h'.2 x hx) (by omega)⟩
    | _ => simp_all
theorem pt_imm : ∀ {n : Nat} {d : D}, pt n d = true → imm d = true
  | 0, d, h => by cases d <;> simp_all [imm]
  | n + 1, d, h => by
    cases d with
    | tup ds =>
      simp only [imm, imms_all]
      exact List.all_eq_true.mpr fun x hx => pt_imm (n := n) ((pt_tup_iff.mp h).2 x hx)
    | _ => simp_all [imm]
theorem pt_sh : ∀ {n : Nat} {d : D}, pt n d = true → sh n d = true
  | 0, d, h => by cases d <;> simp_all
  | n + 1, d, h => by
    cases d with
    | tup ds => exact List.all_eq_true.mpr fun x hx => pt_sh (n := n) ((pt_tup_iff.mp h).2 x hx)
    | _ => simp_all
theorem sh_up : ∀ {n m : Nat} {d : D}, sh n d = true → n ≤ m → sh m d = true := fun {n m d} h hl => by
  obtain ⟨k, rfl⟩ := Nat.le.dest hl
  clear hl
  induction k with
  | zero => exact h
  | succ k ih => exact sh_mono ih
/-! ### digits -/
theorem lit_len (s : String) : (lit s).length = s.length := by rw [lit_eq, List.length_map, String.length_toList]
theorem lit_app (s t : String) : lit (s ++ t) = lit s ++ lit t := by rw [lit_eq, lit_eq, lit_eq, String.toList_append, List.map_append]
theorem toStr_nat (m : Nat) : toString (Int.ofNat m) = m.repr := rfl
theorem toStr_neg (m : Nat) : toString (Int.negSucc m) = "-" ++ (m + 1).repr := rfl
theorem toStr_len {n : Int} (h : n.natAbs < 10 ^ 20) : (lit (toString n)).length ≤ 21 := by
  rw [lit_len]
  cases n with
  | ofNat m =>
    rw [toStr_nat]
    have := (Nat.length_repr_le_iff (n := m) (k := 20) (by decide)).mpr h
    omega
  | negSucc m =>
    rw [toStr_neg, String.length_append]
    have := (Nat.length_repr_le_iff (n := m + 1) (k := 20) (by decide)).mpr h
    have : ("-" : String).length = 1 := rfl
    omega
theorem toStr_minus {n : Int} (h : n < 0) : lit "-" ++ lit (toString (-n)) = lit (toString n) := by
  cases n with
  | ofNat m => exact absurd h (by simp)
  | negSucc m => rw [toStr_neg, lit_app]; rfl
theorem w0_strI {n : Int} {Q : D → Prop} (h : -18446744073709551616 < n ∧ n < 18446744073709551616) (q : Q (.str (lit (toString n)))) : w0 (fStr [.int n]) Q :=
  w0_of (show (if big64 n = true then some (D.str (lit (toString n))) else none) = _ by rw [if_pos (big64_of h)]) q
theorem w0_eqD {a b : D} {Q : D → Prop} (h : sh 40 a = true) (h1 : sh 40 b = true) (q : Q (.bl (D.eqv a b))) : w0 (fEq a b) Q :=
  w0_of (show (if sh 40 a = true ∧ sh 40 b = true then some (D.bl (D.eqv a b)) else none) = _ by rw [if_pos ⟨h, h1⟩]) q
theorem w0_neD {a b : D} {Q : D → Prop} (h : sh 40 a = true) (h1 : sh 40 b = true) (q : Q (.bl (!D.eqv a b))) : w0 (fNe a b) Q :=
  w0_of (show (if sh 40 a = true ∧ sh 40 b = true then some (D.bl (!D.eqv a b)) else none) = _ by rw [if_pos ⟨h, h1⟩]) q
end Mir

namespace Mir
open PySem PySem.Spec L2
/-! ### the changed arguments -/
theorem w0_outs1 {d0 a : D} {e : E} {j : D} {Q : List D → Prop} (h : e[0]? = some (some j)) (hi : imm a = true) (q : Q [j, a]) : w0 (outsOf (fun i => i == 0) 0 [d0, a] e) Q := by
  refine w0_of ?_ q
  have h1 : ∀ e', outsOf (fun i => i == 0) 1 [a] e' = some [a] := fun e' => by
    show (if false = true then _ else if imm a = true then (outsOf (fun i => i == 0) 2 [] e').map (a :: ·) else none) = _
    rw [if_neg (by decide), if_pos hi]
    rfl
  show (if true = true then (match e[0]? with
    | some (some d') => (outsOf (fun i => i == 0) 1 [a] (e.set 0 none)).map (d' :: ·)
    | _ => none) else _) = _
  rw [if_pos rfl, h]
  simp only [h1, Option.map_some]
end Mir

namespace Mir
open PySem PySem.Spec L2

/-! ### errors of the program's own classes, without fields -/
abbrev veBase : List Value := [.type "ValueError", .type "Exception", .type "BaseException", .type "object"]
/-- what is known of such a class -/
structure ExcAt (K : PySem.W.Frag) (mg : Str → Option Value) (x : Str) : Prop where
  gm : mg x = some (.ref (He.ga K x))
  kp : PySem.W.keepIn K (.ref (He.ga K x)) = true
  ex : PySem.W.excIn K (He.ga K x) veBase "ValueError.__new__" = true
  sb : PySem.W.subIn K (.ref (He.ga K x)) (.type "BaseException") = some true
  ty : PySem.W.typeIn K (.ref (He.ga K x)) = some (.type "type")
  ec : ExcC K (He.ga K x)
/-- a class that is asked for -/
structure ClsAt (K : PySem.W.Frag) (mg : Str → Option Value) (t : Str) (c : Value) : Prop where
  at_ : (mg t = some c ∧ ∃ A, c = .ref A) ∨ (mg t = none ∧ ∃ n, c = .type n ∧ bootBuiltins t = some (.type n))
def mRaise (c : Str) : MS := fun e => .exc ⟨c, []⟩ e
section
variable {X : Cx} {W : WX} {Z : Zs}
theorem m_raise {x m : Str} {j : Nat} {p p2 p3 pos : Pos} (h : ExcAt X.K X.mg x) (hc : X.calm = true) (tk : Takes X W) (hg : Gl X x := by rfl) (hdb : (x == ("__debug__" : Str)) = false := by decide) :
    PS X (.Raise (some (.Call (.Name x p) [.Constant (.str m) j p2] [] p3)) none pos) (tM X.K W Z (mRaise x)) :=
  PS.mono (ps_raise hc tk (pmk_own PySem.F.excBase_ValueError h.ex h.gm h.kp (raises_own h.sb h.ty) hg hdb)) fun D σ H ⟨e, F, r, nd, q⟩ =>
    q _ none σ H F (Ev.refl r nd) (Fz.refl _ _) ⟨rfl, .inl ⟨rfl, rfl⟩⟩
end
/-! ### try .. except X as n -/
open Classical in
noncomputable def pick (f : Addr → SR) : SR := if h : ∃ r, ∀ a, f a = r then h.choose else .bad
theorem pick_eq {f : Addr → SR} {r : SR} (h : ∀ a, f a = r) : pick f = r := by
  unfold pick
  rw [dif_pos ⟨r, h⟩]
  exact ((Exists.choose_spec (p := fun r => ∀ a, f a = r) ⟨r, h⟩) 0).symm.trans (h 0)
def clr (i : Nat) : SR → SR
  | .nx e => .nx (e.set i none)
  | .rt d e => .rt d (e.set i none)
  | .bk e => .bk (e.set i none)
  | .ct e => .ct (e.set i none)
  | _ => .bad
noncomputable def mTryAs (cat : Str → Option Bool) (i : Nat) (b : MS) (s : Str → Addr → MS) : MS := fun e => match b e with
  | .exc x e1 => if x.fs = [] then (match cat x.cls with
      | some true => pick fun a => clr i (s x.cls a (e1.set i (some (.raw (.ref a)))))
      | some false => .exc x e1
      | none => .bad) else .bad
  | r => r
theorem RelS.setN {K : PySem.W.Frag} {H : Hp} {σ : L2.St} {e : E} {F : List Addr} (r : RelS K H σ e F) : ∀ (i : Nat) (y : Option V), e[i]? = some none ∨ e[i]? = none → RelS K H (σ.set i y) e F := by
  induction r with
  | nil => intro i y h; exact .nil
  | no r ih =>
    intro i y h
    cases i with
    | zero => exact .no r
    | succ i => exact .no (ih i y (by simpa using h))
  | so p r ih =>
    intro i y h
    cases i with
    | zero => simp at h
    | succ i => exact .so p (ih i y (by simpa using h))
theorem Ev.clear {K : PySem.W.Frag} {H H1 : Hp} {σ1 : L2.St} {e1 : E} {F F1 : List Addr} (x : Ev K F H σ1 H1 e1 F1) (i : Nat) : ∃ F2, Ev K F H (σ1.set i none) H1 (e1.set i none) F2 := by
  obtain ⟨F0, G, r0, pm⟩ := x.r.drop i
  have nd := pm.nodup_iff.mp x.nd
  have r1 := r0.setN i none (by
    by_cases z : i < e1.length
    · exact .inl (by simp [List.getElem?_set, z])
    · exact .inr (by simp; omega))
  exact ⟨F0, x.k, r1, (List.nodup_append.mp nd).2.1, fun a m => x.new a (pm.mem_iff.mpr (List.mem_append_right _ m))⟩
theorem Ev.clear1 {K : PySem.W.Frag} {H H1 : Hp} {σ1 : L2.St} {e1 : E} {v : V} {d : D} {F F1 : List Addr} (x : Ev K F H (some v :: σ1) H1 (some d :: e1) F1) (i : Nat) : ∃ F2, Ev K F H (some v :: σ1.set i none) H1 (some d :: e1.set i none) F2 := x.clear (i + 1)
section
variable {X : Cx} {W : WX} {Z : Zs}
theorem m_tryAs {x n : Str} {c : Value} {i : Nat} {body suite : List Stmt} {b₀ : Stmt} {np pos pos' : Pos} {cat : Str → Option Bool} {mb : MS} {ms : Str → Addr → MS}
    (hs : X.stack = X.env :: X.outer) (hf : X.env.frame = some X.env.locals) (hN : X.N.Nodup) (hc : Names X x c) (tk : Takes X W)
    (hcat : ∀ y b, cat y = some b → PySem.W.exmOne X.K (.ref (He.ga X.K y)) c = some b)
    (hb : ∀ (W : WX) (pn : List (Addr × Obj)) (xe : Value → Shared → Prop), Takes (X.tr pn xe) W → PassesOwn (model X.prog X.w) X.A X.env xe → PSs (X.tr pn xe) body (tM X.K W Z mb))
    (hsu : ∀ (a : Addr) (oe : Obj) (y : Str) (pn : List (Addr × Obj)), cat y = some true → Zc (.ref (He.ga X.K y)) none oe → (∃ vs, oe.data = .fields vs) → PSs (X.suite a ((a, oe) :: pn)) (b₀ :: suite) (tM X.K wF Z (ms y a)))
    (hz : Z i = false := by rfl) (hi : X.N[i]? = some n := by rfl) (hln : X.env.kindOf n = some .local := by rfl) :
    PS X (.Try body [.ExceptHandler (some (.Name x np)) (some n) (b₀ :: suite) pos'] [] [] pos) (tM X.K W Z (mTryAs cat i mb ms)) := by
  refine PS.mono (ps_try_as (i := i) (tb := fun W => tM X.K W Z mb) (ts := fun a cls d D σ H => ∃ y : Str, cat y = some true ∧ cls = .ref (He.ga X.K y) ∧ d = none ∧ tM X.K wF Z (ms y a) D σ H) hs hf hN hi hln hc tk hb (fun a oe cls d pn z1 z2 => ?_)) fun D σ H ⟨e, F, r, nd, h⟩ => ?_
  · refine ⟨fun pins s σ H D I ⟨y, e0, e1, e2, q⟩ => ?_⟩
    subst e1 e2
    exact (hsu a oe y pn e0 z1 z2).run pins s σ H D I q
  · refine ⟨e, F, r, nd, ?_⟩
    unfold mTryAs at h
    cases qb : mb e with
    | nx e1 => rw [qb] at h; exact h
    | rt d e1 => rw [qb] at h; exact h
    | bk e1 => rw [qb] at h; exact h
    | ct e1 => rw [qb] at h; exact h
    | bad => rw [qb] at h; exact h
    | exc y e1 =>
      rw [qb] at h
      simp only at h
      by_cases hy : y.fs = []
      · rw [if_pos hy] at h
        intro c' dx σ' H' F' ev fz rp
        have hd : dx = none := by
          rcases rp.fs with ⟨_, z⟩ | ⟨d, vs, z, _⟩
          · exact z
          · exact absurd hy z
        cases qc : cat y.cls with
        | none => rw [qc] at h; exact h.elim
        | some b =>
          rw [qc] at h
          refine ⟨b, by rw [rp.cls]; exact hcat _ _ qc, fun hb1 a ha => ⟨y.cls, by rw [qc, hb1], rp.cls, hd, ?_⟩, fun hb0 => ?_⟩
          · subst hb1
            simp only at h
            obtain ⟨F3, ev3⟩ := (ev.cons (v := .ref a) (d := .raw (.ref a)) (G := []) .raw (fun _ m => by cases m) .nil (fun _ m => by cases m)).put i
            have hl : σ'.length = σ.length := fz.1
            refine tM_next ev3 (fz.trans ⟨List.length_set, fun j m => List.getElem?_set_ne (fun z => by rw [z] at hz; rw [hz] at m; cases m)⟩) ?_
            by_cases hp : ∃ r, ∀ a, clr i (ms y.cls a (e1.set i (some (.raw (.ref a))))) = r
            · obtain ⟨r, hr⟩ := hp
              rw [pick_eq hr, ← hr a] at h
              have fzN : ∀ {σ' : L2.St}, Fz Z σ σ' → Fz Z σ (σ'.set i none) := fun z => z.trans ⟨List.length_set, fun j m => List.getElem?_set_ne (fun z => by rw [z] at hz; rw [hz] at m; cases m)⟩
              cases qs : ms y.cls a (e1.set i (some (.raw (.ref a)))) with
              | nx e2 => rw [qs] at h; exact fun σ2 H2 F2 x z => by obtain ⟨F4, x'⟩ := x.clear i; exact h _ _ _ x' (fzN z)
              | rt d e2 => rw [qs] at h; exact fun v σ2 H2 F2 x z => by obtain ⟨F4, x'⟩ := x.clear1 i; exact h _ _ _ _ x' (fzN z)
              | bk e2 => rw [qs] at h; exact fun σ2 H2 F2 x z => by obtain ⟨F4, x'⟩ := x.clear i; exact h _ _ _ x' (fzN z)
              | ct e2 => rw [qs] at h; exact fun σ2 H2 F2 x z => by obtain ⟨F4, x'⟩ := x.clear i; exact h _ _ _ x' (fzN z)
              | exc z e2 => rw [qs] at h; exact h.elim
              | bad => rw [qs] at h; exact h.elim
            · unfold pick at h
              rw [dif_neg hp] at h
              exact h.elim
          · subst hb0
            simp only at h
            exact h c' dx σ' H' F' ev fz rp
      · rw [if_neg hy] at h; exact h.elim
end
/-- isinstance(e, T), e the error that the suite holds -/
def isX (i : Nat) (a : Addr) (b : Option Bool) : MB := fun e => match e[i]?, b with
  | some (some (.raw (.ref a'))), some b => if a' = a then .ok (.bl b) else .bad
  | _, _ => .bad
theorem isX_B {K : PySem.W.Frag} {W : WX} {i : Nat} {a : Addr} {c : V} {cv : Value} {b : Option Bool} {D : Addr} (hcv : ∀ u, RelV c u → u = cv) (hk : ∀ k, b = some k → PySem.W.kitOne K (.ref D) cv = some k) {σ : L2.St} {H : Hp} {Q : VK}
    (h : tN K W (isX i a b) σ H Q) : tCB (rIsE K D a) (tCons (tVar i) (tCons (tC c) tNil)) σ H Q := by
  obtain ⟨e, F, r, h⟩ := h
  cases b with
  | none =>
    have q : isX i a none e = .bad := by unfold isX; split <;> first | rfl | (rename_i z; cases z)
    rw [q] at h; exact h.elim
  | some k =>
    by_cases he : e[i]? = some (some (.raw (.ref a)))
    · have q : isX i a (some k) e = .ok (.bl k) := by unfold isX; rw [he]; exact if_pos rfl
      rw [q] at h
      obtain ⟨v, G, h1, h2, _⟩ := r.get he
      cases h2
      exact ⟨_, h1, c, cv, k, rfl, hcv, hk k rfl, h _ _ [] (.refl _ _) .bl .nil (fun _ m => by cases m)⟩
    · have q : isX i a (some k) e = .bad := by
        unfold isX
        split
        · rename_i a' k' he' hb'
          rw [if_neg]
          intro z
          subst z
          exact he he'
        · rfl
      rw [q] at h; exact h.elim
section
variable {X : Cx} {W : WX} {a D : Addr} {oe : Obj} {pn : List (Addr × Obj)} {n t : Str} {p p1 p2 pos : Pos} {i : Nat} {b : Option Bool}
theorem x_isX {A : Addr} (C : ExcC X.K D) (hz : Zc (.ref D) none oe) (hf : ∃ vs, oe.data = .fields vs) (hmI : X.mg "isinstance" = none) (hm : X.mg t = some (.ref A)) (hk : ∀ k, b = some k → PySem.W.kitOne X.K (.ref D) (.ref A) = some k)
    (hgI : Gl (X.suite a ((a, oe) :: pn)) "isinstance" := by rfl) (hg : Gl (X.suite a ((a, oe) :: pn)) t := by rfl) (hN : (X.suite a ((a, oe) :: pn)).N[i]? = some n := by rfl) (hv : Vis (X.suite a ((a, oe) :: pn)).env.scope n := by first | exact Or.inl rfl | exact Or.inr (Or.inl rfl) | exact Or.inr (Or.inr rfl))
    (hd : (n == ("__debug__" : Str)) = false := by decide) (hdt : (t == ("__debug__" : Str)) = false := by decide) (hcd : (n == ("__classdict__" : Str)) = false := by decide) :
    PE (X.suite a ((a, oe) :: pn)) (.Call (.Name "isinstance" p) [.Name n p1, .Name t p2] [] pos) (tN X.K W (isX i a b)) :=
  PE.mono (pe_callB (call_isE C hz hf) hgI hmI bb_isinstance (pa_cons (pv i hN hv hd hcd) (pa_cons (pe_glob (v := .ref A) hg hm rfl hdt) pa_nil)) (by decide) (by decide) (by rfl) (by rfl)) fun _ _ _ => isX_B (c := .ref A) (cv := .ref A) (fun u r => r) hk
theorem x_isXb {m : String} (C : ExcC X.K D) (hz : Zc (.ref D) none oe) (hf : ∃ vs, oe.data = .fields vs) (hmI : X.mg "isinstance" = none) (hm : X.mg t = none) (hb : bootBuiltins t = some (.type m)) (hk : ∀ k, b = some k → PySem.W.kitOne X.K (.ref D) (.type m) = some k)
    (hgI : Gl (X.suite a ((a, oe) :: pn)) "isinstance" := by rfl) (hg : Gl (X.suite a ((a, oe) :: pn)) t := by rfl) (hN : (X.suite a ((a, oe) :: pn)).N[i]? = some n := by rfl) (hv : Vis (X.suite a ((a, oe) :: pn)).env.scope n := by first | exact Or.inl rfl | exact Or.inr (Or.inl rfl) | exact Or.inr (Or.inr rfl))
    (hd : (n == ("__debug__" : Str)) = false := by decide) (hdt : (t == ("__debug__" : Str)) = false := by decide) (hcd : (n == ("__classdict__" : Str)) = false := by decide) (hnn : t ≠ "__name__" := by decide) :
    PE (X.suite a ((a, oe) :: pn)) (.Call (.Name "isinstance" p) [.Name n p1, .Name t p2] [] pos) (tN X.K W (isX i a b)) :=
  PE.mono (pe_callB (call_isE C hz hf) hgI hmI bb_isinstance (pa_cons (pv i hN hv hd hcd) (pa_cons (pe_bltn (v := .ty m) hg hm hb rfl hnn hdt) pa_nil)) (by decide) (by decide) (by rfl) (by rfl)) fun _ _ _ => isX_B (c := .ty m) (cv := .type m) (fun u r => r) hk
end
end Mir

namespace Mir
open PySem PySem.Spec L2

/-! ### dicts whose keys are texts or numbers; their values can't change -/
def keyEq : D → D → Bool
  | .int i, .int j => decide (i = j)
  | .str s, .str t => decide (s = t)
  | _, _ => false
def isKey : D → Bool
  | .int _ => true
  | .str _ => true
  | _ => false
def dgetD (ds : List (D × D)) (k : D) : Option D := (ds.find? fun p => keyEq p.1 k).map (·.2)
theorem str_eq {x y : Str} (h : x.cps.toList = y.cps.toList) : x = y := by
  cases x; cases y
  simpa using h
theorem keyEq_kD (a b : Key) : keyEq (kD a) (kD b) = decide (a = b) := by
  cases a <;> cases b
  · simp [kD, keyEq]
  · simp [kD, keyEq]
  · simp [kD, keyEq]
  · rename_i x y
    simp only [kD, keyEq]
    by_cases z : x = y
    · subst z; simp
    · rw [decide_eq_false (fun w => z (str_eq w)), decide_eq_false (fun w => z (Sum.inr.inj w))]
theorem dget_ok {K : PySem.W.Frag} {H : Hp} (key : Key) : ∀ {kvs : List (Key × V)} {ds : List (D × D)}, kvs.map (fun p => kD p.1) = ds.map (·.1) → Rps K H (kvs.map (·.2)) (ds.map (·.2)) [] →
    (∃ v d, valV kvs key = some v ∧ dgetD ds (kD key) = some d ∧ Rp K H v d []) ∨ (valV kvs key = none ∧ dgetD ds (kD key) = none)
  | [], [], _, _ => .inr ⟨rfl, rfl⟩
  | [], _ :: _, h, _ => by simp at h
  | _ :: _, [], h, _ => by simp at h
  | kv :: kvs, d :: ds, h, r => by
    simp only [List.map_cons, List.cons.injEq] at h r
    generalize hF : ([] : List Addr) = F at r
    cases r with
    | cons p r =>
      obtain ⟨e1, e2⟩ := List.append_eq_nil_iff.mp hF.symm
      subst e1 e2
      by_cases z : kv.1 = key
      · refine .inl ⟨kv.2, d.2, valV_pos z, ?_, p⟩
        unfold dgetD
        rw [List.find?_cons, ← h.1, z, keyEq_kD, decide_eq_true rfl] <;> rfl
      · have e : dgetD (d :: ds) (kD key) = dgetD ds (kD key) := by
          unfold dgetD
          rw [List.find?_cons, ← h.1, keyEq_kD, decide_eq_false z]
        rw [valV_neg z, e]
        exact dget_ok key h.2 r
def fDIn : D → D → Option D
  | k, .dct ds => if isKey k = true then some (.bl (dgetD ds k).isSome) else none
  | k, .rdc ds => if isKey k = true then some (.bl (dgetD ds k).isSome) else none
  | _, _ => none
def fDNotIn : D → D → Option D
  | k, .dct ds => if isKey k = true then some (.bl (!(dgetD ds k).isSome)) else none
  | k, .rdc ds => if isKey k = true then some (.bl (!(dgetD ds k).isSome)) else none
  | _, _ => none
def fDGet : D → D → Option D
  | .dct ds, k => if isKey k = true then dgetD ds k else none
  | .rdc ds, k => if isKey k = true then dgetD ds k else none
  | _, _ => none
theorem key_of {K : PySem.W.Frag} {H : Hp} {v : V} {k : D} {G : List Addr} (p : Rp K H v k G) (h : isKey k = true) : ∃ key : Key, v = kV key ∧ k = kD key := by
  cases p with
  | int => exact ⟨.inl _, rfl, rfl⟩
  | str h => exact ⟨.inr _, rfl, rfl⟩
  | _ => simp [isKey] at h
theorem DGet.rk {H : Hp} {a : Addr} {kvs : List (Key × V)} {k : Key} (e : ∃ o, H a = some (.frz o (.dK kvs))) : DGet H a (kV k) (valV kvs k) := .inl ⟨kvs, k, .inr e, rfl, rfl⟩
abbrev rDIn : R2 := fun y x H Q => ∃ a o, x = .ref a ∧ DGet H a y o ∧ Q (.bl o.isSome) H
abbrev rDNotIn : R2 := fun y x H Q => ∃ a o, x = .ref a ∧ DGet H a y o ∧ Q (.bl (!o.isSome)) H
abbrev rDGet : R2 := fun x y H Q => ∃ a v, x = .ref a ∧ DGet H a y (some v) ∧ Q v H
theorem n_din {K : PySem.W.Frag} : OpN K rDIn fDIn := by
  intro H v1 v2 d1 d2 G1 G2 d Q p1 p2 e h
  unfold fDIn at e
  split at e
  · split at e
    · rename_i hk
      cases e
      cases p2 with
      | dct ha hc hr =>
        obtain ⟨key, ev, ek⟩ := key_of p1 hk
        subst ev ek
        refine ⟨_, _, rfl, DGet.k ha, ?_⟩
        rcases dget_ok key hc hr with ⟨v, d, e1, e2, p⟩ | ⟨e1, e2⟩
        · rw [e1]; rw [e2] at h; exact h _ _ [] (.refl _ _) .bl .nil fun _ m => by cases m
        · rw [e1]; rw [e2] at h; exact h _ _ [] (.refl _ _) .bl .nil fun _ m => by cases m
    · cases e
  · split at e
    · rename_i hk
      cases e
      cases p2 with
      | rdc ha hc hr =>
        obtain ⟨key, ev, ek⟩ := key_of p1 hk
        subst ev ek
        refine ⟨_, _, rfl, DGet.rk ha, ?_⟩
        rcases dget_ok key hc hr with ⟨v, d, e1, e2, p⟩ | ⟨e1, e2⟩
        · rw [e1]; rw [e2] at h; exact h _ _ [] (.refl _ _) .bl .nil fun _ m => by cases m
        · rw [e1]; rw [e2] at h; exact h _ _ [] (.refl _ _) .bl .nil fun _ m => by cases m
    · cases e
  · cases e
theorem n_dnotin {K : PySem.W.Frag} : OpN K rDNotIn fDNotIn := by
  intro H v1 v2 d1 d2 G1 G2 d Q p1 p2 e h
  unfold fDNotIn at e
  split at e
  · split at e
    · rename_i hk
      cases e
      cases p2 with
      | dct ha hc hr =>
        obtain ⟨key, ev, ek⟩ := key_of p1 hk
        subst ev ek
        refine ⟨_, _, rfl, DGet.k ha, ?_⟩
        rcases dget_ok key hc hr with ⟨v, d, e1, e2, p⟩ | ⟨e1, e2⟩
        · rw [e1]; rw [e2] at h; exact h _ _ [] (.refl _ _) .bl .nil fun _ m => by cases m
        · rw [e1]; rw [e2] at h; exact h _ _ [] (.refl _ _) .bl .nil fun _ m => by cases m
    · cases e
  · split at e
    · rename_i hk
      cases e
      cases p2 with
      | rdc ha hc hr =>
        obtain ⟨key, ev, ek⟩ := key_of p1 hk
        subst ev ek
        refine ⟨_, _, rfl, DGet.rk ha, ?_⟩
        rcases dget_ok key hc hr with ⟨v, d, e1, e2, p⟩ | ⟨e1, e2⟩
        · rw [e1]; rw [e2] at h; exact h _ _ [] (.refl _ _) .bl .nil fun _ m => by cases m
        · rw [e1]; rw [e2] at h; exact h _ _ [] (.refl _ _) .bl .nil fun _ m => by cases m
    · cases e
  · cases e
theorem n_dget {K : PySem.W.Frag} : OpN K rDGet fDGet := by
  intro H v1 v2 d1 d2 G1 G2 d Q p1 p2 e h
  unfold fDGet at e
  split at e
  · split at e
    · rename_i hk
      cases p1 with
      | dct ha hc hr =>
        obtain ⟨key, ev, ek⟩ := key_of p2 hk
        subst ev ek
        rcases dget_ok key hc hr with ⟨v, d', e1, e2, p⟩ | ⟨e1, e2⟩
        · rw [e2] at e; cases e
          exact ⟨_, v, rfl, by rw [← e1]; exact DGet.k ha, h _ _ [] (.refl _ _) p .nil fun _ m => by cases m⟩
        · rw [e2] at e; cases e
    · cases e
  · split at e
    · rename_i hk
      cases p1 with
      | rdc ha hc hr =>
        obtain ⟨key, ev, ek⟩ := key_of p2 hk
        subst ev ek
        rcases dget_ok key hc hr with ⟨v, d', e1, e2, p⟩ | ⟨e1, e2⟩
        · rw [e2] at e; cases e
          exact ⟨_, v, rfl, by rw [← e1]; exact DGet.rk ha, h _ _ [] (.refl _ _) p .nil fun _ m => by cases m⟩
        · rw [e2] at e; cases e
    · cases e
  · cases e
section
variable {X : Cx} {W : WX} {a b : Expr} {ma mb : MB} {pos : Pos}
theorem x_din (hu : X.A.units + 1 < cLine) (pa : PE X a (tB X.K W ma)) (pb : PE X b (tB X.K W mb)) (h1 : behindInMarks .In b = false := by rfl) :
    PE X (.Compare a [.In] [b] pos) (tN X.K W (bin fDIn ma mb)) := PE.mono (pe_cmp (pc_din hu pa pb) h1) fun _ _ _ h => op_bb n_din h
theorem x_dnotin (hu : X.A.units + 1 < cLine) (pa : PE X a (tB X.K W ma)) (pb : PE X b (tB X.K W mb)) (h1 : behindInMarks .NotIn b = false := by rfl) :
    PE X (.Compare a [.NotIn] [b] pos) (tN X.K W (bin fDNotIn ma mb)) := PE.mono (pe_cmp (pc_dnotin hu pa pb) h1) fun _ _ _ h => op_bb n_dnotin h
theorem t_din (hu : X.A.units + 1 < cLine) (pa : PE X a (tB X.K W ma)) (pb : PE X b (tB X.K W mb)) (h1 : behindInMarks .In b = false := by rfl) :
    PT X (.Compare a [.In] [b] pos) (tT X.K W (tst (ofN (bin fDIn ma mb)))) := PT.mono (pt_cmp (pc_din hu pa pb) h1) fun _ _ _ h => op_bb n_din (ofN_N (tst_of h))
theorem t_dnotin (hu : X.A.units + 1 < cLine) (pa : PE X a (tB X.K W ma)) (pb : PE X b (tB X.K W mb)) (h1 : behindInMarks .NotIn b = false := by rfl) :
    PT X (.Compare a [.NotIn] [b] pos) (tT X.K W (tst (ofN (bin fDNotIn ma mb)))) := PT.mono (pt_cmp (pc_dnotin hu pa pb) h1) fun _ _ _ h => op_bb n_dnotin (ofN_N (tst_of h))
theorem x_dget (hu : X.A.units + 1 < cLine) (pa : PE X a (tB X.K W ma)) (pb : PE X b (tB X.K W mb)) (hs : NoSl b := by exact fun _ _ => rfl) :
    PE X (.Subscript a b pos) (tN X.K W (bin fDGet ma mb)) := PE.mono (pe_dget hu pa pb hs) fun _ _ _ h => op_bb n_dget h
end
/-! a written dict -/
theorem merge_nd : ∀ (more kvs : List (Key × V)), ((kvs ++ more).map (·.1)).Nodup → mergeK kvs more = kvs ++ more
  | [], kvs, _ => by simp [mergeK]
  | p :: r, kvs, h => by
    have e : putK kvs p.1 p.2 = kvs ++ [p] := by
      unfold putK
      rw [if_neg]
      intro z
      obtain ⟨q, hq, e⟩ := List.any_eq_true.mp z
      have e := of_decide_eq_true e
      rw [List.map_append, List.map_cons] at h
      exact (List.nodup_append.mp h).2.2 q.1 (List.mem_map.mpr ⟨q, hq, rfl⟩) p.1 List.mem_cons_self e
    show mergeK (putK kvs p.1 p.2) r = _
    rw [e, merge_nd r (kvs ++ [p]) (by simpa using h), List.append_assoc] <;> rfl
def mDisp (ds : List (D × D)) : MB := fun _ => .ok (.dct ds)
theorem x_disp {X : Cx} {W : WX} {pos : Pos} {keys : List (Option Expr)} {values : List Expr} {trs : List (TE × TE)} {kvs : List (Key × V)} {ds : List (D × D)} (q : PE X (.Dict keys values pos) (tDisp trs))
    (ht : ∀ σ H Q, Q (kvs.map fun kv => (kV kv.1, kv.2)) H → tPairs trs σ H Q) (nd : (kvs.map (·.1)).Nodup) (hl : kvs.length ≤ 15) (hk : kvs.map (fun p => kD p.1) = ds.map (·.1)) (hv : ∀ H, Rps X.K H (kvs.map (·.2)) (ds.map (·.2)) []) :
    PE X (.Dict keys values pos) (tN X.K W (mDisp ds)) := PE.mono q fun σ H Q ⟨e, F, r, h⟩ => by
  intro p hp
  refine ht _ _ _ ⟨upd_same, kvs, rfl, hl, ?_⟩
  have e1 : mergeK [] kvs = kvs := merge_nd kvs [] (by simpa using nd)
  rw [e1]
  refine h _ _ [p] (fun a o ha _ => ?_) (.dct upd_same hk (hv _)) (by simp) (fun a m => by rw [List.mem_singleton.mp m]; exact hp)
  have : a ≠ p := fun z => by subst z; rw [hp] at ha; cases ha
  rw [upd_ne this, upd_ne this]; exact ha
/-! ### methods of a text with one text -/
def smB (f : D → D → Option D) (ma mb : MB) : MB := fun e => (ma e).bind fun a => match mb e with
  | .ok b => .of (f a b)
  | _ => .bad
theorem op_m1 {K : PySem.W.Frag} {W : WX} {r : V → List V → Hp → VK → Prop} {f : D → D → Option D} {ma mb : MB} {σ : L2.St} {H : Hp} {Q : VK} (o : OpN K (fun x y H Q => (∃ a, x = .str a) ∧ r x [y] H Q) f)
    (hs : ∀ a b d, f a b = some d → ∃ s, a = .str s) (h : tN K W (smB f ma mb) σ H Q) : tM1 r (tB K W ma) (tB K W mb) σ H Q := by
  obtain ⟨e, F, rl, h⟩ := h
  unfold smB at h
  refine ⟨e, F, rl, ?_⟩
  cases qa : ma e with
  | bad => rw [qa] at h; exact h
  | exc y => rw [qa] at h; exact h
  | ok a =>
    rw [qa] at h
    intro v1 H1 G1 k1 p1
    simp only [Rs.bind] at h
    cases qb : mb e with
    | bad => rw [qb] at h; exact h.elim
    | exc y => rw [qb] at h; exact h.elim
    | ok b =>
      rw [qb] at h
      simp only at h
      cases qf : f a b with
      | none => rw [qf] at h; exact h.elim
      | some d =>
        rw [qf] at h
        obtain ⟨s, rfl⟩ := hs _ _ _ qf
        cases p1 with
        | str hx =>
        refine ⟨⟨_, rfl⟩, e, F, rl.same k1, ?_⟩
        rw [qb]
        intro v2 H2 G2 k2 p2
        have k12 : Keeps [] H H2 := k1.trans k2 fun _ m => by cases m
        exact (o (.str hx) p2 qf fun v H' G k p n1 n2 => h v H' G (k12.trans k fun _ m => by cases m) p n1 fun z m => k12.none (n2 z m) fun m => by cases m).2
def sOf (s : List Nat) : Str := ⟨s.toArray⟩
theorem sOf_cps {x : Str} : sOf x.cps.toList = x := by cases x; simp [sOf]
def fStartswith : D → D → Option D
  | .str s, .str t => some (.bl (Txt.startswith (sOf s) (sOf t)))
  | _, _ => none
def fIndex : D → D → Option D
  | .str s, .str t => match Builtin.Str.occurrences (sOf s) (sOf t) 0 (sOf s).length 1 with
    | i :: _ => some (.int (i : Nat))
    | [] => none
  | _, _ => none
theorem n_startswith {K : PySem.W.Frag} : OpN K (fun x y H Q => (∃ a, x = .str a) ∧ (∃ a b, x = .str a ∧ [y] = [V.str b] ∧ Q (.bl (Txt.startswith a b)) H)) fStartswith := by
  intro H v1 v2 d1 d2 G1 G2 d Q p1 p2 e h
  unfold fStartswith at e
  split at e
  · cases e
    cases p1; cases p2
    rw [sOf_cps, sOf_cps] at h
    exact ⟨⟨_, rfl⟩, _, _, rfl, rfl, h _ _ [] (.refl _ _) .bl .nil fun _ m => by cases m⟩
  · cases e
theorem n_index {K : PySem.W.Frag} : OpN K (fun x y H Q => (∃ a, x = .str a) ∧ (∃ a b i rest, x = .str a ∧ [y] = [V.str b] ∧ Builtin.Str.occurrences a b 0 a.length 1 = i :: rest ∧ Q (.int (i : Nat)) H)) fIndex := by
  intro H v1 v2 d1 d2 G1 G2 d Q p1 p2 e h
  unfold fIndex at e
  split at e
  · cases p1; cases p2
    rw [sOf_cps, sOf_cps] at e
    split at e
    · rename_i i rest ho
      cases e
      exact ⟨⟨_, rfl⟩, _, _, i, rest, rfl, rfl, ho, h _ _ [] (.refl _ _) .int .nil fun _ m => by cases m⟩
    · cases e
  · cases e
section
variable {X : Cx} {W : WX} {a b : Expr} {ma mb : MB} {apos pos : Pos}
theorem xs_startswith (pa : PE X a (tB X.K W ma)) (pb : PE X b (tB X.K W mb)) (hs : starEach [b] X.env = [(false, eval b X.env)] := by rfl) (hbase : attributeBase a "startswith" X.env (eval a X.env) = eval a X.env := by rfl) (hline : (apos.endLine == pos.line) = true := by rfl) :
    PE X (.Call (.Attribute a "startswith" apos) [b] [] pos) (tN X.K W (smB fStartswith ma mb)) :=
  PE.mono (pe_m1 PySem.F.slot_str_startswith PySem.F.type_str_startswith mt_startswith pa pb hs hbase hline) fun _ _ _ h => op_m1 n_startswith (fun a b d e => by unfold fStartswith at e; split at e; exact ⟨_, rfl⟩; cases e) h
theorem xs_index (pa : PE X a (tB X.K W ma)) (pb : PE X b (tB X.K W mb)) (hs : starEach [b] X.env = [(false, eval b X.env)] := by rfl) (hbase : attributeBase a "index" X.env (eval a X.env) = eval a X.env := by rfl) (hline : (apos.endLine == pos.line) = true := by rfl) :
    PE X (.Call (.Attribute a "index" apos) [b] [] pos) (tN X.K W (smB fIndex ma mb)) :=
  PE.mono (pe_m1 PySem.F.slot_str_index PySem.F.type_str_index mt_sindex pa pb hs hbase hline) fun _ _ _ h => op_m1 n_index (fun a b d e => by unfold fIndex at e; split at e; exact ⟨_, rfl⟩; cases e) h
end
/-! ### what comes out of these -/
section
variable {e : E} {Q : D → Prop} {ma mb : MB} {f : D → D → Option D} {N B C : E → Prop} {R : D → E → Prop}
theorem w1_sm (h : w1 (ma e) fun a => w1 (mb e) fun b => w0 (f a b) Q) : w1 (smB f ma mb e) Q := by
  refine w1_bind (w1_mono h fun a h => ?_)
  generalize mb e = r at h ⊢
  cases h with
  | mk h => exact w1_of h
theorem w1_disp {ds : List (D × D)} (q : Q (.dct ds)) : w1 (mDisp ds e) Q := .mk q
theorem w1_defX {k : Nat} {mb : MS} {ds : List D} {Q : D → Prop} (hi : imms ds = true) (h : wS (mb (ds.map some ++ List.replicate k none)) (fun _ => Q .non) (fun d _ => Q d) (fun _ => False) (fun _ => False)) : w1 (mDef k mb ds) Q := by
  unfold mDef
  rw [if_pos hi]
  generalize mb (ds.map some ++ List.replicate k none) = r at h ⊢
  cases h with
  | nx h => exact .mk h
  | rt h => exact .mk h
  | bk h => exact h.elim
  | ct h => exact h.elim
end

theorem w1_isX {i : Nat} {a : Addr} {b : Option Bool} {k : Bool} {e : E} {Q : D → Prop} (h : e[i]? = some (some (.raw (.ref a)))) (hb : b = some k) (q : Q (.bl k)) : w1 (isX i a b e) Q := by
  subst hb
  have : isX i a (some k) e = .ok (.bl k) := by unfold isX; rw [h]; exact if_pos rfl
  rw [this]; exact .mk q
section
variable {e e1 : E} {N B C : E → Prop} {R : D → E → Prop} {cat : Str → Option Bool} {i : Nat} {b : MS} {s : Str → Addr → MS}
/-- nothing is raised -/
theorem wS_tryN (h : wS (b e) N R B C) : wS (mTryAs cat i b s e) N R B C := by
  unfold mTryAs
  generalize b e = r at h ⊢
  cases h with
  | nx h => exact .nx h
  | rt h => exact .rt h
  | bk h => exact .bk h
  | ct h => exact .ct h
/-- an error is caught -/
theorem wS_tryX {c : Str} {r : SR} (h : b e = .exc ⟨c, []⟩ e1) (hc : cat c = some true) (hr : ∀ a, clr i (s c a (e1.set i (some (.raw (.ref a))))) = r) (q : wS r N R B C) : wS (mTryAs cat i b s e) N R B C := by
  unfold mTryAs
  rw [h]
  simp only [if_true, hc]
  rw [pick_eq hr]
  exact q
end
/-! ### the facts of the classes -/
theorem takes_no {X : Cx} : Takes X wF := fun _ _ ⟨_, _, _, _, _, _, _, _, _, _, _, _, _, _, _, _, w⟩ => w.elim
theorem ga_of {K : PySem.W.Frag} {x : Str} {a : Addr} (h : PySem.W.nsIn K mainGlobals x = some (some (.ref a))) : He.ga K x = a := by
  unfold He.ga
  rw [h]
theorem bb_ValueError : bootBuiltins "ValueError" = some (.type "ValueError") := by decide +kernel
theorem kit_ref {K : PySem.W.Frag} {D A : Addr} {b : Bool} (hd : PySem.W.hasDictIn K A = true) (ht : PySem.W.typeIn K (.ref A) = some (.type "type")) (h : PySem.W.subIn K (.ref D) (.ref A) = some b) (hs : PySem.W.subIn K (.ref D) (.ref D) = some true) : PySem.W.kitOne K (.ref D) (.ref A) = some b := by
  obtain ⟨cd, hc, _⟩ := PySem.W.any_some hd
  unfold PySem.W.kitOne
  by_cases z : D = A
  · subst z
    rw [hs] at h; cases h
    rw [if_pos (by simp)]
  · rw [if_neg (by simpa using z)]
    show (if ((PySem.W.clsIn K A).isSome && PySem.W.typeIn K (.ref A) == some (.type "type")) = true then PySem.W.subIn K (.ref D) (.ref A) else none) = _
    rw [if_pos (by rw [hc, ht] <;> rfl)]
    exact h
theorem kit_val {K : PySem.W.Frag} {D : Addr} {b : Bool} (h : PySem.W.subIn K (.ref D) (.type "ValueError") = some b) : PySem.W.kitOne K (.ref D) (.type "ValueError") = some b := by
  unfold PySem.W.kitOne
  rw [if_neg (by simp)]
  show (if PySem.W.kitMeta "ValueError" = true then PySem.W.subIn K (.ref D) (.type "ValueError") else none) = _
  rw [if_pos (by decide +kernel)]
  exact h

section
open TL
theorem w0_augS {s t : List Nat} {Q : D → Prop} (h : s.length + t.length ≤ 16777216) (q : Q (.str (s ++ t))) : w0 (fAug (.str s) (.str t)) Q := w0_of (by
  show (if _ then _ else _) = _
  rw [if_pos (fits_of h)]) q
theorem tl_sOf (s : List Nat) : tl (sOf s) = s := by show (sOf s).cps.toList = s; simp [sOf]
theorem len_sOf (s : List Nat) : (sOf s).length = s.length := by rw [len_tl, tl_sOf]
theorem pre_eq (g s : List Nat) : pre g s = g.isPrefixOf s := by
  have : pre g s = (s.take g.length == g) := rfl
  rw [this]
  by_cases h : g.isPrefixOf s = true
  · rw [h]
    obtain ⟨r, rfl⟩ := List.isPrefixOf_iff_prefix.mp h
    simp
  · rw [Bool.eq_false_iff.mpr h]
    refine beq_eq_false_iff_ne.mpr fun z => h ?_
    rw [List.isPrefixOf_iff_prefix]
    have e := List.take_append_drop g.length s
    rw [z] at e
    exact ⟨_, e⟩
theorem starts_eq {s g : List Nat} (hg : g ≠ []) : Txt.startswith (sOf s) (sOf g) = g.isPrefixOf s := by
  have h := at_iff (x := sOf s) (y := sOf g) (by rw [tl_sOf]; exact hg) 0
  rw [tl_sOf, tl_sOf, List.drop_zero, pre_eq] at h
  unfold Txt.startswith
  cases q : g.isPrefixOf s with
  | true =>
    rw [q] at h
    have := h.mpr rfl
    rw [Bool.and_eq_true, decide_eq_true_iff]
    exact ⟨this.1, this.2⟩
  | false =>
    rw [q] at h
    refine Bool.eq_false_iff.mpr fun z => ?_
    rw [Bool.and_eq_true, decide_eq_true_iff] at z
    exact absurd (h.mp ⟨z.1, z.2⟩) (by decide)
theorem w0_starts {s g : List Nat} {Q : D → Prop} (hg : g ≠ []) (q : Q (.bl (g.isPrefixOf s))) : w0 (fStartswith (.str s) (.str g)) Q := w0_of (by
  show some (D.bl (Txt.startswith (sOf s) (sOf g))) = _
  rw [starts_eq hg]) q
end
end Mir

namespace Mir
open PySem PySem.Spec L2
/-! ### int of a text of digits -/
def alldg (s : List Nat) : Bool := s.all fun c => decide (48 ≤ c ∧ c ≤ 57)
def iOf (s : List Nat) : Int := (PySem.NumText.digitsVal s : Nat)
theorem int_digits {s : List Nat} (h : alldg s = true) (h1 : s ≠ []) (h2 : s.length ≤ 640) : PySem.intText? (sOf s) = some (iOf s) := by
  have := PySem.intText_digits (x := sOf s) (by
    show PySem.NumText.AllDigits (sOf s).cps.toList
    rw [show (sOf s).cps.toList = s by simp [sOf]]
    intro c hc
    exact of_decide_eq_true (List.all_eq_true.mp h c hc)) (by rw [show (sOf s).cps.toList = s by simp [sOf]]; exact h1) (by rw [len_sOf]; omega)
  rw [this, show (sOf s).cps.toList = s by simp [sOf]]
  rfl
theorem w0_intS {s : List Nat} {Q : D → Prop} (h : alldg s = true) (h1 : s ≠ []) (h2 : s.length ≤ 640) (q : Q (.int (iOf s))) : w0 (fInt [.str s]) Q := by
  refine w0_of ?_ q
  show (if s.length ≤ 640 then (PySem.intText? (sOf s)).map D.int else none) = _
  rw [if_pos h2, int_digits h h1 h2]
  rfl
theorem iOf_str {n : Nat} (h : n < 10 ^ 10) (hd : alldg (lit (toString (n : Int))) = true) (hn : lit (toString (n : Int)) ≠ []) (hl : (lit (toString (n : Int))).length ≤ 640) : iOf (lit (toString (n : Int))) = n := by
  have h1 := int_digits hd hn hl
  have h2 := PySem.W.KIN.num_reads (n := (n : Int)) (by omega) (by exact_mod_cast h)
  have e : sOf (lit (toString (n : Int))) = PySem.Str.ofString (toString (n : Int)) := sOf_cps
  rw [e, h2] at h1
  exact (Option.some.inj h1).symm
end Mir

namespace Mir
open PySem PySem.Spec L2
/-! ### split, rstrip -/
def fSplit : D → D → Option D
  | .str s, .str t => if t ≠ [] ∧ t.all (· < 256) = true ∧ s.length ≤ 1000000 then some (.lst ((TL.spl t 0 [] s).map .str)) else none
  | _, _ => none
def fRstrip : D → D → Option D
  | .str s, .str t => if s.length ≤ 1000000 then some (.str (Txt.rstripChars (sOf s) (sOf t)).cps.toList) else none
  | _, _ => none
theorem okL_of {l : List Nat} (h : ∀ c ∈ l, c < 0x110000) : (sOf l).cps.all (· < 0x110000) = true := by
  rw [← Array.all_toList]
  exact List.all_eq_true.mpr fun c hc => decide_eq_true (h c (by simpa [sOf] using hc))
theorem okL_mem {x : Str} (h : x.cps.all (· < 0x110000) = true) : ∀ c ∈ x.cps.toList, c < 0x110000 := by
  rw [← Array.all_toList] at h
  exact fun c hc => of_decide_eq_true (List.all_eq_true.mp h c hc)
theorem spl_sub (S : List Nat) : ∀ (l : List Nat) (k : Nat) (acc : List Nat), ∀ w ∈ TL.spl S k acc l, ∀ c ∈ w, c ∈ acc ∨ c ∈ l
  | [], k, acc, w, hw, c, hc => by
    rw [TL.spl_nil, List.mem_singleton] at hw
    subst hw; exact .inl hc
  | a :: l, 0, acc, w, hw, c, hc => by
    rw [TL.spl] at hw
    split at hw
    · rcases List.mem_cons.mp hw with rfl | hw
      · exact .inl hc
      · rcases spl_sub S l _ [] w hw c hc with z | z
        · cases z
        · exact .inr (List.mem_cons_of_mem _ z)
    · rcases spl_sub S l 0 (acc ++ [a]) w hw c hc with z | z
      · rcases List.mem_append.mp z with z | z
        · exact .inl z
        · exact .inr (by rw [List.mem_singleton.mp z]; exact List.mem_cons_self)
      · exact .inr (List.mem_cons_of_mem _ z)
  | a :: l, k + 1, acc, w, hw, c, hc => by
    rw [TL.spl] at hw
    rcases spl_sub S l k acc w hw c hc with z | z
    · exact .inl z
    · exact .inr (List.mem_cons_of_mem _ z)
theorem spl_len (S : List Nat) : ∀ (l : List Nat) (k : Nat) (acc : List Nat), (TL.spl S k acc l).length ≤ l.length + 1 ∧ ∀ w ∈ TL.spl S k acc l, w.length ≤ acc.length + l.length
  | [], k, acc => by
    rw [TL.spl_nil]
    exact ⟨by simp, fun w hw => by rw [List.mem_singleton.mp hw]; simp⟩
  | a :: l, 0, acc => by
    rw [TL.spl]
    split
    · have := spl_len S l (S.length - 1) []
      refine ⟨by simp; omega, fun w hw => ?_⟩
      rcases List.mem_cons.mp hw with rfl | hw
      · simp
      · have := this.2 w hw; simp at this ⊢; omega
    · have := spl_len S l 0 (acc ++ [a])
      refine ⟨by simp; omega, fun w hw => ?_⟩
      have := this.2 w hw; simp at this ⊢; omega
  | a :: l, k + 1, acc => by
    rw [TL.spl]
    have := spl_len S l k acc
    exact ⟨by simp; omega, fun w hw => by have := this.2 w hw; simp; omega⟩
theorem rps_strs {K : PySem.W.Frag} {H : Hp} : ∀ {ls : List (List Nat)}, (∀ w ∈ ls, ∀ c ∈ w, c < 0x110000) → Rps K H (ls.map fun l => V.str (sOf l)) (ls.map D.str) []
  | [], _ => .nil
  | l :: ls, h => by
    have e : (sOf l).cps.toList = l := by simp [sOf]
    have p : Rp K H (.str (sOf l)) (.str l) [] := by
      have := Rp.str (K := K) (H := H) (okL_of (h l List.mem_cons_self))
      rwa [e] at this
    exact .cons p (rps_strs fun w hw => h w (List.mem_cons_of_mem _ hw))
theorem n_split {K : PySem.W.Frag} : OpN K (fun x y H Q => (∃ a, x = .str a) ∧ (∃ a b, x = .str a ∧ [y] = [V.str b] ∧ (b.length == 0) = false ∧ a.length + 2 ≤ sizeLine ∧ rNewStrs (Txt.split a b) H Q)) fSplit := by
  intro H v1 v2 d1 d2 G1 G2 d Q p1 p2 e h
  unfold fSplit at e
  split at e
  · split at e
    · rename_i hc
      cases e
      cases p1 with
      | str hx =>
      cases p2 with
      | str hy =>
      rename_i x y
      refine ⟨⟨_, rfl⟩, x, y, rfl, rfl, ?_, ?_, fun p hp => ?_⟩
      · refine beq_eq_false_iff_ne.mpr fun z => hc.1 ?_
        rw [TL.len_tl] at z
        exact List.length_eq_zero_iff.mp z
      · have : sizeLine = 16777216 := rfl
        rw [TL.len_tl]
        have : (TL.tl x).length ≤ 1000000 := hc.2.2
        omega
      · have e1 : Txt.split x y = (TL.spl y.cps.toList 0 [] x.cps.toList).map sOf := by
          have := SX.split_S (a := x.cps.toList) (b := y.cps.toList) hc.1 hc.2.1
          have ex : (⟨x.cps.toList.toArray⟩ : Str) = x := by cases x; simp
          have ey : (⟨y.cps.toList.toArray⟩ : Str) = y := by cases y; simp
          have h1 : SX.S x.cps.toList = x := ex
          have h2 : SX.S y.cps.toList = y := ey
          rw [h1, h2] at this
          exact this
        rw [e1]
        refine h _ _ [p] (.new hp _) ?_ (by simp) (fun a m => by rw [List.mem_singleton.mp m]; exact hp)
        refine .lst upd_same ?_
        rw [List.map_map]
        exact rps_strs fun w hw c hcw => by
          rcases spl_sub _ _ _ _ w hw c hcw with z | z
          · cases z
          · exact okL_mem hx c z
    · cases e
  · cases e
theorem n_rstrip {K : PySem.W.Frag} : OpN K (fun x y H Q => (∃ a, x = .str a) ∧ (∃ a b, x = .str a ∧ [y] = [V.str b] ∧ a.length ≤ sizeLine ∧ Q (.str (Txt.rstripChars a b)) H)) fRstrip := by
  intro H v1 v2 d1 d2 G1 G2 d Q p1 p2 e h
  unfold fRstrip at e
  split at e
  · split at e
    · rename_i hc
      cases e
      cases p1 with
      | str hx =>
      cases p2 with
      | str hy =>
      rename_i x y
      rw [sOf_cps, sOf_cps] at h
      refine ⟨⟨_, rfl⟩, x, y, rfl, rfl, ?_, h _ _ [] (.refl _ _) (.str ?_) .nil fun _ m => by cases m⟩
      · have : sizeLine = 16777216 := rfl
        rw [TL.len_tl]
        have : (TL.tl x).length ≤ 1000000 := hc
        omega
      · obtain ⟨j, _, e1⟩ := PyProof.Rows.stripBy_right y.cps.contains x
        rw [← Array.all_toList]
        refine List.all_eq_true.mpr fun c m => decide_eq_true (okL_mem hx c ?_)
        have e3 : (Txt.rstripChars x y).cps.toList = (x.cps.toList.drop 0).take (j - 0) := by
          have e2 := congrArg (fun z : Str => z.cps.toList) e1
          exact e2.trans (TL.tl_strSub x 0 j)
        rw [e3] at m
        exact List.mem_of_mem_take m
    · cases e
  · cases e
section
variable {X : Cx} {W : WX} {a b : Expr} {ma mb : MB} {apos pos : Pos}
theorem xs_split (pa : PE X a (tB X.K W ma)) (pb : PE X b (tB X.K W mb)) (hs : starEach [b] X.env = [(false, eval b X.env)] := by rfl) (hbase : attributeBase a "split" X.env (eval a X.env) = eval a X.env := by rfl) (hline : (apos.endLine == pos.line) = true := by rfl) :
    PE X (.Call (.Attribute a "split" apos) [b] [] pos) (tN X.K W (smB fSplit ma mb)) :=
  PE.mono (pe_m1 PySem.F.slot_str_split PySem.F.type_str_split mt_split pa pb hs hbase hline) fun _ _ _ h => op_m1 n_split (fun a b d e => by unfold fSplit at e; split at e; exact ⟨_, rfl⟩; cases e) h
theorem xs_rstrip (pa : PE X a (tB X.K W ma)) (pb : PE X b (tB X.K W mb)) (hs : starEach [b] X.env = [(false, eval b X.env)] := by rfl) (hbase : attributeBase a "rstrip" X.env (eval a X.env) = eval a X.env := by rfl) (hline : (apos.endLine == pos.line) = true := by rfl) :
    PE X (.Call (.Attribute a "rstrip" apos) [b] [] pos) (tN X.K W (smB fRstrip ma mb)) :=
  PE.mono (pe_m1 PySem.F.slot_str_rstrip PySem.F.type_str_rstrip mt_rstripChars pa pb hs hbase hline) fun _ _ _ h => op_m1 n_rstrip (fun a b d e => by unfold fRstrip at e; split at e; exact ⟨_, rfl⟩; cases e) h
end
theorem w0_split {s t : List Nat} {Q : D → Prop} (h : t ≠ []) (h1 : t.all (· < 256) = true) (h2 : s.length ≤ 1000000) (q : Q (.lst ((TL.spl t 0 [] s).map .str))) : w0 (fSplit (.str s) (.str t)) Q :=
  w0_of (show (if _ then _ else _) = _ by rw [if_pos ⟨h, h1, h2⟩]) q
theorem w0_rstrip {s t : List Nat} {Q : D → Prop} (h : s.length ≤ 1000000) (q : ∀ u : List Nat, u.length ≤ s.length → Q (.str u)) : w0 (fRstrip (.str s) (.str t)) Q := by
  refine w0_of (show (if s.length ≤ 1000000 then some (D.str (Txt.rstripChars (sOf s) (sOf t)).cps.toList) else none) = _ by rw [if_pos h]) (q _ ?_)
  have := PyProof.Rows.len_rstripChars (sOf s) (sOf t)
  rw [TL.len_tl, TL.len_tl] at this
  simpa [sOf] using this
end Mir

namespace Mir
open PySem PySem.Spec L2
/-! ### partition -/
def parD (s t : List Nat) : D := match TL.par t [] s with
  | some (p, q) => .tup [.str p, .str t, .str q]
  | none => .tup [.str s, .str [], .str []]
def fPartition : D → D → Option D
  | .str s, .str t => if t ≠ [] ∧ s.length ≤ 1000000 then some (parD s t) else none
  | _, _ => none
theorem par_sub (S : List Nat) : ∀ (l acc p q : List Nat), TL.par S acc l = some (p, q) → (∀ c ∈ p, c ∈ acc ∨ c ∈ l) ∧ ∀ c ∈ q, c ∈ l
  | [], acc, p, q, h => by unfold TL.par at h; cases h
  | a :: l, acc, p, q, h => by
    unfold TL.par at h
    split at h
    · cases h
      exact ⟨fun c hc => .inl hc, fun c hc => List.mem_of_mem_drop hc⟩
    · have := par_sub S l (acc ++ [a]) p q h
      refine ⟨fun c hc => ?_, fun c hc => List.mem_cons_of_mem _ (this.2 c hc)⟩
      rcases this.1 c hc with z | z
      · rcases List.mem_append.mp z with z | z
        · exact .inl z
        · exact .inr (by rw [List.mem_singleton.mp z]; exact List.mem_cons_self)
      · exact .inr (List.mem_cons_of_mem _ z)
theorem n_partition {K : PySem.W.Frag} : OpN K (fun x y H Q => (∃ a, x = .str a) ∧ (∃ a b, x = .str a ∧ [y] = [V.str b] ∧ (b.length == 0) = false ∧ a.length ≤ sizeLine ∧
    ∀ p, H p = none → Q (.ref p) (upd H p (.tup [.str (Txt.partition a b).1, .str (Txt.partition a b).2.1, .str (Txt.partition a b).2.2])))) fPartition := by
  intro H v1 v2 d1 d2 G1 G2 d Q p1 p2 e h
  unfold fPartition at e
  split at e
  · split at e
    · rename_i hc
      cases e
      cases p1 with
      | str hx =>
      cases p2 with
      | str hy =>
      rename_i x y
      refine ⟨⟨_, rfl⟩, x, y, rfl, rfl, ?_, ?_, fun p hp => ?_⟩
      · refine beq_eq_false_iff_ne.mpr fun z => hc.1 ?_
        rw [TL.len_tl] at z
        exact List.length_eq_zero_iff.mp z
      · have : sizeLine = 16777216 := rfl
        rw [TL.len_tl]
        have : (TL.tl x).length ≤ 1000000 := hc.2
        omega
      · have ex : SX.S x.cps.toList = x := SX.S_tl x
        have ey : SX.S y.cps.toList = y := SX.S_tl y
        have key : ∃ ls : List (List Nat), ([.str (Txt.partition x y).1, .str (Txt.partition x y).2.1, .str (Txt.partition x y).2.2] : List V) = ls.map (fun l => V.str (sOf l)) ∧ parD x.cps.toList y.cps.toList = .tup (ls.map D.str) ∧ ∀ w ∈ ls, ∀ c ∈ w, c < 0x110000 := by
          cases q : TL.par y.cps.toList [] x.cps.toList with
          | none =>
            have e1 := SX.partition_none hc.1 q
            rw [ex, ey] at e1
            rw [e1]
            refine ⟨[x.cps.toList, [], []], by rw [show x = sOf x.cps.toList from sOf_cps.symm]; rfl, by simp only [parD, q]; rfl, ?_⟩
            intro w hw
            simp only [List.mem_cons, List.not_mem_nil, or_false] at hw
            rcases hw with rfl | rfl | rfl
            · exact okL_mem hx
            · intro c hc; cases hc
            · intro c hc; cases hc
          | some pq =>
            obtain ⟨a, b⟩ := pq
            have e1 := SX.partition_some hc.1 q
            rw [ex, ey] at e1
            rw [e1]
            have := par_sub _ _ _ _ _ q
            refine ⟨[a, y.cps.toList, b], by rw [show y = sOf y.cps.toList from sOf_cps.symm]; rfl, by simp only [parD, q]; rfl, ?_⟩
            intro w hw
            simp only [List.mem_cons, List.not_mem_nil, or_false] at hw
            rcases hw with rfl | rfl | rfl
            · intro c hc
              rcases this.1 c hc with z | z
              · cases z
              · exact okL_mem hx c z
            · exact okL_mem hy
            · exact fun c hc => okL_mem hx c (this.2 c hc)
        obtain ⟨ls, k1, k2, k3⟩ := key
        rw [k1]
        rw [k2] at h
        exact h _ _ [] (.new hp _) (.tup (.of upd_same) (rps_strs k3)) .nil fun _ m => by cases m
    · cases e
  · cases e
section
variable {X : Cx} {W : WX} {a b : Expr} {ma mb : MB} {apos pos : Pos}
theorem xs_partition (pa : PE X a (tB X.K W ma)) (pb : PE X b (tB X.K W mb)) (hs : starEach [b] X.env = [(false, eval b X.env)] := by rfl) (hbase : attributeBase a "partition" X.env (eval a X.env) = eval a X.env := by rfl) (hline : (apos.endLine == pos.line) = true := by rfl) :
    PE X (.Call (.Attribute a "partition" apos) [b] [] pos) (tN X.K W (smB fPartition ma mb)) :=
  PE.mono (pe_m1 PySem.F.slot_str_partition PySem.F.type_str_partition mt_partition pa pb hs hbase hline) fun _ _ _ h => op_m1 n_partition (fun a b d e => by unfold fPartition at e; split at e; exact ⟨_, rfl⟩; cases e) h
end
theorem w0_partition {s t : List Nat} {Q : D → Prop} (h : t ≠ []) (h2 : s.length ≤ 1000000) (q : Q (parD s t)) : w0 (fPartition (.str s) (.str t)) Q :=
  w0_of (show (if _ then _ else _) = _ by rw [if_pos ⟨h, h2⟩]) q
end Mir

namespace Mir
open PySem PySem.Spec L2

/-! ### dicts that change: keys texts or numbers, values that can't change -/
def dputD (ds : List (D × D)) (k y : D) : List (D × D) :=
  if (ds.any fun p => keyEq p.1 k) = true then ds.map (fun p => if keyEq p.1 k = true then (p.1, y) else p) else ds ++ [(k, y)]
section
variable {K : PySem.W.Frag} {H : Hp}
theorem dany_ok (key : Key) : ∀ {kvs : List (Key × V)} {ds : List (D × D)}, kvs.map (fun p => kD p.1) = ds.map (·.1) → (kvs.any fun kv => decide (kv.1 = key)) = ds.any fun p => keyEq p.1 (kD key)
  | [], [], _ => rfl
  | [], _ :: _, h => by simp at h
  | _ :: _, [], h => by simp at h
  | kv :: kvs, d :: ds, h => by
    simp only [List.map_cons, List.cons.injEq] at h
    rw [List.any_cons, List.any_cons, ← h.1, keyEq_kD, dany_ok key h.2]
theorem dmap_ok (key : Key) {v : V} {y : D} (p : Rp K H v y []) : ∀ {kvs : List (Key × V)} {ds : List (D × D)}, kvs.map (fun p => kD p.1) = ds.map (·.1) → Rps K H (kvs.map (·.2)) (ds.map (·.2)) [] →
    (kvs.map fun kv => if kv.1 = key then (kv.1, v) else kv).map (fun p => kD p.1) = (ds.map fun p => if keyEq p.1 (kD key) = true then (p.1, y) else p).map (·.1) ∧
    Rps K H ((kvs.map fun kv => if kv.1 = key then (kv.1, v) else kv).map (·.2)) ((ds.map fun p => if keyEq p.1 (kD key) = true then (p.1, y) else p).map (·.2)) []
  | [], [], _, r => ⟨rfl, .nil⟩
  | [], _ :: _, h, _ => by simp at h
  | _ :: _, [], h, _ => by simp at h
  | kv :: kvs, d :: ds, h, r => by
    simp only [List.map_cons, List.cons.injEq] at h
    simp only [List.map_cons] at r
    generalize hF : ([] : List Addr) = F at r
    cases r with | cons q r => ?_
    obtain ⟨e1, e2⟩ := List.append_eq_nil_iff.mp hF.symm
    subst e1 e2
    obtain ⟨i1, i2⟩ := dmap_ok key p h.2 r
    simp only [List.map_cons]
    have e : keyEq d.1 (kD key) = decide (kv.1 = key) := by rw [← h.1, keyEq_kD]
    rw [e]
    by_cases z : kv.1 = key
    · rw [if_pos z, if_pos (decide_eq_true z)]
      exact ⟨by rw [i1]; simp [h.1], .cons (F := []) (G := []) p i2⟩
    · rw [if_neg z, if_neg (by simpa using z)]
      exact ⟨by rw [i1]; simp [h.1], .cons (F := []) (G := []) q i2⟩
theorem dput_ok (key : Key) {v : V} {y : D} (p : Rp K H v y []) {kvs : List (Key × V)} {ds : List (D × D)} (h : kvs.map (fun p => kD p.1) = ds.map (·.1)) (r : Rps K H (kvs.map (·.2)) (ds.map (·.2)) []) :
    (putK kvs key v).map (fun p => kD p.1) = (dputD ds (kD key) y).map (·.1) ∧ Rps K H ((putK kvs key v).map (·.2)) ((dputD ds (kD key) y).map (·.2)) [] := by
  unfold putK dputD
  rw [dany_ok key h]
  split
  · exact dmap_ok key p h r
  · refine ⟨by simp [h], ?_⟩
    rw [List.map_append, List.map_append]
    exact r.append (.cons (F := []) (G := []) p .nil)
theorem dlen_ok {kvs : List (Key × V)} {ds : List (D × D)} (h : kvs.map (fun p => kD p.1) = ds.map (·.1)) : kvs.length = ds.length := by
  have := congrArg List.length h
  simpa using this
end
/-- {} -/
def mNewD : MB := fun _ => .ok (.dct [])
theorem x_newD {X : Cx} {W : WX} {pos : Pos} : PE X (.Dict [] [] pos) (tN X.K W mNewD) := PE.mono pe_dnewK fun σ H Q ⟨e, F, r, h⟩ p hp =>
  h (.ref p) _ [p] (.new hp []) (.dct upd_same rfl .nil) (by simp) fun a m => by rw [List.mem_singleton.mp m]; exact hp
/-- {k: v, ..} -/
def pairsB : List (MB × MB) → E → Rs (List (D × D))
  | [], _ => .ok []
  | (mk, mv) :: r, e => (mk e).bind fun k => (mv e).bind fun v => (pairsB r e).bind fun ds => .ok ((k, v) :: ds)
def dmerge (ds : List (D × D)) : List (D × D) := ds.foldl (fun acc kv => dputD acc kv.1 kv.2) []
def mDispB (ps : List (MB × MB)) : MB := fun e => match pairsB ps e with
  | .ok ds => if ds.length ≤ 15 ∧ (ds.all fun p => isKey p.1 && imm p.2) = true then .ok (.dct (dmerge ds)) else .bad
  | _ => .bad
section
variable {K : PySem.W.Frag} {W : WX}
theorem merge_ok {H : Hp} : ∀ (more : List (Key × V)) (ds2 : List (D × D)) {kvs : List (Key × V)} {ds : List (D × D)}, more.map (fun p => kD p.1) = ds2.map (·.1) → Rps K H (more.map (·.2)) (ds2.map (·.2)) [] →
    kvs.map (fun p => kD p.1) = ds.map (·.1) → Rps K H (kvs.map (·.2)) (ds.map (·.2)) [] →
    (mergeK kvs more).map (fun p => kD p.1) = (ds2.foldl (fun acc kv => dputD acc kv.1 kv.2) ds).map (·.1) ∧ Rps K H ((mergeK kvs more).map (·.2)) ((ds2.foldl (fun acc kv => dputD acc kv.1 kv.2) ds).map (·.2)) []
  | [], [], _, _, _, _, h, r => ⟨h, r⟩
  | [], _ :: _, _, _, h, _, _, _ => by simp at h
  | _ :: _, [], _, _, h, _, _, _ => by simp at h
  | kv :: more, d :: ds2, kvs, ds, h1, r1, h, r => by
    simp only [List.map_cons, List.cons.injEq] at h1
    simp only [List.map_cons] at r1
    generalize hF : ([] : List Addr) = F at r1
    cases r1 with | cons q r1 => ?_
    obtain ⟨e1, e2⟩ := List.append_eq_nil_iff.mp hF.symm
    subst e1 e2
    obtain ⟨i1, i2⟩ := dput_ok kv.1 q h r
    rw [h1.1] at i1 i2
    exact merge_ok more ds2 h1.2 r1 i1 i2
theorem pairs_ok {σ : L2.St} : ∀ (ps : List (MB × MB)) {H0 H : Hp} {e : E} {F : List Addr} {ds : List (D × D)} {Q : List (V × V) → Hp → Prop}, RelS K H σ e F → Keeps [] H0 H → pairsB ps e = .ok ds → (ds.all fun p => isKey p.1 && imm p.2) = true →
    (∀ (kvs : List (Key × V)) H', Keeps [] H0 H' → kvs.map (fun (p : Key × V) => kD p.1) = ds.map (·.1) → Rps K H' (kvs.map (·.2)) (ds.map (·.2)) [] → Q (kvs.map fun kv => (kV kv.1, kv.2)) H') → tPairs (ps.map fun p => (tB K W p.1, tB K W p.2)) σ H Q
  | [], H0, H, e, F, ds, Q, r, k0, h, _, q => by
    cases h
    exact q [] H k0 rfl .nil
  | (mk, mv) :: ps, H0, H, e, F, ds, Q, r, k0, h, ha, q => by
    unfold pairsB at h
    cases qk : mk e with
    | bad => simp only [qk, Rs.bind] at h; cases h
    | exc y => simp only [qk, Rs.bind] at h; cases h
    | ok k =>
      simp only [qk, Rs.bind] at h
      refine ⟨e, F, r, ?_⟩
      simp only [qk]
      intro vk H1 Gk k1 pk
      cases qv : mv e with
      | bad => simp only [qv] at h; cases h
      | exc y => simp only [qv] at h; cases h
      | ok y =>
        simp only [qv] at h
        have r1 := r.same k1
        refine ⟨e, F, r1, ?_⟩
        simp only [qv]
        intro vv H2 Gv k2 pv
        cases qp : pairsB ps e with
        | bad => rw [qp] at h; cases h
        | exc y => rw [qp] at h; cases h
        | ok ds2 =>
          rw [qp] at h
          cases h
          obtain ⟨a1, a2⟩ := Bool.and_eq_true_iff.mp (show ((isKey k && imm y) && ds2.all fun p => isKey p.1 && imm p.2) = true from ha)
          obtain ⟨a3, a4⟩ := Bool.and_eq_true_iff.mp a1
          obtain ⟨key, ev, ek⟩ := key_of pk a3
          subst ev ek
          have e0 := pv.fpImm a4
          subst e0
          have k01 : Keeps [] H0 H1 := k0.trans k1 fun _ m => by cases m
          have k02 : Keeps [] H0 H2 := k01.trans k2 fun _ m => by cases m
          refine pairs_ok ps (H0 := H2) (r1.same k2) (.refl _ _) qp a2 fun kvs H' k' hk hr => ?_
          exact q ((key, vv) :: kvs) H' (k02.trans k' fun _ m => by cases m) (by simp [hk]) (.cons (F := []) (G := []) (pv.same k') hr)
end
theorem x_dispB {X : Cx} {W : WX} {pos : Pos} {keys : List (Option Expr)} {values : List Expr} {ps : List (MB × MB)} (q : PE X (.Dict keys values pos) (tDisp (ps.map fun p => (tB X.K W p.1, tB X.K W p.2)))) :
    PE X (.Dict keys values pos) (tN X.K W (mDispB ps)) := PE.mono q fun σ H Q ⟨e, F, r, h⟩ => by
  intro p hp
  unfold mDispB at h
  cases qp : pairsB ps e with
  | bad => rw [qp] at h; exact h.elim
  | exc y => rw [qp] at h; exact h.elim
  | ok ds =>
    rw [qp] at h
    simp only at h
    by_cases hc : ds.length ≤ 15 ∧ (ds.all fun p => isKey p.1 && imm p.2) = true
    · rw [if_pos hc] at h
      have kN : Keeps [] H (upd H p (.dK [])) := .new hp []
      refine pairs_ok ps (H0 := upd H p (.dK [])) (r.same kN) (.refl _ _) qp hc.2 fun kvs H' k' hk hr => ?_
      have hb : H' p = some (.dK []) := k' _ _ upd_same (.inr fun m => by cases m)
      refine ⟨hb, kvs, rfl, by rw [dlen_ok hk]; exact hc.1, ?_⟩
      have kU : Keeps [p] H' (upd H' p (.dK (mergeK [] kvs))) := .upd hb rfl List.mem_cons_self
      obtain ⟨m1, m2⟩ := merge_ok kvs ds (kvs := []) (ds := []) hk hr rfl .nil
      refine h (.ref p) _ [p] (fun a o ha z => ?_) (.dct upd_same m1 (m2.keep kU fun _ m => by cases m)) (by simp) fun a m => by rw [List.mem_singleton.mp m]; exact hp
      have : a ≠ p := fun z => by subst z; rw [hp] at ha; cases ha
      rw [upd_ne this]
      exact k' _ _ (by rw [upd_ne this]; exact ha) (.inr fun m => by cases m)
    · rw [if_neg hc] at h; exact h.elim
/-! d.get(k, x) -/
def fDGetOr : D → D → D → Option D
  | .dct ds, k, z => if isKey k = true then some ((dgetD ds k).getD z) else none
  | .rdc ds, k, z => if isKey k = true then some ((dgetD ds k).getD z) else none
  | _, _, _ => none
def getB (ma mk mz : MB) : MB := fun e => (ma e).bind fun a => if isDct a = true then (mk e).bind fun k => (mz e).bind fun z => .of (fDGetOr a k z) else .bad
where isDct : D → Bool
  | .dct _ => true
  | .rdc _ => true
  | _ => false
section
variable {X : Cx} {W : WX}
theorem x_get2 {o e f : Expr} {apos cpos : Pos} {ma mk mz : MB} (hu : X.A.units + 1 < cLine) (ho : PE X o (tB X.K W ma)) (he : PE X e (tB X.K W mk)) (hf : PE X f (tB X.K W mz)) (m : M2 X o "get" apos e f cpos) :
    PE X (.Call (.Attribute o "get" apos) [e, f] [] cpos) (tB X.K W (getB ma mk mz)) := PE.mono (pe_dget2 hu ho he hf m) fun σ H Q ⟨e, F, r, h⟩ => by
  refine ⟨e, F, r, ?_⟩
  unfold getB at h
  cases qa : ma e with
  | bad => simp only [qa, Rs.bind] at h
  | exc y => simp only [qa, Rs.bind] at h; exact h
  | ok a =>
    simp only [qa, Rs.bind] at h
    intro va H1 G1 k1 p1
    by_cases hd : getB.isDct a = true
    · rw [if_pos hd] at h
      have isd : ∃ b, va = .ref b ∧ ∀ H2, Keeps [] H1 H2 → IsD H2 b := by
        cases p1 with
        | dct ha _ _ => exact ⟨_, rfl, fun H2 k => .inl ⟨_, .inl (k _ _ ha (.inr fun m => by cases m))⟩⟩
        | rdc ha _ _ => obtain ⟨o, ha⟩ := ha; exact ⟨_, rfl, fun H2 k => .inl ⟨_, .inr ⟨o, k _ _ ha (.inr fun m => by cases m)⟩⟩⟩
        | _ => cases hd
      obtain ⟨b, eb, isd⟩ := isd
      subst eb
      refine ⟨b, rfl, isd H1 (.refl _ _), e, F, r.same k1, ?_⟩
      cases qk : mk e with
      | bad => simp only [qk] at h
      | exc y => simp only [qk] at h; exact fun c dx H' k p => h c dx H' (k1.trans k fun _ m => by cases m) p
      | ok kk =>
        simp only [qk] at h
        intro vk H2 G2 k2 p2
        have k12 : Keeps [] H H2 := k1.trans k2 fun _ m => by cases m
        refine ⟨e, F, (r.same k1).same k2, ?_⟩
        cases qz : mz e with
        | bad => simp only [qz] at h
        | exc y => simp only [qz] at h; exact fun c dx H' k p => h c dx H' (k12.trans k fun _ m => by cases m) p
        | ok zz =>
          simp only [qz] at h
          intro vz H3 G3 k3 p3
          have k13 : Keeps [] H H3 := k12.trans k3 fun _ m => by cases m
          have pa := (p1.same k2).same k3
          have pk := p2.same k3
          cases qf : fDGetOr a kk zz with
          | none => rw [qf] at h; exact h.elim
          | some dr =>
            rw [qf] at h
            simp only [Rs.of] at h
            unfold fDGetOr at qf
            split at qf
            · split at qf
              · rename_i hk
                cases qf
                obtain ⟨key, ev, ek⟩ := key_of pk hk
                subst ev ek
                cases pa with | dct ha hc hr => ?_
                refine ⟨_, DGet.k ha, ?_⟩
                rcases dget_ok key hc hr with ⟨v, d', e1, e2, p⟩ | ⟨e1, e2⟩
                · rw [e1]; rw [e2] at h; exact h _ _ _ k13 p
                · rw [e1]; rw [e2] at h; exact h _ _ _ k13 p3
              · cases qf
            · split at qf
              · rename_i hk
                cases qf
                obtain ⟨key, ev, ek⟩ := key_of pk hk
                subst ev ek
                cases pa with | rdc ha hc hr => ?_
                refine ⟨_, DGet.rk ha, ?_⟩
                rcases dget_ok key hc hr with ⟨v, d', e1, e2, p⟩ | ⟨e1, e2⟩
                · rw [e1]; rw [e2] at h; exact h _ _ _ k13 p
                · rw [e1]; rw [e2] at h; exact h _ _ _ k13 p3
              · cases qf
            · cases qf
    · rw [if_neg hd] at h; exact h.elim
end
/-! d[k] = e, d the dict in the slot i -/
def mDSet (i : Nat) (mk : MB) (n : ME) : MS := fun e => match n e with
  | .ok y e1 => if imm y = true then (match e1[i]? with
    | some (some (.dct ds)) => (match mk e1 with
      | .ok k => if isKey k = true ∧ ds.length < sizeLine then .nx (e1.set i (some (.dct (dputD ds k y)))) else .bad
      | .exc x => .exc x e1
      | .bad => .bad)
    | _ => .bad) else .bad
  | .exc x e1 => .exc x e1
  | .bad => .bad
theorem m_dset {X : Cx} {W : WX} {Z : Zs} {i : Nat} {x : Str} {px pos tpos : Pos} {k e : Expr} {mk : MB} {n : ME} (hu : X.A.units + 1 < cLine) (he : PE X e (tE X.K W n)) (hk : PE X k (tB X.K W mk)) (hN : X.N[i]? = some x := by rfl) (hv : Vis X.env.scope x := by first | exact Or.inl rfl | exact Or.inr (Or.inl rfl) | exact Or.inr (Or.inr rfl)) (hd : (x == ("__debug__" : Str)) = false := by decide)
    (hcd : (x == ("__classdict__" : Str)) = false := by decide) (hs : swapsWith e (some (.Subscript (.Name x px) k tpos)) pos.line X.env = pure false := by rfl) :
    PS X (.Assign [.Subscript (.Name x px) k tpos] e pos) (tM X.K W Z (mDSet i mk n)) := PS.mono (ps_dput hu (pe_var hN hv hd hcd) hk he hs) fun D σ H ⟨e, F, r, nd, h⟩ => by
  refine ⟨e, F, r, nd, ?_⟩
  unfold mDSet at h
  cases q : n e with
  | bad => rw [q] at h; exact h
  | exc y e1 => rw [q] at h; exact fun c dx H' F' x p => h c dx σ H' F' x (.refl _ _) p
  | ok y e1 =>
    rw [q] at h
    simp only at h
    by_cases hi : imm y = true
    · rw [if_pos hi] at h
      intro v H1 F1 x0
      obtain ⟨G, F0, eF, p, x', hdj, n1, nw⟩ := x0.head
      have e0 := p.fpImm hi
      subst e0
      cases q1 : e1[i]? with
      | none => rw [q1] at h; exact h.elim
      | some oo =>
        rw [q1] at h
        cases oo with
        | none => exact h.elim
        | some d =>
          cases d with
          | dct ds =>
            simp only at h
            obtain ⟨w, G2, k1, k2, k3, k4, k5⟩ := x'.update q1
            cases k2 with | dct ha2 hc2 ra => ?_
            rename_i a kvs
            refine ⟨.ref a, k1, e1, F0, x'.r, ?_⟩
            cases qk : mk e1 with
            | bad => rw [qk] at h; exact h.elim
            | exc z => rw [qk] at h; exact fun c dx H' k px => h c dx σ H' F0 (x'.grow k) (.refl _ _) px
            | ok dk =>
              rw [qk] at h
              simp only at h
              intro vk H2 Gk kk pk
              by_cases hc : isKey dk = true ∧ ds.length < sizeLine
              · rw [if_pos hc] at h
                obtain ⟨key, ev, ek⟩ := key_of pk hc.1
                subst ev ek
                have hb : H2 a = some (.dK kvs) := kk _ _ ha2 (.inr fun m => by cases m)
                refine ⟨a, _, rfl, DPut.k hb (by rw [dlen_ok hc2]; exact hc.2), ?_⟩
                have kU : Keeps [a] H2 (upd H2 a (.dK (putK kvs key v))) := .upd hb rfl List.mem_cons_self
                have kA : Keeps [a] H1 (upd H2 a (.dK (putK kvs key v))) := (kk.mono (fun _ m => by cases m)).trans kU fun b m => .inl m
                obtain ⟨m1, m2⟩ := dput_ok key (p.same kk) hc2 (ra.same kk)
                obtain ⟨F9, w9⟩ := k5 _ (.dct (dputD ds (kD key) y)) [a] kA (.dct upd_same m1 (m2.keep kU fun _ m => by cases m)) (by simp) fun b m => .inl m
                exact h σ _ F9 w9 (.refl _ _)
              · rw [if_neg hc] at h; exact h.elim
          | _ => exact h.elim
    · rw [if_neg hi] at h; exact h.elim
/-! a dict that is never changed again -/
def frzD (n : ME) : ME := fun e => match n e with
  | .ok (.dct ds) e1 => .ok (.rdc ds) e1
  | .ok _ _ => .bad
  | .exc x e1 => .exc x e1
  | .bad => .bad
theorem e_frzD {X : Cx} {W : WX} {x : Expr} {n : ME} (p : PE X x (tE X.K W n)) : PE X x (tE X.K W (frzD n)) := by
  refine ⟨fun pins s σ H Q I ⟨e, F, r, nd, h⟩ => ?_⟩
  unfold frzD at h
  cases q : n e with
  | bad => rw [q] at h; exact h.elim
  | exc y e1 =>
    rw [q] at h
    exact p.run pins s σ H Q I ⟨e, F, r, nd, by rw [q]; exact h⟩
  | ok d e1 =>
    rw [q] at h
    cases d with
    | dct ds =>
      simp only at h
      refine thn (p.run pins s σ H (fun v H' => ∃ F', Ev X.K F H (some v :: σ) H' (some (.dct ds) :: e1) F') I ⟨e, F, r, nd, by rw [q]; exact fun v H' F' x => ⟨F', x⟩⟩) fun u s1 hq => ?_
      obtain ⟨v, H1, I1, rv, F', x⟩ := hq
      obtain ⟨G, F0, eF, pv, x', hd, n1, nw⟩ := x.head
      cases pv with | dct ha hc ra => ?_
      rename_i a kvs
      obtain ⟨od, I2⟩ := I1.lock ha trivial
      refine ⟨.ref a, _, I2, rv, ?_⟩
      have na : a ∉ F0 := hd a List.mem_cons_self
      have k : Keeps [a] H1 (upd H1 a (.frz od (.dK kvs))) := .upd ha rfl List.mem_cons_self
      have kF : Keeps F H (upd H1 a (.frz od (.dK kvs))) := fun b o hb z => by
        by_cases y : b = a
        · subst y
          rcases nw b List.mem_cons_self with n | n
          · rcases z with z | z
            · have := x'.k b o hb (.inl z)
              rw [ha] at this; cases this; cases z
            · exact absurd n z
          · rw [n] at hb; cases hb
        · rw [upd_ne y]; exact x'.k b o hb z
      have w : Ev X.K F H σ (upd H1 a (.frz od (.dK kvs))) e1 F0 := ⟨kF, x'.r.keep k fun b m z => na (by rw [← List.mem_singleton.mp z]; exact m), x'.nd, x'.new⟩
      exact h (.ref a) _ F0 (w.consImm (.rdc ⟨_, upd_same⟩ hc (ra.keep k fun _ m => by cases m)) rfl)
    | _ => exact h.elim
/-! ### {k: v for g in w if tt} -/
def mDComp (g : MG) (tt : MT) (mk mv : MB) (vs : List Nat) : List D → E → List (D × D) → Re (List (D × D))
  | [], e, acc => .ok acc e
  | d :: ds, e, acc => match g d e with
    | some e1 => (match tt e1 with
      | .ok b e2 => if b = true then (match mk e2 with
          | .ok k => (match mv e2 with
            | .ok y => if isKey k = true ∧ imm y = true then mDComp g tt mk mv vs ds (wipeE e2 vs) (dputD acc k y) else .bad
            | _ => .bad)
          | _ => .bad) else mDComp g tt mk mv vs ds (wipeE e2 vs) acc
      | _ => .bad)
    | none => .bad
def eDComp (w : MW) (g : MG) (tt : MT) (mk mv : MB) (vs : List Nat) : ME := fun e => match w e with
  | .ok items e1 => if fits items.length = true then (match mDComp g tt mk mv vs items (wipeE e1 vs) [] with
    | .ok acc e2 => .ok (.dct acc) e2
    | _ => .bad) else .bad
  | .exc x e1 => .exc x e1
  | .bad => .bad
theorem dput_len (ds : List (D × D)) (k y : D) : (dputD ds k y).length ≤ ds.length + 1 := by
  unfold dputD
  split
  · simp
  · simp
structure AccD (K : PySem.W.Frag) (F : List Addr) (H H' : Hp) (L : Addr) (acc : List (D × D)) (F' : List Addr) : Prop where
  ex : ∃ kvs : List (Key × V), H' L = some (.dK kvs) ∧ kvs.map (fun (p : Key × V) => kD p.1) = acc.map (·.1) ∧ Rps K H' (kvs.map (·.2)) (acc.map (·.2)) []
  nin : L ∉ F'
  new : L ∈ F ∨ H L = none
section
variable {K : PySem.W.Frag}
theorem AccD.keep {F F' F2 : List Addr} {H H' H2 : Hp} {L : Addr} {acc : List (D × D)} {σ2 : L2.St} {e2 : E} (a : AccD K F H H' L acc F') (y : Ev K F' H' σ2 H2 e2 F2) : AccD K F H H2 L acc F2 := by
  obtain ⟨⟨kvs, h1, h2, h3⟩, n1, n2⟩ := a
  refine ⟨⟨kvs, y.k _ _ h1 (.inr n1), h2, h3.keep y.k fun _ m => by cases m⟩, fun m => ?_, n2⟩
  exact (y.new L m).elim n1 (by rw [h1]; exact fun z => by cases z)
theorem AccD.grow {F F' : List Addr} {H H' H2 : Hp} {L : Addr} {acc : List (D × D)} (a : AccD K F H H' L acc F') (k : Keeps [] H' H2) : AccD K F H H2 L acc F' := by
  obtain ⟨⟨kvs, h1, h2, h3⟩, n1, n2⟩ := a
  exact ⟨⟨kvs, k _ _ h1 (.inr fun m => by cases m), h2, h3.keep k fun _ m => by cases m⟩, n1, n2⟩
theorem AccD.less {F F' F2 : List Addr} {H H' : Hp} {L : Addr} {acc : List (D × D)} (a : AccD K F H H' L acc F') (h : ∀ b ∈ F2, b ∈ F') : AccD K F H H' L acc F2 :=
  ⟨a.ex, fun m => a.nin (h L m), a.new⟩
end
theorem dcomp_ok {K : PySem.W.Frag} {J : It} {items : List D} {P : Hp → Prop} {A : List Addr} (src : Src K J items P A) {g : MG} {tt : MT} {mk mv : MB} {vs : List Nat} {σ : L2.St} {H0 H1 : Hp} {F0 F1 : List Addr} {e1 : E} {Q : VK}
    (x0 : Ev K F0 H0 σ H1 e1 F1) (hA : ∀ a ∈ A, a ∉ F1 ∧ H1 a ≠ none) (hp : P H1) (hfit : fits items.length = true) (hw0 : ∀ i d, e1[i]? = some (some d) → i ∉ vs)
    (h : match mDComp g tt mk mv vs items e1 [] with
      | .ok acc e2 => ∀ v H' F', Ev K F0 H0 (some v :: σ) H' (some (.dct acc) :: e2) F' → Q v H'
      | _ => False) (L : Addr) (hL : H1 L = none) :
    ∃ V : Nat → Nat → Hp → Prop, (∃ m, V 0 m (upd H1 L (.dK []))) ∧ ∀ i m H, V i m H → (J.stop i H ∧ Q (.ref L) H) ∨ (J.go i H ∧ ∃ Nx : Hp → Prop, (∀ H', Nx H' → ∃ m', m' < m ∧ V (i + 1) m' H') ∧ ∀ x H', J.yld i H x H' →
      tG K (zw vs) g x (L2.wipe σ vs) H' fun σ2 H2 => L2.wipe σ2 vs = L2.wipe σ vs ∧ tT K wF tt σ2 H2 fun b H3 =>
        if b = true then tB K wF mk σ2 H3 fun y H4 => tB K wF mv σ2 H4 fun z H5 => ∃ kvs k, y = kV k ∧ H5 L = some (.dK kvs) ∧ kvs.length < sizeLine ∧ Nx (upd H5 L (.dK (putK kvs k z))) else Nx H3) := by
  have k0 : Keeps [] H1 (upd H1 L (.dK [])) := .new hL []
  have x1 : Ev K F0 H0 σ (upd H1 L (.dK [])) e1 F1 := x0.grow k0
  have LA : L ∉ A := fun m => (hA L m).2 hL
  have newL : L ∈ F0 ∨ H0 L = none := by
    by_cases z : L ∈ F0
    · exact .inl z
    · exact .inr (x0.k.none hL z)
  have a0 : AccD K F0 H0 (upd H1 L (.dK [])) L [] F1 := ⟨⟨[], upd_same, rfl, .nil⟩, fun m => x0.r.there m hL, newL⟩
  have hA1 : ∀ a ∈ A, a ∉ F1 ∧ (upd H1 L (.dK [])) a ≠ none := fun a m => ⟨(hA a m).1, by rw [upd_ne (fun z => LA (by rw [← z]; exact m))]; exact (hA a m).2⟩
  refine ⟨fun i m H' => i + m = items.length ∧ P H' ∧ ∃ e' F' acc, Ev K F0 H0 σ H' e' F' ∧ AccD K F0 H0 H' L acc F' ∧ (∀ a ∈ A, a ∉ F' ∧ H' a ≠ none) ∧ (∀ j d, e'[j]? = some (some d) → j ∉ vs) ∧ acc.length ≤ i ∧ mDComp g tt mk mv vs (items.drop i) e' acc = mDComp g tt mk mv vs items e1 [],
    ⟨items.length, by omega, src.st [] _ _ (fun _ _ m => by cases m) k0 hp, e1, F1, [], x1, a0, hA1, hw0, Nat.le_refl _, by rw [List.drop_zero]⟩, fun i m H' hV => ?_⟩
  obtain ⟨him, hp', e', F', acc, ev, ac, hA', hw, hlen, hl⟩ := hV
  by_cases hi : i < items.length
  · refine .inr ⟨src.go i H' hp' hi, fun H2 => P H2 ∧ ∃ e2 F2 acc, Ev K F0 H0 σ H2 e2 F2 ∧ AccD K F0 H0 H2 L acc F2 ∧ (∀ a ∈ A, a ∉ F2 ∧ H2 a ≠ none) ∧ (∀ j d, e2[j]? = some (some d) → j ∉ vs) ∧ acc.length ≤ i + 1 ∧ mDComp g tt mk mv vs (items.drop (i + 1)) e2 acc = mDComp g tt mk mv vs items e1 [],
      fun H2 hN => ?_, fun y H2 hy => ?_⟩
    · obtain ⟨q1, e2, F2, acc2, q2, q3, q4, q5, q6, q7⟩ := hN
      exact ⟨m - 1, by omega, by omega, q1, e2, F2, acc2, q2, q3, q4, q5, q6, q7⟩
    · obtain ⟨ky, py⟩ := src.yld i H' y H2 hp' hi hy
      rw [List.drop_eq_getElem_cons hi, mDComp] at hl
      cases qg : g items[i] e' with
      | none => rw [qg] at hl; rw [← hl] at h; exact h.elim
      | some e2 =>
        rw [qg] at hl
        simp only at hl
        have evy : Ev K F0 H0 σ H2 e' F' := ev.grow ky
        have acy : AccD K F0 H0 H2 L acc F' := ac.keep ⟨ky.mono (fun _ m => by cases m), ev.r.same ky, ev.nd, fun a m => .inl m⟩
        have py' : P H2 := src.st [] _ _ (fun _ _ m => by cases m) ky hp'
        have there : ∀ {S : List Addr} {Ha Hb : Hp}, (∀ a ∈ A, a ∉ S) → Keeps S Ha Hb → (∀ a ∈ A, Ha a ≠ none) → ∀ a ∈ A, Hb a ≠ none := fun {S Ha Hb} hs k ht a m z => by
          cases q : Ha a with
          | none => exact ht a m q
          | some o => rw [k a o q (.inr (hs a m))] at z; cases z
        refine ⟨items[i], e', F', e2, py, wipe_agree evy.r hw, evy.nd, qg, fun σ2 H3 F3 ev3 fz3 => ⟨?_, ?_⟩⟩
        · have w1 : L2.wipe (L2.wipe σ vs) vs = L2.wipe σ vs := wipe_same (L2.wipe_length _ _) fun i m => wipe_out m
          rw [wipe_same fz3.1 fun i m => fz3.2 i (by simp [zw, m]), w1]
        · have P3 : P H3 := src.st F' H2 H3 (fun a m => (hA' a m).1) ev3.k py'
          have ac3 := acy.keep ev3
          have at2 : ∀ a ∈ A, H2 a ≠ none := there (S := []) (fun _ _ m => by cases m) ky fun a m => (hA' a m).2
          have at3 : ∀ a ∈ A, a ∉ F3 ∧ H3 a ≠ none := fun a m => ⟨fun z => (ev3.new a z).elim (hA' a m).1 (at2 a m), there (fun a m => (hA' a m).1) ev3.k at2 a m⟩
          -- the outer slots again
          have outer : ∀ {σ4 : L2.St} {H4 : Hp} {e4 : E} {F4 : List Addr}, Ev K F' H2 σ4 H4 e4 F4 → Fz (zw vs) (L2.wipe σ vs) σ4 → ∃ F5, Ev K F0 H0 σ H4 (wipeE e4 vs) F5 ∧ ∀ a ∈ F5, a ∈ F4 := by
            intro σ4 H4 e4 F4 ev4 fz4
            obtain ⟨F5, r5, n5, s5⟩ := ev4.r.wipe ev4.nd vs
            refine ⟨F5, ⟨evy.k.trans ev4.k evy.new, r5.agree (by rw [fz4.1, L2.wipe_length]) fun j d q => ?_, n5, fun a m => ?_⟩, s5⟩
            · obtain ⟨m1, _⟩ := wipeE_in q
              rw [fz4.2 j (by simp [zw, m1]), wipe_out m1]
            · rcases ev4.new a (s5 a m) with z | z
              · exact evy.new a z
              · by_cases zz : a ∈ F0
                · exact .inl zz
                · exact .inr (evy.k.none z zz)
          refine ⟨e2, F3, ev3.r, ev3.nd, ?_⟩
          cases qt : tt e2 with
          | bad => rw [qt] at hl; rw [← hl] at h; exact h.elim
          | exc z e3 => rw [qt] at hl; rw [← hl] at h; exact h.elim
          | ok b e3 =>
            rw [qt] at hl
            simp only at hl
            intro H4 F4 ev4
            have evB := ev3.trans ev4
            have ac4 := ac3.keep ev4
            have P4 : P H4 := src.st F3 H3 H4 (fun a m => (at3 a m).1) ev4.k P3
            have at4 : ∀ a ∈ A, a ∉ F4 ∧ H4 a ≠ none := fun a m => ⟨fun z => (ev4.new a z).elim (at3 a m).1 (at3 a m).2, there (fun a m => (at3 a m).1) ev4.k (fun a m => (at3 a m).2) a m⟩
            cases b with
            | false =>
              simp only [Bool.false_eq_true, if_false] at hl ⊢
              obtain ⟨F5, ev5, s5⟩ := outer evB fz3
              exact ⟨P4, _, F5, acc, ev5, ac4.less s5, fun a m => ⟨fun z => (at4 a m).1 (s5 a z), (at4 a m).2⟩, fun j d q => (wipeE_in q).1, by omega, hl⟩
            | true =>
              simp only [if_true] at hl ⊢
              refine ⟨e3, F4, ev4.r, ?_⟩
              cases qk : mk e3 with
              | bad => rw [qk] at hl; rw [← hl] at h; exact h.elim
              | exc z => rw [qk] at hl; rw [← hl] at h; exact h.elim
              | ok dk =>
                rw [qk] at hl
                simp only at hl
                intro vk H5 G5 k5 p5
                refine ⟨e3, F4, ev4.r.same k5, ?_⟩
                cases qv : mv e3 with
                | bad => rw [qv] at hl; rw [← hl] at h; exact h.elim
                | exc z => rw [qv] at hl; rw [← hl] at h; exact h.elim
                | ok dy =>
                  rw [qv] at hl
                  simp only at hl
                  intro vy H6 G6 k6 p6
                  by_cases hc : isKey dk = true ∧ imm dy = true
                  · rw [if_pos hc] at hl
                    obtain ⟨key, ek, ed⟩ := key_of p5 hc.1
                    subst ek ed
                    have e0 := p6.fpImm hc.2
                    subst e0
                    have k46 : Keeps [] H4 H6 := k5.trans k6 fun _ m => by cases m
                    have evC : Ev K F' H2 σ2 H6 e3 F4 := evB.grow k46
                    obtain ⟨⟨kvs, g1, g2, g3⟩, n4, nL2⟩ := ac4.grow k46
                    refine ⟨kvs, key, rfl, g1, by rw [dlen_ok g2]; have := fits_le hfit; omega, ?_⟩
                    have kL : Keeps [L] H6 (upd H6 L (.dK (putK kvs key vy))) := .upd g1 rfl List.mem_cons_self
                    obtain ⟨F7, ev7, s7⟩ := outer evC fz3
                    have L7 : L ∉ F7 := fun m => n4 (s7 L m)
                    have P6 : P H6 := src.st [] H4 H6 (fun _ _ m => by cases m) k46 P4
                    have at6 : ∀ a ∈ A, a ∉ F4 ∧ H6 a ≠ none := fun a m => ⟨(at4 a m).1, there (S := []) (fun _ _ m => by cases m) k46 (fun a m => (at4 a m).2) a m⟩
                    have kF : Keeps F0 H0 (upd H6 L (.dK (putK kvs key vy))) := fun a o q z => by
                      by_cases y : a = L
                      · subst y
                        rcases nL2 with n | n
                        · rcases z with z | z
                          · have := ev7.k a o q (.inl z)
                            rw [g1] at this; cases this; cases z
                          · exact absurd n z
                        · rw [n] at q; cases q
                      · rw [upd_ne y]; exact ev7.k a o q z
                    have ev8 : Ev K F0 H0 σ (upd H6 L (.dK (putK kvs key vy))) (wipeE e3 vs) F7 := ⟨kF, ev7.r.keep kL fun a m z => L7 (by rw [← List.mem_singleton.mp z]; exact m), ev7.nd, ev7.new⟩
                    obtain ⟨m1, m2⟩ := dput_ok key p6 g2 g3
                    exact ⟨src.st [L] _ _ (fun a m z => LA (by rw [← List.mem_singleton.mp z]; exact m)) kL P6, _, F7, _, ev8, ⟨⟨_, upd_same, m1, m2.keep kL fun _ m => by cases m⟩, L7, nL2⟩,
                      fun a m => ⟨fun z => (at6 a m).1 (s7 a z), by rw [upd_ne (fun z => LA (by rw [← z]; exact m))]; exact (at6 a m).2⟩, fun j d q => (wipeE_in q).1, by have := dput_len acc (kD key) dy; omega, hl⟩
                  · rw [if_neg hc] at hl; rw [← hl] at h; exact h.elim
  · have ei : i = items.length := by omega
    subst ei
    rw [List.drop_length, mDComp] at hl
    rw [← hl] at h
    obtain ⟨⟨kvs, h1, h2, h3⟩, nL, nL2⟩ := ac
    refine .inl ⟨src.stop H' hp', h (.ref L) H' _ (ev.cons (.dct h1 h2 h3) (fun a m => ?_) (by simp) fun a m => ?_)⟩
    · rw [List.mem_singleton.mp m]; exact nL
    · rw [List.mem_singleton.mp m]; exact nL2
section
variable {K : PySem.W.Frag} {W : WX} {σ : L2.St} {H : Hp} {Q : VK} {w : MW} {g : MG} {tt : MT} {mk mv : MB} {vs : List Nat}
theorem dc_of (h : tE K W (eDComp w g tt mk mv vs) σ H Q) : tDc (tW K W w) (tG K (zw vs) g) (tT K wF tt) (tB K wF mk) (tB K wF mv) vs σ H Q := by
  obtain ⟨e, F, r, nd, h⟩ := h
  refine ⟨e, F, r, nd, ?_⟩
  unfold eDComp at h
  cases q : w e with
  | bad => rw [q] at h; exact h
  | exc y e1 => rw [q] at h; exact h
  | ok items e1 =>
    rw [q] at h
    simp only at h
    by_cases hf : fits items.length = true
    · rw [if_pos hf] at h
      intro J H1 F1 A P src hp x hA L hL
      obtain ⟨F2, r2, n2, s2⟩ := x.r.wipe x.nd vs
      have x2 : Ev K F H σ H1 (wipeE e1 vs) F2 := ⟨x.k, r2, n2, fun a m => x.new a (s2 a m)⟩
      refine dcomp_ok src x2 (fun a m => ⟨fun z => (hA a m).1 (s2 a z), (hA a m).2⟩) hp hf (fun i d q => (wipeE_in q).1) ?_ L hL
      cases qc : mDComp g tt mk mv vs items (wipeE e1 vs) [] with
      | ok acc e2 => rw [qc] at h; exact h
      | exc y e2 => rw [qc] at h; exact h
      | bad => rw [qc] at h; exact h
    · rw [if_neg hf] at h; exact h.elim
end
section
variable {X : Cx} {W : WX} {w : MW} {g : MG} {tt : MT} {mk mv : MB}
theorem e_dcomp {kx vx tg iter : Expr} {ifs : List Expr} {scope : Scope} {own : List (Str × Nat)} {pos : Pos} (hi : PI X tg iter (tW X.K W w)) (hc : X.calm = true) (hN : X.N.Nodup) (ok : BlkOk X.N X.env.scope scope own)
    (hg : ∀ (s : Shared) (H : Hp) (C : Addr) (cl : List (Str × Addr)) (fp : List Addr), PG (X.blk s H scope (compEnvC scope cl C X.env) fp) tg (tG X.K (zw (own.map (·.2))) g)) (ht : ∀ (s : Shared) (H : Hp) (C : Addr) (cl : List (Str × Addr)) (fp : List Addr), PTs (X.blk s H scope (compEnvC scope cl C X.env) fp) ifs (tT X.K wF tt))
    (hk : ∀ (s : Shared) (H : Hp) (C : Addr) (cl : List (Str × Addr)) (fp : List Addr), PE (X.blk s H scope (compEnvC scope cl C X.env) fp) kx (tB X.K wF mk))
    (he : ∀ (s : Shared) (H : Hp) (C : Addr) (cl : List (Str × Addr)) (fp : List Addr), PE (X.blk s H scope (compEnvC scope cl C X.env) fp) vx (tB X.K wF mv)) (hs : ∀ x, foldedSetIterable iter X.env x = pure x := by intro _; rfl) :
    PE X (.DictComp kx vx [⟨tg, iter, ifs, 0⟩] scope pos) (tE X.K W (eDComp w g tt mk mv (own.map (·.2)))) := PE.mono (pe_dc hc hN hi ok hg ht hk he hs) fun _ _ _ h => dc_of h
theorem ps_setDc {i : Nat} {y : Str} {py : Pos} {kx vx tg iter : Expr} {ifs : List Expr} {scope : Scope} {own : List (Str × Nat)} {pos spos : Pos} {wi : TI} {g : TG} {tt : TT} {tk tv : TE} (hc : X.calm = true) (hN : X.N.Nodup) (hy : X.N[i]? = some y) (hyl : X.env.scope.names.lookup y = some .local)
    (hsw : swapsWith (.DictComp kx vx [⟨tg, iter, ifs, 0⟩] scope pos) (some (.Name y py)) spos.line X.env = pure true) (hi : PI X tg iter wi) (ok : BlkOk X.N X.env.scope scope own)
    (hg : ∀ (s : Shared) (H : Hp) (C : Addr) (cl : List (Str × Addr)) (fp : List Addr), PG (X.blk s H scope (compEnvC scope cl C X.env) fp) tg g) (ht : ∀ (s : Shared) (H : Hp) (C : Addr) (cl : List (Str × Addr)) (fp : List Addr), PTs (X.blk s H scope (compEnvC scope cl C X.env) fp) ifs tt)
    (hk : ∀ (s : Shared) (H : Hp) (C : Addr) (cl : List (Str × Addr)) (fp : List Addr), PE (X.blk s H scope (compEnvC scope cl C X.env) fp) kx tk)
    (he : ∀ (s : Shared) (H : Hp) (C : Addr) (cl : List (Str × Addr)) (fp : List Addr), PE (X.blk s H scope (compEnvC scope cl C X.env) fp) vx tv) (hs : ∀ x, foldedSetIterable iter X.env x = pure x := by intro _; rfl) :
    PS X (.Assign [.Name y py] (.DictComp kx vx [⟨tg, iter, ifs, 0⟩] scope pos) spos) (tAsg (tDc wi g tt tk tv (own.map (·.2))) (gName i)) := by
  refine ⟨fun pins s σ H D I h => ?_⟩
  rw [exec_Assign_Name_used _ _ _ _ hsw]
  refine wpAny_bind (wpAny_standAt (wpAny_bind ?_))
  show wpAny _ X.A (do let _ ← comprehension (.DictComp kx vx [⟨tg, iter, ifs, 0⟩] scope pos) scope X.env (firstIterPos [⟨tg, iter, ifs, 0⟩] pos) newDict false (eval iter X.env) (some (assign (.Name y py) X.env))) _ _ s
  have h : tDc wi g tt tk tv (own.map (·.2)) σ H (fun x H1 => gName i x σ H1 D.nx) := h
  refine wpAny_bind (thn (dc_core (Qf := fun _ s' => SP X pins D .next s') hc hN I hi ok hg ht hk he hs h fun L C s' m H' I' q hn f => ?_) fun _ s' hq => wpAny_pure (wpAny_pure hq))
  show wpAny _ _ (assign (.Name y py) X.env (.ref L)) _ _ _
  refine wpAny_assign_Name (store_ok2 (v := V.ref L) I' hN hy (.inl hyl) rfl (fun s2 I2 ⟨a, sb, ha⟩ => ?_) (.inr hyl))
  obtain ⟨f0, f1, f2, f3, f4, f5⟩ := f
  have haC : C ≠ a := by
    rcases ha with z | z
    · rw [z]; exact f1
    · exact fun e => f4 y a z e.symm
  refine ⟨m, hn.sameBut sb haC, fun h3 sb3 => ?_⟩
  exact ⟨_, H', I2.turned (t' := s2.toks) (fun b o hb e => (sb3.2 b hb).trans e) f0 f1 f3 f4 f5, q⟩
theorem sw_trueD {kx vx : Expr} {gs : List Comprehension} {scope : Scope} {pos py : Pos} {y : Str} {l : Nat} {env : Env} (hk : env.scope.kind = .function) (hy : env.scope.names.lookup y = some .local) (hl : (py.line == pos.line) = true)
    (ha : (scope.names.any fun (n, k) => n == y && (k == .local || k == .cell)) = false) : swapsWith (.DictComp kx vx gs scope pos) (some (.Name y py)) l env = pure true := by
  have ky : env.kindOf y = some .local := hy
  have hb : env.blockKind = .function := by unfold Env.blockKind; rw [hk]; rfl
  unfold swapsWith
  simp only [hb, ky, ha, Expr.pos, hl]
  rfl
theorem m_setDc {Z : Zs} {i : Nat} {y : Str} {py : Pos} {kx vx tg iter : Expr} {ifs : List Expr} {scope : Scope} {own : List (Str × Nat)} {pos spos : Pos} (hi : PI X tg iter (tW X.K W w)) (hc : X.calm = true) (hN : X.N.Nodup)
    (hsw : swapsWith (.DictComp kx vx [⟨tg, iter, ifs, 0⟩] scope pos) (some (.Name y py)) spos.line X.env = pure true) (ok : BlkOk X.N X.env.scope scope own)
    (hg : ∀ (s : Shared) (H : Hp) (C : Addr) (cl : List (Str × Addr)) (fp : List Addr), PG (X.blk s H scope (compEnvC scope cl C X.env) fp) tg (tG X.K (zw (own.map (·.2))) g)) (ht : ∀ (s : Shared) (H : Hp) (C : Addr) (cl : List (Str × Addr)) (fp : List Addr), PTs (X.blk s H scope (compEnvC scope cl C X.env) fp) ifs (tT X.K wF tt))
    (hk : ∀ (s : Shared) (H : Hp) (C : Addr) (cl : List (Str × Addr)) (fp : List Addr), PE (X.blk s H scope (compEnvC scope cl C X.env) fp) kx (tB X.K wF mk))
    (he : ∀ (s : Shared) (H : Hp) (C : Addr) (cl : List (Str × Addr)) (fp : List Addr), PE (X.blk s H scope (compEnvC scope cl C X.env) fp) vx (tB X.K wF mv)) (hz : Z i = false := by rfl) (hy : X.N[i]? = some y := by rfl) (hyl : X.env.scope.names.lookup y = some .local := by rfl) (hs : ∀ x, foldedSetIterable iter X.env x = pure x := by intro _; rfl) :
    PS X (.Assign [.Name y py] (.DictComp kx vx [⟨tg, iter, ifs, 0⟩] scope pos) spos) (tM X.K W Z (mSet i (eDComp w g tt mk mv (own.map (·.2))))) := PS.mono (ps_setDc hc hN hy hyl hsw hi ok hg ht hk he hs) fun D σ H h => by
  obtain ⟨e, F, r, nd, h⟩ := h
  refine dc_of (Q := fun x H1 => gName i x σ H1 D.nx) (W := W) ⟨e, F, r, nd, ?_⟩
  unfold mSet at h
  cases q : eDComp w g tt mk mv (own.map (·.2)) e with
  | bad => rw [q] at h; exact h
  | exc y e1 => rw [q] at h; exact fun c dx H' F' x p => h c dx σ H' F' x (.refl _ _) p
  | ok d e1 =>
    rw [q] at h
    intro v H' F' x
    obtain ⟨F3, y⟩ := x.put i
    exact h _ H' F3 y (.set hz)
end
end Mir

namespace Mir
open PySem PySem.Spec L2

/-! ### comprehensions, targets -/
theorem mComp_map {g : MG} {tt : MT} {te : ME} {vs : List Nat} {E0 : E} {f : D → D} : ∀ (ds : List D) (acc : List D), (∀ d ∈ ds, w0 (g d E0) fun e2 => w2 (tt e2) fun b e3 => b = true ∧ w2 (te e3) fun y e4 => y = f d ∧ wipeE e4 vs = E0) → mComp g tt te vs ds E0 acc = .ok (acc ++ ds.map f) E0
  | [], acc, _ => by rw [mComp]; simp
  | d :: ds, acc, h => by
    have h1 := h d List.mem_cons_self
    rw [mComp]
    generalize g d E0 = r at h1 ⊢
    cases h1 with
    | @mk e2 _ h1 =>
      simp only
      generalize tt e2 = r at h1 ⊢
      cases h1 with
      | @mk b e3 _ h1 =>
        obtain ⟨rfl, h1⟩ := h1
        simp only [if_true]
        generalize te e3 = r at h1 ⊢
        cases h1 with
        | @mk y e4 _ h1 =>
          obtain ⟨rfl, h1⟩ := h1
          simp only
          rw [h1, mComp_map ds _ fun d hd => h d (List.mem_cons_of_mem _ hd)]
          simp
theorem w2_comp {w : MW} {g : MG} {tt : MT} {te : ME} {vs : List Nat} {e : E} {Q2 : D → E → Prop} (f : D → D) (h : w2 (w e) fun items e1 => fits items.length = true ∧ (∀ d ∈ items, w0 (g d (wipeE e1 vs)) fun e2 => w2 (tt e2) fun b e3 => b = true ∧ w2 (te e3) fun y e4 => y = f d ∧ wipeE e4 vs = wipeE e1 vs) ∧ Q2 (.lst (items.map f)) (wipeE e1 vs)) : w2 (eComp w g tt te vs e) Q2 := by
  unfold eComp
  generalize w e = r at h ⊢
  cases h with
  | @mk items e1 _ h =>
    obtain ⟨h1, h2, h3⟩ := h
    simp only [h1, if_true]
    rw [mComp_map items [] h2]
    simp only [List.nil_append]
    exact .mk h3
theorem w0_gT2 {i j : Nat} {a b : D} {e : E} {Q : E → Prop} (h : imms [a, b] = true) (q : Q ((e.set i (some a)).set j (some b))) : w0 (gT [i, j] (.tup [a, b]) e) Q :=
  w0_of (show (if imms [a, b] = true then gNs [i, j] [a, b] e else none) = _ by rw [if_pos h]; rfl) q
theorem w0_gT3 {i j k : Nat} {a b c : D} {e : E} {Q : E → Prop} (h : imms [a, b, c] = true) (q : Q (((e.set i (some a)).set j (some b)).set k (some c))) : w0 (gT [i, j, k] (.tup [a, b, c]) e) Q :=
  w0_of (show (if imms [a, b, c] = true then gNs [i, j, k] [a, b, c] e else none) = _ by rw [if_pos h]; rfl) q
theorem w0_gT4 {i j k l : Nat} {a b c d : D} {e : E} {Q : E → Prop} (h : imms [a, b, c, d] = true) (q : Q ((((e.set i (some a)).set j (some b)).set k (some c)).set l (some d))) : w0 (gT [i, j, k, l] (.tup [a, b, c, d]) e) Q :=
  w0_of (show (if imms [a, b, c, d] = true then gNs [i, j, k, l] [a, b, c, d] e else none) = _ by rw [if_pos h]; rfl) q
theorem w0_gT5 {i j k l m : Nat} {a b c d f : D} {e : E} {Q : E → Prop} (h : imms [a, b, c, d, f] = true) (q : Q (((((e.set i (some a)).set j (some b)).set k (some c)).set l (some d)).set m (some f))) : w0 (gT [i, j, k, l, m] (.tup [a, b, c, d, f]) e) Q :=
  w0_of (show (if imms [a, b, c, d, f] = true then gNs [i, j, k, l, m] [a, b, c, d, f] e else none) = _ by rw [if_pos h]; rfl) q
/-! ### dicts -/
section
variable {e : E} {Q : D → Prop} {Q2 : D → E → Prop} {na : ME} {ma mk mv mz : MB}
theorem w2_frzD (h : w2 (na e) fun d e1 => ∃ ds, d = .dct ds ∧ Q2 (.rdc ds) e1) : w2 (frzD na e) Q2 := by
  unfold frzD
  generalize na e = r at h ⊢
  cases h with
  | mk h => obtain ⟨ds, rfl, h⟩ := h; exact .mk h
theorem w1_newD (q : Q (.dct [])) : w1 (mNewD e) Q := .mk q
theorem w1_disp1 (h : w1 (mk e) fun k => w1 (mv e) fun v => isKey k = true ∧ imm v = true ∧ Q (.dct [(k, v)])) : w1 (mDispB [(mk, mv)] e) Q := by
  unfold mDispB pairsB
  generalize mk e = r at h ⊢
  cases h with
  | mk h =>
    simp only [Rs.bind]
    generalize mv e = r at h ⊢
    cases h with
    | mk h =>
      obtain ⟨h1, h2, h3⟩ := h
      simp only [Rs.bind, pairsB]
      rw [if_pos ⟨by simp, by simp [h1, h2]⟩]
      exact .mk h3
theorem w1_getB (h : w1 (ma e) fun a => getB.isDct a = true ∧ w1 (mk e) fun k => w1 (mz e) fun z => w0 (fDGetOr a k z) Q) : w1 (getB ma mk mz e) Q := by
  unfold getB
  refine w1_bind (w1_mono h fun a h => ?_)
  rw [if_pos h.1]
  exact w1_bind (w1_mono h.2 fun k h => w1_bind (w1_mono h fun z h => w1_of h))
theorem wS_dset {i : Nat} {N B C : E → Prop} {R : D → E → Prop} (h : w2 (na e) fun y e1 => imm y = true ∧ ∃ ds, e1[i]? = some (some (.dct ds)) ∧ w1 (mk e1) fun k => isKey k = true ∧ ds.length < sizeLine ∧ N (e1.set i (some (.dct (dputD ds k y))))) : wS (mDSet i mk na e) N R B C := by
  unfold mDSet
  generalize na e = r at h ⊢
  cases h with
  | @mk y e1 _ h =>
    obtain ⟨h1, ds, h2, h3⟩ := h
    simp only [h1, if_true, h2]
    generalize mk e1 = r at h3 ⊢
    cases h3 with
    | mk h3 =>
      obtain ⟨h4, h5, h6⟩ := h3
      simp only
      rw [if_pos ⟨h4, h5⟩]
      exact .nx h6
theorem mDComp_fold {g : MG} {tt : MT} {vs : List Nat} {E0 : E} {fk fv : D → D} : ∀ (ds : List D) (acc : List (D × D)), (∀ d ∈ ds, w0 (g d E0) fun e2 => w2 (tt e2) fun b e3 => b = true ∧ wipeE e3 vs = E0 ∧ w1 (mk e3) fun k => k = fk d ∧ isKey k = true ∧ w1 (mv e3) fun v => v = fv d ∧ imm v = true) →
    mDComp g tt mk mv vs ds E0 acc = .ok (ds.foldl (fun acc d => dputD acc (fk d) (fv d)) acc) E0
  | [], acc, _ => rfl
  | d :: ds, acc, h => by
    have h1 := h d List.mem_cons_self
    rw [mDComp]
    generalize g d E0 = r at h1 ⊢
    cases h1 with
    | @mk e2 _ h1 =>
      simp only
      generalize tt e2 = r at h1 ⊢
      cases h1 with
      | @mk b e3 _ h1 =>
        obtain ⟨rfl, h0, h1⟩ := h1
        simp only [if_true]
        generalize mk e3 = r at h1 ⊢
        cases h1 with
        | mk h1 =>
          obtain ⟨rfl, hk, h1⟩ := h1
          simp only
          generalize mv e3 = r at h1 ⊢
          cases h1 with
          | mk h1 =>
            obtain ⟨rfl, hv⟩ := h1
            simp only
            rw [if_pos ⟨hk, hv⟩, h0, mDComp_fold ds _ fun d hd => h d (List.mem_cons_of_mem _ hd)]
            rfl
theorem w2_dcomp {w : MW} {g : MG} {tt : MT} {vs : List Nat} (fk fv : D → D) (h : w2 (w e) fun items e1 => fits items.length = true ∧ (∀ d ∈ items, w0 (g d (wipeE e1 vs)) fun e2 => w2 (tt e2) fun b e3 => b = true ∧ wipeE e3 vs = wipeE e1 vs ∧ w1 (mk e3) fun k => k = fk d ∧ isKey k = true ∧ w1 (mv e3) fun v => v = fv d ∧ imm v = true) ∧
    Q2 (.dct (items.foldl (fun acc d => dputD acc (fk d) (fv d)) [])) (wipeE e1 vs)) : w2 (eDComp w g tt mk mv vs e) Q2 := by
  unfold eDComp
  generalize w e = r at h ⊢
  cases h with
  | @mk items e1 _ h =>
    obtain ⟨h1, h2, h3⟩ := h
    simp only [h1, if_true]
    rw [mDComp_fold items [] h2]
    exact .mk h3
end
/-! dicts whose keys are texts -/
abbrev SL := List (List Nat × D)
def strD (S : SL) : List (D × D) := S.map fun p => (.str p.1, p.2)
def lk (S : SL) (u : List Nat) : Option D := (S.find? fun p => decide (p.1 = u)).map (·.2)
def putL (S : SL) (u : List Nat) (y : D) : SL := if (S.any fun p => decide (p.1 = u)) = true then S.map (fun p => if p.1 = u then (p.1, y) else p) else S ++ [(u, y)]
theorem dget_str (S : SL) (u : List Nat) : dgetD (strD S) (.str u) = lk S u := by
  unfold dgetD strD lk
  induction S with
  | nil => rfl
  | cons p S ih =>
    rw [List.map_cons, List.find?_cons, List.find?_cons]
    have : keyEq (.str p.1) (.str u) = decide (p.1 = u) := rfl
    rw [this]
    cases decide (p.1 = u) with
    | true => rfl
    | false => exact ih
theorem dput_str (S : SL) (u : List Nat) (y : D) : dputD (strD S) (.str u) y = strD (putL S u y) := by
  unfold dputD putL
  have e1 : ((strD S).any fun p => keyEq p.1 (.str u)) = S.any fun p => decide (p.1 = u) := by
    unfold strD; rw [List.any_map]; rfl
  rw [e1]
  split
  · unfold strD
    rw [List.map_map, List.map_map]
    refine List.map_congr_left fun p _ => ?_
    show (if keyEq (.str p.1) (.str u) = true then (D.str p.1, y) else (.str p.1, p.2)) = (fun (p : List Nat × D) => (D.str p.1, p.2)) (if p.1 = u then (p.1, y) else p)
    have : keyEq (.str p.1) (.str u) = decide (p.1 = u) := rfl
    rw [this]
    by_cases h : p.1 = u
    · rw [if_pos (decide_eq_true h), if_pos h]
    · rw [if_neg (by simpa using h), if_neg h]
  · unfold strD; simp
theorem strD_len (S : SL) : (strD S).length = S.length := List.length_map _
theorem w0_dIn {S : SL} {u : List Nat} {Q : D → Prop} (q : Q (.bl (lk S u).isSome)) : w0 (fDIn (.str u) (.dct (strD S))) Q := w0_of (show some (D.bl (dgetD (strD S) (.str u)).isSome) = _ by rw [dget_str]) q
theorem w0_rIn {S : SL} {u : List Nat} {Q : D → Prop} (q : Q (.bl (lk S u).isSome)) : w0 (fDIn (.str u) (.rdc (strD S))) Q := w0_of (show some (D.bl (dgetD (strD S) (.str u)).isSome) = _ by rw [dget_str]) q
theorem w0_dNotIn {S : SL} {u : List Nat} {Q : D → Prop} (q : Q (.bl (!(lk S u).isSome))) : w0 (fDNotIn (.str u) (.dct (strD S))) Q := w0_of (show some (D.bl (!(dgetD (strD S) (.str u)).isSome)) = _ by rw [dget_str]) q
theorem w0_rNotIn {S : SL} {u : List Nat} {Q : D → Prop} (q : Q (.bl (!(lk S u).isSome))) : w0 (fDNotIn (.str u) (.rdc (strD S))) Q := w0_of (show some (D.bl (!(dgetD (strD S) (.str u)).isSome)) = _ by rw [dget_str]) q
theorem w0_dGet {S : SL} {u : List Nat} {d : D} {Q : D → Prop} (h : lk S u = some d) (q : Q d) : w0 (fDGet (.dct (strD S)) (.str u)) Q := w0_of (show dgetD (strD S) (.str u) = _ by rw [dget_str, h]) q
theorem w0_rGet {S : SL} {u : List Nat} {d : D} {Q : D → Prop} (h : lk S u = some d) (q : Q d) : w0 (fDGet (.rdc (strD S)) (.str u)) Q := w0_of (show dgetD (strD S) (.str u) = _ by rw [dget_str, h]) q
theorem w0_dGetOr {S : SL} {u : List Nat} {z : D} {Q : D → Prop} (q : Q ((lk S u).getD z)) : w0 (fDGetOr (.dct (strD S)) (.str u) z) Q := w0_of (show some ((dgetD (strD S) (.str u)).getD z) = _ by rw [dget_str]) q
theorem w0_rGetOr {S : SL} {u : List Nat} {z : D} {Q : D → Prop} (q : Q ((lk S u).getD z)) : w0 (fDGetOr (.rdc (strD S)) (.str u) z) Q := w0_of (show some ((dgetD (strD S) (.str u)).getD z) = _ by rw [dget_str]) q
/-! by a function over the keys -/
def fnS (names : List (List Nat)) (f : List Nat → D) : SL := names.map fun n => (n, f n)
theorem lk_fn {names : List (List Nat)} {f : List Nat → D} {u : List Nat} (h : u ∈ names) : lk (fnS names f) u = some (f u) := by
  unfold lk fnS
  induction names with
  | nil => cases h
  | cons n names ih =>
    rw [List.map_cons, List.find?_cons]
    by_cases e : n = u
    · subst e; simp
    · have : u ∈ names := (List.mem_cons.mp h).resolve_left fun z => e z.symm
      simp only [decide_eq_false e]
      exact ih this
theorem fn_any {names : List (List Nat)} {f : List Nat → D} {u : List Nat} : ((fnS names f).any fun p => decide (p.1 = u)) = decide (u ∈ names) := by
  unfold fnS
  rw [List.any_map, Bool.eq_iff_iff, List.any_eq_true, decide_eq_true_iff]
  constructor
  · rintro ⟨x, hx, h⟩
    have h := of_decide_eq_true h
    simp only at h
    rw [← h]; exact hx
  · intro h; exact ⟨u, h, decide_eq_true rfl⟩
theorem put_fn {names : List (List Nat)} {f : List Nat → D} {u : List Nat} {y : D} (h : u ∈ names) : putL (fnS names f) u y = fnS names fun v => if v = u then y else f v := by
  unfold putL
  rw [fn_any, if_pos (decide_eq_true h)]
  unfold fnS
  rw [List.map_map]
  refine List.map_congr_left fun n _ => ?_
  show (if n = u then (n, y) else (n, f n)) = (n, if n = u then y else f n)
  split <;> rfl
theorem put_new {names : List (List Nat)} {f : List Nat → D} {u : List Nat} {y : D} (h : u ∉ names) (hf : f u = y) : putL (fnS names f) u y = fnS (names ++ [u]) f := by
  unfold putL
  rw [fn_any, if_neg (by simpa using h)]
  unfold fnS
  simp [hf]
theorem fnS_len (names : List (List Nat)) (f : List Nat → D) : (fnS names f).length = names.length := List.length_map _
theorem wS_dsetS {e : E} {na : ME} {mk : MB} {i : Nat} {N B C : E → Prop} {R : D → E → Prop} (h : w2 (na e) fun y e1 => imm y = true ∧ ∃ S, e1[i]? = some (some (.dct (strD S))) ∧ S.length ≤ 1000000 ∧ w1 (mk e1) fun k => ∃ u, k = .str u ∧ N (e1.set i (some (.dct (strD (putL S u y)))))) : wS (mDSet i mk na e) N R B C :=
  wS_dset (w2_mono h fun y e1 ⟨h1, S, h2, h3, h4⟩ => ⟨h1, strD S, h2, w1_mono h4 fun k ⟨u, h5, h6⟩ => by
    subst h5
    refine ⟨rfl, by rw [strD_len]; have : sizeLine = 16777216 := rfl; omega, ?_⟩
    rw [dput_str]; exact h6⟩)
end Mir

namespace Mir
open PySem PySem.Spec L2

/-! ### xs[::-1] of a list -/
def fRev : D → Option D
  | .lst ds => if imms ds = true then some (.lst ds.reverse) else none
  | .rol ds => if imms ds = true then some (.lst ds.reverse) else none
  | _ => none
theorem Rps.rev {K : PySem.W.Frag} {H : Hp} {vs : List V} {ds : List D} (r : Rps K H vs ds []) : Rps K H vs.reverse ds.reverse [] := by
  induction ds generalizing vs with
  | nil => cases r; exact .nil
  | cons d ds ih =>
    generalize hF : ([] : List Addr) = F at r
    cases r with | cons p r => ?_
    obtain ⟨e1, e2⟩ := List.append_eq_nil_iff.mp hF.symm
    subst e1 e2
    rw [List.reverse_cons, List.reverse_cons]
    exact (ih r).append (.cons (F := []) (G := []) p .nil)
theorem x_rev {X : Cx} {W : WX} {e : Expr} {m : MB} {k : Nat} {p1 p2 p3 pos : Pos} (pe : PE X e (tB X.K W m)) : PE X (.Subscript e (.Slice none none (some (.UnaryOp .USub (.Constant (.int 1) k p1) p2)) p3) pos) (tN X.K W (un fRev m)) := PE.mono (pe_revL pe) fun σ H Q ⟨e, F, r, h⟩ => by
  refine ⟨e, F, r, ?_⟩
  unfold un at h
  cases qa : m e with
  | bad => rw [qa] at h; exact h
  | exc y => rw [qa] at h; exact h
  | ok d =>
    rw [qa] at h
    simp only [Rs.bind] at h
    intro v H1 G k1 p
    cases qf : fRev d with
    | none => rw [qf] at h; exact h.elim
    | some d' =>
      rw [qf] at h
      simp only [Rs.of] at h
      unfold fRev at qf
      split at qf
      · split at qf
        · rename_i ds hi
          cases qf
          cases p with | lst ha ra => ?_
          have e0 := ra.fpImm hi
          subst e0
          refine ⟨_, _, rfl, .of ha, fun q hq => ?_⟩
          have kq : ∀ o, Keeps [] H1 (upd H1 q o) := fun o => .new hq []
          exact h (.ref q) _ [q] (k1.trans (kq _) fun _ m => by cases m) (.lst upd_same ((ra.rev).same (kq _))) (by simp) fun a ma => by rw [List.mem_singleton.mp ma]; exact k1.none hq fun m => by cases m
        · cases qf
      · split at qf
        · rename_i ds hi
          cases qf
          cases p with | rol ha ra => ?_
          refine ⟨_, _, rfl, ha.sq, fun q hq => ?_⟩
          have kq : ∀ o, Keeps [] H1 (upd H1 q o) := fun o => .new hq []
          exact h (.ref q) _ [q] (k1.trans (kq _) fun _ m => by cases m) (.lst upd_same ((ra.rev).same (kq _))) (by simp) fun a ma => by rw [List.mem_singleton.mp ma]; exact k1.none hq fun m => by cases m
        · cases qf
      · cases qf
theorem w0_rev {ds : List D} {Q : D → Prop} (h : imms ds = true) (q : Q (.lst ds.reverse)) : w0 (fRev (.lst ds)) Q := w0_of (if_pos h) q
end Mir

namespace Mir
open PySem PySem.Spec L2

/-! ### parts of things, by a path -/
inductive Stp where
  | ix (n : Nat)
  | fl (f : Str)
  deriving DecidableEq
/-- the field f is the n-th one -/
def fpos (f : Str) : List (Str × D) → Option Nat
  | [] => none
  | p :: fs => if p.1 = f then some 0 else (fpos f fs).map (· + 1)
def kids : D → List D
  | .lst ds => ds
  | .ins _ fs => fs.map (·.2)
  | _ => []
def kidAt : D → Stp → Option Nat
  | .lst ds, .ix n => if n < ds.length then some n else none
  | .ins _ fs, .fl f => fpos f fs
  | _, _ => none
def setKid : D → Nat → D → D
  | .lst ds, n, d => .lst (ds.set n d)
  | .ins c fs, n, d => .ins c ((fs.map (·.1)).zip ((fs.map (·.2)).set n d))
  | x, _, _ => x
def atP : D → List Stp → Option D
  | d, [] => some d
  | d, s :: p => match kidAt d s with
    | some n => match (kids d)[n]? with
      | some d1 => atP d1 p
      | none => none
    | none => none
def putP : D → List Stp → D → D
  | _, [], d' => d'
  | d, s :: p, d' => match kidAt d s with
    | some n => match (kids d)[n]? with
      | some d1 => setKid d n (putP d1 p d')
      | none => d
    | none => d
/-- a value at a path of another -/
inductive VAt (H : Hp) : V → List Stp → V → Prop
  | nil {v : V} : VAt H v [] v
  | ix {a : Addr} {vs : List V} {n : Nat} {v v1 : V} {p : List Stp} : H a = some (.lst vs) → vs[n]? = some v → VAt H v p v1 → VAt H (.ref a) (.ix n :: p) v1
  | fl {a C dx : Addr} {fs : List (Str × V)} {f : Str} {v v1 : V} {p : List Stp} : H a = some (.ins C dx fs) → fs.lookup f = some v → VAt H v p v1 → VAt H (.ref a) (.fl f :: p) v1
section
variable {K : PySem.W.Frag} {H H' : Hp}
theorem VAt.keep (k : Keeps [] H H') {v v1 : V} {p : List Stp} (h : VAt H v p v1) : VAt H' v p v1 := by
  induction h with
  | nil => exact .nil
  | ix a b _ ih => exact .ix (k _ _ a (.inr fun m => by cases m)) b ih
  | fl a b _ ih => exact .fl (k _ _ a (.inr fun m => by cases m)) b ih
theorem VAt.one {v v1 v2 : V} {p : List Stp} (h : VAt H v p v1) (h' : VAt H v p v2) : v1 = v2 := by
  induction h with
  | nil => cases h'; rfl
  | ix a b _ ih =>
    cases h' with | ix a' b' q => ?_
    rw [a] at a'; cases a'
    rw [b] at b'; cases b'
    exact ih q
  | fl a b _ ih =>
    cases h' with | fl a' b' q => ?_
    rw [a] at a'; cases a'
    rw [b] at b'; cases b'
    exact ih q
theorem VAt.snoc_ix {v : V} {p : List Stp} {a : Addr} {vs : List V} {n : Nat} {v1 : V} (h : VAt H v p (.ref a)) (ha : H a = some (.lst vs)) (hn : vs[n]? = some v1) : VAt H v (p ++ [.ix n]) v1 := by
  generalize hw : V.ref a = w at h
  induction h with
  | nil => subst hw; exact .ix ha hn .nil
  | ix x y _ ih => exact .ix x y (ih hw)
  | fl x y _ ih => exact .fl x y (ih hw)
theorem VAt.snoc_fl {v : V} {p : List Stp} {a C dx : Addr} {fs : List (Str × V)} {f : Str} {v1 : V} (h : VAt H v p (.ref a)) (ha : H a = some (.ins C dx fs)) (hn : fs.lookup f = some v1) : VAt H v (p ++ [.fl f]) v1 := by
  generalize hw : V.ref a = w at h
  induction h with
  | nil => subst hw; exact .fl ha hn .nil
  | ix x y _ ih => exact .ix x y (ih hw)
  | fl x y _ ih => exact .fl x y (ih hw)
theorem perm_in {a : Addr} {G F0 F2 : List Addr} : (a :: (G ++ F0 ++ F2)).Perm (G ++ (F0 ++ (a :: F2))) := by
  rw [← List.append_assoc]; exact List.perm_middle.symm
/-- one of many -/
theorem Rps.split : ∀ {vs : List V} {ds : List D} {F : List Addr} {n : Nat} {d : D}, Rps K H vs ds F → ds[n]? = some d →
    ∃ v G F0, vs[n]? = some v ∧ Rp K H v d G ∧ F.Perm (G ++ F0) ∧ ∀ {H' : Hp} {d' : D} {G' S : List Addr}, Keeps S H H' → (∀ a ∈ F0, a ∉ S) → Rp K H' v d' G' → ∃ F', Rps K H' vs (ds.set n d') F' ∧ F'.Perm (G' ++ F0)
  | _, _, _, n, d, .nil, e => by simp at e
  | _, _, _, 0, d, .cons (F := F1) (G := G1) p r, e => by
    have e1 : _ = d := Option.some.inj e
    subst e1
    exact ⟨_, F1, G1, rfl, p, .refl _, fun k dj p' => ⟨_, .cons p' (r.keep k dj), .refl _⟩⟩
  | _, _, _, n + 1, d, .cons (F := F1) (G := G1) p r, e => by
    obtain ⟨v, G, F0, h1, h2, h3, h4⟩ := r.split (n := n) (by simpa using e)
    refine ⟨v, G, F1 ++ F0, by simpa using h1, h2, ?_, fun {H' d' G' S} k dj p' => ?_⟩
    · refine (List.Perm.append_left F1 h3).trans ?_
      rw [← List.append_assoc, ← List.append_assoc]
      exact List.Perm.append_right _ List.perm_append_comm
    · obtain ⟨F', r1, pm⟩ := h4 k (fun a m => dj a (List.mem_append_right _ m)) p'
      refine ⟨F1 ++ F', .cons (p.keep k fun a m => dj a (List.mem_append_left _ m)) r1, ?_⟩
      refine (List.Perm.append_left F1 pm).trans ?_
      rw [← List.append_assoc, ← List.append_assoc]
      exact List.Perm.append_right _ List.perm_append_comm
theorem zip_fst {α β : Type} : ∀ {xs : List α} {ys : List β}, xs.length = ys.length → (xs.zip ys).map (·.1) = xs
  | [], [], _ => rfl
  | x :: xs, y :: ys, h => by rw [List.zip_cons_cons, List.map_cons, zip_fst (by simpa using h)]
theorem zip_snd {α β : Type} : ∀ {xs : List α} {ys : List β}, xs.length = ys.length → (xs.zip ys).map (·.2) = ys
  | [], [], _ => rfl
  | x :: xs, y :: ys, h => by rw [List.zip_cons_cons, List.map_cons, zip_snd (by simpa using h)]
theorem lookup_pos {f : Str} : ∀ {fs : List (Str × V)} {gs : List (Str × D)} {n : Nat} {v : V}, fs.map (·.1) = gs.map (·.1) → fpos f gs = some n → (fs.map (·.2))[n]? = some v → fs.lookup f = some v
  | [], [], n, v, _, h, _ => by cases h
  | p :: fs, q :: gs, n, v, e, h, hv => by
    obtain ⟨x, y⟩ := p
    simp only [List.map_cons, List.cons.injEq] at e
    unfold fpos at h
    rw [List.lookup_cons]
    by_cases z : q.1 = f
    · rw [if_pos z] at h
      cases h
      rw [show (f == x) = true by rw [beq_iff_eq, e.1, z]]
      simpa using hv
    · rw [if_neg z] at h
      obtain ⟨m, h1, h2⟩ := Option.map_eq_some_iff.mp h
      subst h2
      rw [show (f == x) = false by rw [beq_eq_false_iff_ne]; intro w; exact z (by rw [← e.1, w])]
      exact lookup_pos e.2 h1 (by simpa using hv)
/-- the part at a path, and what stands around it -/
theorem Rp.focus : ∀ {p : List Stp} {v : V} {d : D} {F : List Addr} {d1 : D}, Rp K H v d F → F.Nodup → atP d p = some d1 →
    ∃ v1 G F0, VAt H v p v1 ∧ Rp K H v1 d1 G ∧ F.Perm (G ++ F0) ∧ ∀ {H' : Hp} {d' : D} {G' S : List Addr}, Keeps S H H' → (∀ a ∈ F0, a ∉ S) → Rp K H' v1 d' G' → ∃ F', Rp K H' v (putP d p d') F' ∧ F'.Perm (G' ++ F0)
  | [], v, d, F, d1, r, nd, h => by
    cases h
    exact ⟨v, F, [], .nil, r, by rw [List.append_nil], fun k _ p => ⟨_, p, by rw [List.append_nil]⟩⟩
  | s :: p, v, d, F, d1, r, nd, h => by
    unfold atP at h
    cases qk : kidAt d s with
    | none => rw [qk] at h; cases h
    | some n =>
      rw [qk] at h
      simp only at h
      cases qd : (kids d)[n]? with
      | none => rw [qd] at h; cases h
      | some d2 =>
        rw [qd] at h
        simp only at h
        cases r with
        | @lst a vs ds F1 ha ra =>
          cases s with
          | fl f => cases qk
          | ix m =>
            have e0 : m = n := by
              have qk : (if m < ds.length then some m else none) = some n := qk
              by_cases z : m < ds.length
              · rw [if_pos z] at qk; exact Option.some.inj qk
              · rw [if_neg z] at qk; cases qk
            subst e0
            obtain ⟨n1, n2⟩ := List.nodup_cons.mp nd
            obtain ⟨v2, G2, F2, g1, g2, g3, g4⟩ := ra.split (n := m) qd
            have nd3 := g3.nodup_iff.mp n2
            obtain ⟨m1, m2, m3⟩ := List.nodup_append.mp nd3
            obtain ⟨v1, G, F0, f1, f2, f3, f4⟩ := g2.focus m1 h
            have inG : ∀ b ∈ G, b ∈ G2 := fun b m => f3.mem_iff.mpr (List.mem_append_left _ m)
            refine ⟨v1, G, F0 ++ (a :: F2), .ix ha g1 f1, f2, ?_, fun {H' d' G' S} k dj p' => ?_⟩
            · refine (List.Perm.cons a (g3.trans (List.Perm.append_right F2 f3))).trans ?_
              exact perm_in
            · obtain ⟨F3, q1, q2⟩ := f4 k (fun b m => dj b (List.mem_append_left _ m)) p'
              obtain ⟨F4, q3, q4⟩ := g4 k (fun b m => dj b (List.mem_append_right _ (List.mem_cons_of_mem _ m))) q1
              have ha' : H' a = some (.lst vs) := k _ _ ha (.inr (dj a (List.mem_append_right _ List.mem_cons_self)))
              refine ⟨a :: F4, ?_, ?_⟩
              · unfold putP
                rw [qk]
                simp only
                rw [qd]
                exact .lst ha' q3
              · refine (List.Perm.cons a (q4.trans (List.Perm.append_right F2 q2))).trans ?_
                exact perm_in
        | @ins a C dx fs c gs F1 ha hc hn ra =>
          cases s with
          | ix m => cases qk
          | fl f =>
            obtain ⟨n1, n2⟩ := List.nodup_cons.mp nd
            obtain ⟨v2, G2, F2, g1, g2, g3, g4⟩ := ra.split (n := n) qd
            have nd3 := g3.nodup_iff.mp n2
            obtain ⟨m1, m2, m3⟩ := List.nodup_append.mp nd3
            obtain ⟨v1, G, F0, f1, f2, f3, f4⟩ := g2.focus m1 h
            have inG : ∀ b ∈ G, b ∈ G2 := fun b m => f3.mem_iff.mpr (List.mem_append_left _ m)
            refine ⟨v1, G, F0 ++ (a :: F2), .fl ha (lookup_pos hn qk g1) f1, f2, ?_, fun {H' d' G' S} k dj p' => ?_⟩
            · refine (List.Perm.cons a (g3.trans (List.Perm.append_right F2 f3))).trans ?_
              exact perm_in
            · obtain ⟨F3, q1, q2⟩ := f4 k (fun b m => dj b (List.mem_append_left _ m)) p'
              obtain ⟨F4, q3, q4⟩ := g4 k (fun b m => dj b (List.mem_append_right _ (List.mem_cons_of_mem _ m))) q1
              have ha' : H' a = some (.ins C dx fs) := k _ _ ha (.inr (dj a (List.mem_append_right _ List.mem_cons_self)))
              have hl : (gs.map (·.1)).length = ((gs.map (·.2)).set n (putP d2 p d')).length := by simp
              refine ⟨a :: F4, ?_, ?_⟩
              · unfold putP
                rw [qk]
                simp only
                rw [qd]
                refine .ins ha' hc ?_ ?_
                · rw [zip_fst hl]; exact hn
                · rw [zip_snd hl]; exact q3
              · refine (List.Perm.cons a (q4.trans (List.Perm.append_right F2 q2))).trans ?_
                exact perm_in
        | _ => simp [kids] at qd
/-- the part at a path -/
theorem Rp.part : ∀ {p : List Stp} {v : V} {d : D} {F : List Addr} {d1 : D}, Rp K H v d F → atP d p = some d1 → ∃ v1 G, VAt H v p v1 ∧ Rp K H v1 d1 G
  | [], v, d, F, d1, r, h => by
    cases h
    exact ⟨v, F, .nil, r⟩
  | s :: p, v, d, F, d1, r, h => by
    unfold atP at h
    cases qk : kidAt d s with
    | none => rw [qk] at h; cases h
    | some n =>
      rw [qk] at h
      simp only at h
      cases qd : (kids d)[n]? with
      | none => rw [qd] at h; cases h
      | some d2 =>
        rw [qd] at h
        simp only at h
        cases r with
        | @lst a vs ds F1 ha ra =>
          cases s with
          | fl f => cases qk
          | ix m =>
            have e0 : m = n := by
              have qk : (if m < ds.length then some m else none) = some n := qk
              by_cases z : m < ds.length
              · rw [if_pos z] at qk; exact Option.some.inj qk
              · rw [if_neg z] at qk; cases qk
            subst e0
            obtain ⟨v2, G2, g1, g2, g3⟩ := ra.get (i := m) qd
            obtain ⟨v1, G, f1, f2⟩ := g2.part h
            exact ⟨v1, G, .ix ha g1 f1, f2⟩
        | @ins a C dx fs c gs F1 ha hc hn ra =>
          cases s with
          | ix m => cases qk
          | fl f =>
            obtain ⟨v2, G2, g1, g2, g3⟩ := ra.get (i := n) qd
            obtain ⟨v1, G, f1, f2⟩ := g2.part h
            exact ⟨v1, G, .fl ha (lookup_pos hn qk g1) f1, f2⟩
        | _ => simp [kids] at qd
end
theorem atP_ix : ∀ {p : List Stp} {d : D} {ds : List D} {n : Nat} {d1 : D}, atP d p = some (.lst ds) → ds[n]? = some d1 → atP d (p ++ [.ix n]) = some d1
  | [], d, ds, n, d1, h, hn => by
    cases h
    obtain ⟨hl, _⟩ := List.getElem?_eq_some_iff.mp hn
    show (match (if n < ds.length then some n else none) with
      | some n => (match ds[n]? with
        | some d1 => some d1
        | none => none)
      | none => none) = _
    rw [if_pos hl]
    simp only [hn]
  | s :: p, d, ds, n, d1, h, hn => by
    rw [List.cons_append]
    unfold atP at h ⊢
    cases qk : kidAt d s with
    | none => rw [qk] at h; cases h
    | some m =>
      rw [qk] at h
      simp only at h ⊢
      cases qd : (kids d)[m]? with
      | none => rw [qd] at h; cases h
      | some d2 =>
        rw [qd] at h
        simp only at h ⊢
        exact atP_ix h hn
end Mir

namespace Mir
open PySem PySem.Spec L2

/-! ### expressions that are paths -/
abbrev MP := E → Rs (List Stp)
def slotAt (e : E) (i : Nat) (p : List Stp) : Option D := match e[i]? with
  | some (some d) => atP d p
  | _ => none
theorem slotAt_of {e : E} {i : Nat} {p : List Stp} {d1 : D} (h : slotAt e i p = some d1) : ∃ d, e[i]? = some (some d) ∧ atP d p = some d1 := by
  unfold slotAt at h
  split at h
  · exact ⟨_, by assumption, h⟩
  · cases h
def tP (K : PySem.W.Frag) (W : WX) (i : Nat) (m : MP) : TE := fun σ H Q => ∃ e F, RelS K H σ e F ∧ match m e with
  | .ok p => ∃ d1, slotAt e i p = some d1 ∧ ∀ v v1 H', σ[i]? = some (some v) → Keeps [] H H' → VAt H' v p v1 → Q v1 H'
  | .exc x => ∀ c dx H', Keeps [] H H' → RpX K H' c dx x → W c dx σ H'
  | .bad => False
def pNil : MP := fun _ => .ok []
def pIx (i : Nat) (m : MP) (mb : MB) : MP := fun e => (m e).bind fun p => match slotAt e i p with
  | some (.lst ds) => (mb e).bind fun k => (match k with
    | .int z => (match ixN ds.length z with
      | some n => .ok (p ++ [.ix n])
      | none => .bad)
    | _ => .bad)
  | _ => .bad
def bP (i : Nat) (m : MP) : MB := fun e => (m e).bind fun p => .of (slotAt e i p)
section
variable {X : Cx} {W : WX} {Z : Zs}
theorem p_name {i : Nat} {x : Str} {pos : Pos} (hN : X.N[i]? = some x := by rfl) (hv : Vis X.env.scope x := by first | exact Or.inl rfl | exact Or.inr (Or.inl rfl) | exact Or.inr (Or.inr rfl)) (hd : (x == ("__debug__" : Str)) = false := by decide)
    (hcd : (x == ("__classdict__" : Str)) = false := by decide) : PE X (.Name x pos) (tP X.K W i pNil) := PE.mono (pe_var hN hv hd hcd) fun σ H Q ⟨e, F, r, d1, h1, h⟩ => by
  obtain ⟨d, he, _⟩ := slotAt_of h1
  obtain ⟨v, G, hs, p, _⟩ := r.get he
  exact ⟨v, hs, h v v H hs (.refl _ _) .nil⟩
theorem p_ix {i : Nat} {a b : Expr} {m : MP} {mb : MB} {pos : Pos} (pa : PE X a (tP X.K W i m)) (pb : PE X b (tB X.K W mb)) (hs : PlainIx b := by exact fun _ _ => rfl) : PE X (.Subscript a b pos) (tP X.K W i (pIx i m mb)) :=
  PE.mono (pe_ix ix_list pa pb hs) fun σ H Q ⟨e, F, r, h⟩ => by
    refine ⟨e, F, r, ?_⟩
    unfold pIx at h
    cases qm : m e with
    | bad => rw [qm] at h; exact h
    | exc y => rw [qm] at h; exact h
    | ok p =>
      simp only [qm, Rs.bind] at h
      cases qs : slotAt e i p with
      | none => rw [qs] at h; exact h.elim
      | some d =>
        rw [qs] at h
        obtain ⟨d0, he, hat⟩ := slotAt_of qs
        cases d with
        | lst ds =>
          refine ⟨.lst ds, qs, fun v x H1 hv k1 hva => ?_⟩
          refine ⟨e, F, r.same k1, ?_⟩
          cases qb : mb e with
          | bad => simp only [qb] at h
          | exc y => simp only [qb] at h; exact fun c dx H' k => h c dx H' (k1.trans k fun _ m => by cases m)
          | ok k =>
            simp only [qb] at h
            cases k with
            | int z =>
              simp only at h
              cases qi : ixN ds.length z with
              | none => rw [qi] at h; exact h.elim
              | some n =>
                rw [qi] at h
                obtain ⟨d1, h1, h2⟩ := h
                intro y H2 G k2 py
                cases py
                have k12 : Keeps [] H H2 := k1.trans k2 fun _ m => by cases m
                obtain ⟨v', G', hs', p', _⟩ := (r.same k12).get he
                rw [hv] at hs'; cases hs'
                obtain ⟨x2, G2, va, rp⟩ := p'.part hat
                have e1 := (hva.keep k2).one va
                subst e1
                cases rp with | lst ha ra => ?_
                rename_i a vs F2
                have hl := ra.length
                obtain ⟨_, hn, _⟩ := ixN_seq qi
                obtain ⟨w, hw⟩ : ∃ w, vs[n]? = some w := ⟨_, List.getElem?_eq_getElem (by omega)⟩
                refine ⟨a, vs, z, w, rfl, rfl, .of ha, ?_, ?_⟩
                · unfold L2.atI
                  rw [hl, qi]
                  exact hw
                · exact h2 v w H2 hv k12 (va.snoc_ix ha hw)
            | _ => exact h.elim
        | _ => exact h.elim
theorem x_path {i : Nat} {x : Expr} {m : MP} (q : PE X x (tP X.K W i m)) : PE X x (tB X.K W (bP i m)) := PE.mono q fun σ H Q ⟨e, F, r, h⟩ => by
  refine ⟨e, F, r, ?_⟩
  unfold bP at h
  cases qm : m e with
  | bad => rw [qm] at h; exact h
  | exc y => rw [qm] at h; exact h
  | ok p =>
    simp only [qm, Rs.bind] at h
    cases qs : slotAt e i p with
    | none => rw [qs] at h; exact h.elim
    | some d =>
      rw [qs] at h
      obtain ⟨d0, he, hat⟩ := slotAt_of qs
      refine ⟨d, qs, fun v x H1 hv k1 hva => ?_⟩
      obtain ⟨v', G', hs', p', _⟩ := (r.same k1).get he
      rw [hv] at hs'; cases hs'
      obtain ⟨x2, G2, va, rp⟩ := p'.part hat
      have e1 := hva.one va
      subst e1
      exact h _ H1 G2 k1 rp
end

/-! ### x = a part of y, and what follows works with that part -/
def borE (i j : Nat) (d : D) (p : List Stp) (e : E) : Option E := match e[j]? with
  | some (some d') => some ((e.set j none).set i (some (putP d p d')))
  | _ => none
def SR.bor (i j : Nat) (d : D) (p : List Stp) : SR → SR
  | .nx e => match borE i j d p e with
    | some e' => .nx e'
    | none => .bad
  | .rt x e => match borE i j d p e with
    | some e' => .rt x e'
    | none => .bad
  | .bk e => match borE i j d p e with
    | some e' => .bk e'
    | none => .bad
  | .ct e => match borE i j d p e with
    | some e' => .ct e'
    | none => .bad
  | .exc x e => match borE i j d p e with
    | some e' => .exc x e'
    | none => .bad
  | .bad => .bad
def mBor (i j : Nat) (m : MP) (b : MS) : MS := fun e => match m e with
  | .ok p => (match e[i]? with
    | some (some d) => (match atP d p with
      | some d1 => if j < e.length then (b ((e.set i none).set j (some d1))).bor i j d p else .bad
      | none => .bad)
    | _ => .bad)
  | .exc x => .exc x e
  | .bad => .bad
section
variable {K : PySem.W.Frag} {H H1 H' : Hp} {σ σ' : L2.St}
theorem bor_back {F F4 F' G2 : List Addr} {e' e3 : E} {i j : Nat} {v x : V} {d d' : D} {p : List Stp}
    (yk : Keeps F H H1) (hG2 : ∀ a ∈ G2, a ∉ F4) (hG2n : G2.Nodup) (hin : ∀ a ∈ G2, a ∈ F ∨ H a = none) (hthere : ∀ a ∈ G2, H1 a ≠ none) (h4 : ∀ a ∈ F4, a ∈ F ∨ H a = none)
    (back : ∀ {H' : Hp} {d' : D} {G' S : List Addr}, Keeps S H1 H' → (∀ a ∈ G2, a ∉ S) → Rp K H' x d' G' → ∃ F', Rp K H' v (putP d p d') F' ∧ F'.Perm (G' ++ G2))
    (w : Ev K F4 H1 σ' H' e' F') (hj : e'[j]? = some (some d')) (sj : σ'[j]? = some (some x)) (si : σ'[i]? = some (some v)) (hij : i < e'.length) (hb : (e'.set j none).set i (some (putP d p d')) = e3) : ∃ F8, Ev K F H σ' H' e3 F8 ∧ ∀ a ∈ F8, a ∈ F' ∨ a ∈ G2 := by
  subst hb
  obtain ⟨xj, G', F5, q1, q2, q3, q4⟩ := w.r.take hj
  rw [sj] at q1; cases q1
  obtain ⟨F6, r6, pm6⟩ := back w.k hG2 q2
  obtain ⟨F7, G7, r7, pm7⟩ := q3.drop i
  obtain ⟨F8, r8, pm8⟩ := r7.put (i := i) (by rw [List.getElem?_set_self (by rw [List.length_set]; exact hij)]) r6
  rw [List.set_set, set_self si] at r8
  have ndF := q4.nodup_iff.mp w.nd
  obtain ⟨n1, n2, n3⟩ := List.nodup_append.mp ndF
  have n7 := (List.nodup_append.mp (pm7.nodup_iff.mp n2)).2.1
  have sub7 : ∀ a ∈ F7, a ∈ F5 := fun a m => pm7.mem_iff.mpr (List.mem_append_right _ m)
  have inG' : ∀ a ∈ G', a ∈ F' := fun a m => q4.mem_iff.mpr (List.mem_append_left _ m)
  have in5 : ∀ a ∈ F5, a ∈ F' := fun a m => q4.mem_iff.mpr (List.mem_append_right _ m)
  have out2 : ∀ a ∈ G2, a ∉ F' := fun a m m' => by
    rcases w.new a m' with z | z
    · exact hG2 a m z
    · exact hthere a m z
  have n6 : F6.Nodup := pm6.nodup_iff.mpr (List.nodup_append.mpr ⟨n1, hG2n, fun a m b m' z => by subst z; exact out2 a m' (inG' a m)⟩)
  have mem8 : ∀ a ∈ F8, a ∈ F' ∨ a ∈ G2 := fun a m => by
    rcases List.mem_append.mp (pm8.mem_iff.mp m) with m | m
    · rcases List.mem_append.mp (pm6.mem_iff.mp m) with m | m
      · exact .inl (inG' a m)
      · exact .inr m
    · exact .inl (in5 a (sub7 a m))
  refine ⟨F8, ⟨yk.trans w.k h4, r8, pm8.nodup_iff.mpr (List.nodup_append.mpr ⟨n6, n7, fun a m b m' z => ?_⟩), fun a m => ?_⟩, mem8⟩
  · subst z
    rcases List.mem_append.mp (pm6.mem_iff.mp m) with m | m
    · exact n3 a m a (sub7 a m') rfl
    · exact out2 a m (in5 a (sub7 a m'))
  · rcases mem8 a m with z | z
    · rcases w.new a z with q | q
      · exact h4 a q
      · by_cases zz : a ∈ F
        · exact .inl zz
        · exact .inr (yk.none q zz)
    · exact hin a z
end
section
variable {X : Cx} {W : WX} {Z : Zs}
theorem borE_of {i j : Nat} {d : D} {p : List Stp} {e e3 : E} (h : borE i j d p e = some e3) : ∃ d', e[j]? = some (some d') ∧ (e.set j none).set i (some (putP d p d')) = e3 := by
  unfold borE at h
  split at h
  · exact ⟨_, by assumption, Option.some.inj h⟩
  · cases h
theorem m_bor {i j : Nat} {y : Str} {t : Expr} {m : MP} {b : MS} {rest : List Stmt} {pos pos' : Pos} (he : PE X t (tP X.K W i m)) (hr : PSs X rest (tM X.K W (zc j (zc i Z)) b)) (hN : X.N.Nodup) (hz : Z j = false := by rfl) (hji : j ≠ i := by decide) (hi : X.N[j]? = some y := by rfl) (hx : Loc X.env.scope y := by first | exact Or.inl rfl | exact Or.inr rfl)
    (hs : swapsWith t (some (.Name y pos')) pos.line X.env = pure false := by rfl) (hf : X.fn y = true ∨ X.env.scope.names.lookup y = some .local := by first | exact .inl rfl | exact .inr rfl | assumption) :
    PSs X (.Assign [.Name y pos'] t pos :: rest) (tM X.K W Z (mBor i j m b)) :=
  PSs.mono (pss_cons (ps_set hN hi hx he hs hf) hr) fun D σ H h => by
    obtain ⟨e, F, r, nd, h⟩ := h
    refine ⟨e, F, r, ?_⟩
    unfold mBor at h
    cases qm : m e with
    | bad => rw [qm] at h; exact h
    | exc z => rw [qm] at h; exact fun c dx H' k p => h c dx σ H' F (.pure r nd k) (.refl _ _) p
    | ok p =>
      rw [qm] at h
      simp only at h
      cases qi : e[i]? with
      | none => rw [qi] at h; exact h.elim
      | some oo =>
        rw [qi] at h
        cases oo with
        | none => exact h.elim
        | some d =>
          simp only at h
          cases qd : atP d p with
          | none => rw [qd] at h; exact h.elim
          | some d1 =>
            rw [qd] at h
            simp only at h
            refine ⟨d1, by unfold slotAt; rw [qi]; exact qd, fun v x H1 hv k1 hva => ?_⟩
            have x0 : Ev X.K F H σ H1 e F := .pure r nd k1
            obtain ⟨v', F3, hs', y0⟩ := x0.move qi
            rw [hv] at hs'; cases hs'
            obtain ⟨G, F0, eF, pv, y1, hd, n1, nw⟩ := y0.head
            obtain ⟨x', G1, G2, va, p1, pm, back⟩ := pv.focus n1 qd
            have e1 := hva.one va
            subst e1
            have n12 := pm.nodup_iff.mp n1
            obtain ⟨m1, m2, m3⟩ := List.nodup_append.mp n12
            have in1 : ∀ a ∈ G1, a ∈ G := fun a m => pm.mem_iff.mpr (List.mem_append_left _ m)
            have in2 : ∀ a ∈ G2, a ∈ G := fun a m => pm.mem_iff.mpr (List.mem_append_right _ m)
            have hlen : σ.length = e.length := r.len
            obtain ⟨hj0, _⟩ := List.getElem?_eq_some_iff.mp hi
            obtain ⟨F5, G5, r5, pm5⟩ := y1.r.drop j
            -- the slot j is given the part
            have fin : ∀ (e2 : E) (F4 : List Addr), RelS X.K H1 (σ.set j (some x)) e2 F4 → F4.Nodup → (∀ a ∈ F4, a ∈ G1 ∨ a ∈ F0) → (j < σ.length) → (i < σ.length) → (match (b e2).bor i j d p with
                | .nx e' => ∀ σ' H' F', Ev X.K F H σ' H' e' F' → Fz Z σ σ' → D.nx σ' H'
                | .rt d e' => ∀ v σ' H' F', Ev X.K F H (some v :: σ') H' (some d :: e') F' → Fz Z σ σ' → D.rt v H'
                | .bk e' => ∀ σ' H' F', Ev X.K F H σ' H' e' F' → Fz Z σ σ' → D.bk σ' H'
                | .ct e' => ∀ σ' H' F', Ev X.K F H σ' H' e' F' → Fz Z σ σ' → D.ct σ' H'
                | .exc x e' => ∀ c dx σ' H' F', Ev X.K F H σ' H' e' F' → Fz Z σ σ' → RpX X.K H' c dx x → W c dx σ' H'
                | .bad => False) → tM X.K W (zc j (zc i Z)) b D (σ.set j (some x)) H1 := by
              intro e2 F4 r4 n4 h4 hjl hil h
              have f4 : ∀ a ∈ F4, a ∈ F ∨ H a = none := fun a m => (h4 a m).elim (fun m => nw a (in1 a m)) fun m => y1.new a m
              have g2 : ∀ a ∈ G2, a ∉ F4 := fun a m m' => (h4 a m').elim (fun z => m3 a z a m rfl) fun z => hd a (in2 a m) z
              have gin : ∀ a ∈ G2, a ∈ F ∨ H a = none := fun a m => nw a (in2 a m)
              have gth : ∀ a ∈ G2, H1 a ≠ none := fun a m => pv.there (in2 a m)
              have fz : ∀ {σ' : L2.St}, Fz (zc j (zc i Z)) (σ.set j (some x)) σ' → Fz Z σ σ' ∧ σ'[j]? = some (some x) ∧ σ'[i]? = some (some v) ∧ σ'.length = σ.length := fun {σ'} z => by
                refine ⟨⟨by rw [z.1, List.length_set], fun k hk => ?_⟩, ?_, ?_, by rw [z.1, List.length_set]⟩
                · rw [z.2 k (by simp [zc, hk])]
                  exact List.getElem?_set_ne fun w => by rw [← w, hz] at hk; cases hk
                · rw [z.2 j (by simp [zc])]; exact List.getElem?_set_self hjl
                · rw [z.2 i (by simp [zc])]; rw [List.getElem?_set_ne hji]; exact hv
              refine ⟨e2, F4, r4, n4, ?_⟩
              cases qb : b e2 with
              | bad => rw [qb] at h; exact h
              | nx e' =>
                rw [qb] at h
                intro σ' H' F' w z
                obtain ⟨z1, z2, z3, z4⟩ := fz z
                simp only [SR.bor] at h
                cases qe : borE i j d p e' with
                | none => rw [qe] at h; exact h.elim
                | some e3 =>
                  rw [qe] at h
                  obtain ⟨d', c1, c2⟩ := borE_of qe
                  obtain ⟨F8, w8, _⟩ := bor_back y1.k g2 m2 gin gth f4 back w c1 z2 z3 (by rw [← w.r.len, z4]; exact hil) c2
                  exact h σ' H' F8 w8 z1
              | bk e' =>
                rw [qb] at h
                intro σ' H' F' w z
                obtain ⟨z1, z2, z3, z4⟩ := fz z
                simp only [SR.bor] at h
                cases qe : borE i j d p e' with
                | none => rw [qe] at h; exact h.elim
                | some e3 =>
                  rw [qe] at h
                  obtain ⟨d', c1, c2⟩ := borE_of qe
                  obtain ⟨F8, w8, _⟩ := bor_back y1.k g2 m2 gin gth f4 back w c1 z2 z3 (by rw [← w.r.len, z4]; exact hil) c2
                  exact h σ' H' F8 w8 z1
              | ct e' =>
                rw [qb] at h
                intro σ' H' F' w z
                obtain ⟨z1, z2, z3, z4⟩ := fz z
                simp only [SR.bor] at h
                cases qe : borE i j d p e' with
                | none => rw [qe] at h; exact h.elim
                | some e3 =>
                  rw [qe] at h
                  obtain ⟨d', c1, c2⟩ := borE_of qe
                  obtain ⟨F8, w8, _⟩ := bor_back y1.k g2 m2 gin gth f4 back w c1 z2 z3 (by rw [← w.r.len, z4]; exact hil) c2
                  exact h σ' H' F8 w8 z1
              | rt dr e' =>
                rw [qb] at h
                intro vr σ' H' F' w z
                obtain ⟨z1, z2, z3, z4⟩ := fz z
                simp only [SR.bor] at h
                cases qe : borE i j d p e' with
                | none => rw [qe] at h; exact h.elim
                | some e3 =>
                  rw [qe] at h
                  obtain ⟨d', c1, c2⟩ := borE_of qe
                  have hle : (some vr :: σ').length = (some dr :: e').length := w.r.len
                  obtain ⟨F8, w8, _⟩ := bor_back (i := i + 1) (j := j + 1) (e3 := some dr :: e3) y1.k g2 m2 gin gth f4 back w (by simpa using c1) (by simpa using z2) (by simpa using z3) (by rw [← hle, List.length_cons, z4]; omega) (by rw [← c2]; rfl)
                  exact h vr σ' H' F8 w8 z1
              | exc xx e' =>
                rw [qb] at h
                intro c dx σ' H' F' w z px
                obtain ⟨z1, z2, z3, z4⟩ := fz z
                simp only [SR.bor] at h
                cases qe : borE i j d p e' with
                | none => rw [qe] at h; exact h.elim
                | some e3 =>
                  rw [qe] at h
                  obtain ⟨d', c1, c2⟩ := borE_of qe
                  obtain ⟨F8, w8, _⟩ := bor_back y1.k g2 m2 gin gth f4 back w c1 z2 z3 (by rw [← w.r.len, z4]; exact hil) c2
                  exact h c dx σ' H' F8 w8 z1 px
            obtain ⟨hil, _⟩ := List.getElem?_eq_some_iff.mp hv
            by_cases hje : j < e.length
            · rw [if_pos hje] at h
              have hjl : j < σ.length := by omega
              have hn : ((e.set i none).set j none)[j]? = some none := by rw [List.getElem?_set_self (by rw [List.length_set]; exact hje)]
              obtain ⟨F4, r4, pm4⟩ := r5.put hn p1
              rw [List.set_set] at r4
              have sub5 : ∀ a ∈ F5, a ∈ F0 := fun a m => pm5.mem_iff.mpr (List.mem_append_right _ m)
              have n5 := (List.nodup_append.mp (pm5.nodup_iff.mp y1.nd)).2.1
              refine fin _ F4 r4 (pm4.nodup_iff.mpr (List.nodup_append.mpr ⟨m1, n5, fun a m b m' z => by subst z; exact hd a (in1 a m) (sub5 a m')⟩)) (fun a m => ?_) hjl hil h
              rcases List.mem_append.mp (pm4.mem_iff.mp m) with m | m
              · exact .inl m
              · exact .inr (sub5 a m)
            · rw [if_neg hje] at h; exact h.elim
end
end Mir

namespace Mir
open PySem PySem.Spec L2

/-! ### a name's thing is never changed again -/
mutual
def lockD : D → D
  | .lst ds => .rol (lockDs ds)
  | .tup ds => .tup (lockDs ds)
  | .dct kvs => .rdc kvs
  | d => d
def lockDs : List D → List D
  | [] => []
  | d :: ds => lockD d :: lockDs ds
end
mutual
def lockable : D → Bool
  | .lst ds => lockables ds
  | .tup ds => lockables ds
  | .rol ds => imms ds
  | .ins _ _ => false
  | _ => true
def lockables : List D → Bool
  | [] => true
  | d :: ds => lockable d && lockables ds
end
section
variable {X : Cx} {pins : List (Addr × Obj)} {σ : L2.St} {s : Shared}
theorem Keeps.two {S T : List Addr} {H H1 H2 : Hp} (k : Keeps S H H1) (k' : Keeps T H1 H2) : Keeps (S ++ T) H H2 := fun a o e q => by
  refine k' a o (k a o e (q.imp id fun n m => n (List.mem_append_left _ m))) (q.imp id fun n m => n (List.mem_append_right _ m))
mutual
theorem lock_ok : ∀ {d : D} {H : Hp} {v : V} {F : List Addr}, lockable d = true → Rp X.K H v d F → F.Nodup → Inv X pins σ H s → ∃ H', Inv X pins σ H' s ∧ Keeps F H H' ∧ Rp X.K H' v (lockD d) []
  | .non, H, v, F, hl, p, nd, I => by cases p; exact ⟨H, I, .refl _ _, .non⟩
  | .bl b, H, v, F, hl, p, nd, I => by cases p; exact ⟨H, I, .refl _ _, .bl⟩
  | .int i, H, v, F, hl, p, nd, I => by cases p; exact ⟨H, I, .refl _ _, .int⟩
  | .str x, H, v, F, hl, p, nd, I => by
    cases p with | str h => exact ⟨H, I, .refl _ _, .str h⟩
  | .raw x, H, v, F, hl, p, nd, I => by cases p; exact ⟨H, I, .refl _ _, .raw⟩
  | .tup ds, H, v, F, hl, p, nd, I => by
    cases p with | tup ht rp => ?_
    obtain ⟨H', I', k, rp'⟩ := locks_ok (ds := ds) (by simpa [lockable] using hl) rp nd I
    exact ⟨H', I', k, .tup (ht.keep k) rp'⟩
  | .rol ds, H, v, F, hl, p, nd, I => by
    cases p with | rol ht rp => exact ⟨H, I, .refl _ _, .rol ht rp⟩
  | .rdc ds, H, v, F, hl, p, nd, I => by
    cases p with | rdc h c r => exact ⟨H, I, .refl _ _, .rdc h c r⟩
  | .ins c fs, H, v, F, hl, p, nd, I => by simp [lockable] at hl
  | .dct kvs, H, v, F, hl, p, nd, I => by
    cases p with | dct h c r => ?_
    rename_i a kv
    obtain ⟨od, I'⟩ := I.lock h trivial
    have k : Keeps [a] H (upd H a (.frz od (.dK kv))) := .upd h rfl List.mem_cons_self
    exact ⟨_, I', k, .rdc ⟨_, upd_same⟩ c (r.keep k fun _ m => by cases m)⟩
  | .lst ds, H, v, F, hl, p, nd, I => by
    cases p with | lst ha rp => ?_
    rename_i a vs F1
    obtain ⟨n1, n2⟩ := List.nodup_cons.mp nd
    obtain ⟨H1, I1, k1, rp1⟩ := locks_ok (ds := ds) (by simpa [lockable] using hl) rp n2 I
    have ha1 : H1 a = some (.lst vs) := k1 _ _ ha (.inr n1)
    obtain ⟨od, I'⟩ := I1.lock ha1 trivial
    have k : Keeps [a] H1 (upd H1 a (.frz od (.lst vs))) := .upd ha1 rfl List.mem_cons_self
    refine ⟨_, I', (k1.two k).mono fun b m => ?_, .rol (.inl ⟨_, upd_same⟩) (rp1.keep k fun _ m => by cases m)⟩
    rcases List.mem_append.mp m with m | m
    · exact List.mem_cons_of_mem _ m
    · rw [List.mem_singleton.mp m]; exact List.mem_cons_self
theorem locks_ok : ∀ {ds : List D} {H : Hp} {vs : List V} {F : List Addr}, lockables ds = true → Rps X.K H vs ds F → F.Nodup → Inv X pins σ H s → ∃ H', Inv X pins σ H' s ∧ Keeps F H H' ∧ Rps X.K H' vs (lockDs ds) []
  | [], H, vs, F, hl, p, nd, I => by cases p; exact ⟨H, I, .refl _ _, .nil⟩
  | d :: ds, H, vs, F, hl, p, nd, I => by
    cases p with | cons p r => ?_
    obtain ⟨n1, n2, n3⟩ := List.nodup_append.mp nd
    have hl' : (lockable d && lockables ds) = true := by simpa [lockables] using hl
    obtain ⟨l1, l2⟩ := Bool.and_eq_true_iff.mp hl'
    obtain ⟨H1, I1, k1, p1⟩ := lock_ok (d := d) l1 p n1 I
    obtain ⟨H2, I2, k2, r2⟩ := locks_ok (ds := ds) l2 (r.keep k1 fun a m m' => n3 a m' a m rfl) n2 I1
    exact ⟨H2, I2, k1.two k2, .cons (F := []) (G := []) (p1.keep k2 fun _ m => by cases m) r2⟩
end
end
def mLock (i : Nat) (b : MS) : MS := fun e => match e[i]? with
  | some (some d) => if lockable d = true then b (e.set i (some (lockD d))) else .bad
  | _ => .bad
theorem m_lock {X : Cx} {W : WX} {Z : Zs} {i : Nat} {st : Stmt} {b : MS} (p : PS X st (tM X.K W Z b)) : PS X st (tM X.K W Z (mLock i b)) := by
  refine ⟨fun pins s σ H Q I ⟨e, F, r, nd, h⟩ => ?_⟩
  unfold mLock at h
  cases q : e[i]? with
  | none => rw [q] at h; exact h.elim
  | some oo =>
    rw [q] at h
    cases oo with
    | none => exact h.elim
    | some d =>
      simp only at h
      by_cases hl : lockable d = true
      · rw [if_pos hl] at h
        obtain ⟨v, G, F0, hs, pv, r0, pm⟩ := r.take q
        obtain ⟨n1, n2, n3⟩ := List.nodup_append.mp (pm.nodup_iff.mp nd)
        obtain ⟨H', I', k, pv'⟩ := lock_ok hl pv n1 I
        have r1 := r0.keep k fun a m m' => n3 a m' a m rfl
        have hi : i < e.length := (List.getElem?_eq_some_iff.mp q).1
        obtain ⟨F', r2, pm2⟩ := r1.put (i := i) (by rw [List.getElem?_set_self hi]) pv'
        rw [List.set_set, set_self hs] at r2
        have pm2 : F'.Perm F0 := by simpa using pm2
        have sub : ∀ a ∈ F', a ∈ F := fun a m => pm.mem_iff.mpr (List.mem_append_right _ (pm2.mem_iff.mp m))
        have x : Ev X.K F H σ H' (e.set i (some (lockD d))) F' := ⟨k.mono fun a m => pm.mem_iff.mpr (List.mem_append_left _ m), r2, pm2.nodup_iff.mpr n2, fun a m => .inl (sub a m)⟩
        exact p.run pins s σ H' Q I' (tM_next x (.refl _ _) h)
      · rw [if_neg hl] at h; exact h.elim
section
variable {e : E} {N B C : E → Prop} {R : D → E → Prop} {b : MS}
theorem wS_lock {i : Nat} {d : D} (h0 : e[i]? = some (some d)) (hl : lockable d = true) (h : wS (b (e.set i (some (lockD d)))) N R B C) : wS (mLock i b e) N R B C := by
  unfold mLock
  rw [h0]
  simp only [hl, if_true]
  exact h
mutual
theorem lockD_imm : ∀ {d : D}, lockable d = true → imm (lockD d) = true
  | .non, _ => rfl
  | .bl _, _ => rfl
  | .int _, _ => rfl
  | .str _, _ => rfl
  | .raw _, _ => rfl
  | .tup ds, h => by simp only [lockD, imm]; exact lockDs_imm (by simpa [lockable] using h)
  | .lst ds, h => by simp only [lockD, imm]; exact lockDs_imm (by simpa [lockable] using h)
  | .rol ds, h => by simpa [lockD, imm, lockable] using h
  | .dct _, _ => rfl
  | .rdc _, _ => rfl
  | .ins _ _, h => by simp [lockable] at h
theorem lockDs_imm : ∀ {ds : List D}, lockables ds = true → imms (lockDs ds) = true
  | [], _ => rfl
  | d :: ds, h => by
    have hl' : (lockable d && lockables ds) = true := by simpa [lockables] using h
    obtain ⟨l1, l2⟩ := Bool.and_eq_true_iff.mp hl'
    rw [lockDs, imms, lockD_imm l1, lockDs_imm l2]; rfl
end
end

mutual
theorem imm_lock : ∀ {d : D}, imm d = true → lockable d = true ∧ lockD d = d
  | .non, _ => ⟨rfl, rfl⟩
  | .bl _, _ => ⟨rfl, rfl⟩
  | .int _, _ => ⟨rfl, rfl⟩
  | .str _, _ => ⟨rfl, rfl⟩
  | .raw _, _ => ⟨rfl, rfl⟩
  | .tup ds, h => by
    obtain ⟨h1, h2⟩ := imms_lock (ds := ds) (by simpa [imm] using h)
    exact ⟨by simpa [lockable] using h1, by rw [lockD, h2]⟩
  | .rol ds, h => ⟨by simpa [lockable, imm] using h, rfl⟩
  | .rdc _, _ => ⟨rfl, rfl⟩
  | .lst _, h => by simp [imm] at h
  | .dct _, h => by simp [imm] at h
  | .ins _ _, h => by simp [imm] at h
theorem imms_lock : ∀ {ds : List D}, imms ds = true → lockables ds = true ∧ lockDs ds = ds
  | [], _ => ⟨rfl, rfl⟩
  | d :: ds, h => by
    have h' : (imm d && imms ds) = true := by simpa only [imms] using h
    obtain ⟨q1, q2⟩ := Bool.and_eq_true_iff.mp h'
    obtain ⟨a1, a2⟩ := imm_lock q1
    obtain ⟨b1, b2⟩ := imms_lock q2
    exact ⟨by rw [lockables, a1, b1]; rfl, by rw [lockDs, a2, b2]⟩
end
section
variable {e : E} {N B C : E → Prop} {R : D → E → Prop} {b : MS}
/-- a list of things that can't change -/
theorem wS_lock1 {i : Nat} {ds : List D} (h0 : e[i]? = some (some (.lst ds))) (hi : imms ds = true) (h : wS (b (e.set i (some (.rol ds)))) N R B C) : wS (mLock i b e) N R B C := by
  obtain ⟨h1, h2⟩ := imms_lock hi
  refine wS_lock h0 h1 ?_
  rw [lockD, h2]
  exact h
/-- a list of such lists -/
theorem wS_lock2 {i : Nat} {L : List (List D)} (h0 : e[i]? = some (some (.lst (L.map .lst)))) (hi : ∀ ds ∈ L, imms ds = true) (h : wS (b (e.set i (some (.rol (L.map .rol))))) N R B C) : wS (mLock i b e) N R B C := by
  have key : ∀ (L : List (List D)), (∀ ds ∈ L, imms ds = true) → lockables (L.map .lst) = true ∧ lockDs (L.map .lst) = L.map .rol := by
    intro L
    induction L with
    | nil => exact fun _ => ⟨rfl, rfl⟩
    | cons ds L ih =>
      intro hi
      obtain ⟨a1, a2⟩ := imms_lock (hi ds List.mem_cons_self)
      obtain ⟨b1, b2⟩ := ih fun x m => hi x (List.mem_cons_of_mem _ m)
      refine ⟨?_, ?_⟩
      · rw [List.map_cons, lockables, b1, lockable, a1]; rfl
      · rw [List.map_cons, lockDs, b2, lockD, a2]; rfl
  obtain ⟨h1, h2⟩ := key L hi
  refine wS_lock h0 h1 ?_
  rw [lockD, h2]
  exact h
end
/-! ### the keys of a dict that stays as it is -/
def isI : D → Bool
  | .int _ => true
  | _ => false
def wK (m : MB) : MW := fun e => match m e with
  | .ok (.rdc ds) => if (ds.all fun p => isI p.1) = true then .ok (ds.map (·.1)) e else .bad
  | .exc x => .exc x e
  | _ => .bad
section
variable {K : PySem.W.Frag}
theorem src_keys {a : Addr} {o : Obj} {kvs : List (Key × V)} {ds : List (D × D)} (hk : kvs.map (fun p => kD p.1) = ds.map (·.1)) (hi : (ds.all fun p => isI p.1) = true) : Src K (Itk a o kvs) (ds.map (·.1)) (fun H => H a = some (.frz o (.dK kvs))) [] where
  go := fun i H hp h => ⟨hp, by have := congrArg List.length hk; simp at this; rw [List.length_map] at h; omega⟩
  yld := fun i H x H' hp h hy => by
    obtain ⟨rfl, k, v, hkv, rfl⟩ := hy
    have e1 : (ds.map (·.1))[i]? = some (kD k) := by rw [← hk, List.getElem?_map, hkv]; rfl
    have e2 : (ds.map (·.1))[i] = kD k := by rw [List.getElem?_eq_getElem h] at e1; exact Option.some.inj e1
    rw [e2]
    refine ⟨.refl _ _, ?_⟩
    have hm : kD k ∈ ds.map (·.1) := List.mem_of_getElem? e1
    obtain ⟨q, hq, hq2⟩ := List.mem_map.mp hm
    have := List.all_eq_true.mp hi q hq
    rw [hq2] at this
    cases k with
    | inl z => exact .int
    | inr z => simp [kD, isI] at this
  stop := fun H hp => ⟨hp, by have := congrArg List.length hk; simp at this; rw [List.length_map]; omega⟩
  st := fun S H H' _ k hp => k _ _ hp (.inl rfl)
variable {X : Cx} {W : WX} {tg : Expr}
theorem w_keys {it : Expr} {m : MB} (p : PE X it (tB X.K W m)) : PI X tg it (tW X.K W (wK m)) := PI.mono (pi_keys p) fun σ H R ⟨e, F, r, nd, h⟩ => by
  unfold wK at h
  refine ⟨e, F, r, ?_⟩
  cases q : m e with
  | bad => rw [q] at h; exact h
  | exc y => rw [q] at h; exact fun c dx H' k p => h c dx H' F (.pure r nd k) p
  | ok d =>
    rw [q] at h
    intro v H1 G k pv
    cases d with
    | rdc ds =>
      simp only at h
      by_cases hi : (ds.all fun p => isI p.1) = true
      · rw [if_pos hi] at h
        cases pv with | rdc hf hc hr => ?_
        obtain ⟨o, hf⟩ := hf
        rename_i a kvs
        exact ⟨a, o, rfl, .inl ⟨kvs, hf, h _ H1 F [] _ (src_keys hc hi) hf (.pure r nd k) fun _ m => by cases m⟩⟩
      · rw [if_neg hi] at h; exact h.elim
    | _ => exact h.elim
theorem w2_wK {m : MB} {e : E} {QL : List D → E → Prop} (h : w1 (m e) fun d => ∃ ds, d = .rdc ds ∧ (ds.all fun p => isI p.1) = true ∧ QL (ds.map (·.1)) e) : w2 (wK m e) QL := by
  unfold wK
  generalize m e = r at h ⊢
  cases h with
  | mk h =>
    obtain ⟨ds, rfl, h1, h2⟩ := h
    simp only [h1, if_true]
    exact .mk h2
end
/-! ### the calculus of borrowing -/
section
variable {e : E} {N B C : E → Prop} {R : D → E → Prop} {b : MS} {m : MP} {i j : Nat}
theorem w1_pNil {Q : List Stp → Prop} (q : Q []) : w1 (pNil e) Q := .mk q
theorem slot_pNil {d : D} (h : e[i]? = some (some d)) : slotAt e i [] = some d := by unfold slotAt; rw [h]; rfl
theorem w1_pIx {mb : MB} {Q : List Stp → Prop} (h : w1 (m e) fun p => ∃ ds, slotAt e i p = some (.lst ds) ∧ w1 (mb e) fun k => ∃ z, k = .int z ∧ ∃ n, ixN ds.length z = some n ∧ Q (p ++ [.ix n])) : w1 (pIx i m mb e) Q := by
  refine w1_bind (w1_mono h fun p ⟨ds, h1, h⟩ => ?_)
  simp only [h1]
  refine w1_bind (w1_mono h fun k ⟨z, e1, n, h2, q⟩ => ?_)
  subst e1
  simp only [h2]
  exact .mk q
theorem w1_bP {Q : D → Prop} (h : w1 (m e) fun p => w0 (slotAt e i p) Q) : w1 (bP i m e) Q := w1_bind (w1_mono h fun _ h => w1_of h)
/-- x = y[k] -/
theorem wS_bor1 {mb : MB} {ds : List D} (h0 : e[i]? = some (some (.lst ds))) (hj : j < e.length) (h : w1 (mb e) fun k => ∃ z, k = .int z ∧ ∃ n d, ixN ds.length z = some n ∧ ds[n]? = some d ∧
    wS (b ((e.set i none).set j (some d))) (fun e' => ∃ d', e'[j]? = some (some d') ∧ N ((e'.set j none).set i (some (.lst (ds.set n d'))))) (fun x e' => ∃ d', e'[j]? = some (some d') ∧ R x ((e'.set j none).set i (some (.lst (ds.set n d')))))
      (fun e' => ∃ d', e'[j]? = some (some d') ∧ B ((e'.set j none).set i (some (.lst (ds.set n d'))))) (fun e' => ∃ d', e'[j]? = some (some d') ∧ C ((e'.set j none).set i (some (.lst (ds.set n d')))))) : wS (mBor i j (pIx i pNil mb) b e) N R B C := by
  unfold mBor
  have hp : w1 (pIx i pNil mb e) fun p => ∃ n d, p = [.ix n] ∧ ds[n]? = some d ∧ wS (b ((e.set i none).set j (some d))) (fun e' => ∃ d', e'[j]? = some (some d') ∧ N ((e'.set j none).set i (some (.lst (ds.set n d'))))) (fun x e' => ∃ d', e'[j]? = some (some d') ∧ R x ((e'.set j none).set i (some (.lst (ds.set n d')))))
      (fun e' => ∃ d', e'[j]? = some (some d') ∧ B ((e'.set j none).set i (some (.lst (ds.set n d'))))) (fun e' => ∃ d', e'[j]? = some (some d') ∧ C ((e'.set j none).set i (some (.lst (ds.set n d'))))) :=
    w1_pIx (w1_pNil ⟨ds, slot_pNil h0, w1_mono h fun k ⟨z, e1, n, d, h1, h2, h3⟩ => ⟨z, e1, n, h1, n, d, rfl, h2, h3⟩⟩)
  generalize pIx i pNil mb e = r at hp ⊢
  cases hp with
  | mk hp =>
    obtain ⟨n, d, rfl, hd, hw⟩ := hp
    obtain ⟨hn, _⟩ := List.getElem?_eq_some_iff.mp hd
    simp only [h0]
    have ha : atP (.lst ds) [.ix n] = some d := atP_ix (p := []) rfl hd
    have hput : ∀ d', putP (.lst ds) [.ix n] d' = .lst (ds.set n d') := fun d' => by
      show (match (if n < ds.length then some n else none) with
        | some n => (match ds[n]? with
          | some d1 => setKid (.lst ds) n d'
          | none => .lst ds)
        | none => .lst ds) = _
      rw [if_pos hn]
      simp only [hd]
      rfl
    rw [ha]
    simp only [hj, if_true]
    generalize b _ = s at hw ⊢
    have hb : ∀ {e' : E} {d' : D}, e'[j]? = some (some d') → borE i j (.lst ds) [.ix n] e' = some ((e'.set j none).set i (some (.lst (ds.set n d')))) := fun {e' d'} h => by unfold borE; rw [h]; simp only [hput]
    cases hw with
    | nx h => obtain ⟨d', h1, h2⟩ := h; simp only [SR.bor, hb h1]; exact .nx h2
    | rt h => obtain ⟨d', h1, h2⟩ := h; simp only [SR.bor, hb h1]; exact .rt h2
    | bk h => obtain ⟨d', h1, h2⟩ := h; simp only [SR.bor, hb h1]; exact .bk h2
    | ct h => obtain ⟨d', h1, h2⟩ := h; simp only [SR.bor, hb h1]; exact .ct h2
end
end Mir

namespace LK53
open PySem PySem.Spec L2 Mir
def topS (i : Nat) : Stmt := PySem.Challenge.pw_lectern_k53_pages.main.body.getD i (.Pass ⟨0, 0, 0, 0⟩)
abbrev s_is_count : Stmt := topS 5
abbrev N_is_count : List PySem.Str := ["value", "least", "most"]
theorem sc_is_count : FnScope N_is_count ["value", "least", "most"] (defScope s_is_count) := ⟨rfl, rfl, rfl, by decide +kernel, rfl, by decide +kernel, by decide +kernel⟩
abbrev s_is_fault : Stmt := topS 7
abbrev N_is_fault : List PySem.Str := ["answer"]
theorem sc_is_fault : FnScope N_is_fault ["answer"] (defScope s_is_fault) := ⟨rfl, rfl, rfl, by decide +kernel, rfl, by decide +kernel, by decide +kernel⟩
abbrev s_show_value : Stmt := topS 8
abbrev N_show_value : List PySem.Str := ["value", "kind"]
theorem sc_show_value : FnScope N_show_value ["value"] (defScope s_show_value) := ⟨rfl, rfl, rfl, by decide +kernel, rfl, by decide +kernel, by decide +kernel⟩
abbrev s_wrap : Stmt := topS 13
abbrev N_wrap : List PySem.Str := ["text", "width", "first", "rest", "lines", "line", "begun", "word", "room"]
theorem sc_wrap : FnScope N_wrap ["text", "width", "first", "rest"] (defScope s_wrap) := ⟨rfl, rfl, rfl, by decide +kernel, rfl, by decide +kernel, by decide +kernel⟩
abbrev s_listing_texts : Stmt := topS 14
abbrev N_listing_texts : List PySem.Str := ["pairs", "width", "number", "shown"]
theorem sc_listing_texts : FnScope N_listing_texts ["pairs", "width"] (defScope s_listing_texts) := ⟨rfl, rfl, rfl, by decide +kernel, rfl, by decide +kernel, by decide +kernel⟩
abbrev s_joined_lines : Stmt := topS 15
abbrev N_joined_lines : List PySem.Str := ["texts", "lines", "text"]
theorem sc_joined_lines : FnScope N_joined_lines ["texts"] (defScope s_joined_lines) := ⟨rfl, rfl, rfl, by decide +kernel, rfl, by decide +kernel, by decide +kernel⟩
abbrev s_is_listing : Stmt := topS 16
abbrev N_is_listing : List PySem.Str := ["para"]
theorem sc_is_listing : FnScope N_is_listing ["para"] (defScope s_is_listing) := ⟨rfl, rfl, rfl, by decide +kernel, rfl, by decide +kernel, by decide +kernel⟩
abbrev s_para_kind : Stmt := topS 17
abbrev N_para_kind : List PySem.Str := ["para"]
theorem sc_para_kind : FnScope N_para_kind ["para"] (defScope s_para_kind) := ⟨rfl, rfl, rfl, by decide +kernel, rfl, by decide +kernel, by decide +kernel⟩
abbrev s_para_lines : Stmt := topS 18
abbrev N_para_lines : List PySem.Str := ["para", "width", "listing_width", "_", "kind", "number", "shown"]
theorem sc_para_lines : FnScope N_para_lines ["para", "width", "listing_width"] (defScope s_para_lines) := ⟨rfl, rfl, rfl, by decide +kernel, rfl, by decide +kernel, by decide +kernel⟩
abbrev s_fault_line : Stmt := topS 19
abbrev N_fault_line : List PySem.Str := ["fault", "line_id", "word", "column"]
theorem sc_fault_line : FnScope N_fault_line ["fault"] (defScope s_fault_line) := ⟨rfl, rfl, rfl, by decide +kernel, rfl, by decide +kernel, by decide +kernel⟩
abbrev s_view_blocks : Stmt := topS 20
abbrev N_view_blocks : List PySem.Str := ["view", "width", "listing_width", "_", "paras", "faults", "blocks", "at", "lines", "fault"]
theorem sc_view_blocks : FnScope N_view_blocks ["view", "width", "listing_width"] (defScope s_view_blocks) := ⟨rfl, rfl, rfl, by decide +kernel, rfl, by decide +kernel, by decide +kernel⟩
abbrev s_gap_size : Stmt := topS 21
abbrev N_gap_size : List PySem.Str := ["block", "following"]
theorem sc_gap_size : FnScope N_gap_size ["block", "following"] (defScope s_gap_size) := ⟨rfl, rfl, rfl, by decide +kernel, rfl, by decide +kernel, by decide +kernel⟩
abbrev s_check_width : Stmt := topS 22
abbrev N_check_width : List PySem.Str := ["width"]
theorem sc_check_width : FnScope N_check_width ["width"] (defScope s_check_width) := ⟨rfl, rfl, rfl, by decide +kernel, rfl, by decide +kernel, by decide +kernel⟩
abbrev s_pad_left : Stmt := topS 24
abbrev N_pad_left : List PySem.Str := ["text", "width"]
theorem sc_pad_left : FnScope N_pad_left ["text", "width"] (defScope s_pad_left) := ⟨rfl, rfl, rfl, by decide +kernel, rfl, by decide +kernel, by decide +kernel⟩
abbrev s_check_size : Stmt := topS 30
abbrev N_check_size : List PySem.Str := ["width", "height"]
theorem sc_check_size : FnScope N_check_size ["width", "height"] (defScope s_check_size) := ⟨rfl, rfl, rfl, by decide +kernel, rfl, by decide +kernel, by decide +kernel⟩
abbrev s_needed_lines : Stmt := topS 31
abbrev N_needed_lines : List PySem.Str := ["blocks", "at", "size"]
theorem sc_needed_lines : FnScope N_needed_lines ["blocks", "at"] (defScope s_needed_lines) := ⟨rfl, rfl, rfl, by decide +kernel, rfl, by decide +kernel, by decide +kernel⟩
abbrev s_block_starts : Stmt := topS 32
abbrev N_block_starts : List PySem.Str := ["blocks", "height", "starts", "page", "used", "at", "size", "above", "further", "last"]
theorem sc_block_starts : FnScope N_block_starts ["blocks", "height"] (defScope s_block_starts) := ⟨rfl, rfl, rfl, by decide +kernel, rfl, by decide +kernel, by decide +kernel⟩
abbrev s_para_pages : Stmt := topS 33
abbrev N_para_pages : List PySem.Str := ["view", "width", "height", "blocks", "starts", "pages", "at"]
theorem sc_para_pages : FnScope N_para_pages ["view", "width", "height"] (defScope s_para_pages) := ⟨rfl, rfl, rfl, by decide +kernel, rfl, by decide +kernel, by decide +kernel⟩
abbrev s_listed_numbers : Stmt := topS 34
abbrev N_listed_numbers : List PySem.Str := ["paras", "listing", "kind", "at"]
theorem sc_listed_numbers : FnScope N_listed_numbers ["paras", "listing"] (defScope s_listed_numbers) := ⟨rfl, rfl, rfl, by decide +kernel, rfl, by decide +kernel, by decide +kernel⟩
abbrev s_with_page : Stmt := topS 35
abbrev N_with_page : List PySem.Str := ["text", "page", "width", "first"]
theorem sc_with_page : FnScope N_with_page ["text", "page", "width"] (defScope s_with_page) := ⟨rfl, rfl, rfl, by decide +kernel, rfl, by decide +kernel, by decide +kernel⟩
abbrev s_printed_listing : Stmt := topS 36
abbrev N_printed_listing : List PySem.Str := ["paras", "listing", "width", "pages", "texts", "numbers", "at"]
theorem sc_printed_listing : FnScope N_printed_listing ["paras", "listing", "width", "pages"] (defScope s_printed_listing) := ⟨rfl, rfl, rfl, by decide +kernel, rfl, by decide +kernel, by decide +kernel⟩
abbrev s_printed_lines : Stmt := topS 37
abbrev N_printed_lines : List PySem.Str := ["view", "block", "width", "pages", "number", "_", "lines"]
theorem sc_printed_lines : FnScope N_printed_lines ["view", "block", "width", "pages"] (defScope s_printed_lines) := ⟨rfl, rfl, rfl, by decide +kernel, rfl, by decide +kernel, by decide +kernel⟩
abbrev s_put_lines : Stmt := topS 38
abbrev N_put_lines : List PySem.Str := ["sheets", "page", "above", "lines", "height", "at", "further", "row", "sheet"]
theorem sc_put_lines : FnScope N_put_lines ["sheets", "page", "above", "lines", "height"] (defScope s_put_lines) := ⟨rfl, rfl, rfl, by decide +kernel, rfl, by decide +kernel, by decide +kernel⟩
abbrev s_print_pages : Stmt := topS 39
abbrev N_print_pages : List PySem.Str := ["view", "width", "height", "pages", "blocks", "starts", "sheets", "at", "page", "above", "sheet"]
theorem sc_print_pages : FnScope N_print_pages ["view", "width", "height"] (defScope s_print_pages) := ⟨rfl, rfl, rfl, by decide +kernel, rfl, by decide +kernel, by decide +kernel⟩
abbrev s_page_numbers : Stmt := topS 40
abbrev N_page_numbers : List PySem.Str := ["view", "width", "height", "pages", "number"]
theorem sc_page_numbers : FnScope N_page_numbers ["view", "width", "height"] (defScope s_page_numbers) := ⟨rfl, rfl, rfl, by decide +kernel, rfl, by decide +kernel, by decide +kernel⟩
abbrev s__law_jar : Stmt := topS 42
abbrev N__law_jar : List PySem.Str := ["script", "rows", "k", "cell", "step", "mixed"]
theorem sc__law_jar : FnScope N__law_jar ["script"] (defScope s__law_jar) := ⟨rfl, rfl, rfl, by decide +kernel, rfl, by decide +kernel, by decide +kernel⟩
abbrev s__law_take : Stmt := topS 43
abbrev N__law_take : List PySem.Str := ["jar", "many", "at", "rows", "mixed"]
theorem sc__law_take : FnScope N__law_take ["jar", "many"] (defScope s__law_take) := ⟨rfl, rfl, rfl, by decide +kernel, rfl, by decide +kernel, by decide +kernel⟩
abbrev s__law_same : Stmt := topS 44
abbrev N__law_same : List PySem.Str := ["one", "two", "k"]
theorem sc__law_same : FnScope N__law_same ["one", "two"] (defScope s__law_same) := ⟨rfl, rfl, rfl, by decide +kernel, rfl, by decide +kernel, by decide +kernel⟩
abbrev s__law_words : Stmt := topS 45
abbrev N__law_words : List PySem.Str := ["jar", "many", "text", "k", "size"]
theorem sc__law_words : FnScope N__law_words ["jar", "many"] (defScope s__law_words) := ⟨rfl, rfl, rfl, by decide +kernel, rfl, by decide +kernel, by decide +kernel⟩
abbrev s__law_wrap : Stmt := topS 46
abbrev N__law_wrap : List PySem.Str := ["text", "width", "first", "rest", "lines", "line", "empty", "word", "step", "room"]
theorem sc__law_wrap : FnScope N__law_wrap ["text", "width", "first", "rest"] (defScope s__law_wrap) := ⟨rfl, rfl, rfl, by decide +kernel, rfl, by decide +kernel, by decide +kernel⟩
abbrev s__law_view : Stmt := topS 47
abbrev N__law_view : List PySem.Str := ["jar", "paras", "many", "k", "pick", "text", "number", "told", "para", "pairs"]
theorem sc__law_view : FnScope N__law_view ["jar"] (defScope s__law_view) := ⟨rfl, rfl, rfl, by decide +kernel, rfl, by decide +kernel, by decide +kernel⟩
abbrev s__law_listed : Stmt := topS 48
abbrev N__law_listed : List PySem.Str := ["paras", "listing", "kind", "k"]
theorem sc__law_listed : FnScope N__law_listed ["paras", "listing"] (defScope s__law_listed) := ⟨rfl, rfl, rfl, by decide +kernel, rfl, by decide +kernel, by decide +kernel⟩
abbrev s__law_texts : Stmt := topS 49
abbrev N__law_texts : List PySem.Str := ["para", "width", "number", "shown"]
theorem sc__law_texts : FnScope N__law_texts ["para", "width"] (defScope s__law_texts) := ⟨rfl, rfl, rfl, by decide +kernel, rfl, by decide +kernel, by decide +kernel⟩
abbrev s__law_lines : Stmt := topS 50
abbrev N__law_lines : List PySem.Str := ["para", "width", "kind", "lines", "text"]
theorem sc__law_lines : FnScope N__law_lines ["para", "width"] (defScope s__law_lines) := ⟨rfl, rfl, rfl, by decide +kernel, rfl, by decide +kernel, by decide +kernel⟩
abbrev s__law_blocks : Stmt := topS 51
abbrev N__law_blocks : List PySem.Str := ["paras", "faults", "width", "blocks", "k", "lines", "kind", "line_id", "word", "column"]
theorem sc__law_blocks : FnScope N__law_blocks ["paras", "faults", "width"] (defScope s__law_blocks) := ⟨rfl, rfl, rfl, by decide +kernel, rfl, by decide +kernel, by decide +kernel⟩
abbrev s__law_gap : Stmt := topS 52
abbrev N__law_gap : List PySem.Str := ["one", "two"]
theorem sc__law_gap : FnScope N__law_gap ["one", "two"] (defScope s__law_gap) := ⟨rfl, rfl, rfl, by decide +kernel, rfl, by decide +kernel, by decide +kernel⟩
abbrev s__law_put : Stmt := topS 53
abbrev N__law_put : List PySem.Str := ["blocks", "height", "told", "page", "used", "k", "size", "need", "gap", "turn"]
theorem sc__law_put : FnScope N__law_put ["blocks", "height"] (defScope s__law_put) := ⟨rfl, rfl, rfl, by decide +kernel, rfl, by decide +kernel, by decide +kernel⟩
abbrev s__law_dotted : Stmt := topS 54
abbrev N__law_dotted : List PySem.Str := ["paras", "para", "pages", "width", "lines", "listed", "texts", "k", "page", "number", "at", "first"]
theorem sc__law_dotted : FnScope N__law_dotted ["paras", "para", "pages", "width"] (defScope s__law_dotted) := ⟨rfl, rfl, rfl, by decide +kernel, rfl, by decide +kernel, by decide +kernel⟩
abbrev s__law_sheets : Stmt := topS 55
abbrev N__law_sheets : List PySem.Str := ["blocks", "told", "dotted", "height", "sheets", "k", "page", "above", "lines", "at", "row", "sheet", "turn", "target"]
theorem sc__law_sheets : FnScope N__law_sheets ["blocks", "told", "dotted", "height"] (defScope s__law_sheets) := ⟨rfl, rfl, rfl, by decide +kernel, rfl, by decide +kernel, by decide +kernel⟩
abbrev s__law_refuses : Stmt := topS 56
abbrev N__law_refuses : List PySem.Str := ["view", "width", "height", "told", "e"]
theorem sc__law_refuses : FnScope N__law_refuses ["view", "width", "height"] (defScope s__law_refuses) := ⟨rfl, rfl, rfl, by decide +kernel, rfl, by decide +kernel, by decide +kernel⟩
abbrev s_law : Stmt := topS 57
abbrev N_law : List PySem.Str := ["script", "jar", "paras", "faults", "k", "view", "width", "height", "blocks", "told", "pages", "dotted", "number", "kind", "lines", "lost", "wrong"]
theorem sc_law : FnScope N_law ["script"] (defScope s_law) := ⟨rfl, rfl, rfl, by decide +kernel, rfl, by decide +kernel, by decide +kernel⟩
def c_FAULT_KIND : Mir.D := (.str (lit "fault"))
def c_WIDTH_LEAST : Mir.D := (.int 20)
def c_WIDTH_MOST : Mir.D := (.int 100)
def c_HEIGHT_LEAST : Mir.D := (.int 5)
def c_HEIGHT_MOST : Mir.D := (.int 100)
def c_PAGE_COLUMNS : Mir.D := (.int 4)
def c_LISTING_MARGIN : Mir.D := (.int 5)
/-! ### the mirrors -/
noncomputable section
def cat_BadValue : PySem.Str → Option Bool := fun y => if y = "BadValue" then some true else none
def kit_LecternError : PySem.Str → Option Bool := fun y => if y = "BadValue" then some true else none
def kit_BadLine : PySem.Str → Option Bool := fun y => if y = "BadValue" then some false else none
def kit_ValueError : PySem.Str → Option Bool := fun y => if y = "BadValue" then some true else none
def b_is_count : MS :=
  (mRet (ofN (andB (cal fIsi (aCons (bVar 0) (aCons (bC (.raw (.ty "int"))) aNil))) (andB (notB (cal fIsi (aCons (bVar 0) (aCons (bC (.raw (.ty "bool"))) aNil)))) (chB fLe fLe (bVar 1) (bVar 0) (bVar 2))))))
def m_is_count : MD := mDef0 0 b_is_count
theorem nx_is_count : ∀ ds y, m_is_count ds ≠ .exc y := fun _ _ => noX_ne
def b_is_fault : MS :=
  (mRet (ofN (andB (cal fIsi (aCons (bVar 0) (aCons (bC (.raw (.ty "tuple"))) aNil))) (andB (bin fGt (cal fLen (aCons (bVar 0) aNil)) (bC (.int 0))) (bin fEq (bin fIx (bVar 0) (bC (.int 0))) (bC (.str (lit "fault"))))))))
def m_is_fault : MD := mDef0 0 b_is_fault
theorem nx_is_fault : ∀ ds y, m_is_fault ds ≠ .exc y := fun _ _ => noX_ne
def b_show_value : MS :=
  (mSeq (mSet 1 (own (bin fIx (bVar 0) (bC (.int 0)))))
  (mSeq (mIf (tst (ofN (bin fEq (bVar 1) (bC (.str (lit "none"))))))
  (mRet (ofN (bC (.str (lit "")))))
  mNil)
  (mSeq (mIf (tst (ofN (bin fEq (bVar 1) (bC (.str (lit "flag"))))))
  (mSeq (mIf (tst (own (bin fIx (bVar 0) (bC (.int 1)))))
  (mRet (ofN (bC (.str (lit "TRUE")))))
  mNil)
  (mRet (ofN (bC (.str (lit "FALSE"))))))
  mNil)
  (mSeq (mIf (tst (ofN (bin fEq (bVar 1) (bC (.str (lit "int"))))))
  (mRet (ofN (cal fStr (aCons (bin fIx (bVar 0) (bC (.int 1))) aNil))))
  mNil)
  (mSeq (mIf (tst (ofN (bin fEq (bVar 1) (bC (.str (lit "text"))))))
  (mRet (own (bin fIx (bVar 0) (bC (.int 1)))))
  mNil)
  (mRet (ofN (bin fAdd (bin fAdd (bin fAdd (bin fAdd (bC (.str (lit "["))) (bin fIx (bVar 0) (bC (.int 1)))) (bC (.str (lit " ")))) (bin fIx (bVar 0) (bC (.int 2)))) (bC (.str (lit "]")))))))))))
def m_show_value : MD := mDef0 1 b_show_value
theorem nx_show_value : ∀ ds y, m_show_value ds ≠ .exc y := fun _ _ => noX_ne
def b_wrap : MS :=
  (mSeq (mIf (orT (tst (ofN (bin fGe (cal fLen (aCons (bVar 2) aNil)) (bVar 1)))) (tst (ofN (bin fGe (cal fLen (aCons (bVar 3) aNil)) (bVar 1)))))
  (mRaise "BadValue")
  mNil)
  (mSeq (mSet 4 (ofN (dLst aNil)))
  (mSeq (mSet 5 (own (bVar 2)))
  (mSeq (mSet 6 (ofN (bC (.bl false))))
  (mSeq (mFor (wV (ofN (smB fSplit (bVar 0) (bC (.str (lit " ")))))) (gN 7)
  (mIf (tst (ofN (bin fNe (bVar 7) (bC (.str (lit ""))))))
  (mSeq (mIf (andT (tst (own (bVar 6))) (tst (ofN (bin fGt (bin fAdd (bin fAdd (cal fLen (aCons (bVar 5) aNil)) (bC (.int 1))) (cal fLen (aCons (bVar 7) aNil))) (bVar 1)))))
  (mSeq (mExpr (eMut 4 fAppend (acons (own (bVar 5)) anil)))
  (mSeq (mSet 5 (own (bVar 3)))
  (mSet 6 (ofN (bC (.bl false))))))
  mNil)
  (mSeq (mIf (tst (own (bVar 6)))
  (mAug 5 fAug (ofN (bC (.str (lit " ")))))
  mNil)
  (mSeq (mWh (tst (ofN (bin fGt (bin fAdd (cal fLen (aCons (bVar 5) aNil)) (cal fLen (aCons (bVar 7) aNil))) (bVar 1))))
  (mSeq (mSet 8 (ofN (bin fSub (bVar 1) (cal fLen (aCons (bVar 5) aNil)))))
  (mSeq (mExpr (eMut 4 fAppend (acons (ofN (bin fAdd (bVar 5) (cut (bVar 7) none (some (bVar 8))))) anil)))
  (mSeq (mSet 7 (ofN (cut (bVar 7) (some (bVar 8)) none)))
  (mSet 5 (own (bVar 3)))))))
  (mSeq (mAug 5 fAug (own (bVar 7)))
  (mSet 6 (ofN (bC (.bl true))))))))
  mNil))
  (mSeq (mExpr (eMut 4 fAppend (acons (own (bVar 5)) anil)))
  (mRet (ofN (cal fTuple (aCons (bVar 4) aNil))))))))))
def m_wrap : MD := mDef 5 b_wrap
def b_joined_lines : MS :=
  (mSeq (mSet 1 (ofN (dLst aNil)))
  (mSeq (mForV 0 (gN 2)
  (mExpr (eMut 1 fExtend (acons (ofN (cal fList (aCons (bVar 2) aNil))) anil))))
  (mRet (ofN (cal fTuple (aCons (bVar 1) aNil))))))
def m_joined_lines : MD := mDef0 2 b_joined_lines
theorem nx_joined_lines : ∀ ds y, m_joined_lines ds ≠ .exc y := fun _ _ => noX_ne
def b_fault_line : MS :=
  (mSeq (mAsg (gT [1, 2, 3]) (own (bVar 0)))
  (mRet (ofN (bin fAdd (bin fAdd (bin fAdd (bin fAdd (bin fAdd (bC (.str (lit "! "))) (bVar 1)) (bC (.str (lit " ")))) (bVar 2)) (bC (.str (lit " ")))) (cal fStr (aCons (bVar 3) aNil))))))
def m_fault_line : MD := mDef0 3 b_fault_line
theorem nx_fault_line : ∀ ds y, m_fault_line ds ≠ .exc y := fun _ _ => noX_ne
def b_gap_size : MS :=
  (mSeq (mIf (andT (tst (ofN (bin fEq (bin fIx (bVar 0) (bC (.int 1))) (bin fIx (bVar 1) (bC (.int 1)))))) (orT (tst (ofN (bin fEq (bin fIx (bVar 0) (bC (.int 1))) (bC (.str (lit "item")))))) (tst (ofN (bin fEq (bin fIx (bVar 0) (bC (.int 1))) (bC (.str (lit "point"))))))))
  (mRet (ofN (bC (.int 0))))
  mNil)
  (mRet (ofN (bC (.int 1)))))
def m_gap_size : MD := mDef0 0 b_gap_size
theorem nx_gap_size : ∀ ds y, m_gap_size ds ≠ .exc y := fun _ _ => noX_ne
def b_pad_left : MS :=
  (mRet (ofN (bin fAdd (bin fMul (bC (.str (lit " "))) (cal fMax (aCons (bC (.int 0)) (aCons (bin fSub (bVar 1) (cal fLen (aCons (bVar 0) aNil))) aNil)))) (bVar 0))))
def m_pad_left : MD := mDef0 0 b_pad_left
theorem nx_pad_left : ∀ ds y, m_pad_left ds ≠ .exc y := fun _ _ => noX_ne
def b_put_lines : MS :=
  (mFor (wR (acons (ofN (cal fLen (aCons (bVar 3) aNil))) anil)) (gN 5)
  (mSeq (mAsg (gT [6, 7]) (ofN (cal fDivmod (aCons (bin fAdd (bVar 2) (bVar 5)) (aCons (bVar 4) aNil)))))
  (mSeq (mWh (tst (ofN (bin fLt (cal fLen (aCons (bVar 0) aNil)) (bin fAdd (bVar 1) (bVar 6)))))
  (mExpr (eMut 0 fAppend (acons (ofN (dLst aNil)) anil))))
  (mBor 0 8 (pIx 0 pNil (bin fSub (bin fAdd (bVar 1) (bVar 6)) (bC (.int 1))))
  (mSeq (mWh (tst (ofN (bin fLt (cal fLen (aCons (bVar 8) aNil)) (bVar 7))))
  (mExpr (eMut 8 fAppend (acons (ofN (bC (.str (lit "")))) anil))))
  (mExpr (eMut 8 fAppend (acons (own (bin fIx (bVar 3) (bVar 5))) anil))))))))
def m_put_lines : MI := mDefI0 4 (fun i => i == 0) b_put_lines
theorem nx_put_lines : ∀ ds y os, m_put_lines ds ≠ .exc y os := fun _ _ _ => noI_ne
def b__law_jar : MS :=
  (mSeq (mSet 1 (ofN (dLst aNil)))
  (mSeq (mFor (wR (acons (ofN (cal fMin (aCons (cal fLen (aCons (bVar 0) aNil)) (aCons (bC (.int 63)) aNil)))) anil)) (gN 2)
  (mSeq (mSet 3 (ofN (cal fInt (aCons (bin fIx (bVar 0) (bVar 2)) aNil))))
  (mSeq (mIf (tst (ofN (bin fLt (bVar 3) (bC (.int 0)))))
  (mSet 3 (ofN (un fNeg (bVar 3))))
  mNil)
  (mIf (tst (ofN (bin fGe (bVar 3) (bin fPow (bC (.int 10)) (bC (.int 18))))))
  (mFor (wR (acons (ofN (bC (.int 40))) anil)) (gN 4)
  (mIf (tst (ofN (bin fGt (bVar 3) (bC (.int 0)))))
  (mSeq (mExpr (eMut 1 fAppend (acons (ofN (bin fMod (cal fInt (aCons (bVar 3) aNil)) (bC (.int 1009)))) anil)))
  (mSet 3 (ofN (bin fDiv (bVar 3) (bC (.int 1009))))))
  mNil))
  (mSeq (mSet 5 (ofN (bin fMod (cal fInt (aCons (bin fAdd (bin fAdd (bin fMul (bVar 3) (bC (.int 48271))) (bin fMul (bVar 2) (bC (.int 69621)))) (bC (.int 11))) aNil)) (bC (.int 999983)))))
  (mSeq (mExpr (eMut 1 fAppend (acons (own (bVar 5)) anil)))
  (mExpr (eMut 1 fAppend (acons (ofN (bin fMod (cal fInt (aCons (bin fAdd (bin fAdd (bin fMul (bVar 5) (bC (.int 1103))) (bin fMul (bVar 2) (bC (.int 7919)))) (bC (.int 5))) aNil)) (bC (.int 99991)))) anil)))))))))
  (mRet (dLstE (acons (frz (eMv 1)) (acons (ofN (bC (.int 0))) anil))))))
def m__law_jar : MD := mDef0 5 b__law_jar
theorem nx__law_jar : ∀ ds y, m__law_jar ds ≠ .exc y := fun _ _ => noX_ne
def b__law_take : MS :=
  (mSeq (mSet 2 (own (bin fIx (bVar 0) (bC (.int 1)))))
  (mSeq (mSetIx 0 (bC (.int 1)) (ofN (bin fAdd (bVar 2) (bC (.int 1)))))
  (mSeq (mSet 3 (own (bin fIx (bVar 0) (bC (.int 0)))))
  (mSeq (mIf (tst (ofN (bin fLt (bVar 2) (cal fLen (aCons (bVar 3) aNil)))))
  (mRet (ofN (bin fMod (cal fInt (aCons (bin fIx (bVar 3) (bVar 2)) aNil)) (bVar 1))))
  mNil)
  (mSeq (mSet 4 (ofN (bin fMod (cal fInt (aCons (bin fAdd (bin fAdd (bin fMul (bVar 2) (bC (.int 7919))) (bin fMul (cal fLen (aCons (bVar 3) aNil)) (bC (.int 104729)))) (bC (.int 17))) aNil)) (bC (.int 999983)))))
  (mSeq (mIf (tst (ofN (bin fGt (cal fLen (aCons (bVar 3) aNil)) (bC (.int 0)))))
  (mSet 4 (ofN (bin fMod (cal fInt (aCons (bin fAdd (bVar 4) (bin fMul (bin fIx (bVar 3) (bin fSub (bVar 2) (bin fMul (bin fDiv (bVar 2) (cal fLen (aCons (bVar 3) aNil))) (cal fLen (aCons (bVar 3) aNil))))) (bin fAdd (bin fDiv (bVar 2) (cal fLen (aCons (bVar 3) aNil))) (bC (.int 3))))) aNil)) (bC (.int 999983)))))
  mNil)
  (mRet (ofN (bin fMod (cal fInt (aCons (bin fDiv (bin fMod (cal fInt (aCons (bin fMul (bVar 4) (bC (.int 48271))) aNil)) (bC (.int 999983))) (bC (.int 7))) aNil)) (bVar 1))))))))))
def m__law_take : MI := mDefI0 3 (fun i => i == 0) b__law_take
theorem nx__law_take : ∀ ds y os, m__law_take ds ≠ .exc y os := fun _ _ _ => noI_ne
def b__law_wrap : MS :=
  (mSeq (mSet 4 (ofN (dLst aNil)))
  (mSeq (mSet 5 (own (bVar 2)))
  (mSeq (mSet 6 (ofN (bC (.bl true))))
  (mSeq (mFor (wV (ofN (smB fSplit (bVar 0) (bC (.str (lit " ")))))) (gN 7)
  (mIf (tst (ofN (bin fNe (bVar 7) (bC (.str (lit ""))))))
  (mIf (andT (notT (tst (own (bVar 6)))) (tst (ofN (bin fLe (bin fAdd (bin fAdd (cal fLen (aCons (bVar 5) aNil)) (bC (.int 1))) (cal fLen (aCons (bVar 7) aNil))) (bVar 1)))))
  (mSet 5 (ofN (bin fAdd (bin fAdd (bVar 5) (bC (.str (lit " ")))) (bVar 7))))
  (mSeq (mIf (notT (tst (own (bVar 6))))
  (mSeq (mExpr (eMut 4 fAppend (acons (own (bVar 5)) anil)))
  (mSet 5 (own (bVar 3))))
  mNil)
  (mSeq (mFor (wR (acons (ofN (cal fLen (aCons (bVar 7) aNil))) anil)) (gN 8)
  (mIf (tst (ofN (bin fGt (bin fAdd (cal fLen (aCons (bVar 5) aNil)) (cal fLen (aCons (bVar 7) aNil))) (bVar 1))))
  (mSeq (mSet 9 (ofN (bin fSub (bVar 1) (cal fLen (aCons (bVar 5) aNil)))))
  (mSeq (mExpr (eMut 4 fAppend (acons (ofN (bin fAdd (bVar 5) (cut (bVar 7) none (some (bVar 9))))) anil)))
  (mSeq (mSet 7 (ofN (cut (bVar 7) (some (bVar 9)) none)))
  (mSet 5 (own (bVar 3))))))
  mNil))
  (mSeq (mSet 5 (ofN (bin fAdd (bVar 5) (bVar 7))))
  (mSet 6 (ofN (bC (.bl false))))))))
  mNil))
  (mSeq (mExpr (eMut 4 fAppend (acons (own (bVar 5)) anil)))
  (mRet (frz (eMv 4))))))))
def m__law_wrap : MD := mDef0 6 b__law_wrap
theorem nx__law_wrap : ∀ ds y, m__law_wrap ds ≠ .exc y := fun _ _ => noX_ne
def b__law_listed : MS :=
  (mSeq (mSet 2 (ofN (bC (.str (lit "heading")))))
  (mSeq (mIf (tst (ofN (bin fEq (bin fIx (bVar 1) (bC (.int 1))) (bC (.str (lit "index"))))))
  (mSet 2 (ofN (bin fAdd (bC (.str (lit "!"))) (bin fIx (bVar 1) (bC (.int 3))))))
  mNil)
  (mRet (frz (eComp (wR (acons (ofN (cal fLen (aCons (bVar 0) aNil))) anil)) (gN 3) (tst (ofN (bin fEq (bin fIx (bin fIx (bVar 0) (bVar 3)) (bC (.int 1))) (bVar 2)))) (own (bVar 3)) (([("k", 3)] : List (PySem.Str × Nat)).map (·.2)))))))
def m__law_listed : MD := mDef0 2 b__law_listed
theorem nx__law_listed : ∀ ds y, m__law_listed ds ≠ .exc y := fun _ _ => noX_ne
def b__law_gap : MS :=
  (mRet (ofN (cal fInt (aCons (orB (bin fNe (bin fIx (bVar 0) (bC (.int 1))) (bin fIx (bVar 1) (bC (.int 1)))) (andB (bin fNe (bin fIx (bVar 0) (bC (.int 1))) (bC (.str (lit "item")))) (bin fNe (bin fIx (bVar 0) (bC (.int 1))) (bC (.str (lit "point")))))) aNil))))
def m__law_gap : MD := mDef0 0 b__law_gap
theorem nx__law_gap : ∀ ds y, m__law_gap ds ≠ .exc y := fun _ _ => noX_ne
def b__law_sheets : MS :=
  (mSeq (mSet 4 (ofN (dLst aNil)))
  (mSeq (mFor (wR (acons (ofN (cal fLen (aCons (bVar 0) aNil))) anil)) (gN 5)
  (mSeq (mAsg (gT [6, 7]) (own (bin fIx (bVar 1) (bVar 5))))
  (mSeq (mSet 8 (own (bin fIx (bVar 2) (bVar 5))))
  (mFor (wR (acons (ofN (cal fLen (aCons (bVar 8) aNil))) anil)) (gN 9)
  (mSeq (mSet 10 (ofN (bin fAdd (bVar 7) (bVar 9))))
  (mSeq (mSet 11 (ofN (bin fAdd (bin fSub (bVar 6) (bC (.int 1))) (bin fDiv (bVar 10) (bVar 3)))))
  (mSeq (mFor (wR (acons (ofN (bin fSub (bin fAdd (bVar 11) (bC (.int 1))) (cal fLen (aCons (bVar 4) aNil)))) anil)) (gN 12)
  (mExpr (eMut 4 fAppend (acons (ofN (dLst aNil)) anil))))
  (mBor 4 13 (pIx 4 pNil (bVar 11))
  (mSeq (mIf (tst (ofN (bin fLt (cal fLen (aCons (bVar 13) aNil)) (bin fSub (bVar 10) (bin fMul (bin fDiv (bVar 10) (bVar 3)) (bVar 3))))))
  (mExpr (eMut 13 fAppend (acons (ofN (bC (.str (lit "")))) anil)))
  mNil)
  (mExpr (eMut 13 fAppend (acons (own (bin fIx (bVar 8) (bVar 9))) anil))))))))))))
  (mLock 4 (mRet (calE fTuple (acons (eComp (wV (own (bVar 4))) (gN 11) tY (ofN (cal fTuple (aCons (bVar 11) aNil))) (([("sheet", 11)] : List (PySem.Str × Nat)).map (·.2))) anil))))))
def m__law_sheets : MD := mDef0 10 b__law_sheets
theorem nx__law_sheets : ∀ ds y, m__law_sheets ds ≠ .exc y := fun _ _ => noX_ne
def b_listing_texts : MS :=
  (mRet (calE fTuple (acons (eComp (wV (own (bVar 0))) (gT [2, 3]) tY (ofN (cN m_wrap (aCons (bin fAdd (bin fAdd (bVar 2) (bC (.str (lit " ")))) (bVar 3)) (aCons (bVar 1) (aCons (bC (.str (lit "  "))) (aCons (bC (.str (lit "    "))) aNil)))))) (([("number", 2), ("shown", 3)] : List (PySem.Str × Nat)).map (·.2))) anil)))
def m_listing_texts : MD := mDef0 2 b_listing_texts
theorem nx_listing_texts : ∀ ds y, m_listing_texts ds ≠ .exc y := fun _ _ => noX_ne
def b_is_listing : MS :=
  (mRet (ofN (andB (notB (cN m_is_fault (aCons (bVar 0) aNil))) (orB (bin fEq (bin fIx (bVar 0) (bC (.int 1))) (bC (.str (lit "contents")))) (bin fEq (bin fIx (bVar 0) (bC (.int 1))) (bC (.str (lit "index"))))))))
def m_is_listing : MD := mDef0 0 b_is_listing
theorem nx_is_listing : ∀ ds y, m_is_listing ds ≠ .exc y := fun _ _ => noX_ne
def b_para_kind : MS :=
  (mSeq (mIf (tst (ofN (cN m_is_fault (aCons (bVar 0) aNil))))
  (mRet (ofN (bC c_FAULT_KIND)))
  mNil)
  (mRet (own (bin fIx (bVar 0) (bC (.int 1))))))
def m_para_kind : MD := mDef0 0 b_para_kind
theorem nx_para_kind : ∀ ds y, m_para_kind ds ≠ .exc y := fun _ _ => noX_ne
def b_check_width : MS :=
  (mIf (notT (tst (ofN (cN m_is_count (aCons (bVar 0) (aCons (bC c_WIDTH_LEAST) (aCons (bC c_WIDTH_MOST) aNil)))))))
  (mRaise "BadValue")
  mNil)
def m_check_width : MD := mDef 0 b_check_width
def b_needed_lines : MS :=
  (mSeq (mSet 2 (ofN (bin fAdd (cN m_gap_size (aCons (bin fIx (bVar 0) (bin fSub (bVar 1) (bC (.int 1)))) (aCons (bin fIx (bVar 0) (bVar 1)) aNil))) (cal fLen (aCons (bin fIx (bin fIx (bVar 0) (bVar 1)) (bC (.int 2))) aNil)))))
  (mSeq (mIf (andT (tst (ofN (bin fEq (bin fIx (bin fIx (bVar 0) (bVar 1)) (bC (.int 1))) (bC (.str (lit "heading")))))) (tst (ofN (bin fLt (bin fAdd (bVar 1) (bC (.int 1))) (cal fLen (aCons (bVar 0) aNil))))))
  (mAug 2 fAug (ofN (bin fAdd (cN m_gap_size (aCons (bin fIx (bVar 0) (bVar 1)) (aCons (bin fIx (bVar 0) (bin fAdd (bVar 1) (bC (.int 1)))) aNil))) (bC (.int 1)))))
  mNil)
  (mRet (own (bVar 2)))))
def m_needed_lines : MD := mDef0 1 b_needed_lines
theorem nx_needed_lines : ∀ ds y, m_needed_lines ds ≠ .exc y := fun _ _ => noX_ne
def b_listed_numbers : MS :=
  (mSeq (mSet 2 (ofN (bC (.str (lit "heading")))))
  (mSeq (mIf (tst (ofN (bin fEq (bin fIx (bVar 1) (bC (.int 1))) (bC (.str (lit "index"))))))
  (mSet 2 (ofN (bin fAdd (bC (.str (lit "!"))) (bin fIx (bVar 1) (bC (.int 3))))))
  mNil)
  (mRet (eComp (wR (acons (ofN (cal fLen (aCons (bVar 0) aNil))) anil)) (gN 3) (andT (notT (tst (ofN (cN m_is_fault (aCons (bin fIx (bVar 0) (bVar 3)) aNil))))) (tst (ofN (bin fEq (bin fIx (bin fIx (bVar 0) (bVar 3)) (bC (.int 1))) (bVar 2))))) (ofN (bin fAdd (bVar 3) (bC (.int 1)))) (([("at", 3)] : List (PySem.Str × Nat)).map (·.2))))))
def m_listed_numbers : MD := mDef0 2 b_listed_numbers
theorem nx_listed_numbers : ∀ ds y, m_listed_numbers ds ≠ .exc y := fun _ _ => noX_ne
def b_with_page : MS :=
  (mSeq (mSet 3 (ofN (bin fAdd (bin fAdd (bin fIx (bVar 0) (bC (.int 0))) (bin fMul (bC (.str (lit "."))) (bin fSub (bin fSub (bVar 2) (bC c_PAGE_COLUMNS)) (cal fLen (aCons (bin fIx (bVar 0) (bC (.int 0))) aNil))))) (cN m_pad_left (aCons (cal fStr (aCons (bVar 1) aNil)) (aCons (bC c_PAGE_COLUMNS) aNil))))))
  (mRet (ofN (bin fAdd (dTup (aCons (bVar 3) aNil)) (cut (bVar 0) (some (bC (.int 1))) none)))))
def m_with_page : MD := mDef0 1 b_with_page
theorem nx_with_page : ∀ ds y, m_with_page ds ≠ .exc y := fun _ _ => noX_ne
def b__law_words : MS :=
  (mSeq (mSet 2 (ofN (bC (.str (lit "")))))
  (mSeq (mFor (wR (acons (eIO [0] m__law_take (acons (own (bVar 1)) anil)) anil)) (gN 3)
  (mSeq (mSet 4 (binE fAdd (ofN (bC (.int 1))) (eIO [0] m__law_take (acons (ofN (bC (.int 7))) anil))))
  (mSeq (mIf (tst (binE fEq (eIO [0] m__law_take (acons (ofN (bC (.int 9))) anil)) (ofN (bC (.int 0)))))
  (mSet 4 (binE fAdd (ofN (bC (.int 1))) (eIO [0] m__law_take (acons (ofN (bC (.int 40))) anil))))
  mNil)
  (mSet 2 (binE fAdd (binV fAdd 2 (binE fMul (binE (immF fIx) (ofN (bC (.str (lit "abcdefgh")))) (eIO [0] m__law_take (acons (ofN (bC (.int 8))) anil))) (own (bVar 4)))) (binE fMul (ofN (bC (.str (lit " ")))) (binE fAdd (ofN (bC (.int 1))) (binE fDiv (eIO [0] m__law_take (acons (ofN (bC (.int 5))) anil)) (ofN (bC (.int 4)))))))))))
  (mRet (own (bVar 2)))))
def m__law_words : MI := mDefI0 3 (fun i => i == 0) b__law_words
theorem nx__law_words : ∀ ds y os, m__law_words ds ≠ .exc y os := fun _ _ _ => noI_ne
def b__law_texts : MS :=
  (mRet (frz (eComp (wV (own (bin fIx (bVar 0) (bC (.int 4))))) (gT [2, 3]) tY (ofN (cN m__law_wrap (aCons (bin fAdd (bin fAdd (bVar 2) (bC (.str (lit " ")))) (bVar 3)) (aCons (bin fSub (bVar 1) (bC (.int 5))) (aCons (bC (.str (lit "  "))) (aCons (bC (.str (lit "    "))) aNil)))))) (([("number", 2), ("shown", 3)] : List (PySem.Str × Nat)).map (·.2)))))
def m__law_texts : MD := mDef0 2 b__law_texts
theorem nx__law_texts : ∀ ds y, m__law_texts ds ≠ .exc y := fun _ _ => noX_ne
def b__law_put : MS :=
  (mSeq (mSet 2 (ofN (dLst aNil)))
  (mSeq (mSet 3 (ofN (bC (.int 1))))
  (mSeq (mSet 4 (ofN (bC (.int 0))))
  (mSeq (mFor (wR (acons (ofN (cal fLen (aCons (bVar 0) aNil))) anil)) (gN 5)
  (mSeq (mSet 6 (ofN (cal fLen (aCons (bin fIx (bin fIx (bVar 0) (bVar 5)) (bC (.int 2))) aNil))))
  (mSeq (mSet 7 (own (bVar 6)))
  (mSeq (mSet 8 (ofN (bC (.int 0))))
  (mSeq (mIf (tst (ofN (bin fGt (bVar 5) (bC (.int 0)))))
  (mSeq (mSet 8 (ofN (cN m__law_gap (aCons (bin fIx (bVar 0) (bin fSub (bVar 5) (bC (.int 1)))) (aCons (bin fIx (bVar 0) (bVar 5)) aNil)))))
  (mSeq (mSet 7 (ofN (bin fAdd (bVar 8) (bVar 6))))
  (mSeq (mIf (andT (tst (ofN (bin fEq (bin fIx (bin fIx (bVar 0) (bVar 5)) (bC (.int 1))) (bC (.str (lit "heading")))))) (tst (ofN (bin fLt (bin fAdd (bVar 5) (bC (.int 1))) (cal fLen (aCons (bVar 0) aNil))))))
  (mSet 7 (ofN (bin fAdd (bin fAdd (bVar 7) (cN m__law_gap (aCons (bin fIx (bVar 0) (bVar 5)) (aCons (bin fIx (bVar 0) (bin fAdd (bVar 5) (bC (.int 1)))) aNil)))) (bC (.int 1)))))
  mNil)
  (mIf (orT (tst (ofN (bin fGt (bVar 6) (bVar 1)))) (tst (ofN (bin fGt (bin fAdd (bVar 4) (bVar 7)) (bVar 1)))))
  (mSeq (mSet 3 (ofN (bin fAdd (bVar 3) (bC (.int 1)))))
  (mSeq (mSet 4 (ofN (bC (.int 0))))
  (mSet 8 (ofN (bC (.int 0))))))
  mNil))))
  mNil)
  (mSeq (mExpr (eMut 2 fAppend (acons (ofN (dTup (aCons (bVar 3) (aCons (bin fAdd (bVar 4) (bVar 8)) aNil)))) anil)))
  (mSeq (mSet 4 (ofN (bin fAdd (bin fAdd (bVar 4) (bVar 8)) (bVar 6))))
  (mFor (wR (acons (own (bVar 6)) anil)) (gN 9)
  (mIf (tst (ofN (bin fGt (bVar 4) (bVar 1))))
  (mSeq (mSet 4 (ofN (bin fSub (bVar 4) (bVar 1))))
  (mSet 3 (ofN (bin fAdd (bVar 3) (bC (.int 1))))))
  mNil)))))))))
  (mRet (frz (eMv 2)))))))
def m__law_put : MD := mDef0 8 b__law_put
theorem nx__law_put : ∀ ds y, m__law_put ds ≠ .exc y := fun _ _ => noX_ne
def b_para_lines : MS :=
  (mSeq (mIf (tst (ofN (cN m_is_fault (aCons (bVar 0) aNil))))
  (mRet (ofN (cN m_wrap (aCons (cN m_show_value (aCons (bVar 0) aNil)) (aCons (bVar 1) (aCons (bC (.str (lit ""))) (aCons (bC (.str (lit ""))) aNil)))))))
  mNil)
  (mSeq (mAsg (gT [3, 4, 3, 5, 6]) (own (bVar 0)))
  (mSeq (mIf (tst (ofN (cN m_is_listing (aCons (bVar 0) aNil))))
  (mRet (ofN (cN m_joined_lines (aCons (cN m_listing_texts (aCons (bVar 6) (aCons (bVar 2) aNil))) aNil))))
  mNil)
  (mSeq (mIf (tst (ofN (bin fEq (bVar 4) (bC (.str (lit "heading"))))))
  (mRet (ofN (cN m_wrap (aCons (bin fAdd (bin fAdd (bVar 5) (bC (.str (lit " ")))) (bVar 6)) (aCons (bVar 1) (aCons (bC (.str (lit ""))) (aCons (bC (.str (lit ""))) aNil)))))))
  mNil)
  (mSeq (mIf (tst (ofN (bin fEq (bVar 4) (bC (.str (lit "item"))))))
  (mRet (ofN (cN m_wrap (aCons (bVar 6) (aCons (bVar 1) (aCons (bC (.str (lit "* "))) (aCons (bC (.str (lit "  "))) aNil)))))))
  mNil)
  (mSeq (mIf (tst (ofN (bin fEq (bVar 4) (bC (.str (lit "point"))))))
  (mRet (ofN (cN m_wrap (aCons (bVar 6) (aCons (bVar 1) (aCons (bin fAdd (bVar 5) (bC (.str (lit ". ")))) (aCons (bC (.str (lit "   "))) aNil)))))))
  mNil)
  (mSeq (mIf (tst (ofN (smB fStartswith (bVar 4) (bC (.str (lit "!"))))))
  (mRet (ofN (cN m_wrap (aCons (bin fAdd (bin fAdd (bin fAdd (bin fAdd (cut (bVar 4) (some (bC (.int 1))) none) (bC (.str (lit " ")))) (bVar 5)) (bC (.str (lit ": ")))) (bVar 6)) (aCons (bVar 1) (aCons (bC (.str (lit ""))) (aCons (bC (.str (lit ""))) aNil)))))))
  mNil)
  (mRet (ofN (cN m_wrap (aCons (bVar 6) (aCons (bVar 1) (aCons (bC (.str (lit ""))) (aCons (bC (.str (lit ""))) aNil))))))))))))))
def m_para_lines : MD := mDef0 4 b_para_lines
theorem nx_para_lines : ∀ ds y, m_para_lines ds ≠ .exc y := fun _ _ => noX_ne
def b_check_size : MS :=
  (mSeq (mExpr (ofN (cN m_check_width (aCons (bVar 0) aNil))))
  (mIf (notT (tst (ofN (cN m_is_count (aCons (bVar 1) (aCons (bC c_HEIGHT_LEAST) (aCons (bC c_HEIGHT_MOST) aNil)))))))
  (mRaise "BadValue")
  mNil))
def m_check_size : MD := mDef 0 b_check_size
def b_block_starts : MS :=
  (mSeq (mSet 2 (ofN (dLst aNil)))
  (mSeq (mSet 3 (ofN (bC (.int 1))))
  (mSeq (mSet 4 (ofN (bC (.int 0))))
  (mSeq (mFor (wR (acons (ofN (cal fLen (aCons (bVar 0) aNil))) anil)) (gN 5)
  (mSeq (mSet 6 (ofN (cal fLen (aCons (bin fIx (bin fIx (bVar 0) (bVar 5)) (bC (.int 2))) aNil))))
  (mSeq (mSet 7 (ofN (bC (.int 0))))
  (mSeq (mIf (tst (ofN (bin fGt (bVar 5) (bC (.int 0)))))
  (mIf (andT (tst (ofN (bin fLe (bVar 6) (bVar 1)))) (tst (ofN (bin fLe (bin fAdd (bVar 4) (cN m_needed_lines (aCons (bVar 0) (aCons (bVar 5) aNil)))) (bVar 1)))))
  (mSet 7 (ofN (bin fAdd (bVar 4) (cN m_gap_size (aCons (bin fIx (bVar 0) (bin fSub (bVar 5) (bC (.int 1)))) (aCons (bin fIx (bVar 0) (bVar 5)) aNil))))))
  (mAug 3 fAug (ofN (bC (.int 1)))))
  mNil)
  (mSeq (mExpr (eMut 2 fAppend (acons (ofN (dTup (aCons (bVar 3) (aCons (bVar 7) aNil)))) anil)))
  (mSeq (mAsg (gT [8, 9]) (ofN (cal fDivmod (aCons (bin fSub (bin fAdd (bVar 7) (bVar 6)) (bC (.int 1))) (aCons (bVar 1) aNil)))))
  (mSeq (mAug 3 fAug (own (bVar 8)))
  (mSet 4 (ofN (bin fAdd (bVar 9) (bC (.int 1))))))))))))
  (mRet (ofN (cal fTuple (aCons (bVar 2) aNil))))))))
def m_block_starts : MD := mDef0 8 b_block_starts
theorem nx_block_starts : ∀ ds y, m_block_starts ds ≠ .exc y := fun _ _ => noX_ne
def b_printed_listing : MS :=
  (mSeq (mSet 4 (ofN (cN m_listing_texts (aCons (bin fIx (bVar 1) (bC (.int 4))) (aCons (bin fSub (bVar 2) (bC c_LISTING_MARGIN)) aNil)))))
  (mSeq (mSet 5 (ofN (cN m_listed_numbers (aCons (bVar 0) (aCons (bVar 1) aNil)))))
  (mRet (cE m_joined_lines (acons (frz (eComp (wR (acons (ofN (cal fLen (aCons (bVar 4) aNil))) anil)) (gN 6) tY (ofN (cN m_with_page (aCons (bin fIx (bVar 4) (bVar 6)) (aCons (bin fDGet (bVar 3) (bin fIx (bVar 5) (bVar 6))) (aCons (bVar 2) aNil))))) (([("at", 6)] : List (PySem.Str × Nat)).map (·.2)))) anil)))))
def m_printed_listing : MD := mDef0 3 b_printed_listing
theorem nx_printed_listing : ∀ ds y, m_printed_listing ds ≠ .exc y := fun _ _ => noX_ne
def b__law_view : MS :=
  (mSeq (mSet 1 (ofN (dLst aNil)))
  (mSeq (mSet 2 (binE (immF fIx) (ofN (dLst (aCons (bC (.int 4)) (aCons (bC (.int 12)) (aCons (bC (.int 40)) aNil))))) (eIO [0] m__law_take (acons (ofN (bC (.int 3))) anil))))
  (mSeq (mFor (wR (acons (eIO [0] m__law_take (acons (ofN (bC (.int 15))) anil)) anil)) (gN 3)
  (mSeq (mSet 4 (eIO [0] m__law_take (acons (ofN (bC (.int 11))) anil)))
  (mSeq (mSet 5 (eIO [0] m__law_words (acons (own (bVar 2)) anil)))
  (mSeq (mSet 6 (binE (immF fIx) (ofN (dLst (aCons (bC (.str (lit "1"))) (aCons (bC (.str (lit "2.1"))) (aCons (bC (.str (lit "0.3.1"))) (aCons (bC (.str (lit "12"))) aNil)))))) (eIO [0] m__law_take (acons (ofN (bC (.int 4))) anil))))
  (mIf (tst (ofN (bin fLt (bVar 4) (bC (.int 3)))))
  (mExpr (eMut 1 fAppend (acons (dTupE (acons (ofN (bC (.str (lit "para")))) (acons (ofN (bC (.str (lit "heading")))) (acons (binE fAdd (ofN (bC (.int 1))) (eIO [0] m__law_take (acons (ofN (bC (.int 3))) anil))) (acons (own (bVar 6)) (acons (own (bVar 5)) anil)))))) anil)))
  (mIf (tst (ofN (bin fEq (bVar 4) (bC (.int 3)))))
  (mExpr (eMut 1 fAppend (acons (dTupE (acons (ofN (bC (.str (lit "para")))) (acons (binE (immF fIx) (ofN (dLst (aCons (bC (.str (lit "!figure"))) (aCons (bC (.str (lit "!item"))) aNil)))) (eIO [0] m__law_take (acons (ofN (bC (.int 2))) anil))) (acons (ofN (bC (.int 0))) (acons (own (bVar 6)) (acons (own (bVar 5)) anil)))))) anil)))
  (mIf (tst (ofN (bin fEq (bVar 4) (bC (.int 4)))))
  (mExpr (eMut 1 fAppend (acons (ofN (dTup (aCons (bC (.str (lit "para"))) (aCons (bC (.str (lit "item"))) (aCons (bC (.int 0)) (aCons (bC (.str (lit ""))) (aCons (bVar 5) aNil))))))) anil)))
  (mIf (tst (ofN (bin fEq (bVar 4) (bC (.int 5)))))
  (mExpr (eMut 1 fAppend (acons (dTupE (acons (ofN (bC (.str (lit "para")))) (acons (ofN (bC (.str (lit "point")))) (acons (ofN (bC (.int 0))) (acons (calE fStr (acons (binE fAdd (ofN (bC (.int 1))) (eIO [0] m__law_take (acons (ofN (bC (.int 20))) anil))) anil)) (acons (own (bVar 5)) anil)))))) anil)))
  (mIf (tst (ofN (bin fEq (bVar 4) (bC (.int 6)))))
  (mExpr (eMut 1 fAppend (acons (ofN (dTup (aCons (bC (.str (lit "para"))) (aCons (bC (.str (lit "contents"))) (aCons (bC (.int 0)) (aCons (bC (.str (lit ""))) (aCons (dTup aNil) aNil))))))) anil)))
  (mIf (tst (ofN (bin fEq (bVar 4) (bC (.int 7)))))
  (mExpr (eMut 1 fAppend (acons (dTupE (acons (ofN (bC (.str (lit "para")))) (acons (ofN (bC (.str (lit "index")))) (acons (ofN (bC (.int 0))) (acons (binE (immF fIx) (ofN (dLst (aCons (bC (.str (lit "figure"))) (aCons (bC (.str (lit "item"))) aNil)))) (eIO [0] m__law_take (acons (ofN (bC (.int 2))) anil))) (acons (ofN (dTup aNil)) anil)))))) anil)))
  (mIf (tst (ofN (bin fEq (bVar 4) (bC (.int 8)))))
  (mExpr (eMut 1 fAppend (acons (ofN (dTup (aCons (bC (.str (lit "fault"))) (aCons (bC (.str (lit "ring"))) (aCons (bC (.str (lit "para a 1 > para a 2"))) aNil))))) anil)))
  (mExpr (eMut 1 fAppend (acons (dTupE (acons (ofN (bC (.str (lit "para")))) (acons (binE (immF fIx) (ofN (dLst (aCons (bC (.str (lit "para"))) (aCons (bC (.str (lit "lost"))) aNil)))) (eIO [0] m__law_take (acons (ofN (bC (.int 2))) anil))) (acons (ofN (bC (.int 0))) (acons (ofN (bC (.str (lit "")))) (acons (own (bVar 5)) anil)))))) anil))))))))))))))
  (mSeq (mSet 7 (ofN (dLst aNil)))
  (mSeq (mLock 1 (mForV 1 (gN 8)
  (mIf (orT (tst (ofN (bin fEq (bin fIx (bVar 8) (bC (.int 1))) (bC (.str (lit "contents")))))) (tst (ofN (bin fEq (bin fIx (bVar 8) (bC (.int 1))) (bC (.str (lit "index")))))))
  (mSeq (mSet 9 (calE fTuple (acons (eComp (wV (ofN (cN m__law_listed (aCons (bVar 1) (aCons (bVar 8) aNil))))) (gN 3) tY (ofN (dTup (aCons (bin fIx (bin fIx (bVar 1) (bVar 3)) (bC (.int 3))) (aCons (bin fIx (bin fIx (bVar 1) (bVar 3)) (bC (.int 4))) aNil)))) (([("k", 3)] : List (PySem.Str × Nat)).map (·.2))) anil)))
  (mExpr (eMut 7 fAppend (acons (ofN (bin fAdd (cut (bVar 8) none (some (bC (.int 4)))) (dTup (aCons (bVar 9) aNil)))) anil))))
  (mExpr (eMut 7 fAppend (acons (own (bVar 8)) anil))))))
  (mRet (frz (eMv 7))))))))
def m__law_view : MI := mDefI0 9 (fun i => i == 0) b__law_view
theorem nx__law_view : ∀ ds y os, m__law_view ds ≠ .exc y os := fun _ _ _ => noI_ne
def b__law_lines : MS :=
  (mSeq (mIf (tst (ofN (bin fEq (bin fIx (bVar 0) (bC (.int 0))) (bC (.str (lit "fault"))))))
  (mRet (ofN (cN m__law_wrap (aCons (bin fAdd (bin fAdd (bin fAdd (bin fAdd (bC (.str (lit "["))) (bin fIx (bVar 0) (bC (.int 1)))) (bC (.str (lit " ")))) (bin fIx (bVar 0) (bC (.int 2)))) (bC (.str (lit "]")))) (aCons (bVar 1) (aCons (bC (.str (lit ""))) (aCons (bC (.str (lit ""))) aNil)))))))
  mNil)
  (mSeq (mSet 2 (own (bin fIx (bVar 0) (bC (.int 1)))))
  (mSeq (mSet 3 (ofN (dLst aNil)))
  (mSeq (mIf (orT (tst (ofN (bin fEq (bVar 2) (bC (.str (lit "contents")))))) (tst (ofN (bin fEq (bVar 2) (bC (.str (lit "index")))))))
  (mSeq (mFor (wV (ofN (cN m__law_texts (aCons (bVar 0) (aCons (bVar 1) aNil))))) (gN 4)
  (mSet 3 (ofN (bin fAdd (bVar 3) (bVar 4)))))
  (mRet (frz (eMv 3))))
  mNil)
  (mSeq (mIf (tst (ofN (bin fEq (bVar 2) (bC (.str (lit "heading"))))))
  (mRet (ofN (cN m__law_wrap (aCons (bin fAdd (bin fAdd (bin fIx (bVar 0) (bC (.int 3))) (bC (.str (lit " ")))) (bin fIx (bVar 0) (bC (.int 4)))) (aCons (bVar 1) (aCons (bC (.str (lit ""))) (aCons (bC (.str (lit ""))) aNil)))))))
  mNil)
  (mSeq (mIf (tst (ofN (bin fEq (bVar 2) (bC (.str (lit "item"))))))
  (mRet (ofN (cN m__law_wrap (aCons (bin fIx (bVar 0) (bC (.int 4))) (aCons (bVar 1) (aCons (bC (.str (lit "* "))) (aCons (bC (.str (lit "  "))) aNil)))))))
  mNil)
  (mSeq (mIf (tst (ofN (bin fEq (bVar 2) (bC (.str (lit "point"))))))
  (mRet (ofN (cN m__law_wrap (aCons (bin fIx (bVar 0) (bC (.int 4))) (aCons (bVar 1) (aCons (bin fAdd (bin fIx (bVar 0) (bC (.int 3))) (bC (.str (lit ". ")))) (aCons (bC (.str (lit "   "))) aNil)))))))
  mNil)
  (mSeq (mIf (orT (tst (ofN (bin fEq (bVar 2) (bC (.str (lit "para")))))) (tst (ofN (bin fEq (bVar 2) (bC (.str (lit "lost")))))))
  (mRet (ofN (cN m__law_wrap (aCons (bin fIx (bVar 0) (bC (.int 4))) (aCons (bVar 1) (aCons (bC (.str (lit ""))) (aCons (bC (.str (lit ""))) aNil)))))))
  mNil)
  (mRet (ofN (cN m__law_wrap (aCons (bin fAdd (bin fAdd (bin fAdd (bin fAdd (cut (bVar 2) (some (bC (.int 1))) none) (bC (.str (lit " ")))) (bin fIx (bVar 0) (bC (.int 3)))) (bC (.str (lit ": ")))) (bin fIx (bVar 0) (bC (.int 4)))) (aCons (bVar 1) (aCons (bC (.str (lit ""))) (aCons (bC (.str (lit ""))) aNil)))))))))))))))
def m__law_lines : MD := mDef0 3 b__law_lines
theorem nx__law_lines : ∀ ds y, m__law_lines ds ≠ .exc y := fun _ _ => noX_ne
def b__law_dotted : MS :=
  (mSeq (mSet 4 (ofN (dLst aNil)))
  (mSeq (mSet 5 (ofN (cN m__law_listed (aCons (bVar 0) (aCons (bVar 1) aNil)))))
  (mSeq (mSet 6 (ofN (cN m__law_texts (aCons (bVar 1) (aCons (bVar 3) aNil)))))
  (mSeq (mFor (wR (acons (ofN (cal fLen (aCons (bVar 6) aNil))) anil)) (gN 7)
  (mSeq (mSet 8 (ofN (bC (.str (lit "")))))
  (mSeq (mForV 2 (gT [9, 10])
  (mIf (tst (ofN (bin fEq (bVar 9) (bin fAdd (bin fIx (bVar 5) (bVar 7)) (bC (.int 1))))))
  (mSet 8 (ofN (cal fStr (aCons (bVar 10) aNil))))
  mNil))
  (mSeq (mSet 11 (own (bin fIx (bin fIx (bVar 6) (bVar 7)) (bC (.int 0)))))
  (mSeq (mSet 11 (ofN (bin fAdd (bin fAdd (bin fAdd (bVar 11) (bin fMul (bC (.str (lit "."))) (bin fSub (bin fSub (bVar 3) (bC (.int 4))) (cal fLen (aCons (bVar 11) aNil))))) (bin fMul (bC (.str (lit " "))) (bin fSub (bC (.int 4)) (cal fLen (aCons (bVar 8) aNil))))) (bVar 8))))
  (mSet 4 (ofN (bin fAdd (bin fAdd (bVar 4) (dLst (aCons (bVar 11) aNil))) (cut (bin fIx (bVar 6) (bVar 7)) (some (bC (.int 1))) none)))))))))
  (mRet (frz (eMv 4)))))))
def m__law_dotted : MD := mDef0 8 b__law_dotted
theorem nx__law_dotted : ∀ ds y, m__law_dotted ds ≠ .exc y := fun _ _ => noX_ne
def b_view_blocks : MS :=
  (mSeq (mIf (tst (ofN (cN m_is_fault (aCons (bVar 0) aNil))))
  (mRet (ofN (dTup (aCons (dTup (aCons (bC (.int 0)) (aCons (bC c_FAULT_KIND) (aCons (dTup (aCons (cN m_show_value (aCons (bVar 0) aNil)) aNil)) aNil)))) aNil))))
  mNil)
  (mSeq (mAsg (gT [3, 4, 5]) (own (bVar 0)))
  (mSeq (mSet 6 (ofN (dLst aNil)))
  (mSeq (mFor (wR (acons (ofN (cal fLen (aCons (bVar 4) aNil))) anil)) (gN 7)
  (mSeq (mSet 8 (ofN (cN m_para_lines (aCons (bin fIx (bVar 4) (bVar 7)) (aCons (bVar 1) (aCons (bVar 2) aNil))))))
  (mIf (tst (ofN (bin fGt (cal fLen (aCons (bVar 8) aNil)) (bC (.int 0)))))
  (mExpr (eMut 6 fAppend (acons (ofN (dTup (aCons (bin fAdd (bVar 7) (bC (.int 1))) (aCons (cN m_para_kind (aCons (bin fIx (bVar 4) (bVar 7)) aNil)) (aCons (bVar 8) aNil))))) anil)))
  mNil)))
  (mSeq (mIf (tst (ofN (bin fGt (cal fLen (aCons (bVar 5) aNil)) (bC (.int 0)))))
  (mExpr (eMut 6 fAppend (acons (dTupE (acons (ofN (bC (.int 0))) (acons (ofN (bC c_FAULT_KIND)) (acons (calE fTuple (acons (eComp (wV (own (bVar 5))) (gN 9) tY (ofN (cN m_fault_line (aCons (bVar 9) aNil))) (([("fault", 9)] : List (PySem.Str × Nat)).map (·.2))) anil)) anil)))) anil)))
  mNil)
  (mRet (ofN (cal fTuple (aCons (bVar 6) aNil)))))))))
def m_view_blocks : MD := mDef0 7 b_view_blocks
theorem nx_view_blocks : ∀ ds y, m_view_blocks ds ≠ .exc y := fun _ _ => noX_ne
def b_printed_lines : MS :=
  (mSeq (mAsg (gT [4, 5, 6]) (own (bVar 1)))
  (mSeq (mIf (orT (tst (ofN (bin fEq (bVar 4) (bC (.int 0))))) (notT (tst (ofN (cN m_is_listing (aCons (bin fIx (bin fIx (bVar 0) (bC (.int 1))) (bin fSub (bVar 4) (bC (.int 1)))) aNil))))))
  (mRet (own (bVar 6)))
  mNil)
  (mRet (ofN (cN m_printed_listing (aCons (bin fIx (bVar 0) (bC (.int 1))) (aCons (bin fIx (bin fIx (bVar 0) (bC (.int 1))) (bin fSub (bVar 4) (bC (.int 1)))) (aCons (bVar 2) (aCons (bVar 3) aNil)))))))))
def m_printed_lines : MD := mDef0 3 b_printed_lines
theorem nx_printed_lines : ∀ ds y, m_printed_lines ds ≠ .exc y := fun _ _ => noX_ne
def b__law_blocks : MS :=
  (mSeq (mSet 3 (ofN (dLst aNil)))
  (mSeq (mFor (wR (acons (ofN (cal fLen (aCons (bVar 0) aNil))) anil)) (gN 4)
  (mSeq (mSet 5 (ofN (cN m__law_lines (aCons (bin fIx (bVar 0) (bVar 4)) (aCons (bVar 2) aNil)))))
  (mSeq (mSet 6 (own (bin fIx (bin fIx (bVar 0) (bVar 4)) (bC (.int 1)))))
  (mSeq (mIf (tst (ofN (bin fEq (bin fIx (bin fIx (bVar 0) (bVar 4)) (bC (.int 0))) (bC (.str (lit "fault"))))))
  (mSet 6 (ofN (bC (.str (lit "-")))))
  mNil)
  (mIf (tst (ofN (bin fGt (cal fLen (aCons (bVar 5) aNil)) (bC (.int 0)))))
  (mExpr (eMut 3 fAppend (acons (ofN (dTup (aCons (bin fAdd (bVar 4) (bC (.int 1))) (aCons (bVar 6) (aCons (bVar 5) aNil))))) anil)))
  mNil)))))
  (mSeq (mIf (tst (ofN (bin fGt (cal fLen (aCons (bVar 1) aNil)) (bC (.int 0)))))
  (mExpr (eMut 3 fAppend (acons (dTupE (acons (ofN (bC (.int 0))) (acons (ofN (bC (.str (lit "-")))) (acons (frz (eComp (wV (own (bVar 1))) (gT [7, 8, 9]) tY (ofN (bin fAdd (bin fAdd (bin fAdd (bin fAdd (bin fAdd (bC (.str (lit "! "))) (bVar 7)) (bC (.str (lit " ")))) (bVar 8)) (bC (.str (lit " ")))) (cal fStr (aCons (bVar 9) aNil)))) (([("line_id", 7), ("word", 8), ("column", 9)] : List (PySem.Str × Nat)).map (·.2)))) anil)))) anil)))
  mNil)
  (mRet (frz (eMv 3))))))
def m__law_blocks : MD := mDef0 7 b__law_blocks
theorem nx__law_blocks : ∀ ds y, m__law_blocks ds ≠ .exc y := fun _ _ => noX_ne
def b_para_pages : MS :=
  (mSeq (mSet 3 (ofN (cN m_view_blocks (aCons (bVar 0) (aCons (bVar 1) (aCons (bin fSub (bVar 1) (bC c_LISTING_MARGIN)) aNil))))))
  (mSeq (mSet 4 (ofN (cN m_block_starts (aCons (bVar 3) (aCons (bVar 2) aNil)))))
  (mSeq (mSet 5 (ofN mNewD))
  (mSeq (mFor (wR (acons (ofN (cal fLen (aCons (bVar 3) aNil))) anil)) (gN 6)
  (mIf (tst (ofN (bin fGt (bin fIx (bin fIx (bVar 3) (bVar 6)) (bC (.int 0))) (bC (.int 0)))))
  (mDSet 5 (bin fIx (bin fIx (bVar 3) (bVar 6)) (bC (.int 0))) (own (bin fIx (bin fIx (bVar 4) (bVar 6)) (bC (.int 0)))))
  mNil))
  (mRet (frzD (eMv 5)))))))
def m_para_pages : MD := mDef0 4 b_para_pages
theorem nx_para_pages : ∀ ds y, m_para_pages ds ≠ .exc y := fun _ _ => noX_ne
def b_print_pages : MS :=
  (mSeq (mExpr (ofN (cN m_check_size (aCons (bVar 1) (aCons (bVar 2) aNil)))))
  (mSeq (mSet 3 (ofN (cN m_para_pages (aCons (bVar 0) (aCons (bVar 1) (aCons (bVar 2) aNil))))))
  (mSeq (mSet 4 (ofN (cN m_view_blocks (aCons (bVar 0) (aCons (bVar 1) (aCons (bin fSub (bVar 1) (bC c_LISTING_MARGIN)) aNil))))))
  (mSeq (mSet 5 (ofN (cN m_block_starts (aCons (bVar 4) (aCons (bVar 2) aNil)))))
  (mSeq (mSet 6 (ofN (dLst aNil)))
  (mSeq (mFor (wR (acons (ofN (cal fLen (aCons (bVar 4) aNil))) anil)) (gN 7)
  (mSeq (mAsg (gT [8, 9]) (own (bin fIx (bVar 5) (bVar 7))))
  (mExpr (eIO [6] m_put_lines (acons (own (bVar 8)) (acons (own (bVar 9)) (acons (ofN (cN m_printed_lines (aCons (bVar 0) (aCons (bin fIx (bVar 4) (bVar 7)) (aCons (bVar 1) (aCons (bVar 3) aNil)))))) (acons (own (bVar 2)) anil))))))))
  (mLock 6 (mRet (calE fTuple (acons (eComp (wV (own (bVar 6))) (gN 10) tY (ofN (cal fTuple (aCons (bVar 10) aNil))) (([("sheet", 10)] : List (PySem.Str × Nat)).map (·.2))) anil))))))))))
def m_print_pages : MD := mDef 8 b_print_pages
def b_page_numbers : MS :=
  (mSeq (mExpr (ofN (cN m_check_size (aCons (bVar 1) (aCons (bVar 2) aNil)))))
  (mSeq (mSet 3 (ofN (cN m_para_pages (aCons (bVar 0) (aCons (bVar 1) (aCons (bVar 2) aNil))))))
  (mRet (calE fTuple (acons (eComp (wK (bVar 3)) (gN 4) tY (ofN (dTup (aCons (bVar 4) (aCons (bin fDGet (bVar 3) (bVar 4)) aNil)))) (([("number", 4)] : List (PySem.Str × Nat)).map (·.2))) anil)))))
def m_page_numbers : MD := mDef 2 b_page_numbers
def b__law_refuses : MS :=
  (mSeq (mSet 3 (ofN (bC (.int 0))))
  (mSeq (mTryAs cat_BadValue 4 (mExpr (ofN (cN m_print_pages (aCons (bVar 0) (aCons (bVar 1) (aCons (bVar 2) aNil)))))) (fun y a => (mSet 3 (ofN (bin fAdd (bVar 3) (cal fInt (aCons (andB (isX 4 a (kit_LecternError y)) (notB (isX 4 a (kit_BadLine y)))) aNil)))))))
  (mSeq (mTryAs cat_BadValue 4 (mExpr (ofN (cN m_page_numbers (aCons (bVar 0) (aCons (bVar 1) (aCons (bVar 2) aNil)))))) (fun y a => (mSet 3 (ofN (bin fAdd (bVar 3) (cal fInt (aCons (andB (isX 4 a (kit_LecternError y)) (isX 4 a (kit_ValueError y))) aNil)))))))
  (mRet (ofN (bin fEq (bVar 3) (bC (.int 2))))))))
def m__law_refuses : MD := mDef0 2 b__law_refuses
theorem nx__law_refuses : ∀ ds y, m__law_refuses ds ≠ .exc y := fun _ _ => noX_ne
def b__law_same (rec_ : MD) : MS :=
  (mSeq (mIf (tst (ofN (cal fIsi (aCons (bVar 1) (aCons (bC (.raw (.ty "tuple"))) aNil)))))
  (mSeq (mIf (orT (notT (tst (ofN (cal fIsi (aCons (bVar 0) (aCons (bC (.raw (.ty "tuple"))) aNil)))))) (tst (ofN (bin fNe (cal fLen (aCons (bVar 0) aNil)) (cal fLen (aCons (bVar 1) aNil))))))
  (mRet (ofN (bC (.bl false))))
  mNil)
  (mSeq (mFor (wR (acons (ofN (cal fLen (aCons (bVar 1) aNil))) anil)) (gN 2)
  (mIf (notT (tst (ofN (cN (rec_) (aCons (bin fIx (bVar 0) (bVar 2)) (aCons (bin fIx (bVar 1) (bVar 2)) aNil))))))
  (mRet (ofN (bC (.bl false))))
  mNil))
  (mRet (ofN (bC (.bl true))))))
  mNil)
  (mSeq (mIf (tst (ofN (cal fIsi (aCons (bVar 1) (aCons (bC (.raw (.ty "bool"))) aNil)))))
  (mRet (ofN (andB (cal fIsi (aCons (bVar 0) (aCons (bC (.raw (.ty "bool"))) aNil))) (bin fEq (bVar 0) (bVar 1)))))
  mNil)
  (mSeq (mIf (tst (ofN (cal fIsi (aCons (bVar 1) (aCons (bC (.raw (.ty "int"))) aNil)))))
  (mRet (ofN (andB (cal fIsi (aCons (bVar 0) (aCons (bC (.raw (.ty "int"))) aNil))) (andB (notB (cal fIsi (aCons (bVar 0) (aCons (bC (.raw (.ty "bool"))) aNil)))) (bin fEq (bVar 0) (bVar 1))))))
  mNil)
  (mSeq (mIf (tst (ofN (cal fIsi (aCons (bVar 1) (aCons (bC (.raw (.ty "str"))) aNil)))))
  (mRet (ofN (andB (cal fIsi (aCons (bVar 0) (aCons (bC (.raw (.ty "str"))) aNil))) (bin fEq (bVar 0) (bVar 1)))))
  mNil)
  (mRet (ofN (andB (bin fIs (bVar 0) (bC .non)) (bin fIs (bVar 1) (bC .non)))))))))
def m__law_same : Nat → MD
  | 0 => fun _ => .bad
  | n + 1 => mDef0 1 (b__law_same (m__law_same n))
theorem nx__law_same : ∀ n ds y, m__law_same n ds ≠ .exc y
  | 0, _, _ => fun h => nomatch h
  | n + 1, _, _ => noX_ne
def b_law : MS :=
  (mSeq (mSet 1 (ofN (cN m__law_jar (aCons (bVar 0) aNil))))
  (mSeq (mSet 2 (eIO [1] m__law_view anil))
  (mSeq (mSet 3 (ofN (dLst aNil)))
  (mSeq (mFor (wR (acons (binE fMul (binE fDiv (eIO [1] m__law_take (acons (ofN (bC (.int 9))) anil)) (ofN (bC (.int 6)))) (eIO [1] m__law_take (acons (ofN (bC (.int 9))) anil))) anil)) (gN 4)
  (mExpr (eMut 3 fAppend (acons (ofN (dTup (aCons (bin fAdd (bC (.str (lit "zz."))) (cal fStr (aCons (bin fAdd (bVar 4) (bC (.int 1))) aNil))) (aCons (bC (.str (lit "double"))) (aCons (bVar 4) aNil))))) anil))))
  (mSeq (mSet 5 (ofN (dTup (aCons (bC (.str (lit "document"))) (aCons (cal fTuple (aCons (bVar 2) aNil)) (aCons (cal fTuple (aCons (bVar 3) aNil)) aNil))))))
  (mSeq (mSet 6 (binE (immF fIx) (dLstE (acons (ofN (bC (.int 20))) (acons (ofN (bC (.int 100))) (acons (binE fAdd (ofN (bC (.int 20))) (eIO [1] m__law_take (acons (ofN (bC (.int 20))) anil))) (acons (binE fAdd (ofN (bC (.int 20))) (eIO [1] m__law_take (acons (ofN (bC (.int 81))) anil))) anil))))) (eIO [1] m__law_take (acons (ofN (bC (.int 4))) anil))))
  (mSeq (mSet 7 (binE (immF fIx) (dLstE (acons (ofN (bC (.int 5))) (acons (ofN (bC (.int 6))) (acons (binE fAdd (ofN (bC (.int 5))) (eIO [1] m__law_take (acons (ofN (bC (.int 12))) anil))) (acons (binE fAdd (ofN (bC (.int 5))) (eIO [1] m__law_take (acons (ofN (bC (.int 96))) anil))) anil))))) (eIO [1] m__law_take (acons (ofN (bC (.int 4))) anil))))
  (mSeq (mLock 3 (mSet 8 (ofN (cN m__law_blocks (aCons (bVar 2) (aCons (bVar 3) (aCons (bVar 6) aNil)))))))
  (mSeq (mSet 9 (ofN (cN m__law_put (aCons (bVar 8) (aCons (bVar 7) aNil)))))
  (mSeq (mSet 10 (eComp (wR (acons (ofN (cal fLen (aCons (bVar 8) aNil))) anil)) (gN 4) (tst (ofN (bin fGt (bin fIx (bin fIx (bVar 8) (bVar 4)) (bC (.int 0))) (bC (.int 0))))) (ofN (dTup (aCons (bin fIx (bin fIx (bVar 8) (bVar 4)) (bC (.int 0))) (aCons (bin fIx (bin fIx (bVar 9) (bVar 4)) (bC (.int 0))) aNil)))) (([("k", 4)] : List (PySem.Str × Nat)).map (·.2))))
  (mSeq (mIf (notT (tst (ofN (cN (m__law_same 10) (aCons (cN m_page_numbers (aCons (bVar 5) (aCons (bVar 6) (aCons (bVar 7) aNil)))) (aCons (cal fTuple (aCons (bVar 10) aNil)) aNil))))))
  (mRet (ofN (bC (.bl false))))
  mNil)
  (mSeq (mSet 11 (ofN (dLst aNil)))
  (mSeq (mLock 10 (mForV 8 (gT [12, 13, 14])
  (mIf (andT (tst (ofN (bin fGt (bVar 12) (bC (.int 0))))) (orT (tst (ofN (bin fEq (bVar 13) (bC (.str (lit "contents")))))) (tst (ofN (bin fEq (bVar 13) (bC (.str (lit "index"))))))))
  (mExpr (eMut 11 fAppend (acons (ofN (cN m__law_dotted (aCons (bVar 2) (aCons (bin fIx (bVar 2) (bin fSub (bVar 12) (bC (.int 1)))) (aCons (bVar 10) (aCons (bVar 6) aNil)))))) anil)))
  (mExpr (eMut 11 fAppend (acons (own (bVar 14)) anil))))))
  (mSeq (mLock 11 (mIf (notT (tst (ofN (cN (m__law_same 10) (aCons (cN m_print_pages (aCons (bVar 5) (aCons (bVar 6) (aCons (bVar 7) aNil)))) (aCons (cN m__law_sheets (aCons (bVar 8) (aCons (bVar 9) (aCons (bVar 11) (aCons (bVar 7) aNil))))) aNil))))))
  (mRet (ofN (bC (.bl false))))
  mNil))
  (mSeq (mSet 15 (ofN (dTup (aCons (bC (.str (lit "fault"))) (aCons (bC (.str (lit "missing"))) (aCons (bin fAdd (bC (.str (lit "entries "))) (bin fMul (bC (.str (lit "abc"))) (bC (.int 9)))) aNil))))))
  (mSeq (mIf (notT (tst (ofN (cN (m__law_same 10) (aCons (cN m_print_pages (aCons (bVar 15) (aCons (bC (.int 20)) (aCons (bC (.int 5)) aNil)))) (aCons (dTup (aCons (dTup (aCons (bin fAdd (bin fAdd (bC (.str (lit "[missing entries "))) (bin fMul (bC (.str (lit "abc"))) (bC (.int 9)))) (bC (.str (lit "]")))) aNil)) aNil)) aNil))))))
  (mRet (ofN (bC (.bl false))))
  mNil)
  (mSeq (mIf (notT (tst (ofN (cN (m__law_same 10) (aCons (cN m_page_numbers (aCons (bVar 15) (aCons (bC (.int 100)) (aCons (bC (.int 100)) aNil)))) (aCons (dTup aNil) aNil))))))
  (mRet (ofN (bC (.bl false))))
  mNil)
  (mSeq (mSet 16 (binE (immF fIx) (ofN (dLst (aCons (dTup (aCons (bC (.int 19)) (aCons (bC (.int 9)) aNil))) (aCons (dTup (aCons (bC (.int 101)) (aCons (bC (.int 9)) aNil))) (aCons (dTup (aCons (bC (.bl true)) (aCons (bC (.int 9)) aNil))) (aCons (dTup (aCons (bC (.int 30)) (aCons (bC (.int 4)) aNil))) (aCons (dTup (aCons (bC (.int 30)) (aCons (bC (.int 101)) aNil))) (aCons (dTup (aCons (bC (.int 30)) (aCons (bC (.bl true)) aNil))) (aCons (dTup (aCons (bC (.str (lit "30"))) (aCons (bC (.int 9)) aNil))) (aCons (dTup (aCons (bC (.int 30)) (aCons (bC .non) aNil))) (aCons (dTup (aCons (bC (.int 30)) (aCons (bC (.int 0)) aNil))) aNil))))))))))) (eIO [1] m__law_take (acons (ofN (bC (.int 9))) anil))))
  (mRet (ofN (andB (cN m__law_refuses (aCons (bVar 5) (aCons (bin fIx (bVar 16) (bC (.int 0))) (aCons (bin fIx (bVar 16) (bC (.int 1))) aNil)))) (cN m__law_refuses (aCons (bVar 15) (aCons (bin fIx (bVar 16) (bC (.int 0))) (aCons (bin fIx (bVar 16) (bC (.int 1))) aNil)))))))))))))))))))))))))
def m_law : MD := mDef0 16 b_law
theorem nx_law : ∀ ds y, m_law ds ≠ .exc y := fun _ _ => noX_ne
end
@[simp] theorem ll0 : (lit "").length = 0 := by rw [lit_eq, List.length_map]; rfl
@[simp] theorem ll1 : (lit " ").length = 1 := by rw [lit_eq, List.length_map]; rfl
@[simp] theorem ll2 : (lit "  ").length = 2 := by rw [lit_eq, List.length_map]; rfl
@[simp] theorem ll3 : (lit "   ").length = 3 := by rw [lit_eq, List.length_map]; rfl
@[simp] theorem ll4 : (lit "    ").length = 4 := by rw [lit_eq, List.length_map]; rfl
@[simp] theorem ll5 : (lit "!").length = 1 := by rw [lit_eq, List.length_map]; rfl
@[simp] theorem ll6 : (lit "! ").length = 2 := by rw [lit_eq, List.length_map]; rfl
@[simp] theorem ll7 : (lit "!figure").length = 7 := by rw [lit_eq, List.length_map]; rfl
@[simp] theorem ll8 : (lit "!item").length = 5 := by rw [lit_eq, List.length_map]; rfl
@[simp] theorem ll9 : (lit "* ").length = 2 := by rw [lit_eq, List.length_map]; rfl
@[simp] theorem ll10 : (lit "-").length = 1 := by rw [lit_eq, List.length_map]; rfl
@[simp] theorem ll11 : (lit ".").length = 1 := by rw [lit_eq, List.length_map]; rfl
@[simp] theorem ll12 : (lit ". ").length = 2 := by rw [lit_eq, List.length_map]; rfl
@[simp] theorem ll13 : (lit "0.3.1").length = 5 := by rw [lit_eq, List.length_map]; rfl
@[simp] theorem ll14 : (lit "1").length = 1 := by rw [lit_eq, List.length_map]; rfl
@[simp] theorem ll15 : (lit "12").length = 2 := by rw [lit_eq, List.length_map]; rfl
@[simp] theorem ll16 : (lit "2.1").length = 3 := by rw [lit_eq, List.length_map]; rfl
@[simp] theorem ll17 : (lit "30").length = 2 := by rw [lit_eq, List.length_map]; rfl
@[simp] theorem ll18 : (lit ": ").length = 2 := by rw [lit_eq, List.length_map]; rfl
@[simp] theorem ll19 : (lit "FALSE").length = 5 := by rw [lit_eq, List.length_map]; rfl
@[simp] theorem ll20 : (lit "TRUE").length = 4 := by rw [lit_eq, List.length_map]; rfl
@[simp] theorem ll21 : (lit "[").length = 1 := by rw [lit_eq, List.length_map]; rfl
@[simp] theorem ll22 : (lit "[missing entries ").length = 17 := by rw [lit_eq, List.length_map]; rfl
@[simp] theorem ll23 : (lit "]").length = 1 := by rw [lit_eq, List.length_map]; rfl
@[simp] theorem ll24 : (lit "abc").length = 3 := by rw [lit_eq, List.length_map]; rfl
@[simp] theorem ll25 : (lit "abcdefgh").length = 8 := by rw [lit_eq, List.length_map]; rfl
@[simp] theorem ll26 : (lit "contents").length = 8 := by rw [lit_eq, List.length_map]; rfl
@[simp] theorem ll27 : (lit "document").length = 8 := by rw [lit_eq, List.length_map]; rfl
@[simp] theorem ll28 : (lit "double").length = 6 := by rw [lit_eq, List.length_map]; rfl
@[simp] theorem ll29 : (lit "entries ").length = 8 := by rw [lit_eq, List.length_map]; rfl
@[simp] theorem ll30 : (lit "fault").length = 5 := by rw [lit_eq, List.length_map]; rfl
@[simp] theorem ll31 : (lit "figure").length = 6 := by rw [lit_eq, List.length_map]; rfl
@[simp] theorem ll32 : (lit "flag").length = 4 := by rw [lit_eq, List.length_map]; rfl
@[simp] theorem ll33 : (lit "heading").length = 7 := by rw [lit_eq, List.length_map]; rfl
@[simp] theorem ll34 : (lit "index").length = 5 := by rw [lit_eq, List.length_map]; rfl
@[simp] theorem ll35 : (lit "int").length = 3 := by rw [lit_eq, List.length_map]; rfl
@[simp] theorem ll36 : (lit "item").length = 4 := by rw [lit_eq, List.length_map]; rfl
@[simp] theorem ll37 : (lit "lost").length = 4 := by rw [lit_eq, List.length_map]; rfl
@[simp] theorem ll38 : (lit "missing").length = 7 := by rw [lit_eq, List.length_map]; rfl
@[simp] theorem ll39 : (lit "none").length = 4 := by rw [lit_eq, List.length_map]; rfl
@[simp] theorem ll40 : (lit "para").length = 4 := by rw [lit_eq, List.length_map]; rfl
@[simp] theorem ll41 : (lit "para a 1 > para a 2").length = 19 := by rw [lit_eq, List.length_map]; rfl
@[simp] theorem ll42 : (lit "point").length = 5 := by rw [lit_eq, List.length_map]; rfl
@[simp] theorem ll43 : (lit "ring").length = 4 := by rw [lit_eq, List.length_map]; rfl
@[simp] theorem ll44 : (lit "text").length = 4 := by rw [lit_eq, List.length_map]; rfl
@[simp] theorem ll45 : (lit "zz.").length = 3 := by rw [lit_eq, List.length_map]; rfl
/-! ### what the top has written -/
structure Tops (K : PySem.W.Frag) (mg : PySem.Str → Option Value) : Prop where
  d_is_count : ∃ f fd, DefAt K mg "is_count" "is_count" s_is_count ["value", "least", "most"] f fd
  d_is_fault : ∃ f fd, DefAt K mg "is_fault" "is_fault" s_is_fault ["answer"] f fd
  d_show_value : ∃ f fd, DefAt K mg "show_value" "show_value" s_show_value ["value"] f fd
  d_wrap : ∃ f fd, DefAt K mg "wrap" "wrap" s_wrap ["text", "width", "first", "rest"] f fd
  d_listing_texts : ∃ f fd, DefAt K mg "listing_texts" "listing_texts" s_listing_texts ["pairs", "width"] f fd
  d_joined_lines : ∃ f fd, DefAt K mg "joined_lines" "joined_lines" s_joined_lines ["texts"] f fd
  d_is_listing : ∃ f fd, DefAt K mg "is_listing" "is_listing" s_is_listing ["para"] f fd
  d_para_kind : ∃ f fd, DefAt K mg "para_kind" "para_kind" s_para_kind ["para"] f fd
  d_para_lines : ∃ f fd, DefAt K mg "para_lines" "para_lines" s_para_lines ["para", "width", "listing_width"] f fd
  d_fault_line : ∃ f fd, DefAt K mg "fault_line" "fault_line" s_fault_line ["fault"] f fd
  d_view_blocks : ∃ f fd, DefAt K mg "view_blocks" "view_blocks" s_view_blocks ["view", "width", "listing_width"] f fd
  d_gap_size : ∃ f fd, DefAt K mg "gap_size" "gap_size" s_gap_size ["block", "following"] f fd
  d_check_width : ∃ f fd, DefAt K mg "check_width" "check_width" s_check_width ["width"] f fd
  d_pad_left : ∃ f fd, DefAt K mg "pad_left" "pad_left" s_pad_left ["text", "width"] f fd
  d_check_size : ∃ f fd, DefAt K mg "check_size" "check_size" s_check_size ["width", "height"] f fd
  d_needed_lines : ∃ f fd, DefAt K mg "needed_lines" "needed_lines" s_needed_lines ["blocks", "at"] f fd
  d_block_starts : ∃ f fd, DefAt K mg "block_starts" "block_starts" s_block_starts ["blocks", "height"] f fd
  d_para_pages : ∃ f fd, DefAt K mg "para_pages" "para_pages" s_para_pages ["view", "width", "height"] f fd
  d_listed_numbers : ∃ f fd, DefAt K mg "listed_numbers" "listed_numbers" s_listed_numbers ["paras", "listing"] f fd
  d_with_page : ∃ f fd, DefAt K mg "with_page" "with_page" s_with_page ["text", "page", "width"] f fd
  d_printed_listing : ∃ f fd, DefAt K mg "printed_listing" "printed_listing" s_printed_listing ["paras", "listing", "width", "pages"] f fd
  d_printed_lines : ∃ f fd, DefAt K mg "printed_lines" "printed_lines" s_printed_lines ["view", "block", "width", "pages"] f fd
  d_put_lines : ∃ f fd, DefAt K mg "put_lines" "put_lines" s_put_lines ["sheets", "page", "above", "lines", "height"] f fd
  d_print_pages : ∃ f fd, DefAt K mg "print_pages" "print_pages" s_print_pages ["view", "width", "height"] f fd
  d_page_numbers : ∃ f fd, DefAt K mg "page_numbers" "page_numbers" s_page_numbers ["view", "width", "height"] f fd
  d__law_jar : ∃ f fd, DefAt K mg "_law_jar" "_law_jar" s__law_jar ["script"] f fd
  d__law_take : ∃ f fd, DefAt K mg "_law_take" "_law_take" s__law_take ["jar", "many"] f fd
  d__law_same : ∃ f fd, DefAt K mg "_law_same" "_law_same" s__law_same ["one", "two"] f fd
  d__law_words : ∃ f fd, DefAt K mg "_law_words" "_law_words" s__law_words ["jar", "many"] f fd
  d__law_wrap : ∃ f fd, DefAt K mg "_law_wrap" "_law_wrap" s__law_wrap ["text", "width", "first", "rest"] f fd
  d__law_view : ∃ f fd, DefAt K mg "_law_view" "_law_view" s__law_view ["jar"] f fd
  d__law_listed : ∃ f fd, DefAt K mg "_law_listed" "_law_listed" s__law_listed ["paras", "listing"] f fd
  d__law_texts : ∃ f fd, DefAt K mg "_law_texts" "_law_texts" s__law_texts ["para", "width"] f fd
  d__law_lines : ∃ f fd, DefAt K mg "_law_lines" "_law_lines" s__law_lines ["para", "width"] f fd
  d__law_blocks : ∃ f fd, DefAt K mg "_law_blocks" "_law_blocks" s__law_blocks ["paras", "faults", "width"] f fd
  d__law_gap : ∃ f fd, DefAt K mg "_law_gap" "_law_gap" s__law_gap ["one", "two"] f fd
  d__law_put : ∃ f fd, DefAt K mg "_law_put" "_law_put" s__law_put ["blocks", "height"] f fd
  d__law_dotted : ∃ f fd, DefAt K mg "_law_dotted" "_law_dotted" s__law_dotted ["paras", "para", "pages", "width"] f fd
  d__law_sheets : ∃ f fd, DefAt K mg "_law_sheets" "_law_sheets" s__law_sheets ["blocks", "told", "dotted", "height"] f fd
  d__law_refuses : ∃ f fd, DefAt K mg "_law_refuses" "_law_refuses" s__law_refuses ["view", "width", "height"] f fd
  d_law : ∃ f fd, DefAt K mg "law" "law" s_law ["script"] f fd
  c_FAULT_KIND : ConAt K mg "FAULT_KIND" c_FAULT_KIND
  c_WIDTH_LEAST : ConAt K mg "WIDTH_LEAST" c_WIDTH_LEAST
  c_WIDTH_MOST : ConAt K mg "WIDTH_MOST" c_WIDTH_MOST
  c_HEIGHT_LEAST : ConAt K mg "HEIGHT_LEAST" c_HEIGHT_LEAST
  c_HEIGHT_MOST : ConAt K mg "HEIGHT_MOST" c_HEIGHT_MOST
  c_PAGE_COLUMNS : ConAt K mg "PAGE_COLUMNS" c_PAGE_COLUMNS
  c_LISTING_MARGIN : ConAt K mg "LISTING_MARGIN" c_LISTING_MARGIN
  n_ValueError : mg "ValueError" = none
  n_bool : mg "bool" = none
  n_divmod : mg "divmod" = none
  n_int : mg "int" = none
  n_isinstance : mg "isinstance" = none
  n_len : mg "len" = none
  n_list : mg "list" = none
  n_max : mg "max" = none
  n_min : mg "min" = none
  n_range : mg "range" = none
  n_str : mg "str" = none
  n_tuple : mg "tuple" = none
  g_LecternError : mg "LecternError" = some (.ref (He.ga K "LecternError"))
  g_BadValue : mg "BadValue" = some (.ref (He.ga K "BadValue"))
  g_BadLine : mg "BadLine" = some (.ref (He.ga K "BadLine"))
  x_BadValue : ExcAt K mg "BadValue"
  m_BadValue_BadValue : PySem.W.exmOne K (.ref (He.ga K "BadValue")) (.ref (He.ga K "BadValue")) = some true
  k_BadValue_LecternError : PySem.W.kitOne K (.ref (He.ga K "BadValue")) (.ref (He.ga K "LecternError")) = some true
  k_BadValue_BadLine : PySem.W.kitOne K (.ref (He.ga K "BadValue")) (.ref (He.ga K "BadLine")) = some false
  k_BadValue_ValueError : PySem.W.kitOne K (.ref (He.ga K "BadValue")) (.type "ValueError") = some true
section
variable {P : Program} {w : World} {K : PySem.W.Frag} {mg : PySem.Str → Option Value} {base : Heap} (T : Tops K mg)
include T
theorem catok_BadValue : ∀ (y : PySem.Str) (b : Bool), cat_BadValue y = some b → PySem.W.exmOne K (.ref (He.ga K y)) (.ref (He.ga K "BadValue")) = some b := by
  intro y b h
  unfold cat_BadValue at h
  by_cases e : y = "BadValue"
  · subst e; simp at h; (try subst h); exact T.m_BadValue_BadValue
  rw [if_neg e] at h; clear e
  cases h
theorem ecok_BadValue : ∀ (y : PySem.Str), cat_BadValue y = some true → ExcC K (He.ga K y) := by
  intro y h
  unfold cat_BadValue at h
  by_cases e : y = "BadValue"
  · subst e; simp at h; (try subst h); exact T.x_BadValue.ec
  rw [if_neg e] at h; clear e
  cases h
theorem kitok_LecternError : ∀ (y : PySem.Str) (k : Bool), kit_LecternError y = some k → PySem.W.kitOne K (.ref (He.ga K y)) (.ref (He.ga K "LecternError")) = some k := by
  intro y b h
  unfold kit_LecternError at h
  by_cases e : y = "BadValue"
  · subst e; simp at h; (try subst h); exact T.k_BadValue_LecternError
  rw [if_neg e] at h; clear e
  cases h
theorem kitok_BadLine : ∀ (y : PySem.Str) (k : Bool), kit_BadLine y = some k → PySem.W.kitOne K (.ref (He.ga K y)) (.ref (He.ga K "BadLine")) = some k := by
  intro y b h
  unfold kit_BadLine at h
  by_cases e : y = "BadValue"
  · subst e; simp at h; (try subst h); exact T.k_BadValue_BadLine
  rw [if_neg e] at h; clear e
  cases h
theorem kitok_ValueError : ∀ (y : PySem.Str) (k : Bool), kit_ValueError y = some k → PySem.W.kitOne K (.ref (He.ga K y)) (.type "ValueError") = some k := by
  intro y b h
  unfold kit_ValueError at h
  by_cases e : y = "BadValue"
  · subst e; simp at h; (try subst h); exact T.k_BadValue_ValueError
  rw [if_neg e] at h; clear e
  cases h
theorem ok_is_count : Okd P w K mg base CX0 1 "is_count" (spN K 3 m_is_count) := by
  have sc := sc_is_count
  exact okd T.d_is_count sc rfl rfl (fun f cdv A outer s H E hr => by
    have hu5 : (A.deeper (PyProof.Rows.envOfC "is_count" (defScope s_is_count) s.heap.objs.size f cdv)).units + 65 < cLine := by
      have h := hr.units
      have h2 := hr.un
      omega
    have hu := hr.units
    have hu1 : (A.deeper (PyProof.Rows.envOfC "is_count" (defScope s_is_count) s.heap.objs.size f cdv)).units + 1 < cLine := Nat.lt_of_le_of_lt (Nat.add_le_add_left (by decide) _) hu
    exact (m_one (m_ret (ne (x_and (nb (x_call n_isi (pe_callB call_isi (by rfl) T.n_isinstance bb_isinstance (a_cons (x_var (i := 0)) (a_cons (nb (x_bltn (v := .ty "int") (by rfl) T.n_int bb_int rfl)) a_nil))))) (nb (x_and (nb (x_not (nb (x_call n_isi (pe_callB call_isi (by rfl) T.n_isinstance bb_isinstance (a_cons (x_var (i := 0)) (a_cons (nb (x_bltn (v := .ty "bool") (by rfl) T.n_bool bb_bool rfl)) a_nil))))))) (x_one (nb (x_chain o_le n_le o_le n_le (x_var (i := 1)) (x_var (i := 0)) (x_var (i := 2)) (pe_chain o_le o_le (x_var (i := 1)) (x_var (i := 0)) (x_var (i := 2)))))))))))))
theorem ok_is_fault : Okd P w K mg base CX0 1 "is_fault" (spN K 1 m_is_fault) := by
  have sc := sc_is_fault
  exact okd T.d_is_fault sc rfl rfl (fun f cdv A outer s H E hr => by
    have hu5 : (A.deeper (PyProof.Rows.envOfC "is_fault" (defScope s_is_fault) s.heap.objs.size f cdv)).units + 65 < cLine := by
      have h := hr.units
      have h2 := hr.un
      omega
    have hu := hr.units
    have hu1 : (A.deeper (PyProof.Rows.envOfC "is_fault" (defScope s_is_fault) s.heap.objs.size f cdv)).units + 1 < cLine := Nat.lt_of_le_of_lt (Nat.add_le_add_left (by decide) _) hu
    exact (m_one (m_ret (ne (x_and (nb (x_call n_isi (pe_callB call_isi (by rfl) T.n_isinstance bb_isinstance (a_cons (x_var (i := 0)) (a_cons (nb (x_bltn (v := .ty "tuple") (by rfl) T.n_tuple bb_tuple rfl)) a_nil))))) (nb (x_and (nb (x_cmp o_gt n_gt (nb (x_call n_len (pe_callB c_len (by rfl) T.n_len bb_len (a_cons (x_var (i := 0)) a_nil)))) (nb x_int) (nomark _))) (x_one (nb (x_cmp (op_eqD hu) n_eq (x_ix (x_var (i := 0)) (nb x_int)) (nb x_str) (nomark _)))))))))))
theorem ok_show_value : Okd P w K mg base CX0 1 "show_value" (spN K 1 m_show_value) := by
  have sc := sc_show_value
  exact okd T.d_show_value sc rfl rfl (fun f cdv A outer s H E hr => by
    have hu5 : (A.deeper (PyProof.Rows.envOfC "show_value" (defScope s_show_value) s.heap.objs.size f cdv)).units + 65 < cLine := by
      have h := hr.units
      have h2 := hr.un
      omega
    have hu := hr.units
    have hu1 : (A.deeper (PyProof.Rows.envOfC "show_value" (defScope s_show_value) s.heap.objs.size f cdv)).units + 1 < cLine := Nat.lt_of_le_of_lt (Nat.add_le_add_left (by decide) _) hu
    exact (m_cons (m_set (i := 1) (be (x_ix (x_var (i := 0)) (nb x_int))) sc.nd)
    (m_cons (m_if (t_cmp (op_eqD hu) n_eq (x_var (i := 1)) (nb x_str) (nomark _))
    (m_one (m_ret (ne x_str)))
    m_nil)
    (m_cons (m_if (t_cmp (op_eqD hu) n_eq (x_var (i := 1)) (nb x_str) (nomark _))
    (m_cons (m_if (t_val (be (x_ix (x_var (i := 0)) (nb x_int))))
    (m_one (m_ret (ne x_str)))
    m_nil)
    (m_one (m_ret (ne x_str))))
    m_nil)
    (m_cons (m_if (t_cmp (op_eqD hu) n_eq (x_var (i := 1)) (nb x_str) (nomark _))
    (m_one (m_ret (ne (x_call n_str (pe_callTy c_str (by rfl) T.n_str bb_str (a_cons (x_ix (x_var (i := 0)) (nb x_int)) a_nil))))))
    m_nil)
    (m_cons (m_if (t_cmp (op_eqD hu) n_eq (x_var (i := 1)) (nb x_str) (nomark _))
    (m_one (m_ret (be (x_ix (x_var (i := 0)) (nb x_int)))))
    m_nil)
    (m_one (m_ret (ne (x_op o_add n_add (nb (x_op o_add n_add (nb (x_op o_add n_add (nb (x_op o_add n_add (nb x_str) (x_ix (x_var (i := 0)) (nb x_int)))) (nb x_str))) (x_ix (x_var (i := 0)) (nb x_int)))) (nb x_str)))))))))))
theorem ok_wrap : Okd P w K mg base (L2.CX P w) 1 "wrap" (spN K 4 m_wrap) := by
  have sc := sc_wrap
  exact okdX T.d_wrap sc rfl rfl (fun f cdv A outer s H E hr => by
    have hu5 : (A.deeper (PyProof.Rows.envOfC "wrap" (defScope s_wrap) s.heap.objs.size f cdv)).units + 65 < cLine := by
      have h := hr.units
      have h2 := hr.un
      omega
    have hu := hr.units
    have hu1 : (A.deeper (PyProof.Rows.envOfC "wrap" (defScope s_wrap) s.heap.objs.size f cdv)).units + 1 < cLine := Nat.lt_of_le_of_lt (Nat.add_le_add_left (by decide) _) hu
    exact (m_cons (m_if (PW.pt (t_or (t_cmp o_ge n_ge (nb (x_call n_len (pe_callB c_len (by rfl) T.n_len bb_len (a_cons (x_var (i := 2)) a_nil)))) (x_var (i := 1)) (nomark _)) (t_or1 (t_cmp o_ge n_ge (nb (x_call n_len (pe_callB c_len (by rfl) T.n_len bb_len (a_cons (x_var (i := 3)) a_nil)))) (x_var (i := 1)) (nomark _)))))
    (m_one (m_raise T.x_BadValue rfl (takes_of rfl rfl rfl rfl)))
    m_nil)
    (m_cons (m_set (i := 4) (ne (x_lst a_nil)) sc.nd)
    (m_cons (m_set (i := 5) (be (x_var (i := 2))) sc.nd)
    (m_cons (m_set (i := 6) (ne x_bl) sc.nd)
    (m_cons (m_for (w_val (ne (xs_split (x_var (i := 0)) (nb x_str)))) (g_name (i := 7) sc.nd)
    (m_one (m_if (t_cmp (op_neD hu) n_ne (x_var (i := 7)) (nb x_str) (nomark _))
    (m_cons (m_if (PW.pt (t_and (t_val (be (x_var (i := 6)))) (t_and1 (t_cmp o_gt n_gt (nb (x_op o_add n_add (nb (x_op o_add n_add (nb (x_call n_len (pe_callB c_len (by rfl) T.n_len bb_len (a_cons (x_var (i := 5)) a_nil)))) (nb x_int))) (nb (x_call n_len (pe_callB c_len (by rfl) T.n_len bb_len (a_cons (x_var (i := 7)) a_nil)))))) (x_var (i := 1)) (nomark _)))))
    (m_cons (m_expr (e_append (i := 4) (pe_bm PySem.F.plainAttrs_list PySem.F.slot_list_append PySem.F.type_list_append mt_append (pv 4) (ae_cons (be (x_var (i := 5))) ae_nil))))
    (m_cons (m_set (i := 5) (be (x_var (i := 3))) sc.nd)
    (m_one (m_set (i := 6) (ne x_bl) sc.nd))))
    m_nil)
    (m_cons (m_if (t_val (be (x_var (i := 6))))
    (m_one (m_aug (i := 5) i_add n_aug (ne x_str) sc.nd))
    m_nil)
    (m_cons (m_while (t_cmp o_gt n_gt (nb (x_op o_add n_add (nb (x_call n_len (pe_callB c_len (by rfl) T.n_len bb_len (a_cons (x_var (i := 5)) a_nil)))) (nb (x_call n_len (pe_callB c_len (by rfl) T.n_len bb_len (a_cons (x_var (i := 7)) a_nil)))))) (x_var (i := 1)) (nomark _))
    (m_cons (m_set (i := 8) (ne (x_op op_sub n_sub (x_var (i := 1)) (nb (x_call n_len (pe_callB c_len (by rfl) T.n_len bb_len (a_cons (x_var (i := 5)) a_nil)))))) sc.nd)
    (m_cons (m_expr (e_append (i := 4) (pe_bm PySem.F.plainAttrs_list PySem.F.slot_list_append PySem.F.type_list_append mt_append (pv 4) (ae_cons (ne (x_op o_add n_add (x_var (i := 5)) (nb (x_cut (x_var (i := 7)) o_none (o_some (x_var (i := 8))))))) ae_nil))))
    (m_cons (m_set (i := 7) (ne (x_cut (x_var (i := 7)) (o_some (x_var (i := 8))) o_none)) sc.nd)
    (m_one (m_set (i := 5) (be (x_var (i := 3))) sc.nd))))) (passes_of rfl))
    (m_cons (m_aug (i := 5) i_add n_aug (be (x_var (i := 7))) sc.nd)
    (m_one (m_set (i := 6) (ne x_bl) sc.nd))))))
    m_nil)) (passes_of rfl) rfl)
    (m_cons (m_expr (e_append (i := 4) (pe_bm PySem.F.plainAttrs_list PySem.F.slot_list_append PySem.F.type_list_append mt_append (pv 4) (ae_cons (be (x_var (i := 5))) ae_nil))))
    (m_one (m_ret (ne (x_call n_tuple (pe_callTy call_tuple_of (by rfl) T.n_tuple bb_tuple (a_cons (x_var (i := 4)) a_nil)))))))))))))
theorem ok_joined_lines : Okd P w K mg base CX0 1 "joined_lines" (spN K 1 m_joined_lines) := by
  have sc := sc_joined_lines
  exact okd T.d_joined_lines sc rfl rfl (fun f cdv A outer s H E hr => by
    have hu5 : (A.deeper (PyProof.Rows.envOfC "joined_lines" (defScope s_joined_lines) s.heap.objs.size f cdv)).units + 65 < cLine := by
      have h := hr.units
      have h2 := hr.un
      omega
    have hu := hr.units
    have hu1 : (A.deeper (PyProof.Rows.envOfC "joined_lines" (defScope s_joined_lines) s.heap.objs.size f cdv)).units + 1 < cLine := Nat.lt_of_le_of_lt (Nat.add_le_add_left (by decide) _) hu
    exact (m_cons (m_set (i := 1) (ne (x_lst a_nil)) sc.nd)
    (m_cons (m_forV (i := 0) (g_name (i := 2) sc.nd)
    (m_one (m_expr (e_extend (i := 1) (pe_bm PySem.F.plainAttrs_list PySem.F.slot_list_extend PySem.F.type_list_extend mt_extend (pv 1) (ae_cons (ne (x_call n_list (pe_callTy call_list_of (by rfl) T.n_list bb_list (a_cons (x_var (i := 2)) a_nil)))) ae_nil))))) PassesOwn.never rfl)
    (m_one (m_ret (ne (x_call n_tuple (pe_callTy call_tuple_of (by rfl) T.n_tuple bb_tuple (a_cons (x_var (i := 1)) a_nil)))))))))
theorem ok_fault_line : Okd P w K mg base CX0 1 "fault_line" (spN K 1 m_fault_line) := by
  have sc := sc_fault_line
  exact okd T.d_fault_line sc rfl rfl (fun f cdv A outer s H E hr => by
    have hu5 : (A.deeper (PyProof.Rows.envOfC "fault_line" (defScope s_fault_line) s.heap.objs.size f cdv)).units + 65 < cLine := by
      have h := hr.units
      have h2 := hr.un
      omega
    have hu := hr.units
    have hu1 : (A.deeper (PyProof.Rows.envOfC "fault_line" (defScope s_fault_line) s.heap.objs.size f cdv)).units + 1 < cLine := Nat.lt_of_le_of_lt (Nat.add_le_add_left (by decide) _) hu
    exact (m_cons (m_asg (be (x_var (i := 0))) (g_tup rfl (gs_cons (i := 1) sc.nd (gs_cons (i := 2) sc.nd (gs_cons (i := 3) sc.nd gs_nil)))))
    (m_one (m_ret (ne (x_op o_add n_add (nb (x_op o_add n_add (nb (x_op o_add n_add (nb (x_op o_add n_add (nb (x_op o_add n_add (nb x_str) (x_var (i := 1)))) (nb x_str))) (x_var (i := 2)))) (nb x_str))) (nb (x_call n_str (pe_callTy c_str (by rfl) T.n_str bb_str (a_cons (x_var (i := 3)) a_nil))))))))))
theorem ok_gap_size : Okd P w K mg base CX0 1 "gap_size" (spN K 2 m_gap_size) := by
  have sc := sc_gap_size
  exact okd T.d_gap_size sc rfl rfl (fun f cdv A outer s H E hr => by
    have hu5 : (A.deeper (PyProof.Rows.envOfC "gap_size" (defScope s_gap_size) s.heap.objs.size f cdv)).units + 65 < cLine := by
      have h := hr.units
      have h2 := hr.un
      omega
    have hu := hr.units
    have hu1 : (A.deeper (PyProof.Rows.envOfC "gap_size" (defScope s_gap_size) s.heap.objs.size f cdv)).units + 1 < cLine := Nat.lt_of_le_of_lt (Nat.add_le_add_left (by decide) _) hu
    exact (m_cons (m_if (PW.pt (t_and (t_cmp (op_eqD hu) n_eq (x_ix (x_var (i := 0)) (nb x_int)) (x_ix (x_var (i := 1)) (nb x_int)) (nomark _)) (t_and1 (PW.pt (t_or (t_cmp (op_eqD hu) n_eq (x_ix (x_var (i := 0)) (nb x_int)) (nb x_str) (nomark _)) (t_or1 (t_cmp (op_eqD hu) n_eq (x_ix (x_var (i := 0)) (nb x_int)) (nb x_str) (nomark _))))))))
    (m_one (m_ret (ne x_int)))
    m_nil)
    (m_one (m_ret (ne x_int)))))
theorem ok_pad_left : Okd P w K mg base CX0 1 "pad_left" (spN K 2 m_pad_left) := by
  have sc := sc_pad_left
  exact okd T.d_pad_left sc rfl rfl (fun f cdv A outer s H E hr => by
    have hu5 : (A.deeper (PyProof.Rows.envOfC "pad_left" (defScope s_pad_left) s.heap.objs.size f cdv)).units + 65 < cLine := by
      have h := hr.units
      have h2 := hr.un
      omega
    have hu := hr.units
    have hu1 : (A.deeper (PyProof.Rows.envOfC "pad_left" (defScope s_pad_left) s.heap.objs.size f cdv)).units + 1 < cLine := Nat.lt_of_le_of_lt (Nat.add_le_add_left (by decide) _) hu
    exact (m_one (m_ret (ne (x_op o_add n_add (nb (x_op o_mul n_mul (nb x_str) (nb (x_call n_max (pe_callB (call_max2 rfl) (by rfl) T.n_max bb_max (a_cons (nb x_int) (a_cons (nb (x_op op_sub n_sub (x_var (i := 1)) (nb (x_call n_len (pe_callB c_len (by rfl) T.n_len bb_len (a_cons (x_var (i := 0)) a_nil)))))) a_nil))))))) (x_var (i := 0)))))))
theorem ok_put_lines : Okd P w K mg base CX0 1 "put_lines" (spI K 5 m_put_lines) := by
  have sc := sc_put_lines
  exact okdI (Z := (fun i => i == 0)) T.d_put_lines sc rfl rfl (fun f cdv A outer s H E hr => by
    have hu5 : (A.deeper (PyProof.Rows.envOfC "put_lines" (defScope s_put_lines) s.heap.objs.size f cdv)).units + 65 < cLine := by
      have h := hr.units
      have h2 := hr.un
      omega
    have hu := hr.units
    have hu1 : (A.deeper (PyProof.Rows.envOfC "put_lines" (defScope s_put_lines) s.heap.objs.size f cdv)).units + 1 < cLine := Nat.lt_of_le_of_lt (Nat.add_le_add_left (by decide) _) hu
    exact (m_one (m_for (w_rng1 (by rfl) T.n_range (ae_cons (ne (x_call n_len (pe_callB c_len (by rfl) T.n_len bb_len (a_cons (x_var (i := 3)) a_nil)))) ae_nil) (lec len0)) (g_name (i := 5) sc.nd)
    (m_cons (m_asg (ne (x_call n_divmod (pe_callB call_divmod (by rfl) T.n_divmod bb_divmod (a_cons (nb (x_op o_add n_add (x_var (i := 2)) (x_var (i := 5)))) (a_cons (x_var (i := 4)) a_nil))))) (g_tup rfl (gs_cons (i := 6) sc.nd (gs_cons (i := 7) sc.nd gs_nil))))
    (m_cons (m_while (t_cmp o_lt n_lt (nb (x_call n_len (pe_callB c_len (by rfl) T.n_len bb_len (a_cons (x_var (i := 0)) a_nil)))) (nb (x_op o_add n_add (x_var (i := 1)) (x_var (i := 6)))) (nomark _))
    (m_one (m_expr (e_append (i := 0) (pe_bm PySem.F.plainAttrs_list PySem.F.slot_list_append PySem.F.type_list_append mt_append (pv 0) (ae_cons (ne (x_lst a_nil)) ae_nil))))) PassesOwn.never)
    (m_bor (i := 0) (j := 8) (p_ix (p_name (i := 0)) (nb (x_op op_sub n_sub (nb (x_op o_add n_add (x_var (i := 1)) (x_var (i := 6)))) (nb x_int))))
    (m_cons (m_while (t_cmp o_lt n_lt (nb (x_call n_len (pe_callB c_len (by rfl) T.n_len bb_len (a_cons (x_var (i := 8)) a_nil)))) (x_var (i := 7)) (nomark _))
    (m_one (m_expr (e_append (i := 8) (pe_bm PySem.F.plainAttrs_list PySem.F.slot_list_append PySem.F.type_list_append mt_append (pv 8) (ae_cons (ne x_str) ae_nil))))) PassesOwn.never)
    (m_one (m_expr (e_append (i := 8) (pe_bm PySem.F.plainAttrs_list PySem.F.slot_list_append PySem.F.type_list_append mt_append (pv 8) (ae_cons (be (x_ix (x_var (i := 3)) (x_var (i := 5)))) ae_nil)))))) sc.nd))) PassesOwn.never rfl)))
theorem ok__law_jar : Okd P w K mg base CX0 1 "_law_jar" (spN K 1 m__law_jar) := by
  have sc := sc__law_jar
  exact okd T.d__law_jar sc rfl rfl (fun f cdv A outer s H E hr => by
    have hu5 : (A.deeper (PyProof.Rows.envOfC "_law_jar" (defScope s__law_jar) s.heap.objs.size f cdv)).units + 65 < cLine := by
      have h := hr.units
      have h2 := hr.un
      omega
    have hu := hr.units
    have hu1 : (A.deeper (PyProof.Rows.envOfC "_law_jar" (defScope s__law_jar) s.heap.objs.size f cdv)).units + 1 < cLine := Nat.lt_of_le_of_lt (Nat.add_le_add_left (by decide) _) hu
    exact (m_cons (m_set (i := 1) (ne (x_lst a_nil)) sc.nd)
    (m_cons (m_for (w_rng1 (by rfl) T.n_range (ae_cons (ne (x_call n_min (pe_callB (call_min2 rfl) (by rfl) T.n_min bb_min (a_cons (nb (x_call n_len (pe_callB c_len (by rfl) T.n_len bb_len (a_cons (x_var (i := 0)) a_nil)))) (a_cons (nb x_int) a_nil))))) ae_nil) (lec len0)) (g_name (i := 2) sc.nd)
    (m_cons (m_set (i := 3) (ne (x_call n_int (pe_callTy c_int (by rfl) T.n_int bb_int (a_cons (x_ix (x_var (i := 0)) (x_var (i := 2))) a_nil)))) sc.nd)
    (m_cons (m_if (t_cmp o_lt n_lt (x_var (i := 3)) (nb x_int) (nomark _))
    (m_one (m_set (i := 3) (ne (x_neg (x_var (i := 3)))) sc.nd))
    m_nil)
    (m_one (m_if (t_cmp o_ge n_ge (x_var (i := 3)) (nb (x_op op_pow n_pow (nb x_int) (nb x_int))) (nomark _))
    (m_one (m_for (w_rng1 (by rfl) T.n_range (ae_cons (ne x_int) ae_nil) (lec len0)) (g_name (i := 4) sc.nd)
    (m_one (m_if (t_cmp o_gt n_gt (x_var (i := 3)) (nb x_int) (nomark _))
    (m_cons (m_expr (e_append (i := 1) (pe_bm PySem.F.plainAttrs_list PySem.F.slot_list_append PySem.F.type_list_append mt_append (pv 1) (ae_cons (ne (x_op op_mod n_mod (nb (x_call n_int (pe_callTy c_int (by rfl) T.n_int bb_int (a_cons (x_var (i := 3)) a_nil)))) (nb x_int))) ae_nil))))
    (m_one (m_set (i := 3) (ne (x_op op_fdiv n_div (x_var (i := 3)) (nb x_int))) sc.nd)))
    m_nil)) PassesOwn.never rfl))
    (m_cons (m_set (i := 5) (ne (x_op op_mod n_mod (nb (x_call n_int (pe_callTy c_int (by rfl) T.n_int bb_int (a_cons (nb (x_op o_add n_add (nb (x_op o_add n_add (nb (x_op o_mul n_mul (x_var (i := 3)) (nb x_int))) (nb (x_op o_mul n_mul (x_var (i := 2)) (nb x_int))))) (nb x_int))) a_nil)))) (nb x_int))) sc.nd)
    (m_cons (m_expr (e_append (i := 1) (pe_bm PySem.F.plainAttrs_list PySem.F.slot_list_append PySem.F.type_list_append mt_append (pv 1) (ae_cons (be (x_var (i := 5))) ae_nil))))
    (m_one (m_expr (e_append (i := 1) (pe_bm PySem.F.plainAttrs_list PySem.F.slot_list_append PySem.F.type_list_append mt_append (pv 1) (ae_cons (ne (x_op op_mod n_mod (nb (x_call n_int (pe_callTy c_int (by rfl) T.n_int bb_int (a_cons (nb (x_op o_add n_add (nb (x_op o_add n_add (nb (x_op o_mul n_mul (x_var (i := 5)) (nb x_int))) (nb (x_op o_mul n_mul (x_var (i := 2)) (nb x_int))))) (nb x_int))) a_nil)))) (nb x_int))) ae_nil))))))))))) PassesOwn.never rfl)
    (m_one (m_ret (e_lst (ae_cons (e_frz (x_mv (i := 1))) (ae_cons (ne x_int) ae_nil))))))))
theorem ok__law_take : Okd P w K mg base CX0 1 "_law_take" (spI K 2 m__law_take) := by
  have sc := sc__law_take
  exact okdI (Z := (fun i => i == 0)) T.d__law_take sc rfl rfl (fun f cdv A outer s H E hr => by
    have hu5 : (A.deeper (PyProof.Rows.envOfC "_law_take" (defScope s__law_take) s.heap.objs.size f cdv)).units + 65 < cLine := by
      have h := hr.units
      have h2 := hr.un
      omega
    have hu := hr.units
    have hu1 : (A.deeper (PyProof.Rows.envOfC "_law_take" (defScope s__law_take) s.heap.objs.size f cdv)).units + 1 < cLine := Nat.lt_of_le_of_lt (Nat.add_le_add_left (by decide) _) hu
    exact (m_cons (m_set (i := 2) (be (x_ix (x_var (i := 0)) (nb x_int))) sc.nd)
    (m_cons (m_setIx (i := 0) (ne (x_op o_add n_add (x_var (i := 2)) (nb x_int))) (nb x_int))
    (m_cons (m_set (i := 3) (be (x_ix (x_var (i := 0)) (nb x_int))) sc.nd)
    (m_cons (m_if (t_cmp o_lt n_lt (x_var (i := 2)) (nb (x_call n_len (pe_callB c_len (by rfl) T.n_len bb_len (a_cons (x_var (i := 3)) a_nil)))) (nomark _))
    (m_one (m_ret (ne (x_op op_mod n_mod (nb (x_call n_int (pe_callTy c_int (by rfl) T.n_int bb_int (a_cons (x_ix (x_var (i := 3)) (x_var (i := 2))) a_nil)))) (x_var (i := 1))))))
    m_nil)
    (m_cons (m_set (i := 4) (ne (x_op op_mod n_mod (nb (x_call n_int (pe_callTy c_int (by rfl) T.n_int bb_int (a_cons (nb (x_op o_add n_add (nb (x_op o_add n_add (nb (x_op o_mul n_mul (x_var (i := 2)) (nb x_int))) (nb (x_op o_mul n_mul (nb (x_call n_len (pe_callB c_len (by rfl) T.n_len bb_len (a_cons (x_var (i := 3)) a_nil)))) (nb x_int))))) (nb x_int))) a_nil)))) (nb x_int))) sc.nd)
    (m_cons (m_if (t_cmp o_gt n_gt (nb (x_call n_len (pe_callB c_len (by rfl) T.n_len bb_len (a_cons (x_var (i := 3)) a_nil)))) (nb x_int) (nomark _))
    (m_one (m_set (i := 4) (ne (x_op op_mod n_mod (nb (x_call n_int (pe_callTy c_int (by rfl) T.n_int bb_int (a_cons (nb (x_op o_add n_add (x_var (i := 4)) (nb (x_op o_mul n_mul (x_ix (x_var (i := 3)) (nb (x_op op_sub n_sub (x_var (i := 2)) (nb (x_op o_mul n_mul (nb (x_op op_fdiv n_div (x_var (i := 2)) (nb (x_call n_len (pe_callB c_len (by rfl) T.n_len bb_len (a_cons (x_var (i := 3)) a_nil)))))) (nb (x_call n_len (pe_callB c_len (by rfl) T.n_len bb_len (a_cons (x_var (i := 3)) a_nil))))))))) (nb (x_op o_add n_add (nb (x_op op_fdiv n_div (x_var (i := 2)) (nb (x_call n_len (pe_callB c_len (by rfl) T.n_len bb_len (a_cons (x_var (i := 3)) a_nil)))))) (nb x_int))))))) a_nil)))) (nb x_int))) sc.nd))
    m_nil)
    (m_one (m_ret (ne (x_op op_mod n_mod (nb (x_call n_int (pe_callTy c_int (by rfl) T.n_int bb_int (a_cons (nb (x_op op_fdiv n_div (nb (x_op op_mod n_mod (nb (x_call n_int (pe_callTy c_int (by rfl) T.n_int bb_int (a_cons (nb (x_op o_mul n_mul (x_var (i := 4)) (nb x_int))) a_nil)))) (nb x_int))) (nb x_int))) a_nil)))) (x_var (i := 1)))))))))))))
theorem ok__law_wrap : Okd P w K mg base CX0 1 "_law_wrap" (spN K 4 m__law_wrap) := by
  have sc := sc__law_wrap
  exact okd T.d__law_wrap sc rfl rfl (fun f cdv A outer s H E hr => by
    have hu5 : (A.deeper (PyProof.Rows.envOfC "_law_wrap" (defScope s__law_wrap) s.heap.objs.size f cdv)).units + 65 < cLine := by
      have h := hr.units
      have h2 := hr.un
      omega
    have hu := hr.units
    have hu1 : (A.deeper (PyProof.Rows.envOfC "_law_wrap" (defScope s__law_wrap) s.heap.objs.size f cdv)).units + 1 < cLine := Nat.lt_of_le_of_lt (Nat.add_le_add_left (by decide) _) hu
    exact (m_cons (m_set (i := 4) (ne (x_lst a_nil)) sc.nd)
    (m_cons (m_set (i := 5) (be (x_var (i := 2))) sc.nd)
    (m_cons (m_set (i := 6) (ne x_bl) sc.nd)
    (m_cons (m_for (w_val (ne (xs_split (x_var (i := 0)) (nb x_str)))) (g_name (i := 7) sc.nd)
    (m_one (m_if (t_cmp (op_neD hu) n_ne (x_var (i := 7)) (nb x_str) (nomark _))
    (m_one (m_if (PW.pt (t_and (t_not (t_val (be (x_var (i := 6))))) (t_and1 (t_cmp o_le n_le (nb (x_op o_add n_add (nb (x_op o_add n_add (nb (x_call n_len (pe_callB c_len (by rfl) T.n_len bb_len (a_cons (x_var (i := 5)) a_nil)))) (nb x_int))) (nb (x_call n_len (pe_callB c_len (by rfl) T.n_len bb_len (a_cons (x_var (i := 7)) a_nil)))))) (x_var (i := 1)) (nomark _)))))
    (m_one (m_set (i := 5) (ne (x_op o_add n_add (nb (x_op o_add n_add (x_var (i := 5)) (nb x_str))) (x_var (i := 7)))) sc.nd))
    (m_cons (m_if (t_not (t_val (be (x_var (i := 6)))))
    (m_cons (m_expr (e_append (i := 4) (pe_bm PySem.F.plainAttrs_list PySem.F.slot_list_append PySem.F.type_list_append mt_append (pv 4) (ae_cons (be (x_var (i := 5))) ae_nil))))
    (m_one (m_set (i := 5) (be (x_var (i := 3))) sc.nd)))
    m_nil)
    (m_cons (m_for (w_rng1 (by rfl) T.n_range (ae_cons (ne (x_call n_len (pe_callB c_len (by rfl) T.n_len bb_len (a_cons (x_var (i := 7)) a_nil)))) ae_nil) (lec len0)) (g_name (i := 8) sc.nd)
    (m_one (m_if (t_cmp o_gt n_gt (nb (x_op o_add n_add (nb (x_call n_len (pe_callB c_len (by rfl) T.n_len bb_len (a_cons (x_var (i := 5)) a_nil)))) (nb (x_call n_len (pe_callB c_len (by rfl) T.n_len bb_len (a_cons (x_var (i := 7)) a_nil)))))) (x_var (i := 1)) (nomark _))
    (m_cons (m_set (i := 9) (ne (x_op op_sub n_sub (x_var (i := 1)) (nb (x_call n_len (pe_callB c_len (by rfl) T.n_len bb_len (a_cons (x_var (i := 5)) a_nil)))))) sc.nd)
    (m_cons (m_expr (e_append (i := 4) (pe_bm PySem.F.plainAttrs_list PySem.F.slot_list_append PySem.F.type_list_append mt_append (pv 4) (ae_cons (ne (x_op o_add n_add (x_var (i := 5)) (nb (x_cut (x_var (i := 7)) o_none (o_some (x_var (i := 9))))))) ae_nil))))
    (m_cons (m_set (i := 7) (ne (x_cut (x_var (i := 7)) (o_some (x_var (i := 9))) o_none)) sc.nd)
    (m_one (m_set (i := 5) (be (x_var (i := 3))) sc.nd)))))
    m_nil)) PassesOwn.never rfl)
    (m_cons (m_set (i := 5) (ne (x_op o_add n_add (x_var (i := 5)) (x_var (i := 7)))) sc.nd)
    (m_one (m_set (i := 6) (ne x_bl) sc.nd)))))))
    m_nil)) PassesOwn.never rfl)
    (m_cons (m_expr (e_append (i := 4) (pe_bm PySem.F.plainAttrs_list PySem.F.slot_list_append PySem.F.type_list_append mt_append (pv 4) (ae_cons (be (x_var (i := 5))) ae_nil))))
    (m_one (m_ret (e_frz (x_mv (i := 4)))))))))))
theorem ok__law_listed : Okd P w K mg base CX0 1 "_law_listed" (spN K 2 m__law_listed) := by
  have sc := sc__law_listed
  exact okd T.d__law_listed sc rfl rfl (fun f cdv A outer s H E hr => by
    have hu5 : (A.deeper (PyProof.Rows.envOfC "_law_listed" (defScope s__law_listed) s.heap.objs.size f cdv)).units + 65 < cLine := by
      have h := hr.units
      have h2 := hr.un
      omega
    have hu := hr.units
    have hu1 : (A.deeper (PyProof.Rows.envOfC "_law_listed" (defScope s__law_listed) s.heap.objs.size f cdv)).units + 1 < cLine := Nat.lt_of_le_of_lt (Nat.add_le_add_left (by decide) _) hu
    exact (m_cons (m_set (i := 2) (ne x_str) sc.nd)
    (m_cons (m_if (t_cmp (op_eqD hu) n_eq (x_ix (x_var (i := 1)) (nb x_int)) (nb x_str) (nomark _))
    (m_one (m_set (i := 2) (ne (x_op o_add n_add (nb x_str) (x_ix (x_var (i := 1)) (nb x_int)))) sc.nd))
    m_nil)
    (m_one (m_ret (e_frz (e_comp (own := [("k", 3)]) (w_rng1 (by rfl) T.n_range (ae_cons (ne (x_call n_len (pe_callB c_len (by rfl) T.n_len bb_len (a_cons (x_var (i := 0)) a_nil)))) ae_nil) (lec len0)) rfl sc.nd (blkOk_by (N := N__law_listed) (sc := defScope s__law_listed) (by decide +kernel)) (fun _ _ _ _ _ => (g_name (i := 3) sc.nd)) (fun _ _ _ _ _ => (ts_one (t_cmp (op_eqD hu) n_eq (x_ix (x_ix (x_var (i := 0)) (x_var (i := 3))) (nb x_int)) (x_var (i := 2)) (nomark _)))) (fun _ _ _ _ _ => (be (x_var (i := 3)))))))))))
theorem ok__law_gap : Okd P w K mg base CX0 1 "_law_gap" (spN K 2 m__law_gap) := by
  have sc := sc__law_gap
  exact okd T.d__law_gap sc rfl rfl (fun f cdv A outer s H E hr => by
    have hu5 : (A.deeper (PyProof.Rows.envOfC "_law_gap" (defScope s__law_gap) s.heap.objs.size f cdv)).units + 65 < cLine := by
      have h := hr.units
      have h2 := hr.un
      omega
    have hu := hr.units
    have hu1 : (A.deeper (PyProof.Rows.envOfC "_law_gap" (defScope s__law_gap) s.heap.objs.size f cdv)).units + 1 < cLine := Nat.lt_of_le_of_lt (Nat.add_le_add_left (by decide) _) hu
    exact (m_one (m_ret (ne (x_call n_int (pe_callTy c_int (by rfl) T.n_int bb_int (a_cons (nb (x_or (nb (x_cmp (op_neD hu) n_ne (x_ix (x_var (i := 0)) (nb x_int)) (x_ix (x_var (i := 1)) (nb x_int)) (nomark _))) (x_one (nb (x_and (nb (x_cmp (op_neD hu) n_ne (x_ix (x_var (i := 0)) (nb x_int)) (nb x_str) (nomark _))) (x_one (nb (x_cmp (op_neD hu) n_ne (x_ix (x_var (i := 0)) (nb x_int)) (nb x_str) (nomark _))))))))) a_nil)))))))
theorem ok__law_sheets : Okd P w K mg base CX0 1 "_law_sheets" (spN K 4 m__law_sheets) := by
  have sc := sc__law_sheets
  exact okd T.d__law_sheets sc rfl rfl (fun f cdv A outer s H E hr => by
    have hu5 : (A.deeper (PyProof.Rows.envOfC "_law_sheets" (defScope s__law_sheets) s.heap.objs.size f cdv)).units + 65 < cLine := by
      have h := hr.units
      have h2 := hr.un
      omega
    have hu := hr.units
    have hu1 : (A.deeper (PyProof.Rows.envOfC "_law_sheets" (defScope s__law_sheets) s.heap.objs.size f cdv)).units + 1 < cLine := Nat.lt_of_le_of_lt (Nat.add_le_add_left (by decide) _) hu
    exact (m_cons (m_set (i := 4) (ne (x_lst a_nil)) sc.nd)
    (m_cons (m_for (w_rng1 (by rfl) T.n_range (ae_cons (ne (x_call n_len (pe_callB c_len (by rfl) T.n_len bb_len (a_cons (x_var (i := 0)) a_nil)))) ae_nil) (lec len0)) (g_name (i := 5) sc.nd)
    (m_cons (m_asg (be (x_ix (x_var (i := 1)) (x_var (i := 5)))) (g_tup rfl (gs_cons (i := 6) sc.nd (gs_cons (i := 7) sc.nd gs_nil))))
    (m_cons (m_set (i := 8) (be (x_ix (x_var (i := 2)) (x_var (i := 5)))) sc.nd)
    (m_one (m_for (w_rng1 (by rfl) T.n_range (ae_cons (ne (x_call n_len (pe_callB c_len (by rfl) T.n_len bb_len (a_cons (x_var (i := 8)) a_nil)))) ae_nil) (lec len0)) (g_name (i := 9) sc.nd)
    (m_cons (m_set (i := 10) (ne (x_op o_add n_add (x_var (i := 7)) (x_var (i := 9)))) sc.nd)
    (m_cons (m_set (i := 11) (ne (x_op o_add n_add (nb (x_op op_sub n_sub (x_var (i := 6)) (nb x_int))) (nb (x_op op_fdiv n_div (x_var (i := 10)) (x_var (i := 3)))))) sc.nd)
    (m_cons (m_for (w_rng1 (by rfl) T.n_range (ae_cons (ne (x_op op_sub n_sub (nb (x_op o_add n_add (x_var (i := 11)) (nb x_int))) (nb (x_call n_len (pe_callB c_len (by rfl) T.n_len bb_len (a_cons (x_var (i := 4)) a_nil)))))) ae_nil) (lec len0)) (g_name (i := 12) sc.nd)
    (m_one (m_expr (e_append (i := 4) (pe_bm PySem.F.plainAttrs_list PySem.F.slot_list_append PySem.F.type_list_append mt_append (pv 4) (ae_cons (ne (x_lst a_nil)) ae_nil))))) PassesOwn.never rfl)
    (m_bor (i := 4) (j := 13) (p_ix (p_name (i := 4)) (x_var (i := 11)))
    (m_cons (m_if (t_cmp o_lt n_lt (nb (x_call n_len (pe_callB c_len (by rfl) T.n_len bb_len (a_cons (x_var (i := 13)) a_nil)))) (nb (x_op op_sub n_sub (x_var (i := 10)) (nb (x_op o_mul n_mul (nb (x_op op_fdiv n_div (x_var (i := 10)) (x_var (i := 3)))) (x_var (i := 3)))))) (nomark _))
    (m_one (m_expr (e_append (i := 13) (pe_bm PySem.F.plainAttrs_list PySem.F.slot_list_append PySem.F.type_list_append mt_append (pv 13) (ae_cons (ne x_str) ae_nil)))))
    m_nil)
    (m_one (m_expr (e_append (i := 13) (pe_bm PySem.F.plainAttrs_list PySem.F.slot_list_append PySem.F.type_list_append mt_append (pv 13) (ae_cons (be (x_ix (x_var (i := 8)) (x_var (i := 9)))) ae_nil)))))) sc.nd)))) PassesOwn.never rfl)))) PassesOwn.never rfl)
    (m_one (m_lock (i := 4) (m_ret (e_call n_tuple (pe_callTy call_tuple_of (by rfl) T.n_tuple bb_tuple (ae_cons (e_comp (own := [("sheet", 11)]) (w_val (be (x_var (i := 4)))) rfl sc.nd (blkOk_by (N := N__law_sheets) (sc := defScope s__law_sheets) (by decide +kernel)) (fun _ _ _ _ _ => (g_name (i := 11) sc.nd)) (fun _ _ _ _ _ => ts_nil) (fun _ _ _ _ _ => (ne (x_call n_tuple (pe_callTy call_tuple_of (by rfl) T.n_tuple bb_tuple (a_cons (x_var (i := 11)) a_nil)))))) ae_nil)))))))))
theorem ok_listing_texts (o_wrap : Okd P w K mg base (L2.CX P w) 1 "wrap" (spN K 4 m_wrap)) : Okd P w K mg base CX0 2 "listing_texts" (spN K 2 m_listing_texts) := by
  have sc := sc_listing_texts
  exact okd T.d_listing_texts sc rfl rfl (fun f cdv A outer s H E hr => by
    have hu5 : (A.deeper (PyProof.Rows.envOfC "listing_texts" (defScope s_listing_texts) s.heap.objs.size f cdv)).units + 65 < cLine := by
      have h := hr.units
      have h2 := hr.un
      omega
    have hu := hr.units
    have hu1 : (A.deeper (PyProof.Rows.envOfC "listing_texts" (defScope s_listing_texts) s.heap.objs.size f cdv)).units + 1 < cLine := Nat.lt_of_le_of_lt (Nat.add_le_add_left (by decide) _) hu
    exact (m_one (m_ret (e_call n_tuple (pe_callTy call_tuple_of (by rfl) T.n_tuple bb_tuple (ae_cons (e_comp (own := [("number", 2), ("shown", 3)]) (w_val (be (x_var (i := 0)))) rfl sc.nd (blkOk_by (N := N_listing_texts) (sc := defScope s_listing_texts) (by decide +kernel)) (fun _ _ _ _ _ => (g_tup rfl (gs_cons (i := 2) sc.nd (gs_cons (i := 3) sc.nd gs_nil)))) (fun _ _ _ _ _ => ts_nil) (fun _ _ _ _ _ => (ne (xdX o_wrap hr takes_no (lc (lc (lc (lc (fun _ _ => ln))))) (a_cons (nb (x_op o_add n_add (nb (x_op o_add n_add (x_var (i := 2)) (nb x_str))) (x_var (i := 3)))) (a_cons (x_var (i := 1)) (a_cons (nb x_str) (a_cons (nb x_str) a_nil)))))))) ae_nil))))))
theorem ok_is_listing (o_is_fault : Okd P w K mg base CX0 1 "is_fault" (spN K 1 m_is_fault)) : Okd P w K mg base CX0 2 "is_listing" (spN K 1 m_is_listing) := by
  have sc := sc_is_listing
  exact okd T.d_is_listing sc rfl rfl (fun f cdv A outer s H E hr => by
    have hu5 : (A.deeper (PyProof.Rows.envOfC "is_listing" (defScope s_is_listing) s.heap.objs.size f cdv)).units + 65 < cLine := by
      have h := hr.units
      have h2 := hr.un
      omega
    have hu := hr.units
    have hu1 : (A.deeper (PyProof.Rows.envOfC "is_listing" (defScope s_is_listing) s.heap.objs.size f cdv)).units + 1 < cLine := Nat.lt_of_le_of_lt (Nat.add_le_add_left (by decide) _) hu
    exact (m_one (m_ret (ne (x_and (nb (x_not (nb (xd o_is_fault hr (lc (fun _ _ => ln)) (nx_is_fault) (a_cons (x_var (i := 0)) a_nil))))) (x_one (nb (x_or (nb (x_cmp (op_eqD hu) n_eq (x_ix (x_var (i := 0)) (nb x_int)) (nb x_str) (nomark _))) (x_one (nb (x_cmp (op_eqD hu) n_eq (x_ix (x_var (i := 0)) (nb x_int)) (nb x_str) (nomark _))))))))))))
theorem ok_para_kind (o_is_fault : Okd P w K mg base CX0 1 "is_fault" (spN K 1 m_is_fault)) : Okd P w K mg base CX0 2 "para_kind" (spN K 1 m_para_kind) := by
  have sc := sc_para_kind
  exact okd T.d_para_kind sc rfl rfl (fun f cdv A outer s H E hr => by
    have hu5 : (A.deeper (PyProof.Rows.envOfC "para_kind" (defScope s_para_kind) s.heap.objs.size f cdv)).units + 65 < cLine := by
      have h := hr.units
      have h2 := hr.un
      omega
    have hu := hr.units
    have hu1 : (A.deeper (PyProof.Rows.envOfC "para_kind" (defScope s_para_kind) s.heap.objs.size f cdv)).units + 1 < cLine := Nat.lt_of_le_of_lt (Nat.add_le_add_left (by decide) _) hu
    exact (m_cons (m_if (t_val (ne (xd o_is_fault hr (lc (fun _ _ => ln)) (nx_is_fault) (a_cons (x_var (i := 0)) a_nil))))
    (m_one (m_ret (ne (xc T.c_FAULT_KIND))))
    m_nil)
    (m_one (m_ret (be (x_ix (x_var (i := 0)) (nb x_int)))))))
theorem ok_check_width (o_is_count : Okd P w K mg base CX0 1 "is_count" (spN K 3 m_is_count)) : Okd P w K mg base (L2.CX P w) 2 "check_width" (spN K 1 m_check_width) := by
  have sc := sc_check_width
  exact okdX T.d_check_width sc rfl rfl (fun f cdv A outer s H E hr => by
    have hu5 : (A.deeper (PyProof.Rows.envOfC "check_width" (defScope s_check_width) s.heap.objs.size f cdv)).units + 65 < cLine := by
      have h := hr.units
      have h2 := hr.un
      omega
    have hu := hr.units
    have hu1 : (A.deeper (PyProof.Rows.envOfC "check_width" (defScope s_check_width) s.heap.objs.size f cdv)).units + 1 < cLine := Nat.lt_of_le_of_lt (Nat.add_le_add_left (by decide) _) hu
    exact (m_one (m_if (t_not (t_val (ne (xd o_is_count hr (lc (lc (lc (fun _ _ => ln)))) (nx_is_count) (a_cons (x_var (i := 0)) (a_cons (nb (xc T.c_WIDTH_LEAST)) (a_cons (nb (xc T.c_WIDTH_MOST)) a_nil)))))))
    (m_one (m_raise T.x_BadValue rfl (takes_of rfl rfl rfl rfl)))
    m_nil)))
theorem ok_needed_lines (o_gap_size : Okd P w K mg base CX0 1 "gap_size" (spN K 2 m_gap_size)) : Okd P w K mg base CX0 2 "needed_lines" (spN K 2 m_needed_lines) := by
  have sc := sc_needed_lines
  exact okd T.d_needed_lines sc rfl rfl (fun f cdv A outer s H E hr => by
    have hu5 : (A.deeper (PyProof.Rows.envOfC "needed_lines" (defScope s_needed_lines) s.heap.objs.size f cdv)).units + 65 < cLine := by
      have h := hr.units
      have h2 := hr.un
      omega
    have hu := hr.units
    have hu1 : (A.deeper (PyProof.Rows.envOfC "needed_lines" (defScope s_needed_lines) s.heap.objs.size f cdv)).units + 1 < cLine := Nat.lt_of_le_of_lt (Nat.add_le_add_left (by decide) _) hu
    exact (m_cons (m_set (i := 2) (ne (x_op o_add n_add (nb (xd o_gap_size hr (lc (lc (fun _ _ => ln))) (nx_gap_size) (a_cons (x_ix (x_var (i := 0)) (nb (x_op op_sub n_sub (x_var (i := 1)) (nb x_int)))) (a_cons (x_ix (x_var (i := 0)) (x_var (i := 1))) a_nil)))) (nb (x_call n_len (pe_callB c_len (by rfl) T.n_len bb_len (a_cons (x_ix (x_ix (x_var (i := 0)) (x_var (i := 1))) (nb x_int)) a_nil)))))) sc.nd)
    (m_cons (m_if (PW.pt (t_and (t_cmp (op_eqD hu) n_eq (x_ix (x_ix (x_var (i := 0)) (x_var (i := 1))) (nb x_int)) (nb x_str) (nomark _)) (t_and1 (t_cmp o_lt n_lt (nb (x_op o_add n_add (x_var (i := 1)) (nb x_int))) (nb (x_call n_len (pe_callB c_len (by rfl) T.n_len bb_len (a_cons (x_var (i := 0)) a_nil)))) (nomark _)))))
    (m_one (m_aug (i := 2) i_add n_aug (ne (x_op o_add n_add (nb (xd o_gap_size hr (lc (lc (fun _ _ => ln))) (nx_gap_size) (a_cons (x_ix (x_var (i := 0)) (x_var (i := 1))) (a_cons (x_ix (x_var (i := 0)) (nb (x_op o_add n_add (x_var (i := 1)) (nb x_int)))) a_nil)))) (nb x_int))) sc.nd))
    m_nil)
    (m_one (m_ret (be (x_var (i := 2))))))))
theorem ok_listed_numbers (o_is_fault : Okd P w K mg base CX0 1 "is_fault" (spN K 1 m_is_fault)) : Okd P w K mg base CX0 2 "listed_numbers" (spN K 2 m_listed_numbers) := by
  have sc := sc_listed_numbers
  exact okd T.d_listed_numbers sc rfl rfl (fun f cdv A outer s H E hr => by
    have hu5 : (A.deeper (PyProof.Rows.envOfC "listed_numbers" (defScope s_listed_numbers) s.heap.objs.size f cdv)).units + 65 < cLine := by
      have h := hr.units
      have h2 := hr.un
      omega
    have hu := hr.units
    have hu1 : (A.deeper (PyProof.Rows.envOfC "listed_numbers" (defScope s_listed_numbers) s.heap.objs.size f cdv)).units + 1 < cLine := Nat.lt_of_le_of_lt (Nat.add_le_add_left (by decide) _) hu
    exact (m_cons (m_set (i := 2) (ne x_str) sc.nd)
    (m_cons (m_if (t_cmp (op_eqD hu) n_eq (x_ix (x_var (i := 1)) (nb x_int)) (nb x_str) (nomark _))
    (m_one (m_set (i := 2) (ne (x_op o_add n_add (nb x_str) (x_ix (x_var (i := 1)) (nb x_int)))) sc.nd))
    m_nil)
    (m_one (m_ret (e_comp (own := [("at", 3)]) (w_rng1 (by rfl) T.n_range (ae_cons (ne (x_call n_len (pe_callB c_len (by rfl) T.n_len bb_len (a_cons (x_var (i := 0)) a_nil)))) ae_nil) (lec len0)) rfl sc.nd (blkOk_by (N := N_listed_numbers) (sc := defScope s_listed_numbers) (by decide +kernel)) (fun _ _ _ _ _ => (g_name (i := 3) sc.nd)) (fun _ _ _ _ _ => (ts_one (PW.pt (t_and (t_not (t_val (ne (xd o_is_fault hr (lc (fun _ _ => ln)) (nx_is_fault) (a_cons (x_ix (x_var (i := 0)) (x_var (i := 3))) a_nil))))) (t_and1 (t_cmp (op_eqD hu) n_eq (x_ix (x_ix (x_var (i := 0)) (x_var (i := 3))) (nb x_int)) (x_var (i := 2)) (nomark _))))))) (fun _ _ _ _ _ => (ne (x_op o_add n_add (x_var (i := 3)) (nb x_int))))))))))
theorem ok_with_page (o_pad_left : Okd P w K mg base CX0 1 "pad_left" (spN K 2 m_pad_left)) : Okd P w K mg base CX0 2 "with_page" (spN K 3 m_with_page) := by
  have sc := sc_with_page
  exact okd T.d_with_page sc rfl rfl (fun f cdv A outer s H E hr => by
    have hu5 : (A.deeper (PyProof.Rows.envOfC "with_page" (defScope s_with_page) s.heap.objs.size f cdv)).units + 65 < cLine := by
      have h := hr.units
      have h2 := hr.un
      omega
    have hu := hr.units
    have hu1 : (A.deeper (PyProof.Rows.envOfC "with_page" (defScope s_with_page) s.heap.objs.size f cdv)).units + 1 < cLine := Nat.lt_of_le_of_lt (Nat.add_le_add_left (by decide) _) hu
    exact (m_cons (m_set (i := 3) (ne (x_op o_add n_add (nb (x_op o_add n_add (x_ix (x_var (i := 0)) (nb x_int)) (nb (x_op o_mul n_mul (nb x_str) (nb (x_op op_sub n_sub (nb (x_op op_sub n_sub (x_var (i := 2)) (nb (xc T.c_PAGE_COLUMNS)))) (nb (x_call n_len (pe_callB c_len (by rfl) T.n_len bb_len (a_cons (x_ix (x_var (i := 0)) (nb x_int)) a_nil)))))))))) (nb (xd o_pad_left hr (lc (lc (fun _ _ => ln))) (nx_pad_left) (a_cons (nb (x_call n_str (pe_callTy c_str (by rfl) T.n_str bb_str (a_cons (x_var (i := 1)) a_nil)))) (a_cons (nb (xc T.c_PAGE_COLUMNS)) a_nil)))))) sc.nd)
    (m_one (m_ret (ne (x_op o_add n_add (nb (x_tup (a_cons (x_var (i := 3)) a_nil))) (nb (x_cut (x_var (i := 0)) (o_some (nb x_int)) o_none))))))))
theorem ok__law_words (o__law_take : Okd P w K mg base CX0 1 "_law_take" (spI K 2 m__law_take)) : Okd P w K mg base CX0 2 "_law_words" (spI K 2 m__law_words) := by
  have sc := sc__law_words
  exact okdI (Z := (fun i => i == 0)) T.d__law_words sc rfl rfl (fun f cdv A outer s H E hr => by
    have hu5 : (A.deeper (PyProof.Rows.envOfC "_law_words" (defScope s__law_words) s.heap.objs.size f cdv)).units + 65 < cLine := by
      have h := hr.units
      have h2 := hr.un
      omega
    have hu := hr.units
    have hu1 : (A.deeper (PyProof.Rows.envOfC "_law_words" (defScope s__law_words) s.heap.objs.size f cdv)).units + 1 < cLine := Nat.lt_of_le_of_lt (Nat.add_le_add_left (by decide) _) hu
    exact (m_cons (m_set (i := 2) (ne x_str) sc.nd)
    (m_cons (m_for (w_rng1 (by rfl) T.n_range (ae_cons (ei (ks := [0]) (n := 2) o__law_take hr (by decide) (fun e ds e1 h => by have := (lec len0) e ds e1 h; simp [this]) (nx__law_take) (av_cons (i := 0) (ae_cons (be (x_var (i := 1))) ae_nil))) ae_nil) (lec len0)) (g_name (i := 3) sc.nd)
    (m_cons (m_set (i := 4) (e_op o_add n_add (ne x_int) (ei (ks := [0]) (n := 2) o__law_take hr (by decide) (fun e ds e1 h => by have := (lec len0) e ds e1 h; simp [this]) (nx__law_take) (av_cons (i := 0) (ae_cons (ne x_int) ae_nil)))) sc.nd)
    (m_cons (m_if (te_cmp (op_eqD hu) n_eq (ei (ks := [0]) (n := 2) o__law_take hr (by decide) (fun e ds e1 h => by have := (lec len0) e ds e1 h; simp [this]) (nx__law_take) (av_cons (i := 0) (ae_cons (ne x_int) ae_nil))) (ne x_int) (nomark _))
    (m_one (m_set (i := 4) (e_op o_add n_add (ne x_int) (ei (ks := [0]) (n := 2) o__law_take hr (by decide) (fun e ds e1 h => by have := (lec len0) e ds e1 h; simp [this]) (nx__law_take) (av_cons (i := 0) (ae_cons (ne x_int) ae_nil)))) sc.nd))
    m_nil)
    (m_one (m_set (i := 2) (e_op o_add n_add (v_op (i := 2) o_add n_add (e_op o_mul n_mul (e_ix (ne x_str) (ei (ks := [0]) (n := 2) o__law_take hr (by decide) (fun e ds e1 h => by have := (lec len0) e ds e1 h; simp [this]) (nx__law_take) (av_cons (i := 0) (ae_cons (ne x_int) ae_nil)))) (be (x_var (i := 4))))) (e_op o_mul n_mul (ne x_str) (e_op o_add n_add (ne x_int) (e_op op_fdiv n_div (ei (ks := [0]) (n := 2) o__law_take hr (by decide) (fun e ds e1 h => by have := (lec len0) e ds e1 h; simp [this]) (nx__law_take) (av_cons (i := 0) (ae_cons (ne x_int) ae_nil))) (ne x_int))))) sc.nd)))) PassesOwn.never rfl)
    (m_one (m_ret (be (x_var (i := 2))))))))
theorem ok__law_texts (o__law_wrap : Okd P w K mg base CX0 1 "_law_wrap" (spN K 4 m__law_wrap)) : Okd P w K mg base CX0 2 "_law_texts" (spN K 2 m__law_texts) := by
  have sc := sc__law_texts
  exact okd T.d__law_texts sc rfl rfl (fun f cdv A outer s H E hr => by
    have hu5 : (A.deeper (PyProof.Rows.envOfC "_law_texts" (defScope s__law_texts) s.heap.objs.size f cdv)).units + 65 < cLine := by
      have h := hr.units
      have h2 := hr.un
      omega
    have hu := hr.units
    have hu1 : (A.deeper (PyProof.Rows.envOfC "_law_texts" (defScope s__law_texts) s.heap.objs.size f cdv)).units + 1 < cLine := Nat.lt_of_le_of_lt (Nat.add_le_add_left (by decide) _) hu
    exact (m_one (m_ret (e_frz (e_comp (own := [("number", 2), ("shown", 3)]) (w_val (be (x_ix (x_var (i := 0)) (nb x_int)))) rfl sc.nd (blkOk_by (N := N__law_texts) (sc := defScope s__law_texts) (by decide +kernel)) (fun _ _ _ _ _ => (g_tup rfl (gs_cons (i := 2) sc.nd (gs_cons (i := 3) sc.nd gs_nil)))) (fun _ _ _ _ _ => ts_nil) (fun _ _ _ _ _ => (ne (xd o__law_wrap hr (lc (lc (lc (lc (fun _ _ => ln))))) (nx__law_wrap) (a_cons (nb (x_op o_add n_add (nb (x_op o_add n_add (x_var (i := 2)) (nb x_str))) (x_var (i := 3)))) (a_cons (nb (x_op op_sub n_sub (x_var (i := 1)) (nb x_int))) (a_cons (nb x_str) (a_cons (nb x_str) a_nil))))))))))))
theorem ok__law_put (o__law_gap : Okd P w K mg base CX0 1 "_law_gap" (spN K 2 m__law_gap)) : Okd P w K mg base CX0 2 "_law_put" (spN K 2 m__law_put) := by
  have sc := sc__law_put
  exact okd T.d__law_put sc rfl rfl (fun f cdv A outer s H E hr => by
    have hu5 : (A.deeper (PyProof.Rows.envOfC "_law_put" (defScope s__law_put) s.heap.objs.size f cdv)).units + 65 < cLine := by
      have h := hr.units
      have h2 := hr.un
      omega
    have hu := hr.units
    have hu1 : (A.deeper (PyProof.Rows.envOfC "_law_put" (defScope s__law_put) s.heap.objs.size f cdv)).units + 1 < cLine := Nat.lt_of_le_of_lt (Nat.add_le_add_left (by decide) _) hu
    exact (m_cons (m_set (i := 2) (ne (x_lst a_nil)) sc.nd)
    (m_cons (m_set (i := 3) (ne x_int) sc.nd)
    (m_cons (m_set (i := 4) (ne x_int) sc.nd)
    (m_cons (m_for (w_rng1 (by rfl) T.n_range (ae_cons (ne (x_call n_len (pe_callB c_len (by rfl) T.n_len bb_len (a_cons (x_var (i := 0)) a_nil)))) ae_nil) (lec len0)) (g_name (i := 5) sc.nd)
    (m_cons (m_set (i := 6) (ne (x_call n_len (pe_callB c_len (by rfl) T.n_len bb_len (a_cons (x_ix (x_ix (x_var (i := 0)) (x_var (i := 5))) (nb x_int)) a_nil)))) sc.nd)
    (m_cons (m_set (i := 7) (be (x_var (i := 6))) sc.nd)
    (m_cons (m_set (i := 8) (ne x_int) sc.nd)
    (m_cons (m_if (t_cmp o_gt n_gt (x_var (i := 5)) (nb x_int) (nomark _))
    (m_cons (m_set (i := 8) (ne (xd o__law_gap hr (lc (lc (fun _ _ => ln))) (nx__law_gap) (a_cons (x_ix (x_var (i := 0)) (nb (x_op op_sub n_sub (x_var (i := 5)) (nb x_int)))) (a_cons (x_ix (x_var (i := 0)) (x_var (i := 5))) a_nil)))) sc.nd)
    (m_cons (m_set (i := 7) (ne (x_op o_add n_add (x_var (i := 8)) (x_var (i := 6)))) sc.nd)
    (m_cons (m_if (PW.pt (t_and (t_cmp (op_eqD hu) n_eq (x_ix (x_ix (x_var (i := 0)) (x_var (i := 5))) (nb x_int)) (nb x_str) (nomark _)) (t_and1 (t_cmp o_lt n_lt (nb (x_op o_add n_add (x_var (i := 5)) (nb x_int))) (nb (x_call n_len (pe_callB c_len (by rfl) T.n_len bb_len (a_cons (x_var (i := 0)) a_nil)))) (nomark _)))))
    (m_one (m_set (i := 7) (ne (x_op o_add n_add (nb (x_op o_add n_add (x_var (i := 7)) (nb (xd o__law_gap hr (lc (lc (fun _ _ => ln))) (nx__law_gap) (a_cons (x_ix (x_var (i := 0)) (x_var (i := 5))) (a_cons (x_ix (x_var (i := 0)) (nb (x_op o_add n_add (x_var (i := 5)) (nb x_int)))) a_nil)))))) (nb x_int))) sc.nd))
    m_nil)
    (m_one (m_if (PW.pt (t_or (t_cmp o_gt n_gt (x_var (i := 6)) (x_var (i := 1)) (nomark _)) (t_or1 (t_cmp o_gt n_gt (nb (x_op o_add n_add (x_var (i := 4)) (x_var (i := 7)))) (x_var (i := 1)) (nomark _)))))
    (m_cons (m_set (i := 3) (ne (x_op o_add n_add (x_var (i := 3)) (nb x_int))) sc.nd)
    (m_cons (m_set (i := 4) (ne x_int) sc.nd)
    (m_one (m_set (i := 8) (ne x_int) sc.nd))))
    m_nil)))))
    m_nil)
    (m_cons (m_expr (e_append (i := 2) (pe_bm PySem.F.plainAttrs_list PySem.F.slot_list_append PySem.F.type_list_append mt_append (pv 2) (ae_cons (ne (x_tup (a_cons (x_var (i := 3)) (a_cons (nb (x_op o_add n_add (x_var (i := 4)) (x_var (i := 8)))) a_nil)))) ae_nil))))
    (m_cons (m_set (i := 4) (ne (x_op o_add n_add (nb (x_op o_add n_add (x_var (i := 4)) (x_var (i := 8)))) (x_var (i := 6)))) sc.nd)
    (m_one (m_for (w_rng1 (by rfl) T.n_range (ae_cons (be (x_var (i := 6))) ae_nil) (lec len0)) (g_name (i := 9) sc.nd)
    (m_one (m_if (t_cmp o_gt n_gt (x_var (i := 4)) (x_var (i := 1)) (nomark _))
    (m_cons (m_set (i := 4) (ne (x_op op_sub n_sub (x_var (i := 4)) (x_var (i := 1)))) sc.nd)
    (m_one (m_set (i := 3) (ne (x_op o_add n_add (x_var (i := 3)) (nb x_int))) sc.nd)))
    m_nil)) PassesOwn.never rfl)))))))) PassesOwn.never rfl)
    (m_one (m_ret (e_frz (x_mv (i := 2))))))))))
theorem ok_para_lines (o_is_fault : Okd P w K mg base CX0 1 "is_fault" (spN K 1 m_is_fault)) (o_is_listing : Okd P w K mg base CX0 2 "is_listing" (spN K 1 m_is_listing)) (o_joined_lines : Okd P w K mg base CX0 1 "joined_lines" (spN K 1 m_joined_lines)) (o_listing_texts : Okd P w K mg base CX0 2 "listing_texts" (spN K 2 m_listing_texts)) (o_show_value : Okd P w K mg base CX0 1 "show_value" (spN K 1 m_show_value)) (o_wrap : Okd P w K mg base (L2.CX P w) 1 "wrap" (spN K 4 m_wrap)) : Okd P w K mg base CX0 3 "para_lines" (spN K 3 m_para_lines) := by
  have sc := sc_para_lines
  exact okd T.d_para_lines sc rfl rfl (fun f cdv A outer s H E hr => by
    have hu5 : (A.deeper (PyProof.Rows.envOfC "para_lines" (defScope s_para_lines) s.heap.objs.size f cdv)).units + 65 < cLine := by
      have h := hr.units
      have h2 := hr.un
      omega
    have hu := hr.units
    have hu1 : (A.deeper (PyProof.Rows.envOfC "para_lines" (defScope s_para_lines) s.heap.objs.size f cdv)).units + 1 < cLine := Nat.lt_of_le_of_lt (Nat.add_le_add_left (by decide) _) hu
    exact (m_cons (m_if (t_val (ne (xd o_is_fault hr (lc (fun _ _ => ln)) (nx_is_fault) (a_cons (x_var (i := 0)) a_nil))))
    (m_one (m_ret (ne (xdX o_wrap hr takes_no (lc (lc (lc (lc (fun _ _ => ln))))) (a_cons (nb (xd o_show_value hr (lc (fun _ _ => ln)) (nx_show_value) (a_cons (x_var (i := 0)) a_nil))) (a_cons (x_var (i := 1)) (a_cons (nb x_str) (a_cons (nb x_str) a_nil))))))))
    m_nil)
    (m_cons (m_asg (be (x_var (i := 0))) (g_tup rfl (gs_cons (i := 3) sc.nd (gs_cons (i := 4) sc.nd (gs_cons (i := 3) sc.nd (gs_cons (i := 5) sc.nd (gs_cons (i := 6) sc.nd gs_nil)))))))
    (m_cons (m_if (t_val (ne (xd o_is_listing hr (lc (fun _ _ => ln)) (nx_is_listing) (a_cons (x_var (i := 0)) a_nil))))
    (m_one (m_ret (ne (xd o_joined_lines hr (lc (fun _ _ => ln)) (nx_joined_lines) (a_cons (nb (xd o_listing_texts hr (lc (lc (fun _ _ => ln))) (nx_listing_texts) (a_cons (x_var (i := 6)) (a_cons (x_var (i := 2)) a_nil)))) a_nil)))))
    m_nil)
    (m_cons (m_if (t_cmp (op_eqD hu) n_eq (x_var (i := 4)) (nb x_str) (nomark _))
    (m_one (m_ret (ne (xdX o_wrap hr takes_no (lc (lc (lc (lc (fun _ _ => ln))))) (a_cons (nb (x_op o_add n_add (nb (x_op o_add n_add (x_var (i := 5)) (nb x_str))) (x_var (i := 6)))) (a_cons (x_var (i := 1)) (a_cons (nb x_str) (a_cons (nb x_str) a_nil))))))))
    m_nil)
    (m_cons (m_if (t_cmp (op_eqD hu) n_eq (x_var (i := 4)) (nb x_str) (nomark _))
    (m_one (m_ret (ne (xdX o_wrap hr takes_no (lc (lc (lc (lc (fun _ _ => ln))))) (a_cons (x_var (i := 6)) (a_cons (x_var (i := 1)) (a_cons (nb x_str) (a_cons (nb x_str) a_nil))))))))
    m_nil)
    (m_cons (m_if (t_cmp (op_eqD hu) n_eq (x_var (i := 4)) (nb x_str) (nomark _))
    (m_one (m_ret (ne (xdX o_wrap hr takes_no (lc (lc (lc (lc (fun _ _ => ln))))) (a_cons (x_var (i := 6)) (a_cons (x_var (i := 1)) (a_cons (nb (x_op o_add n_add (x_var (i := 5)) (nb x_str))) (a_cons (nb x_str) a_nil))))))))
    m_nil)
    (m_cons (m_if (t_val (ne (xs_startswith (x_var (i := 4)) (nb x_str))))
    (m_one (m_ret (ne (xdX o_wrap hr takes_no (lc (lc (lc (lc (fun _ _ => ln))))) (a_cons (nb (x_op o_add n_add (nb (x_op o_add n_add (nb (x_op o_add n_add (nb (x_op o_add n_add (nb (x_cut (x_var (i := 4)) (o_some (nb x_int)) o_none)) (nb x_str))) (x_var (i := 5)))) (nb x_str))) (x_var (i := 6)))) (a_cons (x_var (i := 1)) (a_cons (nb x_str) (a_cons (nb x_str) a_nil))))))))
    m_nil)
    (m_one (m_ret (ne (xdX o_wrap hr takes_no (lc (lc (lc (lc (fun _ _ => ln))))) (a_cons (x_var (i := 6)) (a_cons (x_var (i := 1)) (a_cons (nb x_str) (a_cons (nb x_str) a_nil))))))))))))))))
theorem ok_check_size (o_check_width : Okd P w K mg base (L2.CX P w) 2 "check_width" (spN K 1 m_check_width)) (o_is_count : Okd P w K mg base CX0 1 "is_count" (spN K 3 m_is_count)) : Okd P w K mg base (L2.CX P w) 3 "check_size" (spN K 2 m_check_size) := by
  have sc := sc_check_size
  exact okdX T.d_check_size sc rfl rfl (fun f cdv A outer s H E hr => by
    have hu5 : (A.deeper (PyProof.Rows.envOfC "check_size" (defScope s_check_size) s.heap.objs.size f cdv)).units + 65 < cLine := by
      have h := hr.units
      have h2 := hr.un
      omega
    have hu := hr.units
    have hu1 : (A.deeper (PyProof.Rows.envOfC "check_size" (defScope s_check_size) s.heap.objs.size f cdv)).units + 1 < cLine := Nat.lt_of_le_of_lt (Nat.add_le_add_left (by decide) _) hu
    exact (m_cons (m_expr (ne (xdX o_check_width hr (takes_of rfl rfl rfl rfl) (lc (fun _ _ => ln)) (a_cons (x_var (i := 0)) a_nil))))
    (m_one (m_if (t_not (t_val (ne (xd o_is_count hr (lc (lc (lc (fun _ _ => ln)))) (nx_is_count) (a_cons (x_var (i := 1)) (a_cons (nb (xc T.c_HEIGHT_LEAST)) (a_cons (nb (xc T.c_HEIGHT_MOST)) a_nil)))))))
    (m_one (m_raise T.x_BadValue rfl (takes_of rfl rfl rfl rfl)))
    m_nil))))
theorem ok_block_starts (o_gap_size : Okd P w K mg base CX0 1 "gap_size" (spN K 2 m_gap_size)) (o_needed_lines : Okd P w K mg base CX0 2 "needed_lines" (spN K 2 m_needed_lines)) : Okd P w K mg base CX0 3 "block_starts" (spN K 2 m_block_starts) := by
  have sc := sc_block_starts
  exact okd T.d_block_starts sc rfl rfl (fun f cdv A outer s H E hr => by
    have hu5 : (A.deeper (PyProof.Rows.envOfC "block_starts" (defScope s_block_starts) s.heap.objs.size f cdv)).units + 65 < cLine := by
      have h := hr.units
      have h2 := hr.un
      omega
    have hu := hr.units
    have hu1 : (A.deeper (PyProof.Rows.envOfC "block_starts" (defScope s_block_starts) s.heap.objs.size f cdv)).units + 1 < cLine := Nat.lt_of_le_of_lt (Nat.add_le_add_left (by decide) _) hu
    exact (m_cons (m_set (i := 2) (ne (x_lst a_nil)) sc.nd)
    (m_cons (m_set (i := 3) (ne x_int) sc.nd)
    (m_cons (m_set (i := 4) (ne x_int) sc.nd)
    (m_cons (m_for (w_rng1 (by rfl) T.n_range (ae_cons (ne (x_call n_len (pe_callB c_len (by rfl) T.n_len bb_len (a_cons (x_var (i := 0)) a_nil)))) ae_nil) (lec len0)) (g_name (i := 5) sc.nd)
    (m_cons (m_set (i := 6) (ne (x_call n_len (pe_callB c_len (by rfl) T.n_len bb_len (a_cons (x_ix (x_ix (x_var (i := 0)) (x_var (i := 5))) (nb x_int)) a_nil)))) sc.nd)
    (m_cons (m_set (i := 7) (ne x_int) sc.nd)
    (m_cons (m_if (t_cmp o_gt n_gt (x_var (i := 5)) (nb x_int) (nomark _))
    (m_one (m_if (PW.pt (t_and (t_cmp o_le n_le (x_var (i := 6)) (x_var (i := 1)) (nomark _)) (t_and1 (t_cmp o_le n_le (nb (x_op o_add n_add (x_var (i := 4)) (nb (xd o_needed_lines hr (lc (lc (fun _ _ => ln))) (nx_needed_lines) (a_cons (x_var (i := 0)) (a_cons (x_var (i := 5)) a_nil)))))) (x_var (i := 1)) (nomark _)))))
    (m_one (m_set (i := 7) (ne (x_op o_add n_add (x_var (i := 4)) (nb (xd o_gap_size hr (lc (lc (fun _ _ => ln))) (nx_gap_size) (a_cons (x_ix (x_var (i := 0)) (nb (x_op op_sub n_sub (x_var (i := 5)) (nb x_int)))) (a_cons (x_ix (x_var (i := 0)) (x_var (i := 5))) a_nil)))))) sc.nd))
    (m_one (m_aug (i := 3) i_add n_aug (ne x_int) sc.nd))))
    m_nil)
    (m_cons (m_expr (e_append (i := 2) (pe_bm PySem.F.plainAttrs_list PySem.F.slot_list_append PySem.F.type_list_append mt_append (pv 2) (ae_cons (ne (x_tup (a_cons (x_var (i := 3)) (a_cons (x_var (i := 7)) a_nil)))) ae_nil))))
    (m_cons (m_asg (ne (x_call n_divmod (pe_callB call_divmod (by rfl) T.n_divmod bb_divmod (a_cons (nb (x_op op_sub n_sub (nb (x_op o_add n_add (x_var (i := 7)) (x_var (i := 6)))) (nb x_int))) (a_cons (x_var (i := 1)) a_nil))))) (g_tup rfl (gs_cons (i := 8) sc.nd (gs_cons (i := 9) sc.nd gs_nil))))
    (m_cons (m_aug (i := 3) i_add n_aug (be (x_var (i := 8))) sc.nd)
    (m_one (m_set (i := 4) (ne (x_op o_add n_add (x_var (i := 9)) (nb x_int))) sc.nd)))))))) PassesOwn.never rfl)
    (m_one (m_ret (ne (x_call n_tuple (pe_callTy call_tuple_of (by rfl) T.n_tuple bb_tuple (a_cons (x_var (i := 2)) a_nil)))))))))))
theorem ok_printed_listing (o_joined_lines : Okd P w K mg base CX0 1 "joined_lines" (spN K 1 m_joined_lines)) (o_listed_numbers : Okd P w K mg base CX0 2 "listed_numbers" (spN K 2 m_listed_numbers)) (o_listing_texts : Okd P w K mg base CX0 2 "listing_texts" (spN K 2 m_listing_texts)) (o_with_page : Okd P w K mg base CX0 2 "with_page" (spN K 3 m_with_page)) : Okd P w K mg base CX0 3 "printed_listing" (spN K 4 m_printed_listing) := by
  have sc := sc_printed_listing
  exact okd T.d_printed_listing sc rfl rfl (fun f cdv A outer s H E hr => by
    have hu5 : (A.deeper (PyProof.Rows.envOfC "printed_listing" (defScope s_printed_listing) s.heap.objs.size f cdv)).units + 65 < cLine := by
      have h := hr.units
      have h2 := hr.un
      omega
    have hu := hr.units
    have hu1 : (A.deeper (PyProof.Rows.envOfC "printed_listing" (defScope s_printed_listing) s.heap.objs.size f cdv)).units + 1 < cLine := Nat.lt_of_le_of_lt (Nat.add_le_add_left (by decide) _) hu
    exact (m_cons (m_set (i := 4) (ne (xd o_listing_texts hr (lc (lc (fun _ _ => ln))) (nx_listing_texts) (a_cons (x_ix (x_var (i := 1)) (nb x_int)) (a_cons (nb (x_op op_sub n_sub (x_var (i := 2)) (nb (xc T.c_LISTING_MARGIN)))) a_nil)))) sc.nd)
    (m_cons (m_set (i := 5) (ne (xd o_listed_numbers hr (lc (lc (fun _ _ => ln))) (nx_listed_numbers) (a_cons (x_var (i := 0)) (a_cons (x_var (i := 1)) a_nil)))) sc.nd)
    (m_one (m_ret (ed o_joined_lines hr (lec len0) (nx_joined_lines) (ae_cons (e_frz (e_comp (own := [("at", 6)]) (w_rng1 (by rfl) T.n_range (ae_cons (ne (x_call n_len (pe_callB c_len (by rfl) T.n_len bb_len (a_cons (x_var (i := 4)) a_nil)))) ae_nil) (lec len0)) rfl sc.nd (blkOk_by (N := N_printed_listing) (sc := defScope s_printed_listing) (by decide +kernel)) (fun _ _ _ _ _ => (g_name (i := 6) sc.nd)) (fun _ _ _ _ _ => ts_nil) (fun _ _ _ _ _ => (ne (xd o_with_page hr (lc (lc (lc (fun _ _ => ln)))) (nx_with_page) (a_cons (x_ix (x_var (i := 4)) (x_var (i := 6))) (a_cons (nb (x_dget hu1 (x_var (i := 3)) (x_ix (x_var (i := 5)) (x_var (i := 6))))) (a_cons (x_var (i := 2)) a_nil)))))))) ae_nil)))))))
theorem ok__law_view (o__law_listed : Okd P w K mg base CX0 1 "_law_listed" (spN K 2 m__law_listed)) (o__law_take : Okd P w K mg base CX0 1 "_law_take" (spI K 2 m__law_take)) (o__law_words : Okd P w K mg base CX0 2 "_law_words" (spI K 2 m__law_words)) : Okd P w K mg base CX0 3 "_law_view" (spI K 1 m__law_view) := by
  have sc := sc__law_view
  exact okdI (Z := (fun i => i == 0)) T.d__law_view sc rfl rfl (fun f cdv A outer s H E hr => by
    have hu5 : (A.deeper (PyProof.Rows.envOfC "_law_view" (defScope s__law_view) s.heap.objs.size f cdv)).units + 65 < cLine := by
      have h := hr.units
      have h2 := hr.un
      omega
    have hu := hr.units
    have hu1 : (A.deeper (PyProof.Rows.envOfC "_law_view" (defScope s__law_view) s.heap.objs.size f cdv)).units + 1 < cLine := Nat.lt_of_le_of_lt (Nat.add_le_add_left (by decide) _) hu
    exact (m_cons (m_set (i := 1) (ne (x_lst a_nil)) sc.nd)
    (m_cons (m_set (i := 2) (e_ix (ne (x_lst (a_cons (nb x_int) (a_cons (nb x_int) (a_cons (nb x_int) a_nil))))) (ei (ks := [0]) (n := 2) o__law_take hr (by decide) (fun e ds e1 h => by have := (lec len0) e ds e1 h; simp [this]) (nx__law_take) (av_cons (i := 0) (ae_cons (ne x_int) ae_nil)))) sc.nd)
    (m_cons (m_for (w_rng1 (by rfl) T.n_range (ae_cons (ei (ks := [0]) (n := 2) o__law_take hr (by decide) (fun e ds e1 h => by have := (lec len0) e ds e1 h; simp [this]) (nx__law_take) (av_cons (i := 0) (ae_cons (ne x_int) ae_nil))) ae_nil) (lec len0)) (g_name (i := 3) sc.nd)
    (m_cons (m_set (i := 4) (ei (ks := [0]) (n := 2) o__law_take hr (by decide) (fun e ds e1 h => by have := (lec len0) e ds e1 h; simp [this]) (nx__law_take) (av_cons (i := 0) (ae_cons (ne x_int) ae_nil))) sc.nd)
    (m_cons (m_set (i := 5) (ei (ks := [0]) (n := 2) o__law_words hr (by decide) (fun e ds e1 h => by have := (lec len0) e ds e1 h; simp [this]) (nx__law_words) (av_cons (i := 0) (ae_cons (be (x_var (i := 2))) ae_nil))) sc.nd)
    (m_cons (m_set (i := 6) (e_ix (ne (x_lst (a_cons (nb x_str) (a_cons (nb x_str) (a_cons (nb x_str) (a_cons (nb x_str) a_nil)))))) (ei (ks := [0]) (n := 2) o__law_take hr (by decide) (fun e ds e1 h => by have := (lec len0) e ds e1 h; simp [this]) (nx__law_take) (av_cons (i := 0) (ae_cons (ne x_int) ae_nil)))) sc.nd)
    (m_one (m_if (t_cmp o_lt n_lt (x_var (i := 4)) (nb x_int) (nomark _))
    (m_one (m_expr (e_append (i := 1) (pe_bm PySem.F.plainAttrs_list PySem.F.slot_list_append PySem.F.type_list_append mt_append (pv 1) (ae_cons (e_tup (ae_cons (ne x_str) (ae_cons (ne x_str) (ae_cons (e_op o_add n_add (ne x_int) (ei (ks := [0]) (n := 2) o__law_take hr (by decide) (fun e ds e1 h => by have := (lec len0) e ds e1 h; simp [this]) (nx__law_take) (av_cons (i := 0) (ae_cons (ne x_int) ae_nil)))) (ae_cons (be (x_var (i := 6))) (ae_cons (be (x_var (i := 5))) ae_nil)))))) ae_nil)))))
    (m_one (m_if (t_cmp (op_eqD hu) n_eq (x_var (i := 4)) (nb x_int) (nomark _))
    (m_one (m_expr (e_append (i := 1) (pe_bm PySem.F.plainAttrs_list PySem.F.slot_list_append PySem.F.type_list_append mt_append (pv 1) (ae_cons (e_tup (ae_cons (ne x_str) (ae_cons (e_ix (ne (x_lst (a_cons (nb x_str) (a_cons (nb x_str) a_nil)))) (ei (ks := [0]) (n := 2) o__law_take hr (by decide) (fun e ds e1 h => by have := (lec len0) e ds e1 h; simp [this]) (nx__law_take) (av_cons (i := 0) (ae_cons (ne x_int) ae_nil)))) (ae_cons (ne x_int) (ae_cons (be (x_var (i := 6))) (ae_cons (be (x_var (i := 5))) ae_nil)))))) ae_nil)))))
    (m_one (m_if (t_cmp (op_eqD hu) n_eq (x_var (i := 4)) (nb x_int) (nomark _))
    (m_one (m_expr (e_append (i := 1) (pe_bm PySem.F.plainAttrs_list PySem.F.slot_list_append PySem.F.type_list_append mt_append (pv 1) (ae_cons (ne (x_tup (a_cons (nb x_str) (a_cons (nb x_str) (a_cons (nb x_int) (a_cons (nb x_str) (a_cons (x_var (i := 5)) a_nil))))))) ae_nil)))))
    (m_one (m_if (t_cmp (op_eqD hu) n_eq (x_var (i := 4)) (nb x_int) (nomark _))
    (m_one (m_expr (e_append (i := 1) (pe_bm PySem.F.plainAttrs_list PySem.F.slot_list_append PySem.F.type_list_append mt_append (pv 1) (ae_cons (e_tup (ae_cons (ne x_str) (ae_cons (ne x_str) (ae_cons (ne x_int) (ae_cons (e_call n_str (pe_callTy c_str (by rfl) T.n_str bb_str (ae_cons (e_op o_add n_add (ne x_int) (ei (ks := [0]) (n := 2) o__law_take hr (by decide) (fun e ds e1 h => by have := (lec len0) e ds e1 h; simp [this]) (nx__law_take) (av_cons (i := 0) (ae_cons (ne x_int) ae_nil)))) ae_nil))) (ae_cons (be (x_var (i := 5))) ae_nil)))))) ae_nil)))))
    (m_one (m_if (t_cmp (op_eqD hu) n_eq (x_var (i := 4)) (nb x_int) (nomark _))
    (m_one (m_expr (e_append (i := 1) (pe_bm PySem.F.plainAttrs_list PySem.F.slot_list_append PySem.F.type_list_append mt_append (pv 1) (ae_cons (ne (x_tup (a_cons (nb x_str) (a_cons (nb x_str) (a_cons (nb x_int) (a_cons (nb x_str) (a_cons (nb (x_tup a_nil)) a_nil))))))) ae_nil)))))
    (m_one (m_if (t_cmp (op_eqD hu) n_eq (x_var (i := 4)) (nb x_int) (nomark _))
    (m_one (m_expr (e_append (i := 1) (pe_bm PySem.F.plainAttrs_list PySem.F.slot_list_append PySem.F.type_list_append mt_append (pv 1) (ae_cons (e_tup (ae_cons (ne x_str) (ae_cons (ne x_str) (ae_cons (ne x_int) (ae_cons (e_ix (ne (x_lst (a_cons (nb x_str) (a_cons (nb x_str) a_nil)))) (ei (ks := [0]) (n := 2) o__law_take hr (by decide) (fun e ds e1 h => by have := (lec len0) e ds e1 h; simp [this]) (nx__law_take) (av_cons (i := 0) (ae_cons (ne x_int) ae_nil)))) (ae_cons (ne (x_tup a_nil)) ae_nil)))))) ae_nil)))))
    (m_one (m_if (t_cmp (op_eqD hu) n_eq (x_var (i := 4)) (nb x_int) (nomark _))
    (m_one (m_expr (e_append (i := 1) (pe_bm PySem.F.plainAttrs_list PySem.F.slot_list_append PySem.F.type_list_append mt_append (pv 1) (ae_cons (ne (x_tup (a_cons (nb x_str) (a_cons (nb x_str) (a_cons (nb x_str) a_nil))))) ae_nil)))))
    (m_one (m_expr (e_append (i := 1) (pe_bm PySem.F.plainAttrs_list PySem.F.slot_list_append PySem.F.type_list_append mt_append (pv 1) (ae_cons (e_tup (ae_cons (ne x_str) (ae_cons (e_ix (ne (x_lst (a_cons (nb x_str) (a_cons (nb x_str) a_nil)))) (ei (ks := [0]) (n := 2) o__law_take hr (by decide) (fun e ds e1 h => by have := (lec len0) e ds e1 h; simp [this]) (nx__law_take) (av_cons (i := 0) (ae_cons (ne x_int) ae_nil)))) (ae_cons (ne x_int) (ae_cons (ne x_str) (ae_cons (be (x_var (i := 5))) ae_nil)))))) ae_nil)))))))))))))))))))))) PassesOwn.never rfl)
    (m_cons (m_set (i := 7) (ne (x_lst a_nil)) sc.nd)
    (m_cons (m_lock (i := 1) (m_forV (i := 1) (g_name (i := 8) sc.nd)
    (m_one (m_if (PW.pt (t_or (t_cmp (op_eqD hu) n_eq (x_ix (x_var (i := 8)) (nb x_int)) (nb x_str) (nomark _)) (t_or1 (t_cmp (op_eqD hu) n_eq (x_ix (x_var (i := 8)) (nb x_int)) (nb x_str) (nomark _)))))
    (m_cons (m_set (i := 9) (e_call n_tuple (pe_callTy call_tuple_of (by rfl) T.n_tuple bb_tuple (ae_cons (e_comp (own := [("k", 3)]) (w_val (ne (xd o__law_listed hr (lc (lc (fun _ _ => ln))) (nx__law_listed) (a_cons (x_var (i := 1)) (a_cons (x_var (i := 8)) a_nil))))) rfl sc.nd (blkOk_by (N := N__law_view) (sc := defScope s__law_view) (by decide +kernel)) (fun _ _ _ _ _ => (g_name (i := 3) sc.nd)) (fun _ _ _ _ _ => ts_nil) (fun _ _ _ _ _ => (ne (x_tup (a_cons (x_ix (x_ix (x_var (i := 1)) (x_var (i := 3))) (nb x_int)) (a_cons (x_ix (x_ix (x_var (i := 1)) (x_var (i := 3))) (nb x_int)) a_nil)))))) ae_nil))) sc.nd)
    (m_one (m_expr (e_append (i := 7) (pe_bm PySem.F.plainAttrs_list PySem.F.slot_list_append PySem.F.type_list_append mt_append (pv 7) (ae_cons (ne (x_op o_add n_add (nb (x_cut (x_var (i := 8)) o_none (o_some (nb x_int)))) (nb (x_tup (a_cons (x_var (i := 9)) a_nil))))) ae_nil))))))
    (m_one (m_expr (e_append (i := 7) (pe_bm PySem.F.plainAttrs_list PySem.F.slot_list_append PySem.F.type_list_append mt_append (pv 7) (ae_cons (be (x_var (i := 8))) ae_nil))))))) PassesOwn.never rfl))
    (m_one (m_ret (e_frz (x_mv (i := 7)))))))))))
theorem ok__law_lines (o__law_texts : Okd P w K mg base CX0 2 "_law_texts" (spN K 2 m__law_texts)) (o__law_wrap : Okd P w K mg base CX0 1 "_law_wrap" (spN K 4 m__law_wrap)) : Okd P w K mg base CX0 3 "_law_lines" (spN K 2 m__law_lines) := by
  have sc := sc__law_lines
  exact okd T.d__law_lines sc rfl rfl (fun f cdv A outer s H E hr => by
    have hu5 : (A.deeper (PyProof.Rows.envOfC "_law_lines" (defScope s__law_lines) s.heap.objs.size f cdv)).units + 65 < cLine := by
      have h := hr.units
      have h2 := hr.un
      omega
    have hu := hr.units
    have hu1 : (A.deeper (PyProof.Rows.envOfC "_law_lines" (defScope s__law_lines) s.heap.objs.size f cdv)).units + 1 < cLine := Nat.lt_of_le_of_lt (Nat.add_le_add_left (by decide) _) hu
    exact (m_cons (m_if (t_cmp (op_eqD hu) n_eq (x_ix (x_var (i := 0)) (nb x_int)) (nb x_str) (nomark _))
    (m_one (m_ret (ne (xd o__law_wrap hr (lc (lc (lc (lc (fun _ _ => ln))))) (nx__law_wrap) (a_cons (nb (x_op o_add n_add (nb (x_op o_add n_add (nb (x_op o_add n_add (nb (x_op o_add n_add (nb x_str) (x_ix (x_var (i := 0)) (nb x_int)))) (nb x_str))) (x_ix (x_var (i := 0)) (nb x_int)))) (nb x_str))) (a_cons (x_var (i := 1)) (a_cons (nb x_str) (a_cons (nb x_str) a_nil))))))))
    m_nil)
    (m_cons (m_set (i := 2) (be (x_ix (x_var (i := 0)) (nb x_int))) sc.nd)
    (m_cons (m_set (i := 3) (ne (x_lst a_nil)) sc.nd)
    (m_cons (m_if (PW.pt (t_or (t_cmp (op_eqD hu) n_eq (x_var (i := 2)) (nb x_str) (nomark _)) (t_or1 (t_cmp (op_eqD hu) n_eq (x_var (i := 2)) (nb x_str) (nomark _)))))
    (m_cons (m_for (w_val (ne (xd o__law_texts hr (lc (lc (fun _ _ => ln))) (nx__law_texts) (a_cons (x_var (i := 0)) (a_cons (x_var (i := 1)) a_nil))))) (g_name (i := 4) sc.nd)
    (m_one (m_set (i := 3) (ne (x_op o_add n_add (x_var (i := 3)) (x_var (i := 4)))) sc.nd)) PassesOwn.never rfl)
    (m_one (m_ret (e_frz (x_mv (i := 3))))))
    m_nil)
    (m_cons (m_if (t_cmp (op_eqD hu) n_eq (x_var (i := 2)) (nb x_str) (nomark _))
    (m_one (m_ret (ne (xd o__law_wrap hr (lc (lc (lc (lc (fun _ _ => ln))))) (nx__law_wrap) (a_cons (nb (x_op o_add n_add (nb (x_op o_add n_add (x_ix (x_var (i := 0)) (nb x_int)) (nb x_str))) (x_ix (x_var (i := 0)) (nb x_int)))) (a_cons (x_var (i := 1)) (a_cons (nb x_str) (a_cons (nb x_str) a_nil))))))))
    m_nil)
    (m_cons (m_if (t_cmp (op_eqD hu) n_eq (x_var (i := 2)) (nb x_str) (nomark _))
    (m_one (m_ret (ne (xd o__law_wrap hr (lc (lc (lc (lc (fun _ _ => ln))))) (nx__law_wrap) (a_cons (x_ix (x_var (i := 0)) (nb x_int)) (a_cons (x_var (i := 1)) (a_cons (nb x_str) (a_cons (nb x_str) a_nil))))))))
    m_nil)
    (m_cons (m_if (t_cmp (op_eqD hu) n_eq (x_var (i := 2)) (nb x_str) (nomark _))
    (m_one (m_ret (ne (xd o__law_wrap hr (lc (lc (lc (lc (fun _ _ => ln))))) (nx__law_wrap) (a_cons (x_ix (x_var (i := 0)) (nb x_int)) (a_cons (x_var (i := 1)) (a_cons (nb (x_op o_add n_add (x_ix (x_var (i := 0)) (nb x_int)) (nb x_str))) (a_cons (nb x_str) a_nil))))))))
    m_nil)
    (m_cons (m_if (PW.pt (t_or (t_cmp (op_eqD hu) n_eq (x_var (i := 2)) (nb x_str) (nomark _)) (t_or1 (t_cmp (op_eqD hu) n_eq (x_var (i := 2)) (nb x_str) (nomark _)))))
    (m_one (m_ret (ne (xd o__law_wrap hr (lc (lc (lc (lc (fun _ _ => ln))))) (nx__law_wrap) (a_cons (x_ix (x_var (i := 0)) (nb x_int)) (a_cons (x_var (i := 1)) (a_cons (nb x_str) (a_cons (nb x_str) a_nil))))))))
    m_nil)
    (m_one (m_ret (ne (xd o__law_wrap hr (lc (lc (lc (lc (fun _ _ => ln))))) (nx__law_wrap) (a_cons (nb (x_op o_add n_add (nb (x_op o_add n_add (nb (x_op o_add n_add (nb (x_op o_add n_add (nb (x_cut (x_var (i := 2)) (o_some (nb x_int)) o_none)) (nb x_str))) (x_ix (x_var (i := 0)) (nb x_int)))) (nb x_str))) (x_ix (x_var (i := 0)) (nb x_int)))) (a_cons (x_var (i := 1)) (a_cons (nb x_str) (a_cons (nb x_str) a_nil)))))))))))))))))
theorem ok__law_dotted (o__law_listed : Okd P w K mg base CX0 1 "_law_listed" (spN K 2 m__law_listed)) (o__law_texts : Okd P w K mg base CX0 2 "_law_texts" (spN K 2 m__law_texts)) : Okd P w K mg base CX0 3 "_law_dotted" (spN K 4 m__law_dotted) := by
  have sc := sc__law_dotted
  exact okd T.d__law_dotted sc rfl rfl (fun f cdv A outer s H E hr => by
    have hu5 : (A.deeper (PyProof.Rows.envOfC "_law_dotted" (defScope s__law_dotted) s.heap.objs.size f cdv)).units + 65 < cLine := by
      have h := hr.units
      have h2 := hr.un
      omega
    have hu := hr.units
    have hu1 : (A.deeper (PyProof.Rows.envOfC "_law_dotted" (defScope s__law_dotted) s.heap.objs.size f cdv)).units + 1 < cLine := Nat.lt_of_le_of_lt (Nat.add_le_add_left (by decide) _) hu
    exact (m_cons (m_set (i := 4) (ne (x_lst a_nil)) sc.nd)
    (m_cons (m_set (i := 5) (ne (xd o__law_listed hr (lc (lc (fun _ _ => ln))) (nx__law_listed) (a_cons (x_var (i := 0)) (a_cons (x_var (i := 1)) a_nil)))) sc.nd)
    (m_cons (m_set (i := 6) (ne (xd o__law_texts hr (lc (lc (fun _ _ => ln))) (nx__law_texts) (a_cons (x_var (i := 1)) (a_cons (x_var (i := 3)) a_nil)))) sc.nd)
    (m_cons (m_for (w_rng1 (by rfl) T.n_range (ae_cons (ne (x_call n_len (pe_callB c_len (by rfl) T.n_len bb_len (a_cons (x_var (i := 6)) a_nil)))) ae_nil) (lec len0)) (g_name (i := 7) sc.nd)
    (m_cons (m_set (i := 8) (ne x_str) sc.nd)
    (m_cons (m_forV (i := 2) (g_tup rfl (gs_cons (i := 9) sc.nd (gs_cons (i := 10) sc.nd gs_nil)))
    (m_one (m_if (t_cmp (op_eqD hu) n_eq (x_var (i := 9)) (nb (x_op o_add n_add (x_ix (x_var (i := 5)) (x_var (i := 7))) (nb x_int))) (nomark _))
    (m_one (m_set (i := 8) (ne (x_call n_str (pe_callTy c_str (by rfl) T.n_str bb_str (a_cons (x_var (i := 10)) a_nil)))) sc.nd))
    m_nil)) PassesOwn.never rfl)
    (m_cons (m_set (i := 11) (be (x_ix (x_ix (x_var (i := 6)) (x_var (i := 7))) (nb x_int))) sc.nd)
    (m_cons (m_set (i := 11) (ne (x_op o_add n_add (nb (x_op o_add n_add (nb (x_op o_add n_add (x_var (i := 11)) (nb (x_op o_mul n_mul (nb x_str) (nb (x_op op_sub n_sub (nb (x_op op_sub n_sub (x_var (i := 3)) (nb x_int))) (nb (x_call n_len (pe_callB c_len (by rfl) T.n_len bb_len (a_cons (x_var (i := 11)) a_nil)))))))))) (nb (x_op o_mul n_mul (nb x_str) (nb (x_op op_sub n_sub (nb x_int) (nb (x_call n_len (pe_callB c_len (by rfl) T.n_len bb_len (a_cons (x_var (i := 8)) a_nil)))))))))) (x_var (i := 8)))) sc.nd)
    (m_one (m_set (i := 4) (ne (x_op o_add n_add (nb (x_op o_add n_add (x_var (i := 4)) (nb (x_lst (a_cons (x_var (i := 11)) a_nil))))) (nb (x_cut (x_ix (x_var (i := 6)) (x_var (i := 7))) (o_some (nb x_int)) o_none)))) sc.nd)))))) PassesOwn.never rfl)
    (m_one (m_ret (e_frz (x_mv (i := 4))))))))))
theorem ok_view_blocks (o_fault_line : Okd P w K mg base CX0 1 "fault_line" (spN K 1 m_fault_line)) (o_is_fault : Okd P w K mg base CX0 1 "is_fault" (spN K 1 m_is_fault)) (o_para_kind : Okd P w K mg base CX0 2 "para_kind" (spN K 1 m_para_kind)) (o_para_lines : Okd P w K mg base CX0 3 "para_lines" (spN K 3 m_para_lines)) (o_show_value : Okd P w K mg base CX0 1 "show_value" (spN K 1 m_show_value)) : Okd P w K mg base CX0 4 "view_blocks" (spN K 3 m_view_blocks) := by
  have sc := sc_view_blocks
  exact okd T.d_view_blocks sc rfl rfl (fun f cdv A outer s H E hr => by
    have hu5 : (A.deeper (PyProof.Rows.envOfC "view_blocks" (defScope s_view_blocks) s.heap.objs.size f cdv)).units + 65 < cLine := by
      have h := hr.units
      have h2 := hr.un
      omega
    have hu := hr.units
    have hu1 : (A.deeper (PyProof.Rows.envOfC "view_blocks" (defScope s_view_blocks) s.heap.objs.size f cdv)).units + 1 < cLine := Nat.lt_of_le_of_lt (Nat.add_le_add_left (by decide) _) hu
    exact (m_cons (m_if (t_val (ne (xd o_is_fault hr (lc (fun _ _ => ln)) (nx_is_fault) (a_cons (x_var (i := 0)) a_nil))))
    (m_one (m_ret (ne (x_tup (a_cons (nb (x_tup (a_cons (nb x_int) (a_cons (nb (xc T.c_FAULT_KIND)) (a_cons (nb (x_tup (a_cons (nb (xd o_show_value hr (lc (fun _ _ => ln)) (nx_show_value) (a_cons (x_var (i := 0)) a_nil))) a_nil))) a_nil))))) a_nil)))))
    m_nil)
    (m_cons (m_asg (be (x_var (i := 0))) (g_tup rfl (gs_cons (i := 3) sc.nd (gs_cons (i := 4) sc.nd (gs_cons (i := 5) sc.nd gs_nil)))))
    (m_cons (m_set (i := 6) (ne (x_lst a_nil)) sc.nd)
    (m_cons (m_for (w_rng1 (by rfl) T.n_range (ae_cons (ne (x_call n_len (pe_callB c_len (by rfl) T.n_len bb_len (a_cons (x_var (i := 4)) a_nil)))) ae_nil) (lec len0)) (g_name (i := 7) sc.nd)
    (m_cons (m_set (i := 8) (ne (xd o_para_lines hr (lc (lc (lc (fun _ _ => ln)))) (nx_para_lines) (a_cons (x_ix (x_var (i := 4)) (x_var (i := 7))) (a_cons (x_var (i := 1)) (a_cons (x_var (i := 2)) a_nil))))) sc.nd)
    (m_one (m_if (t_cmp o_gt n_gt (nb (x_call n_len (pe_callB c_len (by rfl) T.n_len bb_len (a_cons (x_var (i := 8)) a_nil)))) (nb x_int) (nomark _))
    (m_one (m_expr (e_append (i := 6) (pe_bm PySem.F.plainAttrs_list PySem.F.slot_list_append PySem.F.type_list_append mt_append (pv 6) (ae_cons (ne (x_tup (a_cons (nb (x_op o_add n_add (x_var (i := 7)) (nb x_int))) (a_cons (nb (xd o_para_kind hr (lc (fun _ _ => ln)) (nx_para_kind) (a_cons (x_ix (x_var (i := 4)) (x_var (i := 7))) a_nil))) (a_cons (x_var (i := 8)) a_nil))))) ae_nil)))))
    m_nil))) PassesOwn.never rfl)
    (m_cons (m_if (t_cmp o_gt n_gt (nb (x_call n_len (pe_callB c_len (by rfl) T.n_len bb_len (a_cons (x_var (i := 5)) a_nil)))) (nb x_int) (nomark _))
    (m_one (m_expr (e_append (i := 6) (pe_bm PySem.F.plainAttrs_list PySem.F.slot_list_append PySem.F.type_list_append mt_append (pv 6) (ae_cons (e_tup (ae_cons (ne x_int) (ae_cons (ne (xc T.c_FAULT_KIND)) (ae_cons (e_call n_tuple (pe_callTy call_tuple_of (by rfl) T.n_tuple bb_tuple (ae_cons (e_comp (own := [("fault", 9)]) (w_val (be (x_var (i := 5)))) rfl sc.nd (blkOk_by (N := N_view_blocks) (sc := defScope s_view_blocks) (by decide +kernel)) (fun _ _ _ _ _ => (g_name (i := 9) sc.nd)) (fun _ _ _ _ _ => ts_nil) (fun _ _ _ _ _ => (ne (xd o_fault_line hr (lc (fun _ _ => ln)) (nx_fault_line) (a_cons (x_var (i := 9)) a_nil))))) ae_nil))) ae_nil)))) ae_nil)))))
    m_nil)
    (m_one (m_ret (ne (x_call n_tuple (pe_callTy call_tuple_of (by rfl) T.n_tuple bb_tuple (a_cons (x_var (i := 6)) a_nil))))))))))))
theorem ok_printed_lines (o_is_listing : Okd P w K mg base CX0 2 "is_listing" (spN K 1 m_is_listing)) (o_printed_listing : Okd P w K mg base CX0 3 "printed_listing" (spN K 4 m_printed_listing)) : Okd P w K mg base CX0 4 "printed_lines" (spN K 4 m_printed_lines) := by
  have sc := sc_printed_lines
  exact okd T.d_printed_lines sc rfl rfl (fun f cdv A outer s H E hr => by
    have hu5 : (A.deeper (PyProof.Rows.envOfC "printed_lines" (defScope s_printed_lines) s.heap.objs.size f cdv)).units + 65 < cLine := by
      have h := hr.units
      have h2 := hr.un
      omega
    have hu := hr.units
    have hu1 : (A.deeper (PyProof.Rows.envOfC "printed_lines" (defScope s_printed_lines) s.heap.objs.size f cdv)).units + 1 < cLine := Nat.lt_of_le_of_lt (Nat.add_le_add_left (by decide) _) hu
    exact (m_cons (m_asg (be (x_var (i := 1))) (g_tup rfl (gs_cons (i := 4) sc.nd (gs_cons (i := 5) sc.nd (gs_cons (i := 6) sc.nd gs_nil)))))
    (m_cons (m_if (PW.pt (t_or (t_cmp (op_eqD hu) n_eq (x_var (i := 4)) (nb x_int) (nomark _)) (t_or1 (t_not (t_val (ne (xd o_is_listing hr (lc (fun _ _ => ln)) (nx_is_listing) (a_cons (x_ix (x_ix (x_var (i := 0)) (nb x_int)) (nb (x_op op_sub n_sub (x_var (i := 4)) (nb x_int)))) a_nil))))))))
    (m_one (m_ret (be (x_var (i := 6)))))
    m_nil)
    (m_one (m_ret (ne (xd o_printed_listing hr (lc (lc (lc (lc (fun _ _ => ln))))) (nx_printed_listing) (a_cons (x_ix (x_var (i := 0)) (nb x_int)) (a_cons (x_ix (x_ix (x_var (i := 0)) (nb x_int)) (nb (x_op op_sub n_sub (x_var (i := 4)) (nb x_int)))) (a_cons (x_var (i := 2)) (a_cons (x_var (i := 3)) a_nil)))))))))))
theorem ok__law_blocks (o__law_lines : Okd P w K mg base CX0 3 "_law_lines" (spN K 2 m__law_lines)) : Okd P w K mg base CX0 4 "_law_blocks" (spN K 3 m__law_blocks) := by
  have sc := sc__law_blocks
  exact okd T.d__law_blocks sc rfl rfl (fun f cdv A outer s H E hr => by
    have hu5 : (A.deeper (PyProof.Rows.envOfC "_law_blocks" (defScope s__law_blocks) s.heap.objs.size f cdv)).units + 65 < cLine := by
      have h := hr.units
      have h2 := hr.un
      omega
    have hu := hr.units
    have hu1 : (A.deeper (PyProof.Rows.envOfC "_law_blocks" (defScope s__law_blocks) s.heap.objs.size f cdv)).units + 1 < cLine := Nat.lt_of_le_of_lt (Nat.add_le_add_left (by decide) _) hu
    exact (m_cons (m_set (i := 3) (ne (x_lst a_nil)) sc.nd)
    (m_cons (m_for (w_rng1 (by rfl) T.n_range (ae_cons (ne (x_call n_len (pe_callB c_len (by rfl) T.n_len bb_len (a_cons (x_var (i := 0)) a_nil)))) ae_nil) (lec len0)) (g_name (i := 4) sc.nd)
    (m_cons (m_set (i := 5) (ne (xd o__law_lines hr (lc (lc (fun _ _ => ln))) (nx__law_lines) (a_cons (x_ix (x_var (i := 0)) (x_var (i := 4))) (a_cons (x_var (i := 2)) a_nil)))) sc.nd)
    (m_cons (m_set (i := 6) (be (x_ix (x_ix (x_var (i := 0)) (x_var (i := 4))) (nb x_int))) sc.nd)
    (m_cons (m_if (t_cmp (op_eqD hu) n_eq (x_ix (x_ix (x_var (i := 0)) (x_var (i := 4))) (nb x_int)) (nb x_str) (nomark _))
    (m_one (m_set (i := 6) (ne x_str) sc.nd))
    m_nil)
    (m_one (m_if (t_cmp o_gt n_gt (nb (x_call n_len (pe_callB c_len (by rfl) T.n_len bb_len (a_cons (x_var (i := 5)) a_nil)))) (nb x_int) (nomark _))
    (m_one (m_expr (e_append (i := 3) (pe_bm PySem.F.plainAttrs_list PySem.F.slot_list_append PySem.F.type_list_append mt_append (pv 3) (ae_cons (ne (x_tup (a_cons (nb (x_op o_add n_add (x_var (i := 4)) (nb x_int))) (a_cons (x_var (i := 6)) (a_cons (x_var (i := 5)) a_nil))))) ae_nil)))))
    m_nil))))) PassesOwn.never rfl)
    (m_cons (m_if (t_cmp o_gt n_gt (nb (x_call n_len (pe_callB c_len (by rfl) T.n_len bb_len (a_cons (x_var (i := 1)) a_nil)))) (nb x_int) (nomark _))
    (m_one (m_expr (e_append (i := 3) (pe_bm PySem.F.plainAttrs_list PySem.F.slot_list_append PySem.F.type_list_append mt_append (pv 3) (ae_cons (e_tup (ae_cons (ne x_int) (ae_cons (ne x_str) (ae_cons (e_frz (e_comp (own := [("line_id", 7), ("word", 8), ("column", 9)]) (w_val (be (x_var (i := 1)))) rfl sc.nd (blkOk_by (N := N__law_blocks) (sc := defScope s__law_blocks) (by decide +kernel)) (fun _ _ _ _ _ => (g_tup rfl (gs_cons (i := 7) sc.nd (gs_cons (i := 8) sc.nd (gs_cons (i := 9) sc.nd gs_nil))))) (fun _ _ _ _ _ => ts_nil) (fun _ _ _ _ _ => (ne (x_op o_add n_add (nb (x_op o_add n_add (nb (x_op o_add n_add (nb (x_op o_add n_add (nb (x_op o_add n_add (nb x_str) (x_var (i := 7)))) (nb x_str))) (x_var (i := 8)))) (nb x_str))) (nb (x_call n_str (pe_callTy c_str (by rfl) T.n_str bb_str (a_cons (x_var (i := 9)) a_nil))))))))) ae_nil)))) ae_nil)))))
    m_nil)
    (m_one (m_ret (e_frz (x_mv (i := 3)))))))))
theorem ok_para_pages (o_block_starts : Okd P w K mg base CX0 3 "block_starts" (spN K 2 m_block_starts)) (o_view_blocks : Okd P w K mg base CX0 4 "view_blocks" (spN K 3 m_view_blocks)) : Okd P w K mg base CX0 5 "para_pages" (spN K 3 m_para_pages) := by
  have sc := sc_para_pages
  exact okd T.d_para_pages sc rfl rfl (fun f cdv A outer s H E hr => by
    have hu5 : (A.deeper (PyProof.Rows.envOfC "para_pages" (defScope s_para_pages) s.heap.objs.size f cdv)).units + 65 < cLine := by
      have h := hr.units
      have h2 := hr.un
      omega
    have hu := hr.units
    have hu1 : (A.deeper (PyProof.Rows.envOfC "para_pages" (defScope s_para_pages) s.heap.objs.size f cdv)).units + 1 < cLine := Nat.lt_of_le_of_lt (Nat.add_le_add_left (by decide) _) hu
    exact (m_cons (m_set (i := 3) (ne (xd o_view_blocks hr (lc (lc (lc (fun _ _ => ln)))) (nx_view_blocks) (a_cons (x_var (i := 0)) (a_cons (x_var (i := 1)) (a_cons (nb (x_op op_sub n_sub (x_var (i := 1)) (nb (xc T.c_LISTING_MARGIN)))) a_nil))))) sc.nd)
    (m_cons (m_set (i := 4) (ne (xd o_block_starts hr (lc (lc (fun _ _ => ln))) (nx_block_starts) (a_cons (x_var (i := 3)) (a_cons (x_var (i := 2)) a_nil)))) sc.nd)
    (m_cons (m_set (i := 5) (ne x_newD) sc.nd)
    (m_cons (m_for (w_rng1 (by rfl) T.n_range (ae_cons (ne (x_call n_len (pe_callB c_len (by rfl) T.n_len bb_len (a_cons (x_var (i := 3)) a_nil)))) ae_nil) (lec len0)) (g_name (i := 6) sc.nd)
    (m_one (m_if (t_cmp o_gt n_gt (x_ix (x_ix (x_var (i := 3)) (x_var (i := 6))) (nb x_int)) (nb x_int) (nomark _))
    (m_one (m_dset (i := 5) hu1 (be (x_ix (x_ix (x_var (i := 4)) (x_var (i := 6))) (nb x_int))) (x_ix (x_ix (x_var (i := 3)) (x_var (i := 6))) (nb x_int))))
    m_nil)) PassesOwn.never rfl)
    (m_one (m_ret (e_frzD (x_mv (i := 5))))))))))
theorem ok_print_pages (o_block_starts : Okd P w K mg base CX0 3 "block_starts" (spN K 2 m_block_starts)) (o_check_size : Okd P w K mg base (L2.CX P w) 3 "check_size" (spN K 2 m_check_size)) (o_para_pages : Okd P w K mg base CX0 5 "para_pages" (spN K 3 m_para_pages)) (o_printed_lines : Okd P w K mg base CX0 4 "printed_lines" (spN K 4 m_printed_lines)) (o_put_lines : Okd P w K mg base CX0 1 "put_lines" (spI K 5 m_put_lines)) (o_view_blocks : Okd P w K mg base CX0 4 "view_blocks" (spN K 3 m_view_blocks)) : Okd P w K mg base (L2.CX P w) 6 "print_pages" (spN K 3 m_print_pages) := by
  have sc := sc_print_pages
  exact okdX T.d_print_pages sc rfl rfl (fun f cdv A outer s H E hr => by
    have hu5 : (A.deeper (PyProof.Rows.envOfC "print_pages" (defScope s_print_pages) s.heap.objs.size f cdv)).units + 65 < cLine := by
      have h := hr.units
      have h2 := hr.un
      omega
    have hu := hr.units
    have hu1 : (A.deeper (PyProof.Rows.envOfC "print_pages" (defScope s_print_pages) s.heap.objs.size f cdv)).units + 1 < cLine := Nat.lt_of_le_of_lt (Nat.add_le_add_left (by decide) _) hu
    exact (m_cons (m_expr (ne (xdX o_check_size hr (takes_of rfl rfl rfl rfl) (lc (lc (fun _ _ => ln))) (a_cons (x_var (i := 1)) (a_cons (x_var (i := 2)) a_nil)))))
    (m_cons (m_set (i := 3) (ne (xd o_para_pages hr (lc (lc (lc (fun _ _ => ln)))) (nx_para_pages) (a_cons (x_var (i := 0)) (a_cons (x_var (i := 1)) (a_cons (x_var (i := 2)) a_nil))))) sc.nd)
    (m_cons (m_set (i := 4) (ne (xd o_view_blocks hr (lc (lc (lc (fun _ _ => ln)))) (nx_view_blocks) (a_cons (x_var (i := 0)) (a_cons (x_var (i := 1)) (a_cons (nb (x_op op_sub n_sub (x_var (i := 1)) (nb (xc T.c_LISTING_MARGIN)))) a_nil))))) sc.nd)
    (m_cons (m_set (i := 5) (ne (xd o_block_starts hr (lc (lc (fun _ _ => ln))) (nx_block_starts) (a_cons (x_var (i := 4)) (a_cons (x_var (i := 2)) a_nil)))) sc.nd)
    (m_cons (m_set (i := 6) (ne (x_lst a_nil)) sc.nd)
    (m_cons (m_for (w_rng1 (by rfl) T.n_range (ae_cons (ne (x_call n_len (pe_callB c_len (by rfl) T.n_len bb_len (a_cons (x_var (i := 4)) a_nil)))) ae_nil) (lec len0)) (g_name (i := 7) sc.nd)
    (m_cons (m_asg (be (x_ix (x_var (i := 5)) (x_var (i := 7)))) (g_tup rfl (gs_cons (i := 8) sc.nd (gs_cons (i := 9) sc.nd gs_nil))))
    (m_one (m_expr (ei (ks := [6]) (n := 5) o_put_lines hr (by decide) (fun e ds e1 h => by have := (lec (lec (lec (lec len0)))) e ds e1 h; simp [this]) (nx_put_lines) (av_cons (i := 6) (ae_cons (be (x_var (i := 8))) (ae_cons (be (x_var (i := 9))) (ae_cons (ne (xd o_printed_lines hr (lc (lc (lc (lc (fun _ _ => ln))))) (nx_printed_lines) (a_cons (x_var (i := 0)) (a_cons (x_ix (x_var (i := 4)) (x_var (i := 7))) (a_cons (x_var (i := 1)) (a_cons (x_var (i := 3)) a_nil)))))) (ae_cons (be (x_var (i := 2))) ae_nil))))))))) (passes_of rfl) rfl)
    (m_one (m_lock (i := 6) (m_ret (e_call n_tuple (pe_callTy call_tuple_of (by rfl) T.n_tuple bb_tuple (ae_cons (e_comp (own := [("sheet", 10)]) (w_val (be (x_var (i := 6)))) rfl sc.nd (blkOk_by (N := N_print_pages) (sc := defScope s_print_pages) (by decide +kernel)) (fun _ _ _ _ _ => (g_name (i := 10) sc.nd)) (fun _ _ _ _ _ => ts_nil) (fun _ _ _ _ _ => (ne (x_call n_tuple (pe_callTy call_tuple_of (by rfl) T.n_tuple bb_tuple (a_cons (x_var (i := 10)) a_nil)))))) ae_nil)))))))))))))
theorem ok_page_numbers (o_check_size : Okd P w K mg base (L2.CX P w) 3 "check_size" (spN K 2 m_check_size)) (o_para_pages : Okd P w K mg base CX0 5 "para_pages" (spN K 3 m_para_pages)) : Okd P w K mg base (L2.CX P w) 6 "page_numbers" (spN K 3 m_page_numbers) := by
  have sc := sc_page_numbers
  exact okdX T.d_page_numbers sc rfl rfl (fun f cdv A outer s H E hr => by
    have hu5 : (A.deeper (PyProof.Rows.envOfC "page_numbers" (defScope s_page_numbers) s.heap.objs.size f cdv)).units + 65 < cLine := by
      have h := hr.units
      have h2 := hr.un
      omega
    have hu := hr.units
    have hu1 : (A.deeper (PyProof.Rows.envOfC "page_numbers" (defScope s_page_numbers) s.heap.objs.size f cdv)).units + 1 < cLine := Nat.lt_of_le_of_lt (Nat.add_le_add_left (by decide) _) hu
    exact (m_cons (m_expr (ne (xdX o_check_size hr (takes_of rfl rfl rfl rfl) (lc (lc (fun _ _ => ln))) (a_cons (x_var (i := 1)) (a_cons (x_var (i := 2)) a_nil)))))
    (m_cons (m_set (i := 3) (ne (xd o_para_pages hr (lc (lc (lc (fun _ _ => ln)))) (nx_para_pages) (a_cons (x_var (i := 0)) (a_cons (x_var (i := 1)) (a_cons (x_var (i := 2)) a_nil))))) sc.nd)
    (m_one (m_ret (e_call n_tuple (pe_callTy call_tuple_of (by rfl) T.n_tuple bb_tuple (ae_cons (e_comp (own := [("number", 4)]) (w_keys (x_var (i := 3))) rfl sc.nd (blkOk_by (N := N_page_numbers) (sc := defScope s_page_numbers) (by decide +kernel)) (fun _ _ _ _ _ => (g_name (i := 4) sc.nd)) (fun _ _ _ _ _ => ts_nil) (fun _ _ _ _ _ => (ne (x_tup (a_cons (x_var (i := 4)) (a_cons (nb (x_dget hu1 (x_var (i := 3)) (x_var (i := 4)))) a_nil)))))) ae_nil))))))))
theorem ok__law_refuses (o_page_numbers : Okd P w K mg base (L2.CX P w) 6 "page_numbers" (spN K 3 m_page_numbers)) (o_print_pages : Okd P w K mg base (L2.CX P w) 6 "print_pages" (spN K 3 m_print_pages)) : Okd P w K mg base CX0 7 "_law_refuses" (spN K 3 m__law_refuses) := by
  have sc := sc__law_refuses
  exact okd T.d__law_refuses sc rfl rfl (fun f cdv A outer s H E hr => by
    have hu5 : (A.deeper (PyProof.Rows.envOfC "_law_refuses" (defScope s__law_refuses) s.heap.objs.size f cdv)).units + 65 < cLine := by
      have h := hr.units
      have h2 := hr.un
      omega
    have hu := hr.units
    have hu1 : (A.deeper (PyProof.Rows.envOfC "_law_refuses" (defScope s__law_refuses) s.heap.objs.size f cdv)).units + 1 < cLine := Nat.lt_of_le_of_lt (Nat.add_le_add_left (by decide) _) hu
    exact (m_cons (m_set (i := 3) (ne x_int) sc.nd)
    (m_cons (m_tryAs (i := 4) rfl rfl sc.nd ⟨by rfl, by decide, .inl T.g_BadValue⟩ takes_no (catok_BadValue T)
    (fun W pn xe tk hp => (m_one (m_expr (ne (xdX o_print_pages hr tk (lc (lc (lc (fun _ _ => ln)))) (a_cons (x_var (i := 0)) (a_cons (x_var (i := 1)) (a_cons (x_var (i := 2)) a_nil))))))))
    (fun a oe y pn hy hz hf => (m_one (m_set (i := 3) (ne (x_op o_add n_add (x_var (i := 3)) (nb (x_call n_int (pe_callTy c_int (by rfl) T.n_int bb_int (a_cons (nb (x_and (nb (x_isX (i := 4) (ecok_BadValue T y hy) hz hf T.n_isinstance T.g_LecternError (kitok_LecternError T y))) (x_one (nb (x_not (nb (x_isX (i := 4) (ecok_BadValue T y hy) hz hf T.n_isinstance T.g_BadLine (kitok_BadLine T y)))))))) a_nil)))))) sc.nd))))
    (m_cons (m_tryAs (i := 4) rfl rfl sc.nd ⟨by rfl, by decide, .inl T.g_BadValue⟩ takes_no (catok_BadValue T)
    (fun W pn xe tk hp => (m_one (m_expr (ne (xdX o_page_numbers hr tk (lc (lc (lc (fun _ _ => ln)))) (a_cons (x_var (i := 0)) (a_cons (x_var (i := 1)) (a_cons (x_var (i := 2)) a_nil))))))))
    (fun a oe y pn hy hz hf => (m_one (m_set (i := 3) (ne (x_op o_add n_add (x_var (i := 3)) (nb (x_call n_int (pe_callTy c_int (by rfl) T.n_int bb_int (a_cons (nb (x_and (nb (x_isX (i := 4) (ecok_BadValue T y hy) hz hf T.n_isinstance T.g_LecternError (kitok_LecternError T y))) (x_one (nb (x_isXb (i := 4) (m := "ValueError") (ecok_BadValue T y hy) hz hf T.n_isinstance T.n_ValueError bb_ValueError (kitok_ValueError T y)))))) a_nil)))))) sc.nd))))
    (m_one (m_ret (ne (x_cmp (op_eqD hu) n_eq (x_var (i := 3)) (nb x_int) (nomark _)))))))))
theorem ok__law_same : ∀ n : Nat, Okd P w K mg base CX0 (1 + n) "_law_same" (spN K 2 (m__law_same n))
  | 0 => okd0 T.d__law_same rfl
  | n + 1 => by
    have o_ := ok__law_same n
    have sc := sc__law_same
    exact okd T.d__law_same sc rfl rfl (fun f cdv A outer s H E hr => by
    have hu5 : (A.deeper (PyProof.Rows.envOfC "_law_same" (defScope s__law_same) s.heap.objs.size f cdv)).units + 65 < cLine := by
      have h := hr.units
      have h2 := hr.un
      omega
    have hu := hr.units
    have hu1 : (A.deeper (PyProof.Rows.envOfC "_law_same" (defScope s__law_same) s.heap.objs.size f cdv)).units + 1 < cLine := Nat.lt_of_le_of_lt (Nat.add_le_add_left (by decide) _) hu
    exact (m_cons (m_if (t_val (ne (x_call n_isi (pe_callB call_isi (by rfl) T.n_isinstance bb_isinstance (a_cons (x_var (i := 1)) (a_cons (nb (x_bltn (v := .ty "tuple") (by rfl) T.n_tuple bb_tuple rfl)) a_nil))))))
    (m_cons (m_if (PW.pt (t_or (t_not (t_val (ne (x_call n_isi (pe_callB call_isi (by rfl) T.n_isinstance bb_isinstance (a_cons (x_var (i := 0)) (a_cons (nb (x_bltn (v := .ty "tuple") (by rfl) T.n_tuple bb_tuple rfl)) a_nil))))))) (t_or1 (t_cmp (op_neD hu) n_ne (nb (x_call n_len (pe_callB c_len (by rfl) T.n_len bb_len (a_cons (x_var (i := 0)) a_nil)))) (nb (x_call n_len (pe_callB c_len (by rfl) T.n_len bb_len (a_cons (x_var (i := 1)) a_nil)))) (nomark _)))))
    (m_one (m_ret (ne x_bl)))
    m_nil)
    (m_cons (m_for (w_rng1 (by rfl) T.n_range (ae_cons (ne (x_call n_len (pe_callB c_len (by rfl) T.n_len bb_len (a_cons (x_var (i := 1)) a_nil)))) ae_nil) (lec len0)) (g_name (i := 2) sc.nd)
    (m_one (m_if (t_not (t_val (ne (xd o_ hr (lc (lc (fun _ _ => ln))) (nx__law_same _) (a_cons (x_ix (x_var (i := 0)) (x_var (i := 2))) (a_cons (x_ix (x_var (i := 1)) (x_var (i := 2))) a_nil))))))
    (m_one (m_ret (ne x_bl)))
    m_nil)) PassesOwn.never rfl)
    (m_one (m_ret (ne x_bl)))))
    m_nil)
    (m_cons (m_if (t_val (ne (x_call n_isi (pe_callB call_isi (by rfl) T.n_isinstance bb_isinstance (a_cons (x_var (i := 1)) (a_cons (nb (x_bltn (v := .ty "bool") (by rfl) T.n_bool bb_bool rfl)) a_nil))))))
    (m_one (m_ret (ne (x_and (nb (x_call n_isi (pe_callB call_isi (by rfl) T.n_isinstance bb_isinstance (a_cons (x_var (i := 0)) (a_cons (nb (x_bltn (v := .ty "bool") (by rfl) T.n_bool bb_bool rfl)) a_nil))))) (x_one (nb (x_cmp (op_eqD hu) n_eq (x_var (i := 0)) (x_var (i := 1)) (nomark _))))))))
    m_nil)
    (m_cons (m_if (t_val (ne (x_call n_isi (pe_callB call_isi (by rfl) T.n_isinstance bb_isinstance (a_cons (x_var (i := 1)) (a_cons (nb (x_bltn (v := .ty "int") (by rfl) T.n_int bb_int rfl)) a_nil))))))
    (m_one (m_ret (ne (x_and (nb (x_call n_isi (pe_callB call_isi (by rfl) T.n_isinstance bb_isinstance (a_cons (x_var (i := 0)) (a_cons (nb (x_bltn (v := .ty "int") (by rfl) T.n_int bb_int rfl)) a_nil))))) (nb (x_and (nb (x_not (nb (x_call n_isi (pe_callB call_isi (by rfl) T.n_isinstance bb_isinstance (a_cons (x_var (i := 0)) (a_cons (nb (x_bltn (v := .ty "bool") (by rfl) T.n_bool bb_bool rfl)) a_nil))))))) (x_one (nb (x_cmp (op_eqD hu) n_eq (x_var (i := 0)) (x_var (i := 1)) (nomark _))))))))))
    m_nil)
    (m_cons (m_if (t_val (ne (x_call n_isi (pe_callB call_isi (by rfl) T.n_isinstance bb_isinstance (a_cons (x_var (i := 1)) (a_cons (nb (x_bltn (v := .ty "str") (by rfl) T.n_str bb_str rfl)) a_nil))))))
    (m_one (m_ret (ne (x_and (nb (x_call n_isi (pe_callB call_isi (by rfl) T.n_isinstance bb_isinstance (a_cons (x_var (i := 0)) (a_cons (nb (x_bltn (v := .ty "str") (by rfl) T.n_str bb_str rfl)) a_nil))))) (x_one (nb (x_cmp (op_eqD hu) n_eq (x_var (i := 0)) (x_var (i := 1)) (nomark _))))))))
    m_nil)
    (m_one (m_ret (ne (x_and (nb (x_cmp o_is n_is (x_var (i := 0)) (nb x_non) (nomark _))) (x_one (nb (x_cmp o_is n_is (x_var (i := 1)) (nb x_non) (nomark _)))))))))))))
theorem ok_law {f : Addr} {fd : FuncData} (D : DefAt K mg "law" "law" s_law ["script"] f fd) (o__law_blocks : Okd P w K mg base CX0 4 "_law_blocks" (spN K 3 m__law_blocks)) (o__law_dotted : Okd P w K mg base CX0 3 "_law_dotted" (spN K 4 m__law_dotted)) (o__law_jar : Okd P w K mg base CX0 1 "_law_jar" (spN K 1 m__law_jar)) (o__law_put : Okd P w K mg base CX0 2 "_law_put" (spN K 2 m__law_put)) (o__law_refuses : Okd P w K mg base CX0 7 "_law_refuses" (spN K 3 m__law_refuses)) (o__law_same : Okd P w K mg base CX0 11 "_law_same" (spN K 2 (m__law_same 10))) (o__law_sheets : Okd P w K mg base CX0 1 "_law_sheets" (spN K 4 m__law_sheets)) (o__law_take : Okd P w K mg base CX0 1 "_law_take" (spI K 2 m__law_take)) (o__law_view : Okd P w K mg base CX0 3 "_law_view" (spI K 1 m__law_view)) (o_page_numbers : Okd P w K mg base (L2.CX P w) 6 "page_numbers" (spN K 3 m_page_numbers)) (o_print_pages : Okd P w K mg base (L2.CX P w) 6 "print_pages" (spN K 3 m_print_pages)) : FnOk P w K mg base CX0 12 f fd ["script"] (spN K 1 m_law) := by
  have sc := sc_law
  exact okdF D sc rfl rfl (fun f cdv A outer s H E hr => by
    have hu5 : (A.deeper (PyProof.Rows.envOfC "law" (defScope s_law) s.heap.objs.size f cdv)).units + 65 < cLine := by
      have h := hr.units
      have h2 := hr.un
      omega
    have hu := hr.units
    have hu1 : (A.deeper (PyProof.Rows.envOfC "law" (defScope s_law) s.heap.objs.size f cdv)).units + 1 < cLine := Nat.lt_of_le_of_lt (Nat.add_le_add_left (by decide) _) hu
    exact (m_cons (m_set (i := 1) (ne (xd o__law_jar hr (lc (fun _ _ => ln)) (nx__law_jar) (a_cons (x_var (i := 0)) a_nil))) sc.nd)
    (m_cons (m_set (i := 2) (ei (ks := [1]) (n := 1) o__law_view hr (by decide) (fun e ds e1 h => by have := len0 e ds e1 h; simp [this]) (nx__law_view) (av_cons (i := 1) ae_nil)) sc.nd)
    (m_cons (m_set (i := 3) (ne (x_lst a_nil)) sc.nd)
    (m_cons (m_for (w_rng1 (by rfl) T.n_range (ae_cons (e_op o_mul n_mul (e_op op_fdiv n_div (ei (ks := [1]) (n := 2) o__law_take hr (by decide) (fun e ds e1 h => by have := (lec len0) e ds e1 h; simp [this]) (nx__law_take) (av_cons (i := 1) (ae_cons (ne x_int) ae_nil))) (ne x_int)) (ei (ks := [1]) (n := 2) o__law_take hr (by decide) (fun e ds e1 h => by have := (lec len0) e ds e1 h; simp [this]) (nx__law_take) (av_cons (i := 1) (ae_cons (ne x_int) ae_nil)))) ae_nil) (lec len0)) (g_name (i := 4) sc.nd)
    (m_one (m_expr (e_append (i := 3) (pe_bm PySem.F.plainAttrs_list PySem.F.slot_list_append PySem.F.type_list_append mt_append (pv 3) (ae_cons (ne (x_tup (a_cons (nb (x_op o_add n_add (nb x_str) (nb (x_call n_str (pe_callTy c_str (by rfl) T.n_str bb_str (a_cons (nb (x_op o_add n_add (x_var (i := 4)) (nb x_int))) a_nil)))))) (a_cons (nb x_str) (a_cons (x_var (i := 4)) a_nil))))) ae_nil))))) PassesOwn.never rfl)
    (m_cons (m_set (i := 5) (ne (x_tup (a_cons (nb x_str) (a_cons (nb (x_call n_tuple (pe_callTy call_tuple_of (by rfl) T.n_tuple bb_tuple (a_cons (x_var (i := 2)) a_nil)))) (a_cons (nb (x_call n_tuple (pe_callTy call_tuple_of (by rfl) T.n_tuple bb_tuple (a_cons (x_var (i := 3)) a_nil)))) a_nil))))) sc.nd)
    (m_cons (m_set (i := 6) (e_ix (e_lst (ae_cons (ne x_int) (ae_cons (ne x_int) (ae_cons (e_op o_add n_add (ne x_int) (ei (ks := [1]) (n := 2) o__law_take hr (by decide) (fun e ds e1 h => by have := (lec len0) e ds e1 h; simp [this]) (nx__law_take) (av_cons (i := 1) (ae_cons (ne x_int) ae_nil)))) (ae_cons (e_op o_add n_add (ne x_int) (ei (ks := [1]) (n := 2) o__law_take hr (by decide) (fun e ds e1 h => by have := (lec len0) e ds e1 h; simp [this]) (nx__law_take) (av_cons (i := 1) (ae_cons (ne x_int) ae_nil)))) ae_nil))))) (ei (ks := [1]) (n := 2) o__law_take hr (by decide) (fun e ds e1 h => by have := (lec len0) e ds e1 h; simp [this]) (nx__law_take) (av_cons (i := 1) (ae_cons (ne x_int) ae_nil)))) sc.nd)
    (m_cons (m_set (i := 7) (e_ix (e_lst (ae_cons (ne x_int) (ae_cons (ne x_int) (ae_cons (e_op o_add n_add (ne x_int) (ei (ks := [1]) (n := 2) o__law_take hr (by decide) (fun e ds e1 h => by have := (lec len0) e ds e1 h; simp [this]) (nx__law_take) (av_cons (i := 1) (ae_cons (ne x_int) ae_nil)))) (ae_cons (e_op o_add n_add (ne x_int) (ei (ks := [1]) (n := 2) o__law_take hr (by decide) (fun e ds e1 h => by have := (lec len0) e ds e1 h; simp [this]) (nx__law_take) (av_cons (i := 1) (ae_cons (ne x_int) ae_nil)))) ae_nil))))) (ei (ks := [1]) (n := 2) o__law_take hr (by decide) (fun e ds e1 h => by have := (lec len0) e ds e1 h; simp [this]) (nx__law_take) (av_cons (i := 1) (ae_cons (ne x_int) ae_nil)))) sc.nd)
    (m_cons (m_lock (i := 3) (m_set (i := 8) (ne (xd o__law_blocks hr (lc (lc (lc (fun _ _ => ln)))) (nx__law_blocks) (a_cons (x_var (i := 2)) (a_cons (x_var (i := 3)) (a_cons (x_var (i := 6)) a_nil))))) sc.nd))
    (m_cons (m_set (i := 9) (ne (xd o__law_put hr (lc (lc (fun _ _ => ln))) (nx__law_put) (a_cons (x_var (i := 8)) (a_cons (x_var (i := 7)) a_nil)))) sc.nd)
    (m_cons (m_setLc (i := 10) (own := [("k", 4)]) (w_rng1 (by rfl) T.n_range (ae_cons (ne (x_call n_len (pe_callB c_len (by rfl) T.n_len bb_len (a_cons (x_var (i := 8)) a_nil)))) ae_nil) (lec len0)) rfl sc.nd (sw_true rfl rfl rfl (by decide +kernel)) (blkOk_by (N := N_law) (sc := defScope s_law) (by decide +kernel)) (fun _ _ _ _ _ => (g_name (i := 4) sc.nd)) (fun _ _ _ _ _ => (ts_one (t_cmp o_gt n_gt (x_ix (x_ix (x_var (i := 8)) (x_var (i := 4))) (nb x_int)) (nb x_int) (nomark _)))) (fun _ _ _ _ _ => (ne (x_tup (a_cons (x_ix (x_ix (x_var (i := 8)) (x_var (i := 4))) (nb x_int)) (a_cons (x_ix (x_ix (x_var (i := 9)) (x_var (i := 4))) (nb x_int)) a_nil))))))
    (m_cons (m_if (t_not (t_val (ne (xd o__law_same hr (lc (lc (fun _ _ => ln))) (nx__law_same _) (a_cons (nb (xdX o_page_numbers hr takes_no (lc (lc (lc (fun _ _ => ln)))) (a_cons (x_var (i := 5)) (a_cons (x_var (i := 6)) (a_cons (x_var (i := 7)) a_nil))))) (a_cons (nb (x_call n_tuple (pe_callTy call_tuple_of (by rfl) T.n_tuple bb_tuple (a_cons (x_var (i := 10)) a_nil)))) a_nil))))))
    (m_one (m_ret (ne x_bl)))
    m_nil)
    (m_cons (m_set (i := 11) (ne (x_lst a_nil)) sc.nd)
    (m_cons (m_lock (i := 10) (m_forV (i := 8) (g_tup rfl (gs_cons (i := 12) sc.nd (gs_cons (i := 13) sc.nd (gs_cons (i := 14) sc.nd gs_nil))))
    (m_one (m_if (PW.pt (t_and (t_cmp o_gt n_gt (x_var (i := 12)) (nb x_int) (nomark _)) (t_and1 (PW.pt (t_or (t_cmp (op_eqD hu) n_eq (x_var (i := 13)) (nb x_str) (nomark _)) (t_or1 (t_cmp (op_eqD hu) n_eq (x_var (i := 13)) (nb x_str) (nomark _))))))))
    (m_one (m_expr (e_append (i := 11) (pe_bm PySem.F.plainAttrs_list PySem.F.slot_list_append PySem.F.type_list_append mt_append (pv 11) (ae_cons (ne (xd o__law_dotted hr (lc (lc (lc (lc (fun _ _ => ln))))) (nx__law_dotted) (a_cons (x_var (i := 2)) (a_cons (x_ix (x_var (i := 2)) (nb (x_op op_sub n_sub (x_var (i := 12)) (nb x_int)))) (a_cons (x_var (i := 10)) (a_cons (x_var (i := 6)) a_nil)))))) ae_nil)))))
    (m_one (m_expr (e_append (i := 11) (pe_bm PySem.F.plainAttrs_list PySem.F.slot_list_append PySem.F.type_list_append mt_append (pv 11) (ae_cons (be (x_var (i := 14))) ae_nil))))))) PassesOwn.never rfl))
    (m_cons (m_lock (i := 11) (m_if (t_not (t_val (ne (xd o__law_same hr (lc (lc (fun _ _ => ln))) (nx__law_same _) (a_cons (nb (xdX o_print_pages hr takes_no (lc (lc (lc (fun _ _ => ln)))) (a_cons (x_var (i := 5)) (a_cons (x_var (i := 6)) (a_cons (x_var (i := 7)) a_nil))))) (a_cons (nb (xd o__law_sheets hr (lc (lc (lc (lc (fun _ _ => ln))))) (nx__law_sheets) (a_cons (x_var (i := 8)) (a_cons (x_var (i := 9)) (a_cons (x_var (i := 11)) (a_cons (x_var (i := 7)) a_nil)))))) a_nil))))))
    (m_one (m_ret (ne x_bl)))
    m_nil))
    (m_cons (m_set (i := 15) (ne (x_tup (a_cons (nb x_str) (a_cons (nb x_str) (a_cons (nb (x_op o_add n_add (nb x_str) (nb (x_op o_mul n_mul (nb x_str) (nb x_int))))) a_nil))))) sc.nd)
    (m_cons (m_if (t_not (t_val (ne (xd o__law_same hr (lc (lc (fun _ _ => ln))) (nx__law_same _) (a_cons (nb (xdX o_print_pages hr takes_no (lc (lc (lc (fun _ _ => ln)))) (a_cons (x_var (i := 15)) (a_cons (nb x_int) (a_cons (nb x_int) a_nil))))) (a_cons (nb (x_tup (a_cons (nb (x_tup (a_cons (nb (x_op o_add n_add (nb (x_op o_add n_add (nb x_str) (nb (x_op o_mul n_mul (nb x_str) (nb x_int))))) (nb x_str))) a_nil))) a_nil))) a_nil))))))
    (m_one (m_ret (ne x_bl)))
    m_nil)
    (m_cons (m_if (t_not (t_val (ne (xd o__law_same hr (lc (lc (fun _ _ => ln))) (nx__law_same _) (a_cons (nb (xdX o_page_numbers hr takes_no (lc (lc (lc (fun _ _ => ln)))) (a_cons (x_var (i := 15)) (a_cons (nb x_int) (a_cons (nb x_int) a_nil))))) (a_cons (nb (x_tup a_nil)) a_nil))))))
    (m_one (m_ret (ne x_bl)))
    m_nil)
    (m_cons (m_set (i := 16) (e_ix (ne (x_lst (a_cons (nb (x_tup (a_cons (nb x_int) (a_cons (nb x_int) a_nil)))) (a_cons (nb (x_tup (a_cons (nb x_int) (a_cons (nb x_int) a_nil)))) (a_cons (nb (x_tup (a_cons (nb x_bl) (a_cons (nb x_int) a_nil)))) (a_cons (nb (x_tup (a_cons (nb x_int) (a_cons (nb x_int) a_nil)))) (a_cons (nb (x_tup (a_cons (nb x_int) (a_cons (nb x_int) a_nil)))) (a_cons (nb (x_tup (a_cons (nb x_int) (a_cons (nb x_bl) a_nil)))) (a_cons (nb (x_tup (a_cons (nb x_str) (a_cons (nb x_int) a_nil)))) (a_cons (nb (x_tup (a_cons (nb x_int) (a_cons (nb x_non) a_nil)))) (a_cons (nb (x_tup (a_cons (nb x_int) (a_cons (nb x_int) a_nil)))) a_nil))))))))))) (ei (ks := [1]) (n := 2) o__law_take hr (by decide) (fun e ds e1 h => by have := (lec len0) e ds e1 h; simp [this]) (nx__law_take) (av_cons (i := 1) (ae_cons (ne x_int) ae_nil)))) sc.nd)
    (m_one (m_ret (ne (x_and (nb (xd o__law_refuses hr (lc (lc (lc (fun _ _ => ln)))) (nx__law_refuses) (a_cons (x_var (i := 5)) (a_cons (x_ix (x_var (i := 16)) (nb x_int)) (a_cons (x_ix (x_var (i := 16)) (nb x_int)) a_nil))))) (x_one (nb (xd o__law_refuses hr (lc (lc (lc (fun _ _ => ln)))) (nx__law_refuses) (a_cons (x_var (i := 15)) (a_cons (x_ix (x_var (i := 16)) (nb x_int)) (a_cons (x_ix (x_var (i := 16)) (nb x_int)) a_nil)))))))))))))))))))))))))))))
end
theorem all_mk {l : PySem.W.OpenLaw} {w : World} {K : PySem.W.Frag} {h : Heap} {mg : Str → Option Value} {fa : Addr} (X : K.In h) (G : h.Ns mainGlobals mg) (hfa : mg "law" = some (.ref fa))
    {f0 : Addr} {od0 an0 : Option Addr} {sl0 : Array (Option Value)} {oc0 kV0 dc0 pm0 cd0 ct0 : Value}
    {f1 : Addr} {od1 an1 : Option Addr} {sl1 : Array (Option Value)} {oc1 kV1 dc1 pm1 cd1 ct1 : Value}
    {f2 : Addr} {od2 an2 : Option Addr} {sl2 : Array (Option Value)} {oc2 kV2 dc2 pm2 cd2 ct2 : Value}
    {f3 : Addr} {od3 an3 : Option Addr} {sl3 : Array (Option Value)} {oc3 kV3 dc3 pm3 cd3 ct3 : Value}
    {f4 : Addr} {od4 an4 : Option Addr} {sl4 : Array (Option Value)} {oc4 kV4 dc4 pm4 cd4 ct4 : Value}
    {f5 : Addr} {od5 an5 : Option Addr} {sl5 : Array (Option Value)} {oc5 kV5 dc5 pm5 cd5 ct5 : Value}
    {f6 : Addr} {od6 an6 : Option Addr} {sl6 : Array (Option Value)} {oc6 kV6 dc6 pm6 cd6 ct6 : Value}
    {f7 : Addr} {od7 an7 : Option Addr} {sl7 : Array (Option Value)} {oc7 kV7 dc7 pm7 cd7 ct7 : Value}
    {f8 : Addr} {od8 an8 : Option Addr} {sl8 : Array (Option Value)} {oc8 kV8 dc8 pm8 cd8 ct8 : Value}
    {f9 : Addr} {od9 an9 : Option Addr} {sl9 : Array (Option Value)} {oc9 kV9 dc9 pm9 cd9 ct9 : Value}
    {f10 : Addr} {od10 an10 : Option Addr} {sl10 : Array (Option Value)} {oc10 kV10 dc10 pm10 cd10 ct10 : Value}
    {f11 : Addr} {od11 an11 : Option Addr} {sl11 : Array (Option Value)} {oc11 kV11 dc11 pm11 cd11 ct11 : Value}
    {f12 : Addr} {od12 an12 : Option Addr} {sl12 : Array (Option Value)} {oc12 kV12 dc12 pm12 cd12 ct12 : Value}
    {f13 : Addr} {od13 an13 : Option Addr} {sl13 : Array (Option Value)} {oc13 kV13 dc13 pm13 cd13 ct13 : Value}
    {f14 : Addr} {od14 an14 : Option Addr} {sl14 : Array (Option Value)} {oc14 kV14 dc14 pm14 cd14 ct14 : Value}
    {f15 : Addr} {od15 an15 : Option Addr} {sl15 : Array (Option Value)} {oc15 kV15 dc15 pm15 cd15 ct15 : Value}
    {f16 : Addr} {od16 an16 : Option Addr} {sl16 : Array (Option Value)} {oc16 kV16 dc16 pm16 cd16 ct16 : Value}
    {f17 : Addr} {od17 an17 : Option Addr} {sl17 : Array (Option Value)} {oc17 kV17 dc17 pm17 cd17 ct17 : Value}
    {f18 : Addr} {od18 an18 : Option Addr} {sl18 : Array (Option Value)} {oc18 kV18 dc18 pm18 cd18 ct18 : Value}
    {f19 : Addr} {od19 an19 : Option Addr} {sl19 : Array (Option Value)} {oc19 kV19 dc19 pm19 cd19 ct19 : Value}
    {f20 : Addr} {od20 an20 : Option Addr} {sl20 : Array (Option Value)} {oc20 kV20 dc20 pm20 cd20 ct20 : Value}
    {f21 : Addr} {od21 an21 : Option Addr} {sl21 : Array (Option Value)} {oc21 kV21 dc21 pm21 cd21 ct21 : Value}
    {f22 : Addr} {od22 an22 : Option Addr} {sl22 : Array (Option Value)} {oc22 kV22 dc22 pm22 cd22 ct22 : Value}
    {f23 : Addr} {od23 an23 : Option Addr} {sl23 : Array (Option Value)} {oc23 kV23 dc23 pm23 cd23 ct23 : Value}
    {f24 : Addr} {od24 an24 : Option Addr} {sl24 : Array (Option Value)} {oc24 kV24 dc24 pm24 cd24 ct24 : Value}
    {f25 : Addr} {od25 an25 : Option Addr} {sl25 : Array (Option Value)} {oc25 kV25 dc25 pm25 cd25 ct25 : Value}
    {f26 : Addr} {od26 an26 : Option Addr} {sl26 : Array (Option Value)} {oc26 kV26 dc26 pm26 cd26 ct26 : Value}
    {f27 : Addr} {od27 an27 : Option Addr} {sl27 : Array (Option Value)} {oc27 kV27 dc27 pm27 cd27 ct27 : Value}
    {f28 : Addr} {od28 an28 : Option Addr} {sl28 : Array (Option Value)} {oc28 kV28 dc28 pm28 cd28 ct28 : Value}
    {f29 : Addr} {od29 an29 : Option Addr} {sl29 : Array (Option Value)} {oc29 kV29 dc29 pm29 cd29 ct29 : Value}
    {f30 : Addr} {od30 an30 : Option Addr} {sl30 : Array (Option Value)} {oc30 kV30 dc30 pm30 cd30 ct30 : Value}
    {f31 : Addr} {od31 an31 : Option Addr} {sl31 : Array (Option Value)} {oc31 kV31 dc31 pm31 cd31 ct31 : Value}
    {f32 : Addr} {od32 an32 : Option Addr} {sl32 : Array (Option Value)} {oc32 kV32 dc32 pm32 cd32 ct32 : Value}
    {f33 : Addr} {od33 an33 : Option Addr} {sl33 : Array (Option Value)} {oc33 kV33 dc33 pm33 cd33 ct33 : Value}
    {f34 : Addr} {od34 an34 : Option Addr} {sl34 : Array (Option Value)} {oc34 kV34 dc34 pm34 cd34 ct34 : Value}
    {f35 : Addr} {od35 an35 : Option Addr} {sl35 : Array (Option Value)} {oc35 kV35 dc35 pm35 cd35 ct35 : Value}
    {f36 : Addr} {od36 an36 : Option Addr} {sl36 : Array (Option Value)} {oc36 kV36 dc36 pm36 cd36 ct36 : Value}
    {f37 : Addr} {od37 an37 : Option Addr} {sl37 : Array (Option Value)} {oc37 kV37 dc37 pm37 cd37 ct37 : Value}
    {f38 : Addr} {od38 an38 : Option Addr} {sl38 : Array (Option Value)} {oc38 kV38 dc38 pm38 cd38 ct38 : Value}
    {f39 : Addr} {od39 an39 : Option Addr} {sl39 : Array (Option Value)} {oc39 kV39 dc39 pm39 cd39 ct39 : Value}
    {f40 : Addr} {od40 an40 : Option Addr} {sl40 : Array (Option Value)} {oc40 kV40 dc40 pm40 cd40 ct40 : Value}
    {t0 : Tok}
    {t1 : Tok}
    {t2 : Tok}
    {t3 : Tok}
    {t4 : Tok}
    {t5 : Tok}
    {t6 : Tok}
    {cl0 : Addr}
    {cl1 : Addr}
    {cl2 : Addr}
    (a0 : PySem.W.nsIn K mainGlobals "is_count" = some (some (.ref f0)))
    (l0 : K.lookup f0 = some ⟨oc0, od0, .func (PySem.W.fnOf "is_count" "is_count" (defArgs s_is_count) (defBody s_is_count) (defScope s_is_count) .none kV0 dc0 pm0 an0 cd0 ct0), sl0⟩)
    (c0 : PySem.W.codeIn K cd0 "is_count" = true)
    (k0 : PySem.W.keepIn K (.ref f0) = true)
    (a1 : PySem.W.nsIn K mainGlobals "is_fault" = some (some (.ref f1)))
    (l1 : K.lookup f1 = some ⟨oc1, od1, .func (PySem.W.fnOf "is_fault" "is_fault" (defArgs s_is_fault) (defBody s_is_fault) (defScope s_is_fault) .none kV1 dc1 pm1 an1 cd1 ct1), sl1⟩)
    (c1 : PySem.W.codeIn K cd1 "is_fault" = true)
    (k1 : PySem.W.keepIn K (.ref f1) = true)
    (a2 : PySem.W.nsIn K mainGlobals "show_value" = some (some (.ref f2)))
    (l2 : K.lookup f2 = some ⟨oc2, od2, .func (PySem.W.fnOf "show_value" "show_value" (defArgs s_show_value) (defBody s_show_value) (defScope s_show_value) .none kV2 dc2 pm2 an2 cd2 ct2), sl2⟩)
    (c2 : PySem.W.codeIn K cd2 "show_value" = true)
    (k2 : PySem.W.keepIn K (.ref f2) = true)
    (a3 : PySem.W.nsIn K mainGlobals "wrap" = some (some (.ref f3)))
    (l3 : K.lookup f3 = some ⟨oc3, od3, .func (PySem.W.fnOf "wrap" "wrap" (defArgs s_wrap) (defBody s_wrap) (defScope s_wrap) .none kV3 dc3 pm3 an3 cd3 ct3), sl3⟩)
    (c3 : PySem.W.codeIn K cd3 "wrap" = true)
    (k3 : PySem.W.keepIn K (.ref f3) = true)
    (a4 : PySem.W.nsIn K mainGlobals "listing_texts" = some (some (.ref f4)))
    (l4 : K.lookup f4 = some ⟨oc4, od4, .func (PySem.W.fnOf "listing_texts" "listing_texts" (defArgs s_listing_texts) (defBody s_listing_texts) (defScope s_listing_texts) .none kV4 dc4 pm4 an4 cd4 ct4), sl4⟩)
    (c4 : PySem.W.codeIn K cd4 "listing_texts" = true)
    (k4 : PySem.W.keepIn K (.ref f4) = true)
    (a5 : PySem.W.nsIn K mainGlobals "joined_lines" = some (some (.ref f5)))
    (l5 : K.lookup f5 = some ⟨oc5, od5, .func (PySem.W.fnOf "joined_lines" "joined_lines" (defArgs s_joined_lines) (defBody s_joined_lines) (defScope s_joined_lines) .none kV5 dc5 pm5 an5 cd5 ct5), sl5⟩)
    (c5 : PySem.W.codeIn K cd5 "joined_lines" = true)
    (k5 : PySem.W.keepIn K (.ref f5) = true)
    (a6 : PySem.W.nsIn K mainGlobals "is_listing" = some (some (.ref f6)))
    (l6 : K.lookup f6 = some ⟨oc6, od6, .func (PySem.W.fnOf "is_listing" "is_listing" (defArgs s_is_listing) (defBody s_is_listing) (defScope s_is_listing) .none kV6 dc6 pm6 an6 cd6 ct6), sl6⟩)
    (c6 : PySem.W.codeIn K cd6 "is_listing" = true)
    (k6 : PySem.W.keepIn K (.ref f6) = true)
    (a7 : PySem.W.nsIn K mainGlobals "para_kind" = some (some (.ref f7)))
    (l7 : K.lookup f7 = some ⟨oc7, od7, .func (PySem.W.fnOf "para_kind" "para_kind" (defArgs s_para_kind) (defBody s_para_kind) (defScope s_para_kind) .none kV7 dc7 pm7 an7 cd7 ct7), sl7⟩)
    (c7 : PySem.W.codeIn K cd7 "para_kind" = true)
    (k7 : PySem.W.keepIn K (.ref f7) = true)
    (a8 : PySem.W.nsIn K mainGlobals "para_lines" = some (some (.ref f8)))
    (l8 : K.lookup f8 = some ⟨oc8, od8, .func (PySem.W.fnOf "para_lines" "para_lines" (defArgs s_para_lines) (defBody s_para_lines) (defScope s_para_lines) .none kV8 dc8 pm8 an8 cd8 ct8), sl8⟩)
    (c8 : PySem.W.codeIn K cd8 "para_lines" = true)
    (k8 : PySem.W.keepIn K (.ref f8) = true)
    (a9 : PySem.W.nsIn K mainGlobals "fault_line" = some (some (.ref f9)))
    (l9 : K.lookup f9 = some ⟨oc9, od9, .func (PySem.W.fnOf "fault_line" "fault_line" (defArgs s_fault_line) (defBody s_fault_line) (defScope s_fault_line) .none kV9 dc9 pm9 an9 cd9 ct9), sl9⟩)
    (c9 : PySem.W.codeIn K cd9 "fault_line" = true)
    (k9 : PySem.W.keepIn K (.ref f9) = true)
    (a10 : PySem.W.nsIn K mainGlobals "view_blocks" = some (some (.ref f10)))
    (l10 : K.lookup f10 = some ⟨oc10, od10, .func (PySem.W.fnOf "view_blocks" "view_blocks" (defArgs s_view_blocks) (defBody s_view_blocks) (defScope s_view_blocks) .none kV10 dc10 pm10 an10 cd10 ct10), sl10⟩)
    (c10 : PySem.W.codeIn K cd10 "view_blocks" = true)
    (k10 : PySem.W.keepIn K (.ref f10) = true)
    (a11 : PySem.W.nsIn K mainGlobals "gap_size" = some (some (.ref f11)))
    (l11 : K.lookup f11 = some ⟨oc11, od11, .func (PySem.W.fnOf "gap_size" "gap_size" (defArgs s_gap_size) (defBody s_gap_size) (defScope s_gap_size) .none kV11 dc11 pm11 an11 cd11 ct11), sl11⟩)
    (c11 : PySem.W.codeIn K cd11 "gap_size" = true)
    (k11 : PySem.W.keepIn K (.ref f11) = true)
    (a12 : PySem.W.nsIn K mainGlobals "check_width" = some (some (.ref f12)))
    (l12 : K.lookup f12 = some ⟨oc12, od12, .func (PySem.W.fnOf "check_width" "check_width" (defArgs s_check_width) (defBody s_check_width) (defScope s_check_width) .none kV12 dc12 pm12 an12 cd12 ct12), sl12⟩)
    (c12 : PySem.W.codeIn K cd12 "check_width" = true)
    (k12 : PySem.W.keepIn K (.ref f12) = true)
    (a13 : PySem.W.nsIn K mainGlobals "pad_left" = some (some (.ref f13)))
    (l13 : K.lookup f13 = some ⟨oc13, od13, .func (PySem.W.fnOf "pad_left" "pad_left" (defArgs s_pad_left) (defBody s_pad_left) (defScope s_pad_left) .none kV13 dc13 pm13 an13 cd13 ct13), sl13⟩)
    (c13 : PySem.W.codeIn K cd13 "pad_left" = true)
    (k13 : PySem.W.keepIn K (.ref f13) = true)
    (a14 : PySem.W.nsIn K mainGlobals "check_size" = some (some (.ref f14)))
    (l14 : K.lookup f14 = some ⟨oc14, od14, .func (PySem.W.fnOf "check_size" "check_size" (defArgs s_check_size) (defBody s_check_size) (defScope s_check_size) .none kV14 dc14 pm14 an14 cd14 ct14), sl14⟩)
    (c14 : PySem.W.codeIn K cd14 "check_size" = true)
    (k14 : PySem.W.keepIn K (.ref f14) = true)
    (a15 : PySem.W.nsIn K mainGlobals "needed_lines" = some (some (.ref f15)))
    (l15 : K.lookup f15 = some ⟨oc15, od15, .func (PySem.W.fnOf "needed_lines" "needed_lines" (defArgs s_needed_lines) (defBody s_needed_lines) (defScope s_needed_lines) .none kV15 dc15 pm15 an15 cd15 ct15), sl15⟩)
    (c15 : PySem.W.codeIn K cd15 "needed_lines" = true)
    (k15 : PySem.W.keepIn K (.ref f15) = true)
    (a16 : PySem.W.nsIn K mainGlobals "block_starts" = some (some (.ref f16)))
    (l16 : K.lookup f16 = some ⟨oc16, od16, .func (PySem.W.fnOf "block_starts" "block_starts" (defArgs s_block_starts) (defBody s_block_starts) (defScope s_block_starts) .none kV16 dc16 pm16 an16 cd16 ct16), sl16⟩)
    (c16 : PySem.W.codeIn K cd16 "block_starts" = true)
    (k16 : PySem.W.keepIn K (.ref f16) = true)
    (a17 : PySem.W.nsIn K mainGlobals "para_pages" = some (some (.ref f17)))
    (l17 : K.lookup f17 = some ⟨oc17, od17, .func (PySem.W.fnOf "para_pages" "para_pages" (defArgs s_para_pages) (defBody s_para_pages) (defScope s_para_pages) .none kV17 dc17 pm17 an17 cd17 ct17), sl17⟩)
    (c17 : PySem.W.codeIn K cd17 "para_pages" = true)
    (k17 : PySem.W.keepIn K (.ref f17) = true)
    (a18 : PySem.W.nsIn K mainGlobals "listed_numbers" = some (some (.ref f18)))
    (l18 : K.lookup f18 = some ⟨oc18, od18, .func (PySem.W.fnOf "listed_numbers" "listed_numbers" (defArgs s_listed_numbers) (defBody s_listed_numbers) (defScope s_listed_numbers) .none kV18 dc18 pm18 an18 cd18 ct18), sl18⟩)
    (c18 : PySem.W.codeIn K cd18 "listed_numbers" = true)
    (k18 : PySem.W.keepIn K (.ref f18) = true)
    (a19 : PySem.W.nsIn K mainGlobals "with_page" = some (some (.ref f19)))
    (l19 : K.lookup f19 = some ⟨oc19, od19, .func (PySem.W.fnOf "with_page" "with_page" (defArgs s_with_page) (defBody s_with_page) (defScope s_with_page) .none kV19 dc19 pm19 an19 cd19 ct19), sl19⟩)
    (c19 : PySem.W.codeIn K cd19 "with_page" = true)
    (k19 : PySem.W.keepIn K (.ref f19) = true)
    (a20 : PySem.W.nsIn K mainGlobals "printed_listing" = some (some (.ref f20)))
    (l20 : K.lookup f20 = some ⟨oc20, od20, .func (PySem.W.fnOf "printed_listing" "printed_listing" (defArgs s_printed_listing) (defBody s_printed_listing) (defScope s_printed_listing) .none kV20 dc20 pm20 an20 cd20 ct20), sl20⟩)
    (c20 : PySem.W.codeIn K cd20 "printed_listing" = true)
    (k20 : PySem.W.keepIn K (.ref f20) = true)
    (a21 : PySem.W.nsIn K mainGlobals "printed_lines" = some (some (.ref f21)))
    (l21 : K.lookup f21 = some ⟨oc21, od21, .func (PySem.W.fnOf "printed_lines" "printed_lines" (defArgs s_printed_lines) (defBody s_printed_lines) (defScope s_printed_lines) .none kV21 dc21 pm21 an21 cd21 ct21), sl21⟩)
    (c21 : PySem.W.codeIn K cd21 "printed_lines" = true)
    (k21 : PySem.W.keepIn K (.ref f21) = true)
    (a22 : PySem.W.nsIn K mainGlobals "put_lines" = some (some (.ref f22)))
    (l22 : K.lookup f22 = some ⟨oc22, od22, .func (PySem.W.fnOf "put_lines" "put_lines" (defArgs s_put_lines) (defBody s_put_lines) (defScope s_put_lines) .none kV22 dc22 pm22 an22 cd22 ct22), sl22⟩)
    (c22 : PySem.W.codeIn K cd22 "put_lines" = true)
    (k22 : PySem.W.keepIn K (.ref f22) = true)
    (a23 : PySem.W.nsIn K mainGlobals "print_pages" = some (some (.ref f23)))
    (l23 : K.lookup f23 = some ⟨oc23, od23, .func (PySem.W.fnOf "print_pages" "print_pages" (defArgs s_print_pages) (defBody s_print_pages) (defScope s_print_pages) .none kV23 dc23 pm23 an23 cd23 ct23), sl23⟩)
    (c23 : PySem.W.codeIn K cd23 "print_pages" = true)
    (k23 : PySem.W.keepIn K (.ref f23) = true)
    (a24 : PySem.W.nsIn K mainGlobals "page_numbers" = some (some (.ref f24)))
    (l24 : K.lookup f24 = some ⟨oc24, od24, .func (PySem.W.fnOf "page_numbers" "page_numbers" (defArgs s_page_numbers) (defBody s_page_numbers) (defScope s_page_numbers) .none kV24 dc24 pm24 an24 cd24 ct24), sl24⟩)
    (c24 : PySem.W.codeIn K cd24 "page_numbers" = true)
    (k24 : PySem.W.keepIn K (.ref f24) = true)
    (a25 : PySem.W.nsIn K mainGlobals "_law_jar" = some (some (.ref f25)))
    (l25 : K.lookup f25 = some ⟨oc25, od25, .func (PySem.W.fnOf "_law_jar" "_law_jar" (defArgs s__law_jar) (defBody s__law_jar) (defScope s__law_jar) .none kV25 dc25 pm25 an25 cd25 ct25), sl25⟩)
    (c25 : PySem.W.codeIn K cd25 "_law_jar" = true)
    (k25 : PySem.W.keepIn K (.ref f25) = true)
    (a26 : PySem.W.nsIn K mainGlobals "_law_take" = some (some (.ref f26)))
    (l26 : K.lookup f26 = some ⟨oc26, od26, .func (PySem.W.fnOf "_law_take" "_law_take" (defArgs s__law_take) (defBody s__law_take) (defScope s__law_take) .none kV26 dc26 pm26 an26 cd26 ct26), sl26⟩)
    (c26 : PySem.W.codeIn K cd26 "_law_take" = true)
    (k26 : PySem.W.keepIn K (.ref f26) = true)
    (a27 : PySem.W.nsIn K mainGlobals "_law_same" = some (some (.ref f27)))
    (l27 : K.lookup f27 = some ⟨oc27, od27, .func (PySem.W.fnOf "_law_same" "_law_same" (defArgs s__law_same) (defBody s__law_same) (defScope s__law_same) .none kV27 dc27 pm27 an27 cd27 ct27), sl27⟩)
    (c27 : PySem.W.codeIn K cd27 "_law_same" = true)
    (k27 : PySem.W.keepIn K (.ref f27) = true)
    (a28 : PySem.W.nsIn K mainGlobals "_law_words" = some (some (.ref f28)))
    (l28 : K.lookup f28 = some ⟨oc28, od28, .func (PySem.W.fnOf "_law_words" "_law_words" (defArgs s__law_words) (defBody s__law_words) (defScope s__law_words) .none kV28 dc28 pm28 an28 cd28 ct28), sl28⟩)
    (c28 : PySem.W.codeIn K cd28 "_law_words" = true)
    (k28 : PySem.W.keepIn K (.ref f28) = true)
    (a29 : PySem.W.nsIn K mainGlobals "_law_wrap" = some (some (.ref f29)))
    (l29 : K.lookup f29 = some ⟨oc29, od29, .func (PySem.W.fnOf "_law_wrap" "_law_wrap" (defArgs s__law_wrap) (defBody s__law_wrap) (defScope s__law_wrap) .none kV29 dc29 pm29 an29 cd29 ct29), sl29⟩)
    (c29 : PySem.W.codeIn K cd29 "_law_wrap" = true)
    (k29 : PySem.W.keepIn K (.ref f29) = true)
    (a30 : PySem.W.nsIn K mainGlobals "_law_view" = some (some (.ref f30)))
    (l30 : K.lookup f30 = some ⟨oc30, od30, .func (PySem.W.fnOf "_law_view" "_law_view" (defArgs s__law_view) (defBody s__law_view) (defScope s__law_view) .none kV30 dc30 pm30 an30 cd30 ct30), sl30⟩)
    (c30 : PySem.W.codeIn K cd30 "_law_view" = true)
    (k30 : PySem.W.keepIn K (.ref f30) = true)
    (a31 : PySem.W.nsIn K mainGlobals "_law_listed" = some (some (.ref f31)))
    (l31 : K.lookup f31 = some ⟨oc31, od31, .func (PySem.W.fnOf "_law_listed" "_law_listed" (defArgs s__law_listed) (defBody s__law_listed) (defScope s__law_listed) .none kV31 dc31 pm31 an31 cd31 ct31), sl31⟩)
    (c31 : PySem.W.codeIn K cd31 "_law_listed" = true)
    (k31 : PySem.W.keepIn K (.ref f31) = true)
    (a32 : PySem.W.nsIn K mainGlobals "_law_texts" = some (some (.ref f32)))
    (l32 : K.lookup f32 = some ⟨oc32, od32, .func (PySem.W.fnOf "_law_texts" "_law_texts" (defArgs s__law_texts) (defBody s__law_texts) (defScope s__law_texts) .none kV32 dc32 pm32 an32 cd32 ct32), sl32⟩)
    (c32 : PySem.W.codeIn K cd32 "_law_texts" = true)
    (k32 : PySem.W.keepIn K (.ref f32) = true)
    (a33 : PySem.W.nsIn K mainGlobals "_law_lines" = some (some (.ref f33)))
    (l33 : K.lookup f33 = some ⟨oc33, od33, .func (PySem.W.fnOf "_law_lines" "_law_lines" (defArgs s__law_lines) (defBody s__law_lines) (defScope s__law_lines) .none kV33 dc33 pm33 an33 cd33 ct33), sl33⟩)
    (c33 : PySem.W.codeIn K cd33 "_law_lines" = true)
    (k33 : PySem.W.keepIn K (.ref f33) = true)
    (a34 : PySem.W.nsIn K mainGlobals "_law_blocks" = some (some (.ref f34)))
    (l34 : K.lookup f34 = some ⟨oc34, od34, .func (PySem.W.fnOf "_law_blocks" "_law_blocks" (defArgs s__law_blocks) (defBody s__law_blocks) (defScope s__law_blocks) .none kV34 dc34 pm34 an34 cd34 ct34), sl34⟩)
    (c34 : PySem.W.codeIn K cd34 "_law_blocks" = true)
    (k34 : PySem.W.keepIn K (.ref f34) = true)
    (a35 : PySem.W.nsIn K mainGlobals "_law_gap" = some (some (.ref f35)))
    (l35 : K.lookup f35 = some ⟨oc35, od35, .func (PySem.W.fnOf "_law_gap" "_law_gap" (defArgs s__law_gap) (defBody s__law_gap) (defScope s__law_gap) .none kV35 dc35 pm35 an35 cd35 ct35), sl35⟩)
    (c35 : PySem.W.codeIn K cd35 "_law_gap" = true)
    (k35 : PySem.W.keepIn K (.ref f35) = true)
    (a36 : PySem.W.nsIn K mainGlobals "_law_put" = some (some (.ref f36)))
    (l36 : K.lookup f36 = some ⟨oc36, od36, .func (PySem.W.fnOf "_law_put" "_law_put" (defArgs s__law_put) (defBody s__law_put) (defScope s__law_put) .none kV36 dc36 pm36 an36 cd36 ct36), sl36⟩)
    (c36 : PySem.W.codeIn K cd36 "_law_put" = true)
    (k36 : PySem.W.keepIn K (.ref f36) = true)
    (a37 : PySem.W.nsIn K mainGlobals "_law_dotted" = some (some (.ref f37)))
    (l37 : K.lookup f37 = some ⟨oc37, od37, .func (PySem.W.fnOf "_law_dotted" "_law_dotted" (defArgs s__law_dotted) (defBody s__law_dotted) (defScope s__law_dotted) .none kV37 dc37 pm37 an37 cd37 ct37), sl37⟩)
    (c37 : PySem.W.codeIn K cd37 "_law_dotted" = true)
    (k37 : PySem.W.keepIn K (.ref f37) = true)
    (a38 : PySem.W.nsIn K mainGlobals "_law_sheets" = some (some (.ref f38)))
    (l38 : K.lookup f38 = some ⟨oc38, od38, .func (PySem.W.fnOf "_law_sheets" "_law_sheets" (defArgs s__law_sheets) (defBody s__law_sheets) (defScope s__law_sheets) .none kV38 dc38 pm38 an38 cd38 ct38), sl38⟩)
    (c38 : PySem.W.codeIn K cd38 "_law_sheets" = true)
    (k38 : PySem.W.keepIn K (.ref f38) = true)
    (a39 : PySem.W.nsIn K mainGlobals "_law_refuses" = some (some (.ref f39)))
    (l39 : K.lookup f39 = some ⟨oc39, od39, .func (PySem.W.fnOf "_law_refuses" "_law_refuses" (defArgs s__law_refuses) (defBody s__law_refuses) (defScope s__law_refuses) .none kV39 dc39 pm39 an39 cd39 ct39), sl39⟩)
    (c39 : PySem.W.codeIn K cd39 "_law_refuses" = true)
    (k39 : PySem.W.keepIn K (.ref f39) = true)
    (a40 : PySem.W.nsIn K mainGlobals "law" = some (some (.ref f40)))
    (l40 : K.lookup f40 = some ⟨oc40, od40, .func (PySem.W.fnOf "law" "law" (defArgs s_law) (defBody s_law) (defScope s_law) .none kV40 dc40 pm40 an40 cd40 ct40), sl40⟩)
    (c40 : PySem.W.codeIn K cd40 "law" = true)
    (k40 : PySem.W.keepIn K (.ref f40) = true)
    (e0 : PySem.W.nsIn K mainGlobals "FAULT_KIND" = some (some (Value.str (Str.ofString "fault") t0)))
    (e1 : PySem.W.nsIn K mainGlobals "WIDTH_LEAST" = some (some (Value.int 20 t1)))
    (e2 : PySem.W.nsIn K mainGlobals "WIDTH_MOST" = some (some (Value.int 100 t2)))
    (e3 : PySem.W.nsIn K mainGlobals "HEIGHT_LEAST" = some (some (Value.int 5 t3)))
    (e4 : PySem.W.nsIn K mainGlobals "HEIGHT_MOST" = some (some (Value.int 100 t4)))
    (e5 : PySem.W.nsIn K mainGlobals "PAGE_COLUMNS" = some (some (Value.int 4 t5)))
    (e6 : PySem.W.nsIn K mainGlobals "LISTING_MARGIN" = some (some (Value.int 5 t6)))
    (z0 : PySem.W.nsIn K mainGlobals "ValueError" = some none)
    (z1 : PySem.W.nsIn K mainGlobals "bool" = some none)
    (z2 : PySem.W.nsIn K mainGlobals "divmod" = some none)
    (z3 : PySem.W.nsIn K mainGlobals "int" = some none)
    (z4 : PySem.W.nsIn K mainGlobals "isinstance" = some none)
    (z5 : PySem.W.nsIn K mainGlobals "len" = some none)
    (z6 : PySem.W.nsIn K mainGlobals "list" = some none)
    (z7 : PySem.W.nsIn K mainGlobals "max" = some none)
    (z8 : PySem.W.nsIn K mainGlobals "min" = some none)
    (z9 : PySem.W.nsIn K mainGlobals "range" = some none)
    (z10 : PySem.W.nsIn K mainGlobals "str" = some none)
    (z11 : PySem.W.nsIn K mainGlobals "tuple" = some none)
    (ga0 : PySem.W.nsIn K mainGlobals "LecternError" = some (some (.ref cl0)))
    (ga1 : PySem.W.nsIn K mainGlobals "BadValue" = some (some (.ref cl1)))
    (ga2 : PySem.W.nsIn K mainGlobals "BadLine" = some (some (.ref cl2)))
    (xk1 : PySem.W.keepIn K (.ref cl1) = true)
    (xx1 : PySem.W.excIn K cl1 veBase "ValueError.__new__" = true)
    (xs1 : PySem.W.subIn K (.ref cl1) (.type "BaseException") = some true)
    (xt1 : PySem.W.typeIn K (.ref cl1) = some (.type "type"))
    (xg1 : PySem.W.findIn K (.ref cl1) "__getattribute__" = some (some (.builtin "BaseException.__getattribute__")))
    (xh1 : PySem.W.findIn K (.ref cl1) "__getattr__" = some none)
    (xd1 : PySem.W.hasDictIn K cl1 = true)
    (xc1 : PySem.W.findIn K (.ref cl1) "__class__" = some (some (.builtin "object.__class__")))
    (xn : PySem.W.specialIn K (.builtin "object.__class__") "__get__" = some (some (.builtin "getset_descriptor.__get__")))
    (xa : PySem.W.takesIn K (.builtin "object.__class__") = some true)
    (xm1 : PySem.W.mroIn K cl1 (.type "object") = some true)
    (xself1 : PySem.W.subIn K (.ref cl1) (.ref cl1) = some true)
    (sb1_0 : PySem.W.subIn K (.ref cl1) (.ref cl0) = some true)
    (xd0 : PySem.W.hasDictIn K cl0 = true)
    (xt0 : PySem.W.typeIn K (.ref cl0) = some (.type "type"))
    (sb1_2 : PySem.W.subIn K (.ref cl1) (.ref cl2) = some false)
    (xd2 : PySem.W.hasDictIn K cl2 = true)
    (xt2 : PySem.W.typeIn K (.ref cl2) = some (.type "type"))
    (sv1 : PySem.W.subIn K (.ref cl1) (.type "ValueError") = some true)
    : ∃ fd : FuncData, (∀ (s : Shared) (v : Value), BindsTo s fd ⟨[v], []⟩ [("script", v)]) ∧ ∀ base : Heap, K.In base → base.Ns mainGlobals mg → FnOk l.prog w K mg base CX0 12 fa fd ["script"] (spN K 1 m_law) := by
  have e := hfa.symm.trans (PySem.W.mg_of X G a40)
  cases e
  have F0 := fun_mk (st := s_is_count) l0 c0 k0
  have D0 := defAt X G F0 (F0.binds (ps := ["value", "least", "most"]) fun _ _ _ _ _ _ us hl => match us, hl with | [_, _, _], _ => rfl) a0
  have F1 := fun_mk (st := s_is_fault) l1 c1 k1
  have D1 := defAt X G F1 (F1.binds (ps := ["answer"]) fun _ _ _ _ _ _ us hl => match us, hl with | [_], _ => rfl) a1
  have F2 := fun_mk (st := s_show_value) l2 c2 k2
  have D2 := defAt X G F2 (F2.binds (ps := ["value"]) fun _ _ _ _ _ _ us hl => match us, hl with | [_], _ => rfl) a2
  have F3 := fun_mk (st := s_wrap) l3 c3 k3
  have D3 := defAt X G F3 (F3.binds (ps := ["text", "width", "first", "rest"]) fun _ _ _ _ _ _ us hl => match us, hl with | [_, _, _, _], _ => rfl) a3
  have F4 := fun_mk (st := s_listing_texts) l4 c4 k4
  have D4 := defAt X G F4 (F4.binds (ps := ["pairs", "width"]) fun _ _ _ _ _ _ us hl => match us, hl with | [_, _], _ => rfl) a4
  have F5 := fun_mk (st := s_joined_lines) l5 c5 k5
  have D5 := defAt X G F5 (F5.binds (ps := ["texts"]) fun _ _ _ _ _ _ us hl => match us, hl with | [_], _ => rfl) a5
  have F6 := fun_mk (st := s_is_listing) l6 c6 k6
  have D6 := defAt X G F6 (F6.binds (ps := ["para"]) fun _ _ _ _ _ _ us hl => match us, hl with | [_], _ => rfl) a6
  have F7 := fun_mk (st := s_para_kind) l7 c7 k7
  have D7 := defAt X G F7 (F7.binds (ps := ["para"]) fun _ _ _ _ _ _ us hl => match us, hl with | [_], _ => rfl) a7
  have F8 := fun_mk (st := s_para_lines) l8 c8 k8
  have D8 := defAt X G F8 (F8.binds (ps := ["para", "width", "listing_width"]) fun _ _ _ _ _ _ us hl => match us, hl with | [_, _, _], _ => rfl) a8
  have F9 := fun_mk (st := s_fault_line) l9 c9 k9
  have D9 := defAt X G F9 (F9.binds (ps := ["fault"]) fun _ _ _ _ _ _ us hl => match us, hl with | [_], _ => rfl) a9
  have F10 := fun_mk (st := s_view_blocks) l10 c10 k10
  have D10 := defAt X G F10 (F10.binds (ps := ["view", "width", "listing_width"]) fun _ _ _ _ _ _ us hl => match us, hl with | [_, _, _], _ => rfl) a10
  have F11 := fun_mk (st := s_gap_size) l11 c11 k11
  have D11 := defAt X G F11 (F11.binds (ps := ["block", "following"]) fun _ _ _ _ _ _ us hl => match us, hl with | [_, _], _ => rfl) a11
  have F12 := fun_mk (st := s_check_width) l12 c12 k12
  have D12 := defAt X G F12 (F12.binds (ps := ["width"]) fun _ _ _ _ _ _ us hl => match us, hl with | [_], _ => rfl) a12
  have F13 := fun_mk (st := s_pad_left) l13 c13 k13
  have D13 := defAt X G F13 (F13.binds (ps := ["text", "width"]) fun _ _ _ _ _ _ us hl => match us, hl with | [_, _], _ => rfl) a13
  have F14 := fun_mk (st := s_check_size) l14 c14 k14
  have D14 := defAt X G F14 (F14.binds (ps := ["width", "height"]) fun _ _ _ _ _ _ us hl => match us, hl with | [_, _], _ => rfl) a14
  have F15 := fun_mk (st := s_needed_lines) l15 c15 k15
  have D15 := defAt X G F15 (F15.binds (ps := ["blocks", "at"]) fun _ _ _ _ _ _ us hl => match us, hl with | [_, _], _ => rfl) a15
  have F16 := fun_mk (st := s_block_starts) l16 c16 k16
  have D16 := defAt X G F16 (F16.binds (ps := ["blocks", "height"]) fun _ _ _ _ _ _ us hl => match us, hl with | [_, _], _ => rfl) a16
  have F17 := fun_mk (st := s_para_pages) l17 c17 k17
  have D17 := defAt X G F17 (F17.binds (ps := ["view", "width", "height"]) fun _ _ _ _ _ _ us hl => match us, hl with | [_, _, _], _ => rfl) a17
  have F18 := fun_mk (st := s_listed_numbers) l18 c18 k18
  have D18 := defAt X G F18 (F18.binds (ps := ["paras", "listing"]) fun _ _ _ _ _ _ us hl => match us, hl with | [_, _], _ => rfl) a18
  have F19 := fun_mk (st := s_with_page) l19 c19 k19
  have D19 := defAt X G F19 (F19.binds (ps := ["text", "page", "width"]) fun _ _ _ _ _ _ us hl => match us, hl with | [_, _, _], _ => rfl) a19
  have F20 := fun_mk (st := s_printed_listing) l20 c20 k20
  have D20 := defAt X G F20 (F20.binds (ps := ["paras", "listing", "width", "pages"]) fun _ _ _ _ _ _ us hl => match us, hl with | [_, _, _, _], _ => rfl) a20
  have F21 := fun_mk (st := s_printed_lines) l21 c21 k21
  have D21 := defAt X G F21 (F21.binds (ps := ["view", "block", "width", "pages"]) fun _ _ _ _ _ _ us hl => match us, hl with | [_, _, _, _], _ => rfl) a21
  have F22 := fun_mk (st := s_put_lines) l22 c22 k22
  have D22 := defAt X G F22 (F22.binds (ps := ["sheets", "page", "above", "lines", "height"]) fun _ _ _ _ _ _ us hl => match us, hl with | [_, _, _, _, _], _ => rfl) a22
  have F23 := fun_mk (st := s_print_pages) l23 c23 k23
  have D23 := defAt X G F23 (F23.binds (ps := ["view", "width", "height"]) fun _ _ _ _ _ _ us hl => match us, hl with | [_, _, _], _ => rfl) a23
  have F24 := fun_mk (st := s_page_numbers) l24 c24 k24
  have D24 := defAt X G F24 (F24.binds (ps := ["view", "width", "height"]) fun _ _ _ _ _ _ us hl => match us, hl with | [_, _, _], _ => rfl) a24
  have F25 := fun_mk (st := s__law_jar) l25 c25 k25
  have D25 := defAt X G F25 (F25.binds (ps := ["script"]) fun _ _ _ _ _ _ us hl => match us, hl with | [_], _ => rfl) a25
  have F26 := fun_mk (st := s__law_take) l26 c26 k26
  have D26 := defAt X G F26 (F26.binds (ps := ["jar", "many"]) fun _ _ _ _ _ _ us hl => match us, hl with | [_, _], _ => rfl) a26
  have F27 := fun_mk (st := s__law_same) l27 c27 k27
  have D27 := defAt X G F27 (F27.binds (ps := ["one", "two"]) fun _ _ _ _ _ _ us hl => match us, hl with | [_, _], _ => rfl) a27
  have F28 := fun_mk (st := s__law_words) l28 c28 k28
  have D28 := defAt X G F28 (F28.binds (ps := ["jar", "many"]) fun _ _ _ _ _ _ us hl => match us, hl with | [_, _], _ => rfl) a28
  have F29 := fun_mk (st := s__law_wrap) l29 c29 k29
  have D29 := defAt X G F29 (F29.binds (ps := ["text", "width", "first", "rest"]) fun _ _ _ _ _ _ us hl => match us, hl with | [_, _, _, _], _ => rfl) a29
  have F30 := fun_mk (st := s__law_view) l30 c30 k30
  have D30 := defAt X G F30 (F30.binds (ps := ["jar"]) fun _ _ _ _ _ _ us hl => match us, hl with | [_], _ => rfl) a30
  have F31 := fun_mk (st := s__law_listed) l31 c31 k31
  have D31 := defAt X G F31 (F31.binds (ps := ["paras", "listing"]) fun _ _ _ _ _ _ us hl => match us, hl with | [_, _], _ => rfl) a31
  have F32 := fun_mk (st := s__law_texts) l32 c32 k32
  have D32 := defAt X G F32 (F32.binds (ps := ["para", "width"]) fun _ _ _ _ _ _ us hl => match us, hl with | [_, _], _ => rfl) a32
  have F33 := fun_mk (st := s__law_lines) l33 c33 k33
  have D33 := defAt X G F33 (F33.binds (ps := ["para", "width"]) fun _ _ _ _ _ _ us hl => match us, hl with | [_, _], _ => rfl) a33
  have F34 := fun_mk (st := s__law_blocks) l34 c34 k34
  have D34 := defAt X G F34 (F34.binds (ps := ["paras", "faults", "width"]) fun _ _ _ _ _ _ us hl => match us, hl with | [_, _, _], _ => rfl) a34
  have F35 := fun_mk (st := s__law_gap) l35 c35 k35
  have D35 := defAt X G F35 (F35.binds (ps := ["one", "two"]) fun _ _ _ _ _ _ us hl => match us, hl with | [_, _], _ => rfl) a35
  have F36 := fun_mk (st := s__law_put) l36 c36 k36
  have D36 := defAt X G F36 (F36.binds (ps := ["blocks", "height"]) fun _ _ _ _ _ _ us hl => match us, hl with | [_, _], _ => rfl) a36
  have F37 := fun_mk (st := s__law_dotted) l37 c37 k37
  have D37 := defAt X G F37 (F37.binds (ps := ["paras", "para", "pages", "width"]) fun _ _ _ _ _ _ us hl => match us, hl with | [_, _, _, _], _ => rfl) a37
  have F38 := fun_mk (st := s__law_sheets) l38 c38 k38
  have D38 := defAt X G F38 (F38.binds (ps := ["blocks", "told", "dotted", "height"]) fun _ _ _ _ _ _ us hl => match us, hl with | [_, _, _, _], _ => rfl) a38
  have F39 := fun_mk (st := s__law_refuses) l39 c39 k39
  have D39 := defAt X G F39 (F39.binds (ps := ["view", "width", "height"]) fun _ _ _ _ _ _ us hl => match us, hl with | [_, _, _], _ => rfl) a39
  have F40 := fun_mk (st := s_law) l40 c40 k40
  have D40 := defAt X G F40 (F40.binds (ps := ["script"]) fun _ _ _ _ _ _ us hl => match us, hl with | [_], _ => rfl) a40
  have G0 := ga_of ga0
  have G1 := ga_of ga1
  have G2 := ga_of ga2
  have T : Tops K mg := ⟨⟨_, _, D0⟩, ⟨_, _, D1⟩, ⟨_, _, D2⟩, ⟨_, _, D3⟩, ⟨_, _, D4⟩, ⟨_, _, D5⟩, ⟨_, _, D6⟩, ⟨_, _, D7⟩, ⟨_, _, D8⟩, ⟨_, _, D9⟩, ⟨_, _, D10⟩, ⟨_, _, D11⟩, ⟨_, _, D12⟩, ⟨_, _, D13⟩, ⟨_, _, D14⟩, ⟨_, _, D15⟩, ⟨_, _, D16⟩, ⟨_, _, D17⟩, ⟨_, _, D18⟩, ⟨_, _, D19⟩, ⟨_, _, D20⟩, ⟨_, _, D21⟩, ⟨_, _, D22⟩, ⟨_, _, D23⟩, ⟨_, _, D24⟩, ⟨_, _, D25⟩, ⟨_, _, D26⟩, ⟨_, _, D27⟩, ⟨_, _, D28⟩, ⟨_, _, D29⟩, ⟨_, _, D30⟩, ⟨_, _, D31⟩, ⟨_, _, D32⟩, ⟨_, _, D33⟩, ⟨_, _, D34⟩, ⟨_, _, D35⟩, ⟨_, _, D36⟩, ⟨_, _, D37⟩, ⟨_, _, D38⟩, ⟨_, _, D39⟩, ⟨_, _, D40⟩, conOf X G e0 kStr, conOf X G e1 kInt, conOf X G e2 kInt, conOf X G e3 kInt, conOf X G e4 kInt, conOf X G e5 kInt, conOf X G e6 kInt, PySem.W.mg_none_of X G z0, PySem.W.mg_none_of X G z1, PySem.W.mg_none_of X G z2, PySem.W.mg_none_of X G z3, PySem.W.mg_none_of X G z4, PySem.W.mg_none_of X G z5, PySem.W.mg_none_of X G z6, PySem.W.mg_none_of X G z7, PySem.W.mg_none_of X G z8, PySem.W.mg_none_of X G z9, PySem.W.mg_none_of X G z10, PySem.W.mg_none_of X G z11, (by rw [G0]; exact PySem.W.mg_of X G ga0), (by rw [G1]; exact PySem.W.mg_of X G ga1), (by rw [G2]; exact PySem.W.mg_of X G ga2), (by refine ⟨?_, ?_, ?_, ?_, ?_, ?_⟩ <;> rw [G1]; exact PySem.W.mg_of X G ga1; exact xk1; exact xx1; exact xs1; exact xt1; exact ⟨xg1, xh1, xs1, xd1, xc1, xn, xa, xm1⟩), (by rw [G1]; exact PySem.W.exm_ref xs1 xd1 xt1 xself1), (by rw [G1, G0]; exact kit_ref xd0 xt0 sb1_0 xself1), (by rw [G1, G2]; exact kit_ref xd2 xt2 sb1_2 xself1), (by rw [G1]; exact kit_val sv1)⟩
  refine ⟨PySem.W.fnOf "law" "law" (defArgs s_law) (defBody s_law) (defScope s_law) .none kV40 dc40 pm40 an40 cd40 ct40, fun s v => .of_eq rfl, fun base _ _ => ?_⟩
  have o_is_count : Okd l.prog w K mg base CX0 1 "is_count" (spN K 3 m_is_count) := ok_is_count T
  have o_is_fault : Okd l.prog w K mg base CX0 1 "is_fault" (spN K 1 m_is_fault) := ok_is_fault T
  have o_show_value : Okd l.prog w K mg base CX0 1 "show_value" (spN K 1 m_show_value) := ok_show_value T
  have o_wrap : Okd l.prog w K mg base (L2.CX l.prog w) 1 "wrap" (spN K 4 m_wrap) := ok_wrap T
  have o_joined_lines : Okd l.prog w K mg base CX0 1 "joined_lines" (spN K 1 m_joined_lines) := ok_joined_lines T
  have o_fault_line : Okd l.prog w K mg base CX0 1 "fault_line" (spN K 1 m_fault_line) := ok_fault_line T
  have o_gap_size : Okd l.prog w K mg base CX0 1 "gap_size" (spN K 2 m_gap_size) := ok_gap_size T
  have o_pad_left : Okd l.prog w K mg base CX0 1 "pad_left" (spN K 2 m_pad_left) := ok_pad_left T
  have o_put_lines : Okd l.prog w K mg base CX0 1 "put_lines" (spI K 5 m_put_lines) := ok_put_lines T
  have o__law_jar : Okd l.prog w K mg base CX0 1 "_law_jar" (spN K 1 m__law_jar) := ok__law_jar T
  have o__law_take : Okd l.prog w K mg base CX0 1 "_law_take" (spI K 2 m__law_take) := ok__law_take T
  have o__law_wrap : Okd l.prog w K mg base CX0 1 "_law_wrap" (spN K 4 m__law_wrap) := ok__law_wrap T
  have o__law_listed : Okd l.prog w K mg base CX0 1 "_law_listed" (spN K 2 m__law_listed) := ok__law_listed T
  have o__law_gap : Okd l.prog w K mg base CX0 1 "_law_gap" (spN K 2 m__law_gap) := ok__law_gap T
  have o__law_sheets : Okd l.prog w K mg base CX0 1 "_law_sheets" (spN K 4 m__law_sheets) := ok__law_sheets T
  have o_listing_texts : Okd l.prog w K mg base CX0 2 "listing_texts" (spN K 2 m_listing_texts) := ok_listing_texts T o_wrap
  have o_is_listing : Okd l.prog w K mg base CX0 2 "is_listing" (spN K 1 m_is_listing) := ok_is_listing T o_is_fault
  have o_para_kind : Okd l.prog w K mg base CX0 2 "para_kind" (spN K 1 m_para_kind) := ok_para_kind T o_is_fault
  have o_check_width : Okd l.prog w K mg base (L2.CX l.prog w) 2 "check_width" (spN K 1 m_check_width) := ok_check_width T o_is_count
  have o_needed_lines : Okd l.prog w K mg base CX0 2 "needed_lines" (spN K 2 m_needed_lines) := ok_needed_lines T o_gap_size
  have o_listed_numbers : Okd l.prog w K mg base CX0 2 "listed_numbers" (spN K 2 m_listed_numbers) := ok_listed_numbers T o_is_fault
  have o_with_page : Okd l.prog w K mg base CX0 2 "with_page" (spN K 3 m_with_page) := ok_with_page T o_pad_left
  have o__law_words : Okd l.prog w K mg base CX0 2 "_law_words" (spI K 2 m__law_words) := ok__law_words T o__law_take
  have o__law_texts : Okd l.prog w K mg base CX0 2 "_law_texts" (spN K 2 m__law_texts) := ok__law_texts T o__law_wrap
  have o__law_put : Okd l.prog w K mg base CX0 2 "_law_put" (spN K 2 m__law_put) := ok__law_put T o__law_gap
  have o_para_lines : Okd l.prog w K mg base CX0 3 "para_lines" (spN K 3 m_para_lines) := ok_para_lines T o_is_fault o_is_listing o_joined_lines o_listing_texts o_show_value o_wrap
  have o_check_size : Okd l.prog w K mg base (L2.CX l.prog w) 3 "check_size" (spN K 2 m_check_size) := ok_check_size T o_check_width o_is_count
  have o_block_starts : Okd l.prog w K mg base CX0 3 "block_starts" (spN K 2 m_block_starts) := ok_block_starts T o_gap_size o_needed_lines
  have o_printed_listing : Okd l.prog w K mg base CX0 3 "printed_listing" (spN K 4 m_printed_listing) := ok_printed_listing T o_joined_lines o_listed_numbers o_listing_texts o_with_page
  have o__law_view : Okd l.prog w K mg base CX0 3 "_law_view" (spI K 1 m__law_view) := ok__law_view T o__law_listed o__law_take o__law_words
  have o__law_lines : Okd l.prog w K mg base CX0 3 "_law_lines" (spN K 2 m__law_lines) := ok__law_lines T o__law_texts o__law_wrap
  have o__law_dotted : Okd l.prog w K mg base CX0 3 "_law_dotted" (spN K 4 m__law_dotted) := ok__law_dotted T o__law_listed o__law_texts
  have o_view_blocks : Okd l.prog w K mg base CX0 4 "view_blocks" (spN K 3 m_view_blocks) := ok_view_blocks T o_fault_line o_is_fault o_para_kind o_para_lines o_show_value
  have o_printed_lines : Okd l.prog w K mg base CX0 4 "printed_lines" (spN K 4 m_printed_lines) := ok_printed_lines T o_is_listing o_printed_listing
  have o__law_blocks : Okd l.prog w K mg base CX0 4 "_law_blocks" (spN K 3 m__law_blocks) := ok__law_blocks T o__law_lines
  have o_para_pages : Okd l.prog w K mg base CX0 5 "para_pages" (spN K 3 m_para_pages) := ok_para_pages T o_block_starts o_view_blocks
  have o_print_pages : Okd l.prog w K mg base (L2.CX l.prog w) 6 "print_pages" (spN K 3 m_print_pages) := ok_print_pages T o_block_starts o_check_size o_para_pages o_printed_lines o_put_lines o_view_blocks
  have o_page_numbers : Okd l.prog w K mg base (L2.CX l.prog w) 6 "page_numbers" (spN K 3 m_page_numbers) := ok_page_numbers T o_check_size o_para_pages
  have o__law_refuses : Okd l.prog w K mg base CX0 7 "_law_refuses" (spN K 3 m__law_refuses) := ok__law_refuses T o_page_numbers o_print_pages
  have o__law_same : Okd l.prog w K mg base CX0 11 "_law_same" (spN K 2 (m__law_same 10)) := ok__law_same T 10
  exact ok_law T D40 o__law_blocks o__law_dotted o__law_jar o__law_put o__law_refuses o__law_same o__law_sheets o__law_take o__law_view o_page_numbers o_print_pages

end LK53

namespace LK53
open PySem PySem.Spec L2 Mir
theorem id_w0 {α : Type} {o : Option α} {Q : α → Prop} (h : w0 o Q) : w0 o Q := h
theorem id_w1 {α : Type} {o : Rs α} {Q : α → Prop} (h : w1 o Q) : w1 o Q := h
theorem id_w2 {α : Type} {o : Re α} {Q : α → E → Prop} (h : w2 o Q) : w2 o Q := h
theorem id_wS {s : SR} {N B C : E → Prop} {R : D → E → Prop} (h : wS s N R B C) : wS s N R B C := h
theorem id_and {p q : Prop} (h : p ∧ q) : p ∧ q := h
theorem id_ex {α : Type} {p : α → Prop} (h : ∃ a, p a) : ∃ a, p a := h
local macro_rules | `(tactic| walk_at "m1") => `(tactic| first
  | with_reducible apply w1_bin | ((with_reducible apply w1_var); exact rfl) | with_reducible apply w1_C
  | with_reducible apply w1_cons | with_reducible apply w1_nil | with_reducible apply w1_cal | with_reducible apply w1_un | with_reducible apply w1_call
  | with_reducible apply w1_ch | with_reducible apply w1_and | with_reducible apply w1_or | with_reducible apply w1_not | with_reducible apply w1_tup | with_reducible apply w1_lst | with_reducible apply w1_cut | with_reducible apply w1_cp0 | with_reducible apply w1_cp)
local macro_rules | `(tactic| walk_at "m2") => `(tactic| first
  | with_reducible apply w2_ofN | with_reducible apply w2_tst | with_reducible apply w2_own | with_reducible apply w2_cons | with_reducible apply w2_nil
  | ((with_reducible apply w2_io); exact rfl) | ((with_reducible apply w2_mut); exact rfl) | ((with_reducible apply w2_mv); exact rfl) | with_reducible apply w2_bin | ((with_reducible apply w2_binV); exact rfl) | with_reducible apply w2_un
  | with_reducible apply w2_tup | with_reducible apply w2_lst | with_reducible apply w2_cal | with_reducible apply w2_call | with_reducible apply w2_frz | with_reducible apply w2_cut
  | with_reducible apply w2_and | with_reducible apply w2_or | with_reducible apply w2_not | with_reducible apply w2_tY
  | with_reducible apply w2_wV | with_reducible apply w2_wR1 | with_reducible apply w2_wR2)
local macro_rules | `(tactic| walk_at "mS") => `(tactic| first
  | with_reducible apply wS_seq | with_reducible apply wS_set | with_reducible apply wS_if | with_reducible apply wS_ret
  | with_reducible apply wS_nil | with_reducible apply wS_expr | with_reducible apply wS_retN | with_reducible apply wS_brk | with_reducible apply wS_cnt
  | ((with_reducible apply wS_aug); (focus (exact rfl)); (focus (exact rfl))) | with_reducible apply wS_asg | with_reducible apply wS_par | with_reducible apply wS_setIx | with_reducible apply wS_for)
local macro_rules | `(tactic| walk_at "m0") => `(tactic| first
  | ((with_reducible refine w0_mulI ?_ ?_); focus (first | exact .inr (big64_of (by omega)) | exact .inl (big64_of (by omega))))
  | ((with_reducible refine w0_modI ?_ ?_); focus (first | omega | assumption))
  | ((with_reducible refine w0_divI ?_ ?_); focus (first | omega | assumption))
  | ((with_reducible refine w0_powI ?_ ?_); focus decide)
  | ((with_reducible refine w0_addS ?_ ?_); focus (first | omega | (simp; omega) | (simp; done)))
  | ((with_reducible refine w0_lenS ?_ ?_); focus (first | omega | (simp; omega) | (simp; done)))
  | ((with_reducible refine w0_isTup ?_ ?_); focus (exact rfl)) | ((with_reducible refine w0_isBl ?_ ?_); focus (exact rfl)) | ((with_reducible refine w0_isStr ?_ ?_); focus (exact rfl)) | ((with_reducible refine w0_isInt ?_ ?_); focus (exact rfl)) | ((with_reducible refine w0_isLstD ?_ ?_); focus (exact rfl))
  | ((with_reducible refine w0_strI ?_ ?_); focus omega)
  | ((with_reducible refine w0_eqD ?_ ?_ ?_); (focus (first | assumption | exact rfl)); (focus (first | assumption | exact rfl)))
  | ((with_reducible refine w0_neD ?_ ?_ ?_); (focus (first | assumption | exact rfl)); (focus (first | assumption | exact rfl)))
  | with_reducible apply w0_imm
  | ((fail_if_success with_reducible refine w0_mulI ?_ ?_); (fail_if_success with_reducible refine w0_divI ?_ ?_); (fail_if_success with_reducible refine w0_modI ?_ ?_); (fail_if_success with_reducible refine w0_strI ?_ ?_); (fail_if_success with_reducible refine w0_addS ?_ ?_); (fail_if_success with_reducible refine w0_lenS ?_ ?_); (with_reducible apply w0_of); focus (exact rfl)))
local macro_rules | `(tactic| walk_at "mA") => `(tactic| first
  | ((with_reducible refine And.intro (fun hc => ?_) (fun hc => ?_)) <;> (first | ((with_reducible replace hc := of_decide_eq_true hc); first | omega | (simp at hc; done) | skip) | ((with_reducible replace hc := of_decide_eq_false hc); first | omega | (simp at hc; done) | skip) | exact absurd (show false = true from hc) (by decide) | exact absurd (show true = false from hc) (by decide) | (simp at hc; done) | skip))
  | ((with_reducible apply And.intro); focus (first | with_reducible assumption | ((with_reducible refine small62_of ?_); omega) | ((with_reducible refine fits_of ?_); omega) | exact rfl | (simp [imm, imms, imms_ints, *]; done))))
local macro_rules | `(tactic| walk_at "mE") => `(tactic| first
  | ((with_reducible apply Exists.intro); (with_reducible apply And.intro); focus (exact rfl))
  | ((with_reducible apply Exists.intro); (with_reducible apply Exists.intro); (with_reducible apply And.intro); focus (exact rfl)))
local macro_rules | `(tactic| walk_at "m") => `(tactic| first
  | ((with_reducible refine id_w1 ?_); walk_at "m1") | ((with_reducible refine id_w0 ?_); walk_at "m0") | ((with_reducible refine id_ex ?_); walk_at "mE") | ((with_reducible refine id_w2 ?_); walk_at "m2") | ((with_reducible refine id_and ?_); walk_at "mA") | ((with_reducible refine id_wS ?_); walk_at "mS"))
local macro_rules | `(tactic| walk_at "m1") => `(tactic| first
  | with_reducible apply w1_sm | with_reducible apply w1_disp)
local macro_rules | `(tactic| walk_at "m0") => `(tactic| first
  | ((with_reducible refine w0_augS ?_ ?_); focus (first | omega | (simp; omega) | (simp; done)))
  | ((with_reducible refine w0_cutS ?_ ?_); focus (first | omega | (simp; omega) | assumption))
  | ((with_reducible refine w0_starts ?_ ?_); focus (first | assumption | (simp; done))))
local macro_rules | `(tactic| walk_at "m1") => `(tactic| first
  | with_reducible apply w1_newD | with_reducible apply w1_disp1 | with_reducible apply w1_getB)
local macro_rules | `(tactic| walk_at "m2") => `(tactic| with_reducible apply w2_frzD)
local macro_rules | `(tactic| walk_at "mS") => `(tactic| with_reducible apply wS_dsetS)
local macro_rules | `(tactic| walk_at "m0") => `(tactic| first
  | with_reducible apply w0_dIn | with_reducible apply w0_rIn | with_reducible apply w0_dNotIn | with_reducible apply w0_rNotIn | with_reducible apply w0_dGetOr | with_reducible apply w0_rGetOr
  | (with_reducible refine w0_dGet (by with_reducible assumption) ?_) | (with_reducible refine w0_rGet (by with_reducible assumption) ?_)
  | ((with_reducible refine w0_gT2 ?_ ?_); focus (first | exact rfl | assumption | (simp [imm, imms, imms_ints, *]; done))) | ((with_reducible refine w0_gT3 ?_ ?_); focus (first | exact rfl | assumption | (simp [imm, imms, imms_ints, *]; done)))
  | ((with_reducible refine w0_gT4 ?_ ?_); focus (first | exact rfl | assumption | (simp [imm, imms, imms_ints, *]; done))) | ((with_reducible refine w0_gT5 ?_ ?_); focus (first | exact rfl | assumption | (simp [imm, imms, imms_ints, *]; done))))
def Jar (d : D) : Prop := ∃ (rows : List Int) (at_ : Int), 0 ≤ at_ ∧ (∀ r ∈ rows, 0 ≤ r ∧ r < 1000000) ∧ rows.length ≤ 1000000 ∧ d = .lst [.rol (rows.map .int), .int at_]
/-- an int of 0 .. many - 1 was drawn -/
def Drawn (many : Int) (d : D) (os : List D) : Prop := ∃ r jar', d = .int r ∧ (0 ≤ r ∧ r < many) ∧ Jar jar' ∧ os = [jar', .int many]
theorem take_ok {jar : D} {many : Int} (h : Jar jar) (hm : 0 < many) : wD (m__law_take [jar, .int many]) (Drawn many) := by
  obtain ⟨rows, at_, h0, h1, h2, rfl⟩ := h
  have hl : (rows.map D.int).length = rows.length := List.length_map _
  apply wD_def
  unfold b__law_take
  repeat' walk_at "m"
  · refine w0_ixR h0 (by omega) fun d hd => ?_
    obtain ⟨r, hr, rfl⟩ := get_ints hd
    repeat' walk_at "m"
    exact ⟨_, _, rfl, ⟨Int.emod_nonneg _ (by omega), Int.emod_lt_of_pos _ hm⟩, ⟨rows, at_ + 1, by omega, h1, h2, rfl⟩, rfl⟩
  · have e : ∀ n : Int, at_ - at_ / n * n = at_ % n := fun n => by rw [Int.emod_def, Int.mul_comm]
    refine w0_ixR (by rw [e]; exact Int.emod_nonneg _ (by omega)) (by rw [e]; exact Int.emod_lt_of_pos _ (by omega)) fun d hd => ?_
    obtain ⟨r, hr, rfl⟩ := get_ints hd
    have := h1 r hr
    repeat' walk_at "m"
    exact ⟨_, _, rfl, ⟨Int.emod_nonneg _ (by omega), Int.emod_lt_of_pos _ hm⟩, ⟨rows, at_ + 1, by omega, h1, h2, rfl⟩, rfl⟩
  · exact ⟨_, _, rfl, ⟨Int.emod_nonneg _ (by omega), Int.emod_lt_of_pos _ hm⟩, ⟨rows, at_ + 1, by omega, h1, h2, rfl⟩, rfl⟩
def JarI (s : D) (n : Nat) (e : E) : Prop := ∃ (rows : List Int) (x2 x3 x4 x5 : Option D), (∀ r ∈ rows, 0 ≤ r ∧ r < 1000000) ∧ rows.length ≤ n ∧ e = [some s, some (.lst (rows.map .int)), x2, x3, x4, x5]
def JarJ (s : D) (n : Nat) (e : E) : Prop := ∃ (rows : List Int) (c : Int) (x2 x4 x5 : Option D), 0 ≤ c ∧ (∀ r ∈ rows, 0 ≤ r ∧ r < 1000000) ∧ rows.length ≤ n ∧ e = [some s, some (.lst (rows.map .int)), x2, some (.int c), x4, x5]
theorem w0_app {ns : List Int} {i : Int} {Q : D × D → Prop} (h : ns.length ≤ 1000000) (q : Q (.non, .lst ((ns ++ [i]).map D.int))) : w0 (fAppend (.lst (ns.map D.int)) [.int i]) Q := by
  refine w0_of (show (if (ns.map D.int).length < sizeLine then some (D.non, D.lst (ns.map D.int ++ [.int i])) else none) = _ from ?_) q
  rw [if_pos (by rw [List.length_map]; have : sizeLine = 16777216 := rfl; omega)]
  simp
theorem rows_app {rows : List Int} {i : Int} (h : ∀ r ∈ rows, 0 ≤ r ∧ r < 1000000) (hi : 0 ≤ i ∧ i < 1000000) : ∀ r ∈ rows ++ [i], 0 ≤ r ∧ r < 1000000 := fun r m => by
  rcases List.mem_append.mp m with m | m
  · exact h r m
  · rw [List.mem_singleton.mp m]; exact hi
theorem emod_in {i j : Int} (h : 0 < j) (h1 : j ≤ 1000000) : 0 ≤ i % j ∧ i % j < 1000000 := ⟨Int.emod_nonneg _ (by omega), Int.lt_of_lt_of_le (Int.emod_lt_of_pos _ h) h1⟩
theorem jar_ok (ns : List Int) (h : ns.length ≤ 63) : w1 (m__law_jar [.rol (ns.map .int)]) Jar := by
  have hl : (ns.map D.int).length = ns.length := List.length_map _
  apply w1_def (by simp [imms, imm, imms_ints])
  unfold b__law_jar
  repeat' walk_at "m"
  · refine wS_loop0 (fun k e => JarI (.rol (ns.map .int)) (40 * k) e) _ ⟨[], _, _, _, _, by simp, by simp, rfl⟩ (fun i d e hd hI => ?_) (fun e hI => ?_)
    · obtain ⟨hi, rfl⟩ := range_at hd
      obtain ⟨rows, x2, x3, x4, x5, h1, h2, rfl⟩ := hI
      have hn : i < ns.length ∧ i < 63 := by split at hi <;> omega
      repeat' walk_at "m"
      refine w0_ixR (by omega) (by omega) fun d hd => ?_
      obtain ⟨c, hc, rfl⟩ := get_ints hd
      have big : ∀ (c : Int) (x2 x4 x5 : Option D), 0 ≤ c → wS (mLoop (gN 4) (mIf (tst (ofN (bin fGt (bVar 3) (bC (.int 0)))))
  (mSeq (mExpr (eMut 1 fAppend (acons (ofN (bin fMod (cal fInt (aCons (bVar 3) aNil)) (bC (.int 1009)))) anil)))
  (mSet 3 (ofN (bin fDiv (bVar 3) (bC (.int 1009))))))
  mNil) (rangeD 0 (Int.toNat 40)) [some (.rol (ns.map .int)), some (.lst (rows.map .int)), x2, some (.int c), x4, x5]) (fun e => JarI (.rol (ns.map .int)) (40 * (i + 1)) e) (fun _ _ => False) (fun _ => False) (fun _ => False) := fun c x2 x4 x5 hc => by
        refine wS_loop0 (fun k e => JarJ (.rol (ns.map .int)) (40 * i + k) e) _ ⟨rows, c, _, _, _, hc, h1, h2, rfl⟩ (fun j d e hd hI => ?_) (fun e hI => ?_)
        · obtain ⟨hj, rfl⟩ := range_at hd
          obtain ⟨rows, c, x2, x4, x5, hc, h1, h2, rfl⟩ := hI
          have hj' : j < 40 := hj
          repeat' walk_at "m"
          · refine w0_app (by omega) ?_
            repeat' walk_at "m"
            exact ⟨rows ++ [_], _, _, _, _, by omega, rows_app h1 (emod_in (by decide) (by decide)), by simp; omega, rfl⟩
          · exact ⟨rows, c, _, _, _, hc, h1, by omega, rfl⟩
        · obtain ⟨rows, c, x2, x4, x5, hc, h1, h2, rfl⟩ := hI
          exact ⟨rows, _, _, _, _, h1, by simp [range_len] at h2; omega, rfl⟩
      repeat' walk_at "m"
      · exact wS_mono (big _ _ _ _ (by omega)) (fun _ h => h) (fun _ _ h => h.elim) (fun _ h => h.elim) (fun _ h => h.elim)
      · refine w0_app (by omega) ?_
        repeat' walk_at "m"
        refine w0_app (by simp; omega) ?_
        repeat' walk_at "m"
        exact ⟨_, _, _, _, _, rows_app (rows_app h1 (emod_in (by decide) (by decide))) (emod_in (by decide) (by decide)), by simp; omega, rfl⟩
      · exact wS_mono (big _ _ _ _ (by omega)) (fun _ h => h) (fun _ _ h => h.elim) (fun _ h => h.elim) (fun _ h => h.elim)
      · refine w0_app (by omega) ?_
        repeat' walk_at "m"
        refine w0_app (by simp; omega) ?_
        repeat' walk_at "m"
        exact ⟨_, _, _, _, _, rows_app (rows_app h1 (emod_in (by decide) (by decide))) (emod_in (by decide) (by decide)), by simp; omega, rfl⟩
    · obtain ⟨rows, x2, x3, x4, x5, h1, h2, rfl⟩ := hI
      have hn : rows.length ≤ 1000000 := by
        simp only [range_len] at h2
        split at h2 <;> omega
      repeat' walk_at "m"
      exact ⟨rows, 0, by omega, h1, hn, rfl⟩
theorem draw_k {jar : D} {many : Int} {Q : D → List D → Prop} (h : Jar jar) (hm : 0 < many) (q : ∀ r jar', 0 ≤ r → r < many → Jar jar' → Q (.int r) [jar', .int many]) : wD (m__law_take [jar, .int many]) Q :=
  wD_mono (take_ok h hm) fun _ _ ⟨r, jar', e1, hr, hj, e2⟩ => by subst e1 e2; exact q r jar' hr.1 hr.2 hj
local macro_rules | `(tactic| walk_at "t") => `(tactic| ((with_reducible refine draw_k ?_ ?_ ?_); (focus assumption); (focus (first | omega | (simp; omega) | decide)); intro r jar' hr0 hr1 hj; refine Exists.intro _ (Exists.intro _ (And.intro rfl ?_))))
def Says (p : Prop) (d : D) : Prop := ∃ b, d = .bl b ∧ (b = true ↔ p)
theorem same_leaf (r : MD) (m n : Nat) (a e : D) (ha : pt m a = true) (he : pt n e = true) (hn : ∀ as es, a = .tup as → e = .tup es → False) : w1 (mDef0 1 (b__law_same r) [a, e]) (Says (a = e)) := by
  apply w1_def (by simp [imms, pt_imm ha, pt_imm he])
  unfold b__law_same
  cases e <;> (try simp at he) <;> cases a <;> (try simp at ha) <;> (try exact (hn _ _ rfl rfl).elim)
  all_goals (repeat' walk_at "m")
  all_goals exact ⟨_, rfl, by simp [Mir.isNon]⟩
theorem ite_eq_self {α : Type} {as es : List α} (h : as.length = es.length) : ∀ {k : Nat}, k = es.length → as.take k = es.take k → as = es := fun {k} e q => by
  subst e
  rw [List.take_of_length_le (Nat.le_of_eq h), List.take_of_length_le (Nat.le_refl _)] at q
  exact q
theorem same_tup (r : MD) (m n : Nat) (as es : List D) (ha : pt (m + 1) (.tup as) = true) (he : pt (n + 1) (.tup es) = true) (ih : ∀ a e, pt m a = true → pt n e = true → w1 (r [a, e]) (Says (a = e))) : w1 (mDef0 1 (b__law_same r) [.tup as, .tup es]) (Says (D.tup as = D.tup es)) := by
  obtain ⟨la, ha'⟩ := pt_tup_iff.mp ha
  obtain ⟨le, he'⟩ := pt_tup_iff.mp he
  apply w1_def (by rw [imms, imms, pt_imm ha, pt_imm he]; rfl)
  unfold b__law_same
  repeat' walk_at "m"
  · rename_i hc
    simp at hc
    exact ⟨_, rfl, by simp; intro z; rw [z] at hc; omega⟩
  · rename_i hc
    have hc' : as.length = es.length := by simp at hc; omega
    refine wS_loop0 (fun k e => Hold (∃ x, as.take k = es.take k ∧ e = [some (.tup as), some (.tup es), x])) _ ⟨_, by simp, rfl⟩ (fun i d e hd hI => ?_) (fun e hI => ?_)
    · obtain ⟨hi, rfl⟩ := range_at hd
      obtain ⟨x, hk, rfl⟩ := hI
      have hi' : i < es.length := by omega
      repeat' walk_at "m"
      refine w0_ixT (by omega) (by omega) fun x hx => ?_
      repeat' walk_at "m"
      refine w0_ixT (by omega) (by omega) fun y hy => ?_
      repeat' walk_at "m"
      refine And.intro (by rw [imms, imms, pt_imm (ha' x (mem_get hx)), pt_imm (he' y (mem_get hy))]; rfl) ?_
      refine w1_mono (ih x y (ha' x (mem_get hx)) (he' y (mem_get hy))) fun d hd => ?_
      obtain ⟨b, rfl, hb⟩ := hd
      have e0 : (0 + (i : Int)).toNat = i := by omega
      rw [e0] at hx hy
      repeat' walk_at "m"
      · rename_i hc2
        refine ⟨_, rfl, ⟨fun z => by simp at z, fun z => ?_⟩⟩
        injection z with z
        rw [z] at hx
        rw [hx] at hy
        have : b = true := hb.mpr (Option.some.inj hy)
        rw [this] at hc2
        cases hc2
      · rename_i hc2
        refine ⟨_, ?_, rfl⟩
        have hb' : b = true := by cases b <;> simp_all
        rw [List.take_add_one, List.take_add_one, hk, hx, hy, hb.mp hb']
    · obtain ⟨x, hk, rfl⟩ := hI
      repeat' walk_at "m"
      refine ⟨_, rfl, ⟨fun _ => ?_, fun _ => rfl⟩⟩
      rw [ite_eq_self hc' (by simp [range_len]) hk]
theorem same_ok : ∀ (n m : Nat) (a e : D), pt m a = true → pt n e = true → w1 (m__law_same (n + 1) [a, e]) (Says (a = e)) := by
  intro n
  induction n with
  | zero => exact fun m a e ha he => same_leaf _ m 0 a e ha he fun as es _ z => by subst z; simp at he
  | succ n ih =>
    intro m a e ha he
    by_cases hn : ∃ as es, a = .tup as ∧ e = .tup es
    · obtain ⟨as, es, rfl, rfl⟩ := hn
      cases m with
      | zero => simp at ha
      | succ m => exact same_tup _ m n as es ha he fun a e ha he => ih m a e ha he
    · exact same_leaf _ m (n + 1) a e ha he fun as es h1 h2 => hn ⟨as, es, h1, h2⟩

theorem ix_mem {α : Type} {l : List α} {i : Nat} {p : α → Prop} (h : ∀ a ∈ l, p a) {a : α} (e : l[i]? = some a) : p a := h a (mem_get e)
/-! ### pieces of tuples -/
theorem imms_take {ds : List D} (h : imms ds = true) (k : Nat) : imms (ds.take k) = true := by
  rw [imms_all, List.all_eq_true] at h ⊢
  exact fun x m => h x (List.mem_of_mem_take m)
theorem imms_drop {ds : List D} (h : imms ds = true) (k : Nat) : imms (ds.drop k) = true := by
  rw [imms_all, List.all_eq_true] at h ⊢
  exact fun x m => h x (List.mem_of_mem_drop m)
theorem imms_app {a b : List D} (h : imms a = true) (k : imms b = true) : imms (a ++ b) = true := by
  rw [imms_all, List.all_eq_true] at h k ⊢
  intro x m
  rcases List.mem_append.mp m with m | m
  · exact h x m
  · exact k x m
theorem w0_cutTo {ds : List D} {k : Int} {Q : D → Prop} (h : imms ds = true) (hk : 0 ≤ k) (q : Q (.tup (ds.take k.toNat))) : w0 (fCut (.tup ds) none (some k)) Q := w0_cutT h (by rw [cutL_to hk]; exact q)
theorem w0_cutFrom {ds : List D} {k : Int} {Q : D → Prop} (h : imms ds = true) (hk : 0 ≤ k) (q : Q (.tup (ds.drop k.toNat))) : w0 (fCut (.tup ds) (some k) none) Q := w0_cutT h (by rw [cutL_from hk]; exact q)
theorem w0_cutLast {ds : List D} {Q : D → Prop} (h : imms ds = true) (q : Q (.tup (ds.take (ds.length - 1)))) : w0 (fCut (.tup ds) none (some (-1))) Q := w0_cutT h (by
  have : cutL ds none (some (-1)) = ds.take (ds.length - 1) := by
    unfold cutL
    rw [HT.sIx_none, List.drop_zero, Nat.sub_zero]
    congr 1
    show (if (-1 : Int) < 0 then ((-1 : Int) + (ds.length : Int)).toNat else min (-1 : Int).toNat ds.length) = _
    rw [if_pos (by decide)]; omega
  rw [this]; exact q)
theorem w0_addT {a b : List D} {Q : D → Prop} (h : imms a = true) (k : imms b = true) (hl : a.length + b.length ≤ 16777216) (q : Q (.tup (a ++ b))) : w0 (fAdd (.tup a) (.tup b)) Q :=
  w0_of (show (if imms a = true ∧ imms b = true ∧ fits (a.length + b.length) = true then some (D.tup (a ++ b)) else none) = _ by rw [if_pos ⟨h, k, fits_of hl⟩]) q
theorem w0_ixLp {ds : List D} {i : Int} {Q : D → Prop} (p : D → Prop) (h : 0 ≤ i) (h1 : i < ds.length) (hp : ∀ d ∈ ds, p d) (q : ∀ d, p d → Q d) : w0 (fIx (.lst ds) (.int i)) Q := w0_ixL h h1 fun d hd => q d (ix_mem hp hd)
theorem w0_ixT0 {a : D} {r : List D} {Q : D → Prop} (q : Q a) : w0 (fIx (.tup (a :: r)) (.int 0)) Q :=
  w0_ixT (by decide) (by simp only [List.length_cons]; omega) fun d hd => by
    have : d = a := by simpa using hd.symm
    rw [this]; exact q
theorem same_yes {a e : D} (he : pt 9 e = true) (h : a = e) : w1 (m__law_same 10 [a, e]) (· = .bl true) := by
  subst h
  exact w1_mono (same_ok 9 9 a a he he) fun d ⟨b, e1, hb⟩ => by rw [e1, hb.mpr rfl]
theorem w0_isntB {a b : Bool} {Q : D → Prop} (q : Q (.bl (!(a == b)))) : w0 (fIsnt (.bl a) (.bl b)) Q := w0_of (by cases a <;> cases b <;> rfl) q
theorem w0_isB {a b : Bool} {Q : D → Prop} (q : Q (.bl (a == b))) : w0 (fIs (.bl a) (.bl b)) Q := w0_of (by cases a <;> cases b <;> rfl) q
local macro_rules | `(tactic| walk_at "im") => `(tactic| first
  | with_reducible assumption | exact rfl | (with_reducible refine imms_take ?_ _; walk_at "im") | (with_reducible refine imms_drop ?_ _; walk_at "im") | (with_reducible refine imms_app ?_ ?_ <;> walk_at "im") | (simp [imms, imm, *]; done))
local macro_rules | `(tactic| walk_at "m0") => `(tactic| first
  | ((with_reducible refine w0_cutTo ?_ ?_ ?_); (focus (walk_at "im")); (focus omega))
  | ((with_reducible refine w0_cutFrom ?_ ?_ ?_); (focus (walk_at "im")); (focus omega))
  | ((with_reducible refine w0_cutLast ?_ ?_); (focus (walk_at "im")))
  | ((with_reducible refine w0_addT ?_ ?_ ?_ ?_); (focus (walk_at "im")); (focus (walk_at "im")); (focus (first | omega | (simp only [List.length_append, List.length_take, List.length_drop, List.length_cons, List.length_nil]; omega))))
  | with_reducible apply w0_isntB | with_reducible apply w0_isB
  | (with_reducible refine w0_of (by with_reducible assumption) ?_))
local macro_rules | `(tactic| walk_at "m1") => `(tactic| with_reducible refine w1_eq (by with_reducible assumption) ?_)

/-! ### wrapping -/
abbrev Ls := List (List Nat)
def lns (ls : Ls) : List D := ls.map .str
theorem lns_imm (ls : Ls) : imms (lns ls) = true := by
  rw [imms_all, lns, List.all_map]
  exact List.all_eq_true.mpr fun _ _ => rfl
theorem lns_app (a b : Ls) : lns (a ++ b) = lns a ++ lns b := List.map_append
theorem lns_len (a : Ls) : (lns a).length = a.length := List.length_map _
/-- a long word is cut -/
def chop (W : Nat) (rest : List Nat) : Nat → Ls × List Nat × List Nat → Ls × List Nat × List Nat
  | 0, p => p
  | k + 1, (ls, l, w) => if W < l.length + w.length then chop W rest k (ls ++ [l ++ w.take (W - l.length)], rest, w.drop (W - l.length)) else (ls, l, w)
theorem chop_stop {W : Nat} {rest l w : List Nat} {ls : Ls} (h : ¬ W < l.length + w.length) : ∀ k, chop W rest k (ls, l, w) = (ls, l, w)
  | 0 => rfl
  | k + 1 => by rw [chop, if_neg h]
theorem chop_ge {W : Nat} {rest : List Nat} (hr : rest.length < W) : ∀ (k : Nat) (ls : Ls) (l w : List Nat), l.length < W → w.length ≤ k → chop W rest k (ls, l, w) = chop W rest w.length (ls, l, w)
  | 0, ls, l, w, hl, h => by rw [show w.length = 0 by omega]
  | k + 1, ls, l, w, hl, h => by
    cases w with
    | nil => rw [chop_stop (by simp; omega)]; rfl
    | cons a w =>
      rw [List.length_cons, chop, chop]
      split
      · have h1 : ((a :: w).drop (W - l.length)).length ≤ w.length := by simp; omega
        rw [chop_ge hr k _ _ _ hr (by simp at h; omega), chop_ge hr w.length _ _ _ hr h1]
      · rfl
theorem chop_bd {W : Nat} {rest : List Nat} (hr : rest.length < W) : ∀ (k : Nat) (ls : Ls) (l w : List Nat), l.length < W → w.length ≤ k →
    (chop W rest k (ls, l, w)).1.length + (chop W rest k (ls, l, w)).2.2.length ≤ ls.length + w.length ∧ (chop W rest k (ls, l, w)).2.1.length + (chop W rest k (ls, l, w)).2.2.length ≤ W
  | 0, ls, l, w, hl, h => by simp only [chop]; omega
  | k + 1, ls, l, w, hl, h => by
    rw [chop]
    split
    · have h1 : (w.drop (W - l.length)).length ≤ k := by simp; omega
      have := chop_bd hr k (ls ++ [l ++ w.take (W - l.length)]) rest (w.drop (W - l.length)) hr h1
      refine ⟨Nat.le_trans this.1 ?_, this.2⟩
      simp; omega
    · simp only; omega
def stepW (W : Nat) (rest : List Nat) (p : Ls × List Nat × Bool) (w : List Nat) : Ls × List Nat × Bool :=
  if w = [] then p else
  if p.2.2 = true ∧ p.2.1.length + 1 + w.length ≤ W then (p.1, p.2.1 ++ [32] ++ w, true) else
  let q := chop W rest w.length (if p.2.2 = true then (p.1 ++ [p.2.1], rest, w) else (p.1, p.2.1, w))
  (q.1, q.2.1 ++ q.2.2, true)
def wordsOf (s : List Nat) : Ls := TL.spl [32] 0 [] s
def foldW (W : Nat) (first rest : List Nat) (ws : Ls) : Ls × List Nat × Bool := ws.foldl (stepW W rest) ([], first, false)
def wrapP (s : List Nat) (W : Nat) (first rest : List Nat) : Ls := (foldW W first rest (wordsOf s)).1 ++ [(foldW W first rest (wordsOf s)).2.1]
def tot (ws : Ls) : Nat := (ws.map fun w => w.length + 1).sum
theorem spl_tot (c : Nat) : ∀ (l acc : List Nat), tot (TL.spl [c] 0 acc l) = acc.length + l.length + 1
  | [], acc => by rw [TL.spl_nil]; simp [tot]
  | a :: l, acc => by
    rw [TL.spl]
    split
    · have := spl_tot c l []
      simp only [tot, List.map_cons, List.sum_cons] at this ⊢
      show acc.length + 1 + (List.map (fun w => w.length + 1) (TL.spl [c] 0 [] l)).sum = _
      rw [this]; simp; omega
    · rw [spl_tot c l (acc ++ [a])]; simp; omega
theorem tot_take (ws : Ls) (i : Nat) {w : List Nat} (h : ws[i]? = some w) : tot (ws.take (i + 1)) = tot (ws.take i) + (w.length + 1) := by
  rw [List.take_add_one, h]
  simp [tot]
theorem tot_le (ws : Ls) (i : Nat) : tot (ws.take i) ≤ tot ws := by
  have : tot ws = tot (ws.take i) + tot (ws.drop i) := by
    rw [tot, tot, tot, ← List.sum_append, ← List.map_append, List.take_append_drop]
  omega
theorem mem_tot {ws : Ls} {w : List Nat} (h : w ∈ ws) : w.length + 1 ≤ tot ws := by
  induction ws with
  | nil => cases h
  | cons a ws ih =>
    simp only [tot, List.map_cons, List.sum_cons]
    rcases List.mem_cons.mp h with rfl | h
    · omega
    · have := ih h
      simp only [tot] at this
      omega
theorem take_stepW {β α : Type} {l : List α} {i : Nat} {a : α} (h : l[i]? = some a) (f : β → α → β) (b : β) : (l.take (i + 1)).foldl f b = f ((l.take i).foldl f b) a := by
  rw [List.take_add_one, h, List.foldl_append]
  rfl
/-- the bounds of what is made so far -/
def okP (W : Nat) (b : Nat) (p : Ls × List Nat × Bool) : Prop := p.1.length ≤ b ∧ p.2.1.length ≤ W ∧ (p.2.2 = false → p.2.1.length < W)
theorem stepW_ok {W : Nat} {rest w : List Nat} {b : Nat} {p : Ls × List Nat × Bool} (hr : rest.length < W) (h : okP W b p) : okP W (b + (w.length + 1)) (stepW W rest p w) := by
  obtain ⟨h1, h2, h3⟩ := h
  unfold stepW
  split
  · exact ⟨by omega, h2, h3⟩
  · split
    · rename_i hc
      exact ⟨by simp only; omega, by simp; omega, fun z => by cases z⟩
    · have key : ∀ (ls : Ls) (l : List Nat), ls.length ≤ b + 1 → l.length < W → okP W (b + (w.length + 1)) ((chop W rest w.length (ls, l, w)).1, (chop W rest w.length (ls, l, w)).2.1 ++ (chop W rest w.length (ls, l, w)).2.2, true) := fun ls l g1 g2 => by
        have := chop_bd hr w.length ls l w g2 (Nat.le_refl _)
        exact ⟨by simp only; omega, by simp only [List.length_append]; omega, fun z => by cases z⟩
      simp only
      split
      · exact key _ _ (by simp; omega) hr
      · rename_i hf
        exact key _ _ (by omega) (h3 (by simpa using hf))
theorem foldW_ok {W : Nat} {first rest : List Nat} (hf : first.length < W) (hr : rest.length < W) (ws : Ls) : ∀ i, okP W (tot (ws.take i)) ((ws.take i).foldl (stepW W rest) ([], first, false))
  | 0 => by simp [okP, tot]; omega
  | i + 1 => by
    cases h : ws[i]? with
    | none =>
      rw [List.take_add_one, h]
      simpa using foldW_ok hf hr ws i
    | some w =>
      rw [take_stepW h, tot_take ws i h]
      exact stepW_ok hr (foldW_ok hf hr ws i)
theorem wrapP_len {s : List Nat} {W : Nat} {first rest : List Nat} (hf : first.length < W) (hr : rest.length < W) : 1 ≤ (wrapP s W first rest).length ∧ (wrapP s W first rest).length ≤ s.length + 2 := by
  have := (foldW_ok hf hr (wordsOf s) (wordsOf s).length).1
  rw [List.take_of_length_le (Nat.le_refl _)] at this
  have ht : tot (wordsOf s) = s.length + 1 := by rw [wordsOf, spl_tot]; simp
  rw [ht] at this
  unfold wrapP foldW
  simp
  omega
/-! ### more steps -/
theorem l_sp : lit " " = [32] := by rw [lit_eq]; rfl
theorem l_0 : lit "" = [] := rfl
theorem w0_cTo {s : List Nat} {i : Int} {Q : D → Prop} (h : 0 ≤ i) (hl : s.length ≤ 16777216) (q : Q (.str (s.take i.toNat))) : w0 (fCut (.str s) none (some i)) Q := w0_cutS hl (by rw [cutL_to h]; exact q)
theorem w0_cFrom {s : List Nat} {i : Int} {Q : D → Prop} (h : 0 ≤ i) (hl : s.length ≤ 16777216) (q : Q (.str (s.drop i.toNat))) : w0 (fCut (.str s) (some i) none) Q := w0_cutS hl (by rw [cutL_from h]; exact q)
theorem w0_apD {ds : List D} {d : D} {Q : D × D → Prop} (h : ds.length ≤ 10000000) (q : Q (.non, .lst (ds ++ [d]))) : w0 (fAppend (.lst ds) [d]) Q := by
  refine w0_of (show (if ds.length < sizeLine then some (D.non, D.lst (ds ++ [d])) else none) = _ from ?_) q
  rw [if_pos (by have : sizeLine = 16777216 := rfl; omega)]
theorem w0_split32 {s : List Nat} {Q : D → Prop} (h2 : s.length ≤ 1000000) (q : Q (.lst (lns (wordsOf s)))) : w0 (fSplit (.str s) (.str [32])) Q := w0_split (by simp) (by decide) h2 q
theorem w0_tupL {ds : List D} {Q : D → Prop} (h : imms ds = true) (q : Q (.tup ds)) : w0 (fTuple [.lst ds]) Q := w0_of (show (if imms ds = true then some (D.tup ds) else none) = _ by rw [if_pos h]) q
theorem w0_lenL {ds : List D} {Q : D → Prop} (q : Q (.int ds.length)) : w0 (fLen [.lst ds]) Q := w0_of (by rfl) q
theorem wS_wh0 {t : MT} {b : MS} {e : E} {N B C : E → Prop} {R : D → E → Prop} (h : w2 (t e) fun c e1 => c = false ∧ N e1) : wS (mWh t b e) N R B C :=
  wS_wh (fun n e' => e' = e) 0 (by unfold fuel; omega) rfl (fun n e' he => by
    subst he
    exact w2_mono h fun c e1 ⟨hc, hn⟩ => ⟨fun z => (by rw [hc] at z; cases z), fun _ => hn⟩)
local macro_rules | `(tactic| walk_at "m0") => `(tactic| first
  | ((with_reducible refine w0_cTo ?_ ?_ ?_); (focus omega); (focus (first | omega | (simp; omega) | (simp; done)))) | ((with_reducible refine w0_cFrom ?_ ?_ ?_); (focus omega); (focus (first | omega | (simp; omega) | (simp; done))))
  | ((with_reducible refine w0_apD ?_ ?_); focus (first | omega | (simp [lns_len]; omega) | (simp; done)))
  | ((with_reducible refine w0_split32 ?_ ?_); focus omega)
  | ((with_reducible refine w0_tupL ?_ ?_); focus (first | exact lns_imm _ | exact rfl | assumption)))

theorem items_lns (ws : Ls) : itemsOf (.lst (lns ws)) = some (lns ws) := by
  show (if imms (lns ws) = true then some (lns ws) else none) = _
  rw [if_pos (lns_imm ws)]
theorem words_at {s : List Nat} {i : Nat} {d : D} (h : (lns (wordsOf s))[i]? = some d) : ∃ w, (wordsOf s)[i]? = some w ∧ d = .str w ∧ w.length ≤ s.length := by
  unfold lns at h
  rw [List.getElem?_map] at h
  obtain ⟨w, h1, h2⟩ := Option.map_eq_some_iff.mp h
  have := mem_tot (mem_get h1)
  rw [wordsOf, spl_tot] at this
  exact ⟨w, h1, h2.symm, by simpa using this⟩
theorem tot_words (s : List Nat) (i : Nat) : tot ((wordsOf s).take i) ≤ s.length + 1 := by
  have := tot_le (wordsOf s) i
  rw [show tot (wordsOf s) = s.length + 1 by rw [wordsOf, spl_tot]; simp] at this
  exact this
def JW (s first rest : List Nat) (W : Nat) (T : Ls × List Nat × List Nat) (B n : Nat) (e : E) : Prop := ∃ (ls : Ls) (l w : List Nat) (x8 : Option D), e = [some (.str s), some (.int W), some (.str first), some (.str rest), some (.lst (lns ls)), some (.str l), some (.bl false), some (.str w), x8] ∧ w.length = n ∧ l.length < W ∧ ls.length + w.length ≤ B ∧ chop W rest w.length (ls, l, w) = T
theorem lns_snoc (ls : Ls) (l : List Nat) : lns ls ++ [D.str l] = lns (ls ++ [l]) := (lns_app ls [l]).symm
def wl_wrap : MS := (mWh (tst (ofN (bin fGt (bin fAdd (cal fLen (aCons (bVar 5) aNil)) (cal fLen (aCons (bVar 7) aNil))) (bVar 1))))
  (mSeq (mSet 8 (ofN (bin fSub (bVar 1) (cal fLen (aCons (bVar 5) aNil)))))
  (mSeq (mExpr (eMut 4 fAppend (acons (ofN (bin fAdd (bVar 5) (cut (bVar 7) none (some (bVar 8))))) anil)))
  (mSeq (mSet 7 (ofN (cut (bVar 7) (some (bVar 8)) none)))
  (mSet 5 (own (bVar 3)))))))
theorem while_ok {s first rest : List Nat} {W Bd : Nat} {ls : Ls} {l w : List Nat} {x8 : Option D} {N B C : E → Prop} {R : D → E → Prop} (hr : rest.length < W) (hW : W ≤ 1000) (hl : l.length < W) (hw : w.length ≤ 10000) (hb : ls.length + w.length ≤ Bd) (hB : Bd ≤ 1000000)
    (h : ∀ (a : Ls) (b c : List Nat) (x8 : Option D), chop W rest w.length (ls, l, w) = (a, b, c) → a.length + c.length ≤ Bd → b.length + c.length ≤ W → N [some (.str s), some (.int W), some (.str first), some (.str rest), some (.lst (lns a)), some (.str b), some (.bl false), some (.str c), x8]) :
    wS (wl_wrap [some (.str s), some (.int W), some (.str first), some (.str rest), some (.lst (lns ls)), some (.str l), some (.bl false), some (.str w), x8]) N R B C := by
  unfold wl_wrap
  have bd := chop_bd hr w.length ls l w hl (Nat.le_refl _)
  rcases hT : chop W rest w.length (ls, l, w) with ⟨a, b, c⟩
  rw [hT] at bd
  simp only at bd
  refine wS_wh (JW s first rest W (a, b, c) Bd) w.length (by unfold fuel; omega) ⟨ls, l, w, x8, rfl, rfl, hl, hb, hT⟩ (fun n e hI => ?_)
  obtain ⟨ls', l', w', y8, rfl, hn, hl', hb', hT'⟩ := hI
  have hn' : w'.length ≤ 1000000 := by omega
  repeat' walk_at "m"
  · rename_i hc
    have hc : W < l'.length + w'.length := by omega
    have et : ((W : Int) - (l'.length : Int)).toNat = W - l'.length := by omega
    rw [et, lns_snoc]
    refine ⟨(w'.drop (W - l'.length)).length, by simp; omega, ls' ++ [l' ++ w'.take (W - l'.length)], rest, w'.drop (W - l'.length), _, rfl, rfl, hr, by simp; omega, ?_⟩
    rw [← hT']
    obtain ⟨q, hq⟩ : ∃ q, w'.length = q + 1 := ⟨w'.length - 1, by omega⟩
    rw [hq]
    rw [chop, if_pos hc]
    rw [chop_ge hr q _ _ _ hr (by simp; omega)]
  · rename_i hc
    rw [chop_stop (by omega)] at hT'
    cases hT'
    exact h _ _ _ _ hT (by omega) (by omega)
theorem wrap_ok {s first rest : List Nat} {W : Nat} (hf : first.length < W) (hr : rest.length < W) (hs : s.length ≤ 10000) (hW : W ≤ 1000) : w1 (m_wrap [.str s, .int W, .str first, .str rest]) (· = .tup (lns (wrapP s W first rest))) := by
  apply w1_defX rfl
  unfold b_wrap
  rw [l_sp, l_0]
  repeat' walk_at "m"
  refine ⟨_, items_lns _, ?_⟩
  refine wS_loop0 (fun k e => Hold (∃ (ls : Ls) (l : List Nat) (b : Bool) (x7 x8 : Option D), e = [some (.str s), some (.int W), some (.str first), some (.str rest), some (.lst (lns ls)), some (.str l), some (.bl b), x7, x8] ∧ ((wordsOf s).take k).foldl (stepW W rest) ([], first, false) = (ls, l, b))) _ ⟨[], first, false, none, none, rfl, rfl⟩ (fun i d e hd hI => ?_) (fun e hI => ?_)
  · obtain ⟨ls, l, b, x7, x8, rfl, hF⟩ := hI
    obtain ⟨w, hw, rfl, hwl⟩ := words_at hd
    have ok := foldW_ok hf hr (wordsOf s) i
    rw [hF] at ok
    obtain ⟨o1, o2, o3⟩ := ok
    simp only at o1 o2 o3
    have o4 := tot_words s i
    have nx : ∀ {q}, stepW W rest (ls, l, b) w = q → ((wordsOf s).take (i + 1)).foldl (stepW W rest) ([], first, false) = q := fun h => by rw [take_stepW hw, hF, h]
    have o5 : ls.length ≤ 10001 := by omega
    clear hd hF o4
    cases b with
    | false =>
      have o3 := o3 rfl
      repeat' walk_at "m"
      · have hw0 : w ≠ [] := by intro z; subst z; simp_all
        refine while_ok (Bd := 30000) hr hW o3 (by omega) (by omega) (by omega) (fun a b c x8 hT t1 t2 => ?_)
        repeat' walk_at "m"
        exact ⟨_, _, _, _, _, rfl, nx (by rw [stepW, if_neg hw0, if_neg (fun z => by cases z.1)]; simp only [Bool.false_eq_true, if_false, hT])⟩
      · have hw0 : w = [] := by
          by_cases z : w = []
          · exact z
          · simp_all
        exact ⟨_, _, _, _, _, rfl, nx (by rw [stepW, if_pos hw0])⟩
    | true =>
      clear o3
      repeat' walk_at "m"
      · rename_i hc _
        have hw0 : w ≠ [] := by intro z; subst z; simp_all
        rw [lns_snoc]
        refine while_ok (ls := ls ++ [l]) (l := rest) (Bd := 30000) hr hW hr (by omega) (by simp; omega) (by omega) (fun a b c x8 hT t1 t2 => ?_)
        repeat' walk_at "m"
        exact ⟨_, _, _, _, _, rfl, nx (by rw [stepW, if_neg hw0, if_neg (fun z => by have := z.2; simp only at this; omega)]; simp only [if_true, hT])⟩
      · rename_i hc _
        have hw0 : w ≠ [] := by intro z; subst z; simp_all
        have e0 : ¬ (W : Int) < ((l ++ [32]).length : Int) + (w.length : Int) := by simp; omega
        refine wS_wh0 ?_
        repeat' walk_at "m"
        exact ⟨_, _, _, _, _, rfl, nx (by rw [stepW, if_neg hw0, if_pos ⟨rfl, by simp only; omega⟩])⟩
      · have hw0 : w = [] := by
          by_cases z : w = []
          · exact z
          · simp_all
        exact ⟨_, _, _, _, _, rfl, nx (by rw [stepW, if_pos hw0])⟩
  · obtain ⟨ls, l, b, x7, x8, rfl, hF⟩ := hI
    have ok := foldW_ok hf hr (wordsOf s) (wordsOf s).length
    have o4 := tot_words s (wordsOf s).length
    rw [lns_len] at hF
    rw [hF] at ok
    obtain ⟨o1, o2, o3⟩ := ok
    simp only at o1 o2 o3
    repeat' walk_at "m"
    rw [lns_snoc]
    repeat' walk_at "m"
    rw [List.take_of_length_le (Nat.le_refl _)] at hF
    rw [wrapP, foldW, hF]

/-! ### the law's wrapping -/
def lp_law : MS := (mIf (tst (ofN (bin fGt (bin fAdd (cal fLen (aCons (bVar 5) aNil)) (cal fLen (aCons (bVar 7) aNil))) (bVar 1))))
  (mSeq (mSet 9 (ofN (bin fSub (bVar 1) (cal fLen (aCons (bVar 5) aNil)))))
  (mSeq (mExpr (eMut 4 fAppend (acons (ofN (bin fAdd (bVar 5) (cut (bVar 7) none (some (bVar 9))))) anil)))
  (mSeq (mSet 7 (ofN (cut (bVar 7) (some (bVar 9)) none)))
  (mSet 5 (own (bVar 3))))))
  mNil)
theorem lfor_ok {s first rest : List Nat} {W Bd : Nat} {ls : Ls} {l w : List Nat} {em : Bool} {x8 x9 : Option D} {N B C : E → Prop} {R : D → E → Prop} (hr : rest.length < W) (hW : W ≤ 1000) (hl : l.length < W) (hw : w.length ≤ 10000) (hb : ls.length + w.length ≤ Bd) (hB : Bd ≤ 1000000)
    (h : ∀ (a : Ls) (b c : List Nat) (x8 x9 : Option D), chop W rest w.length (ls, l, w) = (a, b, c) → a.length + c.length ≤ Bd → b.length + c.length ≤ W → N [some (.str s), some (.int W), some (.str first), some (.str rest), some (.lst (lns a)), some (.str b), some (.bl em), some (.str c), x8, x9]) :
    wS (mLoop (gN 8) lp_law (rangeD 0 (w.length : Int).toNat) [some (.str s), some (.int W), some (.str first), some (.str rest), some (.lst (lns ls)), some (.str l), some (.bl em), some (.str w), x8, x9]) N R B C := by
  unfold lp_law
  have bd := chop_bd hr w.length ls l w hl (Nat.le_refl _)
  rcases hT : chop W rest w.length (ls, l, w) with ⟨a, b, c⟩
  rw [hT] at bd
  simp only at bd
  refine wS_loop0 (fun j e => Hold (∃ (ls' : Ls) (l' w' : List Nat) (y8 y9 : Option D), e = [some (.str s), some (.int W), some (.str first), some (.str rest), some (.lst (lns ls')), some (.str l'), some (.bl em), some (.str w'), y8, y9] ∧ l'.length < W ∧ w'.length ≤ 10000 ∧ ls'.length + w'.length ≤ Bd ∧ chop W rest (w.length - j) (ls', l', w') = (a, b, c))) _ ⟨ls, l, w, x8, x9, rfl, hl, hw, hb, hT⟩ (fun i d e hd hI => ?_) (fun e hI => ?_)
  · obtain ⟨ls', l', w', y8, y9, rfl, hl', hw', hb', hT'⟩ := hI
    obtain ⟨hi, rfl⟩ := range_at hd
    obtain ⟨q, hq⟩ : ∃ q, w.length - i = q + 1 := ⟨w.length - i - 1, by omega⟩
    have hq' : w.length - (i + 1) = q := by omega
    rw [hq] at hT'
    repeat' walk_at "m"
    · rename_i hc
      have hc : W < l'.length + w'.length := by omega
      have et : ((W : Int) - (l'.length : Int)).toNat = W - l'.length := by omega
      rw [et, lns_snoc]
      refine ⟨ls' ++ [l' ++ w'.take (W - l'.length)], rest, w'.drop (W - l'.length), _, _, rfl, hr, by simp; omega, by simp; omega, ?_⟩
      rw [hq', ← hT', chop, if_pos hc]
    · rename_i hc
      refine ⟨ls', l', w', _, _, rfl, hl', hw', hb', ?_⟩
      rw [hq', chop_stop (by omega), ← hT', chop_stop (by omega)]
  · obtain ⟨ls', l', w', y8, y9, rfl, hl', hw', hb', hT'⟩ := hI
    rw [range_len, show w.length - (w.length : Int).toNat = 0 by omega] at hT'
    cases hT'
    exact h _ _ _ _ _ hT (by omega) (by omega)
theorem law_wrap_ok {s first rest : List Nat} {W : Nat} (hf : first.length < W) (hr : rest.length < W) (hs : s.length ≤ 10000) (hW : W ≤ 1000) : w1 (m__law_wrap [.str s, .int W, .str first, .str rest]) (· = .rol (lns (wrapP s W first rest))) := by
  apply w1_def rfl
  unfold b__law_wrap
  rw [l_sp, l_0]
  repeat' walk_at "m"
  refine ⟨_, items_lns _, ?_⟩
  refine wS_loop0 (fun k e => Hold (∃ (ls : Ls) (l : List Nat) (b : Bool) (x7 x8 x9 : Option D), e = [some (.str s), some (.int W), some (.str first), some (.str rest), some (.lst (lns ls)), some (.str l), some (.bl (!b)), x7, x8, x9] ∧ ((wordsOf s).take k).foldl (stepW W rest) ([], first, false) = (ls, l, b))) _ ⟨[], first, false, none, none, none, rfl, rfl⟩ (fun i d e hd hI => ?_) (fun e hI => ?_)
  · obtain ⟨ls, l, b, x7, x8, x9, rfl, hF⟩ := hI
    obtain ⟨w, hw, rfl, hwl⟩ := words_at hd
    have ok := foldW_ok hf hr (wordsOf s) i
    rw [hF] at ok
    obtain ⟨o1, o2, o3⟩ := ok
    simp only at o1 o2 o3
    have o4 := tot_words s i
    have nx : ∀ {q}, stepW W rest (ls, l, b) w = q → ((wordsOf s).take (i + 1)).foldl (stepW W rest) ([], first, false) = q := fun h => by rw [take_stepW hw, hF, h]
    have o5 : ls.length ≤ 10001 := by omega
    clear hd hF o4
    have wcase : w = [] ∨ w ≠ [] := by by_cases z : w = [] <;> simp [z]
    cases b with
    | false =>
      have o3 := o3 rfl
      simp only [Bool.not_false]
      repeat' walk_at "m"
      · have hw0 : w ≠ [] := by intro z; subst z; simp_all
        refine lfor_ok (Bd := 30000) hr hW o3 (by omega) (by omega) (by omega) (fun a b c x8 x9 hT t1 t2 => ?_)
        repeat' walk_at "m"
        exact ⟨_, _, true, _, _, _, rfl, nx (by rw [stepW, if_neg hw0, if_neg (fun z => by cases z.1)]; simp only [Bool.false_eq_true, if_false, hT])⟩
      · have hw0 : w = [] := by
          rcases wcase with z | z
          · exact z
          · simp_all
        exact ⟨_, _, false, _, _, _, rfl, nx (by rw [stepW, if_pos hw0])⟩
    | true =>
      clear o3
      simp only [Bool.not_true]
      repeat' walk_at "m"
      · have hw0 : w ≠ [] := by intro z; subst z; simp_all
        exact ⟨_, _, true, _, _, _, rfl, nx (by rw [stepW, if_neg hw0, if_pos ⟨rfl, by simp only; omega⟩])⟩
      · have hw0 : w ≠ [] := by intro z; subst z; simp_all
        rw [lns_snoc]
        refine lfor_ok (ls := ls ++ [l]) (l := rest) (Bd := 30000) hr hW hr (by omega) (by simp; omega) (by omega) (fun a b c x8 x9 hT t1 t2 => ?_)
        repeat' walk_at "m"
        exact ⟨_, _, true, _, _, _, rfl, nx (by rw [stepW, if_neg hw0, if_neg (fun z => by have := z.2; simp only at this; omega)]; simp only [if_true, hT])⟩
      · have hw0 : w = [] := by
          rcases wcase with z | z
          · exact z
          · simp_all
        exact ⟨_, _, true, _, _, _, rfl, nx (by rw [stepW, if_pos hw0])⟩
  · obtain ⟨ls, l, b, x7, x8, x9, rfl, hF⟩ := hI
    have ok := foldW_ok hf hr (wordsOf s) (wordsOf s).length
    have o4 := tot_words s (wordsOf s).length
    rw [lns_len] at hF
    rw [hF] at ok
    obtain ⟨o1, o2, o3⟩ := ok
    simp only at o1 o2 o3
    repeat' walk_at "m"
    rw [List.take_of_length_le (Nat.le_refl _)] at hF
    rw [lns_snoc, wrapP, foldW, hF]
    exact ⟨lns_imm _, rfl⟩

/-! ### drawn texts -/
theorem w0_sp {s : List Nat} {n : Int} {Q : D → Prop} (h : 0 ≤ n ∧ n ≤ 1000) (h1 : s.length ≤ 100) (q : ∀ u : List Nat, u.length = n.toNat * s.length → Q (.str u)) : w0 (fMul (.str s) (.int n)) Q := by
  refine w0_mulS ⟨h.1, by omega⟩ ?_ (q _ (by simp))
  have : n.toNat ≤ 1000 := by omega
  calc s.length * n.toNat ≤ 100 * 1000 := Nat.mul_le_mul h1 this
    _ ≤ 16777216 := by decide
def Wd (many : Int) (d : D) (os : List D) : Prop := ∃ (t : List Nat) (jar' : D), d = .str t ∧ t.length ≤ 1700 ∧ Jar jar' ∧ os = [jar', .int many]
theorem words_ok {jar : D} {many : Int} (h : Jar jar) (hm : 0 < many ∧ many ≤ 40) : wD (m__law_words [jar, .int many]) (Wd many) := by
  apply wD_def
  unfold b__law_words
  rw [l_sp, l_0]
  repeat' (first | walk_at "m" | walk_at "t")
  rename_i r1 j1 a1 a2 a3
  refine wS_loop0 (fun k e => Hold (∃ (jar : D) (t : List Nat) (x3 x4 : Option D), Jar jar ∧ t.length ≤ 42 * k ∧ e = [some jar, some (.int many), some (.str t), x3, x4])) _ ⟨_, [], _, _, a3, by simp, rfl⟩ (fun i d e hd hI => ?_) (fun e hI => ?_)
  · obtain ⟨jar, t, x3, x4, hj, ht, rfl⟩ := hI
    obtain ⟨hi, rfl⟩ := range_at hd
    have hi2 : i < 40 := by omega
    repeat' (first | walk_at "m" | walk_at "t")
    all_goals (refine w0_ixS (fits_of (by simp)) (by omega) (by simp; omega) fun c hc => ?_)
    all_goals (refine ⟨rfl, ?_⟩)
    all_goals (repeat' (first | walk_at "m" | walk_at "t"))
    all_goals (refine w0_sp (by omega) (by simp) fun u hu => ?_)
    all_goals (simp only [List.length_cons, List.length_nil] at hu)
    all_goals (repeat' (first | walk_at "m" | walk_at "t"))
    all_goals (refine w0_sp (by omega) (by simp) fun v hv => ?_)
    all_goals (simp only [List.length_cons, List.length_nil] at hv)
    all_goals (repeat' (first | walk_at "m" | walk_at "t"))
    all_goals exact ⟨_, _, _, _, by assumption, by simp only [List.length_append]; omega, rfl⟩
  · obtain ⟨jar, t, x3, x4, hj, ht, rfl⟩ := hI
    rw [range_len] at ht
    have ht' : t.length ≤ 1700 := by omega
    clear ht
    repeat' (first | walk_at "m" | walk_at "t")
    exact ⟨_, _, rfl, ht', hj, rfl⟩

/-! ### paragraphs -/
abbrev Nm := List Nat
inductive Par where
  | doc (k : Nat) (n : Int) (num t : Nm)
  | fault (t : Nm)
  | list (j : Nat) (ps : List (Nm × Nm))
  deriving Inhabited
def kd : Nat → List Nat
  | 0 => lit "heading"
  | 1 => lit "!figure"
  | 2 => lit "!item"
  | 3 => lit "point"
  | 4 => lit "item"
  | 5 => lit "point"
  | 6 => lit "para"
  | _ => lit "lost"
def prs (ps : List (Nm × Nm)) : List D := ps.map fun p => .tup [.str p.1, .str p.2]
@[simp] theorem prs_len (ps : List (Nm × Nm)) : (prs ps).length = ps.length := List.length_map _
theorem prs_imm (ps : List (Nm × Nm)) : imms (prs ps) = true := by
  rw [imms_all, prs, List.all_map]
  exact List.all_eq_true.mpr fun _ _ => rfl
def lk (j : Nat) : List Nat := if j = 0 then lit "contents" else lit "index"
def lm : Nat → List Nat
  | 0 => lit ""
  | 1 => lit "figure"
  | _ => lit "item"
def parD : Par → D
  | .doc k n num t => .tup [.str (lit "para"), .str (kd k), .int n, .str num, .str t]
  | .fault t => .tup [.str (lit "fault"), .str (lit "ring"), .str t]
  | .list j ps => .tup [.str (lit "para"), .str (lk j), .int 0, .str (lm j), .tup (prs ps)]
def PGood : Par → Prop
  | .doc k _ num t => k < 8 ∧ num.length ≤ 5 ∧ t.length ≤ 1700
  | .fault t => t.length ≤ 200
  | .list j ps => j < 3 ∧ ps.length ≤ 14 ∧ ∀ p ∈ ps, p.1.length ≤ 5 ∧ p.2.length ≤ 1700
theorem toStr5 {n : Int} (h0 : 0 ≤ n) (h : n < 100000) : (lit (toString n)).length ≤ 5 := by
  rw [lit_len]
  cases n with
  | ofNat m =>
    rw [toStr_nat]
    exact (Nat.length_repr_le_iff (n := m) (k := 5) (by decide)).mpr (by
      have : (m : Int) < 100000 := h
      omega)
  | negSucc m => omega
theorem k8 {k : Nat} (h : k < 8) : k = 0 ∨ k = 1 ∨ k = 2 ∨ k = 3 ∨ k = 4 ∨ k = 5 ∨ k = 6 ∨ k = 7 := by omega
theorem j3 {j : Nat} (h : j < 3) : j = 0 ∨ j = 1 ∨ j = 2 := by omega
theorem par_imm (p : Par) : imm (parD p) = true := by
  cases p <;> simp [parD, imm, imms, prs_imm]
theorem pars_imm (ps : List Par) : imms (ps.map parD) = true := by
  rw [imms_all, List.all_map]
  exact List.all_eq_true.mpr fun p _ => par_imm p
/-- the kind that contents or an index list -/
theorem kd_j {j : Nat} (h : j < 3) (h0 : j ≠ 0) : lit "!" ++ lm j = kd j := by
  rcases j3 h with rfl | rfl | rfl
  · exact (h0 rfl).elim
  · simp only [lm, kd, lit_eq]; rfl
  · simp only [lm, kd, lit_eq]; rfl
def isK (j : Nat) : Par → Bool
  | .doc k _ _ _ => decide (k = j)
  | _ => false
def pairOf : Par → Nm × Nm
  | .doc _ _ num t => (num, t)
  | _ => ([], [])
def idx (L : List Par) (j : Nat) : List Nat := (List.range L.length).filter fun i => isK j (L.getD i (.fault []))
def pairsOf (L : List Par) (j : Nat) : List (Nm × Nm) := (idx L j).map fun i => pairOf (L.getD i (.fault []))
def kOf : Par → Nm
  | .doc k _ _ _ => kd k
  | .fault _ => lit "ring"
  | .list j _ => lk j
theorem par_k (p : Par) : fIx (parD p) (.int 1) = some (.str (kOf p)) := by cases p <;> rfl
theorem kOf_eq {j : Nat} (hj : j < 3) {p : Par} (hg : PGood p) : decide (kOf p = kd j) = isK j p := by
  cases p with
  | doc k n num t =>
    have hk := hg.1
    rcases k8 hk with rfl | rfl | rfl | rfl | rfl | rfl | rfl | rfl <;> rcases j3 hj with rfl | rfl | rfl <;> simp [kOf, kd, isK]
  | fault t => rcases j3 hj with rfl | rfl | rfl <;> simp [kOf, kd, isK]
  | list i ps =>
    have hk := hg.1
    rcases j3 hk with rfl | rfl | rfl <;> rcases j3 hj with rfl | rfl | rfl <;> simp [kOf, kd, lk, isK]
/-! ### lists written by a for with an if -/
theorem mComp_filter {g : MG} {tt : MT} {te : ME} {vs : List Nat} {E0 : E} {p : D → Bool} {f : D → D} : ∀ (ds : List D) (acc : List D), (∀ d ∈ ds, w0 (g d E0) fun e2 => w2 (tt e2) fun b e3 => b = p d ∧ (b = true → w2 (te e3) fun y e4 => y = f d ∧ wipeE e4 vs = E0) ∧ (b = false → wipeE e3 vs = E0)) → mComp g tt te vs ds E0 acc = .ok (acc ++ (ds.filter p).map f) E0
  | [], acc, _ => by rw [mComp]; simp
  | d :: ds, acc, h => by
    have h1 := h d List.mem_cons_self
    rw [mComp]
    generalize g d E0 = r at h1 ⊢
    cases h1 with
    | @mk e2 _ h1 =>
      simp only
      generalize tt e2 = r at h1 ⊢
      cases h1 with
      | @mk b e3 _ h1 =>
        obtain ⟨hb, h1, h2⟩ := h1
        cases b with
        | true =>
          have h1 := h1 rfl
          simp only [if_true]
          generalize te e3 = r at h1 ⊢
          cases h1 with
          | @mk y e4 _ h1 =>
            obtain ⟨rfl, h1⟩ := h1
            simp only
            rw [h1, mComp_filter ds _ fun d hd => h d (List.mem_cons_of_mem _ hd), List.filter_cons, if_pos hb.symm]
            simp
        | false =>
          simp only [Bool.false_eq_true, if_false]
          rw [h2 rfl, mComp_filter ds _ fun d hd => h d (List.mem_cons_of_mem _ hd), List.filter_cons, if_neg (by rw [← hb]; simp)]
theorem w2_compF {w : MW} {g : MG} {tt : MT} {te : ME} {vs : List Nat} {e : E} {Q2 : D → E → Prop} (p : D → Bool) (f : D → D) (h : w2 (w e) fun items e1 => fits items.length = true ∧ (∀ d ∈ items, w0 (g d (wipeE e1 vs)) fun e2 => w2 (tt e2) fun b e3 => b = p d ∧ (b = true → w2 (te e3) fun y e4 => y = f d ∧ wipeE e4 vs = wipeE e1 vs) ∧ (b = false → wipeE e3 vs = wipeE e1 vs)) ∧ Q2 (.lst ((items.filter p).map f)) (wipeE e1 vs)) : w2 (eComp w g tt te vs e) Q2 := by
  unfold eComp
  generalize w e = r at h ⊢
  cases h with
  | @mk items e1 _ h =>
    obtain ⟨h1, h2, h3⟩ := h
    simp only [h1, if_true]
    rw [mComp_filter items [] h2]
    simp only [List.nil_append]
    exact .mk h3
theorem par_at {L : List Par} {i : Nat} (h : i < L.length) : fIx (.rol (L.map parD)) (.int (i : Int)) = some (parD (L.getD i (.fault []))) ∧ fIx (.tup (L.map parD)) (.int (i : Int)) = some (parD (L.getD i (.fault []))) := by
  have e : L.getD i (.fault []) = L[i] := by rw [List.getD_eq_getElem?_getD, List.getElem?_eq_getElem h]; rfl
  have : atI (L.map parD) (i : Int) = some (parD (L.getD i (.fault []))) := by
    unfold atI ixN
    rw [if_pos (by omega), if_pos (by rw [List.length_map]; omega)]
    show (L.map parD)[i]? = _
    rw [List.getElem?_map, List.getElem?_eq_getElem h, e]; rfl
  exact ⟨this, this⟩

/-! ### what is listed -/
def pI (q : Nat → Bool) : D → Bool
  | .int z => q z.toNat
  | _ => false
def nts (l : List Nat) : List D := l.map fun (i : Nat) => D.int (i : Int)
theorem nts_imm (l : List Nat) : imms (nts l) = true := by
  rw [imms_all, nts, List.all_map]
  exact List.all_eq_true.mpr fun _ _ => rfl
theorem rangeD_nts (n : Nat) : rangeD 0 n = nts (List.range n) := by
  unfold rangeD nts
  exact List.map_congr_left fun (k : Nat) _ => by rw [Int.zero_add]
theorem nts_filter (q : Nat → Bool) (l : List Nat) : (nts l).filter (pI q) = nts (l.filter q) := by
  unfold nts
  rw [List.filter_map]
  rfl
theorem idx_lt {L : List Par} {j i : Nat} (h : i ∈ idx L j) : i < L.length ∧ isK j (L.getD i (.fault [])) = true := by
  unfold idx at h
  obtain ⟨h1, h2⟩ := List.mem_filter.mp h
  exact ⟨List.mem_range.mp h1, h2⟩
theorem idx_len (L : List Par) (j : Nat) : (idx L j).length ≤ L.length := by
  have := List.length_filter_le (fun i => isK j (L.getD i (.fault []))) (List.range L.length)
  rwa [List.length_range] at this
theorem getD_mem {L : List Par} {i : Nat} (h : i < L.length) : L.getD i (.fault []) ∈ L := by
  rw [List.getD_eq_getElem?_getD, List.getElem?_eq_getElem h]
  exact List.getElem_mem h
noncomputable def ll_ret : MS := (mRet (frz (eComp (wR (acons (ofN (cal fLen (aCons (bVar 0) aNil))) anil)) (gN 3) (tst (ofN (bin fEq (bin fIx (bin fIx (bVar 0) (bVar 3)) (bC (.int 1))) (bVar 2)))) (own (bVar 3)) (([("k", 3)] : List (PySem.Str × Nat)).map (·.2)))))
theorem ll_ok {L : List Par} {j : Nat} {X : Option D} (hL : L.length ≤ 14) (hg : ∀ p ∈ L, PGood p) (hj : j < 3) : wS (ll_ret [some (.rol (L.map parD)), X, some (.str (kd j)), none]) (fun _ => False) (fun d _ => d = .rol (nts (idx L j))) (fun _ => False) (fun _ => False) := by
  have ip := pars_imm L
  have hl : (L.map parD).length = L.length := List.length_map _
  unfold ll_ret
  refine wS_ret (w2_frz ?_)
  refine w2_compF (pI fun i => isK j (L.getD i (.fault []))) id ?_
  repeat' walk_at "m"
  refine ⟨fits_of (by rw [range_len, hl]; omega), fun d hd => ?_, ?_⟩
  · rw [rangeD_nts, hl, Int.toNat_natCast] at hd
    obtain ⟨i, hi, rfl⟩ := List.mem_map.mp hd
    have hi : i < L.length := List.mem_range.mp hi
    obtain ⟨h1, _⟩ := par_at hi
    have h2 := par_k (L.getD i (.fault []))
    have h3 := kOf_eq hj (hg _ (getD_mem hi))
    generalize parD (L.getD i (.fault [])) = pd at h1 h2
    repeat' walk_at "m"
    refine ⟨?_, fun hb => ?_, fun hb => rfl⟩
    · show _ = isK j (L.getD (i : Int).toNat (.fault []))
      rw [Int.toNat_natCast, ← h3, eqv_str]
    · repeat' walk_at "m"
      all_goals rfl
  · rw [List.map_id, rangeD_nts, hl, Int.toNat_natCast, nts_filter]
    exact ⟨_, rfl, nts_imm _, rfl⟩
theorem law_listed_ok {L : List Par} {j : Nat} {ps : List (Nm × Nm)} (hL : L.length ≤ 14) (hg : ∀ p ∈ L, PGood p) (hj : j < 3) : w1 (m__law_listed [.rol (L.map parD), parD (.list j ps)]) (· = .rol (nts (idx L j))) := by
  have ip := pars_imm L
  have iq := prs_imm ps
  apply w1_def (by simp [imms, imm, ip, par_imm])
  unfold b__law_listed
  show wS (mSeq _ (mSeq _ ll_ret) _) _ _ _ _
  simp only [parD]
  have fin : ∀ X, wS (ll_ret [some (.rol (L.map parD)), X, some (.str (kd j)), none]) (fun _ => False) (fun d _ => d = .rol (nts (idx L j))) (fun _ => False) (fun _ => False) := fun X => ll_ok hL hg hj
  have hkd := fun h => kd_j hj h
  rcases j3 hj with rfl | rfl | rfl
  · simp only [lk, lm]
    repeat' walk_at "m"
    exact wS_mono (fin _) (fun _ h => h.elim) (fun _ _ h => h) (fun _ h => h) (fun _ h => h)
  · have hkd := hkd (by decide)
    simp only [lk, lm] at hkd ⊢
    repeat' walk_at "m"
    rw [hkd]
    exact wS_mono (fin _) (fun _ h => h.elim) (fun _ _ h => h) (fun _ h => h) (fun _ h => h)
  · have hkd := hkd (by decide)
    simp only [lk, lm] at hkd ⊢
    repeat' walk_at "m"
    rw [hkd]
    exact wS_mono (fin _) (fun _ h => h.elim) (fun _ _ h => h) (fun _ h => h) (fun _ h => h)

/-! ### the law's view -/
def fillP (L : List Par) : Par → Par
  | .list j _ => .list j (pairsOf L j)
  | p => p
theorem fill_k (L : List Par) (j : Nat) (p : Par) : isK j (fillP L p) = isK j p := by cases p <;> rfl
theorem fill_pair (L : List Par) {j : Nat} {p : Par} (h : isK j p = true) : pairOf (fillP L p) = pairOf p := by cases p <;> first | rfl | (cases h)
theorem fill_at (L0 L : List Par) (i : Nat) : (L.map (fillP L0)).getD i (.fault []) = fillP L0 (L.getD i (.fault [])) := by
  rw [List.getD_eq_getElem?_getD, List.getD_eq_getElem?_getD, List.getElem?_map]
  cases L[i]? <;> rfl
theorem fill_idx (L : List Par) (j : Nat) : idx (L.map (fillP L)) j = idx L j := by
  unfold idx
  rw [List.length_map]
  congr 1
  funext i
  rw [fill_at, fill_k]
theorem fill_pairs (L : List Par) (j : Nat) : pairsOf (L.map (fillP L)) j = pairsOf L j := by
  unfold pairsOf
  rw [fill_idx]
  refine List.map_congr_left fun i hi => ?_
  rw [fill_at, fill_pair L (idx_lt hi).2]
def Cons (L : List Par) : Prop := ∀ j ps, Par.list j ps ∈ L → ps = pairsOf L j
theorem fill_cons (L : List Par) : Cons (L.map (fillP L)) := fun j ps h => by
  obtain ⟨p, hp, e⟩ := List.mem_map.mp h
  cases p with
  | list i qs =>
    simp only [fillP, Par.list.injEq] at e
    obtain ⟨rfl, rfl⟩ := e
    exact (fill_pairs L i).symm
  | doc _ _ _ _ => cases e
  | fault _ => cases e
theorem pairs_good {L : List Par} (hL : L.length ≤ 14) (hg : ∀ p ∈ L, PGood p) (j : Nat) : (pairsOf L j).length ≤ 14 ∧ ∀ p ∈ pairsOf L j, p.1.length ≤ 5 ∧ p.2.length ≤ 1700 := by
  refine ⟨?_, fun p hp => ?_⟩
  · unfold pairsOf
    rw [List.length_map]
    exact Nat.le_trans (idx_len L j) hL
  · obtain ⟨i, hi, rfl⟩ := List.mem_map.mp hp
    obtain ⟨h1, h2⟩ := idx_lt hi
    have := hg _ (getD_mem h1)
    generalize L.getD i (.fault []) = q at h2 this
    cases q with
    | doc k n num t => exact this.2
    | fault _ => cases h2
    | list _ _ => cases h2
theorem fill_good {L : List Par} (hL : L.length ≤ 14) (hg : ∀ p ∈ L, PGood p) : ∀ p ∈ L, PGood (fillP L p) := fun p hp => by
  have := hg p hp
  cases p with
  | list j ps => exact ⟨this.1, pairs_good hL hg j⟩
  | doc _ _ _ _ => exact this
  | fault _ => exact this
def pairD (L : List Par) : D → D
  | .int z => let q := pairOf (L.getD z.toNat (.fault [])); .tup [.str q.1, .str q.2]
  | d => d
theorem map_pairD (L : List Par) (j : Nat) : (nts (idx L j)).map (pairD L) = prs (pairsOf L j) := by
  unfold nts prs pairsOf
  rw [List.map_map, List.map_map]
  rfl
theorem pair_at {L : List Par} {j i : Nat} (h : i ∈ idx L j) : ∃ a b, fIx (parD (L.getD i (.fault []))) (.int 3) = some (.str a) ∧ fIx (parD (L.getD i (.fault []))) (.int 4) = some (.str b) ∧ pairOf (L.getD i (.fault [])) = (a, b) := by
  obtain ⟨h1, h2⟩ := idx_lt h
  generalize L.getD i (.fault []) = q at h2
  cases q with
  | doc k n num t => exact ⟨num, t, rfl, rfl, rfl⟩
  | fault _ => cases h2
  | list _ _ => cases h2
theorem rol_at {L : List Par} {i : Nat} (h : i < L.length) : fIx (.rol (L.map parD)) (.int (i : Int)) = some (parD (L.getD i (.fault []))) := (par_at h).1
theorem parD_len (p : Par) : ∃ ds, parD p = .tup ds := by cases p <;> exact ⟨_, rfl⟩
noncomputable def lv_body : MS := (mIf (orT (tst (ofN (bin fEq (bin fIx (bVar 8) (bC (.int 1))) (bC (.str (lit "contents")))))) (tst (ofN (bin fEq (bin fIx (bVar 8) (bC (.int 1))) (bC (.str (lit "index")))))))
  (mSeq (mSet 9 (calE fTuple (acons (eComp (wV (ofN (cN m__law_listed (aCons (bVar 1) (aCons (bVar 8) aNil))))) (gN 3) tY (ofN (dTup (aCons (bin fIx (bin fIx (bVar 1) (bVar 3)) (bC (.int 3))) (aCons (bin fIx (bin fIx (bVar 1) (bVar 3)) (bC (.int 4))) aNil)))) (([("k", 3)] : List (PySem.Str × Nat)).map (·.2))) anil)))
  (mExpr (eMut 7 fAppend (acons (ofN (bin fAdd (cut (bVar 8) none (some (bC (.int 4)))) (dTup (aCons (bVar 9) aNil)))) anil))))
  (mExpr (eMut 7 fAppend (acons (own (bVar 8)) anil))))
theorem lv_ok {L : List Par} (hL : L.length ≤ 14) (hg : ∀ p ∈ L, PGood p) {p : Par} (hp : p ∈ L) {ds : List D} {x0 x2 x3 x4 x5 x6 x9 : Option D} {N : E → Prop} (hd : ds.length ≤ 100)
    (h : ∀ x3 x9, N [x0, some (.rol (L.map parD)), x2, x3, x4, x5, x6, some (.lst (ds ++ [parD (fillP L p)])), some (parD p), x9]) :
    wS (lv_body [x0, some (.rol (L.map parD)), x2, x3, x4, x5, x6, some (.lst ds), some (parD p), x9]) N (fun _ _ => False) (fun _ => False) N := by
  have ip := pars_imm L
  have i1 := par_imm p
  have hl : (L.map parD).length = L.length := List.length_map _
  unfold lv_body
  have hgp := hg p hp
  cases p with
  | doc k n num t =>
    have hk := hgp.1
    simp only [fillP] at h
    simp only [parD] at i1 h ⊢
    repeat' walk_at "m"
    all_goals first
      | exact h _ _
      | (exfalso
         simp only [eqv_str, decide_eq_true_eq] at *
         rcases k8 hk with rfl | rfl | rfl | rfl | rfl | rfl | rfl | rfl <;> simp_all [kd])
  | fault t =>
    simp only [fillP] at h
    simp only [parD] at i1 h ⊢
    repeat' walk_at "m"
    exact h _ _
  | list j ps =>
    have hj := hgp.1
    have k1 := w1_is (law_listed_ok (ps := ps) hL hg hj)
    have i2 : imms [.rol (L.map parD), parD (.list j ps)] = true := by simp [imms, imm, ip, par_imm]
    have i3 := prs_imm (pairsOf L j)
    have hil := idx_len L j
    have n1 := nts_imm (idx L j)
    simp only [fillP] at h
    have hk1 : fIx (parD (.list j ps)) (.int 1) = some (.str (lk j)) := rfl
    have hcut : fCut (parD (.list j ps)) none (some 4) = some (.tup [.str (lit "para"), .str (lk j), .int 0, .str (lm j)]) := by
      show (if imms [.str (lit "para"), .str (lk j), .int 0, .str (lm j), .tup (prs ps)] = true then some (D.tup (cutL [.str (lit "para"), .str (lk j), .int 0, .str (lm j), .tup (prs ps)] none (some 4))) else none) = _
      rw [if_pos (by simp [imms, imm, prs_imm]), cutL_to (by decide)]
      rfl
    have hlk : lk j = lit "contents" ∨ lk j = lit "index" := by
      unfold lk
      split
      · exact .inl rfl
      · exact .inr rfl
    have hfin : parD (.list j (pairsOf L j)) = .tup ([.str (lit "para"), .str (lk j), .int 0, .str (lm j)] ++ [.tup (prs (pairsOf L j))]) := rfl
    rw [hfin] at h
    have i4 : imms [D.str (lit "para"), .str (lk j), .int 0, .str (lm j)] = true := rfl
    have i5 : imms [D.tup (prs (pairsOf L j))] = true := by simp [imms, imm, i3]
    have comp : ∀ (x3 x9 : Option D), wS (mSeq (mSet 9 (calE fTuple (acons (eComp (wV (ofN (cN m__law_listed (aCons (bVar 1) (aCons (bVar 8) aNil))))) (gN 3) tY (ofN (dTup (aCons (bin fIx (bin fIx (bVar 1) (bVar 3)) (bC (.int 3))) (aCons (bin fIx (bin fIx (bVar 1) (bVar 3)) (bC (.int 4))) aNil)))) (([("k", 3)] : List (PySem.Str × Nat)).map (·.2))) anil)))
        (mExpr (eMut 7 fAppend (acons (ofN (bin fAdd (cut (bVar 8) none (some (bC (.int 4)))) (dTup (aCons (bVar 9) aNil)))) anil)))
        [x0, some (.rol (L.map parD)), x2, x3, x4, x5, x6, some (.lst ds), some (parD (.list j ps)), x9]) N (fun _ _ => False) (fun _ => False) N := fun x3 x9 => by
      generalize parD (.list j ps) = P at *
      repeat' walk_at "m"
      refine w2_comp (pairD L) ?_
      repeat' walk_at "m"
      refine ⟨nts (idx L j), if_pos n1, fits_of (by unfold nts; rw [List.length_map]; omega), fun d hd => ?_, ?_⟩
      · obtain ⟨i, hi, rfl⟩ := List.mem_map.mp hd
        have q1 := rol_at (idx_lt hi).1
        obtain ⟨a, b, q2, q3, q4⟩ := pair_at hi
        have q5 : pairD L (.int (i : Int)) = .tup [.str a, .str b] := by
          show (let q := pairOf (L.getD (i : Int).toNat (.fault [])); D.tup [.str q.1, .str q.2]) = _
          rw [Int.toNat_natCast, q4]
        generalize parD (L.getD i (.fault [])) = pd at q1 q2 q3
        repeat' walk_at "m"
        all_goals first | exact q5.symm | exact ⟨q5.symm, rfl⟩ | rfl
      · rw [map_pairD]
        repeat' walk_at "m"
        exact h _ _
    refine wS_if ?_
    repeat' (first | walk_at "m2" | walk_at "m1" | walk_at "mE" | walk_at "mA" | walk_at "m0")
    · exact comp _ _
    · exact comp _ _
    · exfalso
      simp only [eqv_str, decide_eq_false_iff_not] at *
      rcases hlk with z | z <;> simp_all

def VP (d : D) (os : List D) : Prop := ∃ (L : List Par) (jar' : D), d = .rol (L.map parD) ∧ L.length ≤ 14 ∧ (∀ p ∈ L, PGood p) ∧ Cons L ∧ Jar jar' ∧ os = [jar']
theorem pars_snoc (L : List Par) (p : Par) : L.map parD ++ [parD p] = (L ++ [p]).map parD := by rw [List.map_append]; rfl
theorem good_snoc {L : List Par} {p : Par} (h : ∀ q ∈ L, PGood q) (hp : PGood p) : ∀ q ∈ L ++ [p], PGood q := fun q hq => by
  rcases List.mem_append.mp hq with z | z
  · exact h q z
  · rw [List.mem_singleton.mp z]; exact hp
theorem g_doc {k : Nat} {n : Int} {num t : Nm} (h : k < 8) (h1 : num.length ≤ 5) (h2 : t.length ≤ 1700) : PGood (.doc k n num t) := ⟨h, h1, h2⟩
theorem g_list {j : Nat} (h : j < 3) : PGood (.list j []) := ⟨h, by simp, by simp⟩
theorem law_view_ok {jar : D} (h : Jar jar) : wD (m__law_view [jar]) VP := by
  apply wD_def
  unfold b__law_view
  simp only [List.map_cons, List.map_nil, List.replicate, List.cons_append, List.nil_append]
  repeat' (first | walk_at "m" | walk_at "t")
  refine w0_ixL (by omega) (by simp; omega) fun d hd => ?_
  obtain ⟨many, rfl, hm⟩ : ∃ many : Int, d = .int many ∧ (0 < many ∧ many ≤ 40) := by
    have := mem_get hd
    simp only [List.mem_cons, List.not_mem_nil, or_false] at this
    rcases this with rfl | rfl | rfl
    · exact ⟨4, rfl, by decide⟩
    · exact ⟨12, rfl, by decide⟩
    · exact ⟨40, rfl, by decide⟩
  clear hd
  repeat' (first | walk_at "m" | walk_at "t")
  rename_i r1 j1 a1 a2 a3
  refine wS_loop0 (fun k e => Hold (∃ (jar : D) (L : List Par) (x3 x4 x5 x6 : Option D), Jar jar ∧ L.length ≤ k ∧ (∀ p ∈ L, PGood p) ∧ e = [some jar, some (.lst (L.map parD)), some (.int many), x3, x4, x5, x6, none, none, none])) _ ⟨_, [], _, _, _, _, a3, by simp, by simp, rfl⟩ (fun i d e hd hI => ?_) (fun e hI => ?_)
  · obtain ⟨jar, L, x3, x4, x5, x6, hj, hl, hg, rfl⟩ := hI
    obtain ⟨hi, rfl⟩ := range_at hd
    have lp : (L.map parD).length = L.length := List.length_map _
    clear a3
    walk_at "m0"
    refine wS_seq (wS_set ?_)
    repeat' (first | walk_at "m2" | walk_at "m1" | walk_at "mE" | walk_at "mA" | walk_at "m0" | walk_at "t")
    rename_i pk j2 b1 b2 b3
    refine wS_seq (wS_set ?_)
    repeat' (first | walk_at "m2" | walk_at "m1" | walk_at "mE" | walk_at "mA" | walk_at "m0" | walk_at "t")
    refine wD_mono (words_ok b3 hm) fun d os ⟨t, jar2, e1, ht, hj2, e2⟩ => ?_
    subst e1 e2
    repeat' (first | walk_at "m2" | walk_at "m1" | walk_at "mE" | walk_at "mA" | walk_at "m0" | walk_at "t")
    refine wS_seq (wS_set ?_)
    repeat' (first | walk_at "m2" | walk_at "m1" | walk_at "mE" | walk_at "mA" | walk_at "m0" | walk_at "t")
    refine w0_ixL (by omega) (by simp; omega) fun d hd => ?_
    obtain ⟨num, rfl, hn⟩ : ∃ num, d = .str num ∧ num.length ≤ 5 := by
      have := mem_get hd
      simp only [List.mem_cons, List.not_mem_nil, or_false] at this
      rcases this with rfl | rfl | rfl | rfl <;> exact ⟨_, rfl, by simp⟩
    clear hd
    repeat' (first | walk_at "m" | walk_at "t")
    · rename_i r2 j3 c0 c1 c2
      exact ⟨_, L ++ [.doc 0 (1 + r2) num t], _, _, _, _, by assumption, by simp; omega, good_snoc hg (g_doc (by decide) hn ht), by rw [← pars_snoc]; rfl⟩
    · refine w0_ixL (by omega) (by simp; omega) fun d hd => ?_
      obtain ⟨k, rfl, hk⟩ : ∃ k, d = .str (kd k) ∧ k < 8 := by
        have := mem_get hd
        simp only [List.mem_cons, List.not_mem_nil, or_false] at this
        rcases this with rfl | rfl
        · exact ⟨1, rfl, by decide⟩
        · exact ⟨2, rfl, by decide⟩
      repeat' (first | walk_at "m" | walk_at "t")
      exact ⟨_, L ++ [.doc k 0 num t], _, _, _, _, by assumption, by simp; omega, good_snoc hg (g_doc hk hn ht), by rw [← pars_snoc]; rfl⟩
    · exact ⟨_, L ++ [.doc 4 0 (lit "") t], _, _, _, _, by assumption, by simp; omega, good_snoc hg (g_doc (by decide) (by simp) ht), by rw [← pars_snoc]; rfl⟩
    · rename_i r2 j3 c0 c1 c2
      exact ⟨_, L ++ [.doc 5 0 (lit (toString (1 + r2))) t], _, _, _, _, by assumption, by simp; omega, good_snoc hg (g_doc (by decide) (toStr5 (by omega) (by omega)) ht), by rw [← pars_snoc]; rfl⟩
    · exact ⟨_, L ++ [.list 0 []], _, _, _, _, by assumption, by simp; omega, good_snoc hg (g_list (by decide)), by rw [← pars_snoc]; rfl⟩
    · refine w0_ixL (by omega) (by simp; omega) fun d hd => ?_
      obtain ⟨k, rfl, hk⟩ : ∃ k, d = .str (lm k) ∧ lk k = lit "index" ∧ k < 3 := by
        have := mem_get hd
        simp only [List.mem_cons, List.not_mem_nil, or_false] at this
        rcases this with rfl | rfl
        · exact ⟨1, rfl, rfl, by decide⟩
        · exact ⟨2, rfl, rfl, by decide⟩
      repeat' (first | walk_at "m" | walk_at "t")
      exact ⟨_, L ++ [.list k []], _, _, _, _, by assumption, by simp; omega, good_snoc hg (g_list hk.2), by rw [← pars_snoc, parD, hk.1]; rfl⟩
    · exact ⟨_, L ++ [.fault (lit "para a 1 > para a 2")], _, _, _, _, by assumption, by simp; omega, good_snoc hg (by show List.length _ ≤ 200; simp), by rw [← pars_snoc]; rfl⟩
    · refine w0_ixL (by omega) (by simp; omega) fun d hd => ?_
      obtain ⟨k, rfl, hk⟩ : ∃ k, d = .str (kd k) ∧ k < 8 := by
        have := mem_get hd
        simp only [List.mem_cons, List.not_mem_nil, or_false] at this
        rcases this with rfl | rfl
        · exact ⟨6, rfl, by decide⟩
        · exact ⟨7, rfl, by decide⟩
      repeat' (first | walk_at "m" | walk_at "t")
      exact ⟨_, L ++ [.doc k 0 (lit "") t], _, _, _, _, by assumption, by simp; omega, good_snoc hg (g_doc hk (by simp) ht), by rw [← pars_snoc]; rfl⟩
  · obtain ⟨jar, L, x3, x4, x5, x6, hj, hl, hg, rfl⟩ := hI
    rw [range_len] at hl
    have hl : L.length ≤ 14 := by omega
    have ip := pars_imm L
    clear a3
    have lp : (L.map parD).length = L.length := List.length_map _
    repeat' (first | walk_at "m" | walk_at "t")
    refine wS_lock1 rfl ip ?_
    refine wS_forV (ds := L.map parD) rfl (if_pos ip) (by simpa [imm] using ip) ?_
    refine wS_loop0 (fun k e => Hold (∃ (x3 x8 x9 : Option D), e = [some jar, some (.rol (L.map parD)), some (.int many), x3, x4, x5, x6, some (.lst ((L.take k).map fun p => parD (fillP L p))), x8, x9])) _ ⟨_, _, _, rfl⟩ (fun i d e hd hI => ?_) (fun e hI => ?_)
    · obtain ⟨x3, x8, x9, rfl⟩ := hI
      rw [List.getElem?_map] at hd
      obtain ⟨p, hp, rfl⟩ := Option.map_eq_some_iff.mp hd
      walk_at "m0"
      refine wS_mono (lv_ok hl hg (mem_get hp) (N := fun e => ∃ (x3 x8 x9 : Option D), e = [some jar, some (.rol (L.map parD)), some (.int many), x3, x4, x5, x6, some (.lst ((L.take (i + 1)).map fun p => parD (fillP L p))), x8, x9]) (by rw [List.length_map, List.length_take]; omega) fun y3 y9 => ⟨y3, some (parD p), y9, ?_⟩) (fun _ h => h) (fun _ _ h => h.elim) (fun _ h => h.elim) (fun _ h => h)
      rw [List.take_add_one, hp, List.map_append]
      rfl
    · obtain ⟨x3, x8, x9, rfl⟩ := hI
      rw [lp, List.take_length]
      have e1 : (L.map fun p => parD (fillP L p)) = (L.map (fillP L)).map parD := by rw [List.map_map]; rfl
      rw [e1]
      have ip2 := pars_imm (L.map (fillP L))
      repeat' (first | walk_at "m" | walk_at "t")
      exact ⟨_, _, rfl, by rw [List.length_map]; exact hl, fun p m => (by obtain ⟨q, hq, rfl⟩ := List.mem_map.mp m; exact fill_good hl hg q hq), fill_cons L, hj, rfl⟩

/-! ### an entry's lines -/
def isF : Par → Bool
  | .fault _ => true
  | _ => false
def bText (k : Nat) (num t : List Nat) : List Nat := match k with
  | 0 => num ++ [32] ++ t
  | 1 => (kd 1).drop 1 ++ [32] ++ num ++ lit ": " ++ t
  | 2 => (kd 2).drop 1 ++ [32] ++ num ++ lit ": " ++ t
  | _ => t
def bFirst (k : Nat) (num : List Nat) : List Nat := match k with
  | 3 => num ++ lit ". "
  | 4 => lit "* "
  | 5 => num ++ lit ". "
  | _ => []
def bRest (k : Nat) : List Nat := match k with
  | 3 => lit "   "
  | 4 => lit "  "
  | 5 => lit "   "
  | _ => []
def flt (a t : List Nat) : List Nat := lit "[" ++ a ++ [32] ++ t ++ lit "]"
def blockP (W : Nat) : Par → Ls
  | .doc k _ num t => wrapP (bText k num t) W (bFirst k num) (bRest k)
  | .fault t => wrapP (flt (lit "ring") t) W [] []
  | .list _ ps => (ps.map fun p => wrapP (p.1 ++ [32] ++ p.2) (W - 5) (lit "  ") (lit "    ")).flatten
theorem is_fault_ok (p : Par) : w1 (m_is_fault [parD p]) (· = .bl (isF p)) := by
  apply w1_def (by simp [imms, par_imm])
  unfold b_is_fault
  cases p with
  | doc k n num t =>
    simp only [parD, isF]
    repeat' walk_at "m"
    all_goals simp
  | fault t =>
    simp only [parD, isF]
    repeat' walk_at "m"
    all_goals simp
  | list ix ps =>
    simp only [parD, isF]
    repeat' walk_at "m"
    all_goals simp
theorem w0_listT {ds : List D} {Q : D → Prop} (h : imms ds = true) (q : Q (.lst ds)) : w0 (fList [.tup ds]) Q := w0_of (show (if imms ds = true then some (D.lst ds) else none) = _ by rw [if_pos h]) q
theorem w0_ext {ds es : List D} {Q : D × D → Prop} (h : imms es = true) (hl : ds.length + es.length ≤ 16777216) (q : Q (.non, .lst (ds ++ es))) : w0 (fExtend (.lst ds) [.lst es]) Q := by
  refine w0_of (show (if imms es = true ∧ fits (ds.length + es.length) = true then some (D.non, D.lst (ds ++ es)) else none) = _ from ?_) q
  rw [if_pos ⟨h, fits_of hl⟩]
theorem w0_addL {as bs : List D} {Q : D → Prop} (h : imms as = true) (h1 : imms bs = true) (h2 : as.length + bs.length ≤ 16777216) (q : Q (.lst (as ++ bs))) : w0 (fAdd (.lst as) (.lst bs)) Q :=
  w0_of (show (if imms as = true ∧ imms bs = true ∧ fits (as.length + bs.length) = true then some (D.lst (as ++ bs)) else none) = _ by rw [if_pos ⟨h, h1, fits_of h2⟩]) q
theorem show_ok {a t : List Nat} (ha : a.length ≤ 100) (ht : t.length ≤ 300) : w1 (m_show_value [.tup [.str (lit "fault"), .str a, .str t]]) (· = .str (flt a t)) := by
  apply w1_def rfl
  unfold b_show_value
  rw [l_sp]
  repeat' walk_at "m"
  all_goals rfl
def tls (L : List Ls) : List D := L.map fun ls => .tup (lns ls)
theorem tls_imm (L : List Ls) : imms (tls L) = true := by
  rw [imms_all, tls, List.all_map]
  exact List.all_eq_true.mpr fun ls _ => lns_imm ls
theorem joined_any {L : List Ls} {d0 : D} (hd0 : itemsOf d0 = some (tls L)) (hi0 : imm d0 = true) (hL : L.length ≤ 14) (h : ∀ ls ∈ L, ls.length ≤ 2000) : w1 (m_joined_lines [d0]) (· = .tup (lns L.flatten)) := by
  have iL := tls_imm L
  apply w1_def (by simp [imms, hi0])
  unfold b_joined_lines
  repeat' walk_at "m"
  refine wS_forV (ds := tls L) rfl hd0 hi0 ?_
  refine wS_loop0 (fun k e => Hold (∃ x, e = [some d0, some (.lst (lns (L.take k).flatten)), x] ∧ (L.take k).flatten.length ≤ 2000 * k)) _ ⟨none, rfl, by simp⟩ (fun i d e hd hI => ?_) (fun e hI => ?_)
  · obtain ⟨x, rfl, hl⟩ := hI
    unfold tls at hd
    rw [List.getElem?_map] at hd
    obtain ⟨ls, h1, rfl⟩ := Option.map_eq_some_iff.mp hd
    have hls := h ls (mem_get h1)
    have hi : i < L.length := (List.getElem?_eq_some_iff.mp h1).1
    have e1 : (L.take (i + 1)).flatten = (L.take i).flatten ++ ls := by rw [List.take_add_one, h1]; simp
    have ils := lns_imm ls
    repeat' walk_at "m"
    refine w0_listT ils ?_
    repeat' walk_at "m"
    refine w0_ext ils (by rw [lns_len, lns_len]; omega) ?_
    rw [← lns_app, ← e1]
    exact ⟨_, rfl, by rw [e1]; simp only [List.length_append]; omega⟩
  · obtain ⟨x, rfl, hl⟩ := hI
    repeat' walk_at "m"
    rw [List.take_of_length_le (by simp [tls])]
theorem joined_ok {L : List Ls} (hL : L.length ≤ 14) (h : ∀ ls ∈ L, ls.length ≤ 2000) : w1 (m_joined_lines [.tup (tls L)]) (· = .tup (lns L.flatten)) :=
  joined_any (by show (if _ then _ else _) = _; rw [if_pos (tls_imm L)]) (by simpa [imm] using tls_imm L) hL h
theorem joined_rol {L : List Ls} (hL : L.length ≤ 14) (h : ∀ ls ∈ L, ls.length ≤ 2000) : w1 (m_joined_lines [.rol (tls L)]) (· = .tup (lns L.flatten)) :=
  joined_any (by show (if _ then _ else _) = _; rw [if_pos (tls_imm L)]) (by simpa [imm] using tls_imm L) hL h
def wl (W : Nat) (p : List Nat × List Nat) : Ls := wrapP (p.1 ++ [32] ++ p.2) W (lit "  ") (lit "    ")
def wlD (W : Nat) : D → D
  | .tup [.str a, .str b] => .tup (lns (wl W (a, b)))
  | _ => .non
theorem listing_ok {ps : List (List Nat × List Nat)} {W : Nat} (hp : ps.length ≤ 14 ∧ ∀ p ∈ ps, p.1.length ≤ 5 ∧ p.2.length ≤ 1700) (hW : 15 ≤ W ∧ W ≤ 100) : w1 (m_listing_texts [.tup (prs ps), .int W]) (· = .tup (tls (ps.map (wl W)))) := by
  have ip := prs_imm ps
  apply w1_def (by simp [imms, imm, ip])
  unfold b_listing_texts
  rw [l_sp]
  repeat' walk_at "m"
  refine w2_comp (wlD W) ?_
  repeat' walk_at "m"
  refine ⟨prs ps, by show (if _ then _ else _) = _; rw [if_pos ip], fits_of (by rw [prs_len]; omega), fun d hd => ?_, ?_⟩
  · obtain ⟨p, hpm, rfl⟩ := List.mem_map.mp hd
    obtain ⟨p1, p2⟩ := hp.2 p hpm
    repeat' walk_at "m"
    refine w1_mono (wrap_ok (by simp; omega) (by simp; omega) (by simp; omega) (by omega)) fun y hy => ?_
    subst hy
    exact ⟨rfl, rfl⟩
  · have e1 : (prs ps).map (wlD W) = tls (ps.map (wl W)) := by
      simp only [prs, tls, List.map_map]
      rfl
    rw [e1]
    repeat' walk_at "m"
    refine w0_tupL (tls_imm _) ?_
    repeat' walk_at "m"
    rfl
def isL : Par → Bool
  | .list _ _ => true
  | _ => false
def stB : Nat → Bool
  | 1 => true
  | 2 => true
  | _ => false
theorem st_ne : lit "!" ≠ [] := by rw [lit_eq]; decide
theorem st_ok {k : Nat} (hk : k < 8) : (lit "!").isPrefixOf (kd k) = stB k := by
  rcases k8 hk with rfl | rfl | rfl | rfl | rfl | rfl | rfl | rfl <;> simp only [kd, lit_eq] <;> decide
theorem w0_stB {s g : List Nat} {b : Bool} {Q : D → Prop} (hg : g ≠ []) (h : g.isPrefixOf s = b) (q : Q (.bl b)) : w0 (fStartswith (.str s) (.str g)) Q := w0_starts hg (by rw [h]; exact q)
local macro_rules | `(tactic| walk_at "m0") => `(tactic| first
  | ((with_reducible apply w0_stB); (focus assumption); (focus assumption)))
theorem is_listing_ok (p : Par) (hg : PGood p) : w1 (m_is_listing [parD p]) (· = .bl (isL p)) := by
  apply w1_def (by simp [imms, par_imm])
  unfold b_is_listing
  have ip := par_imm p
  repeat' walk_at "m"
  refine w1_mono (is_fault_ok p) fun d e => ?_
  subst e
  cases p with
  | doc k n num t =>
    obtain ⟨hk, h1, h2⟩ := hg
    simp only [isF, parD]
    repeat' walk_at "m"
    all_goals (rcases k8 hk with rfl | rfl | rfl | rfl | rfl | rfl | rfl | rfl)
    all_goals (first | (rename_i hc; simp [kd] at hc; done) | skip)
    all_goals (simp [kd, isL])
  | fault t =>
    simp only [isF, parD]
    repeat' walk_at "m"
    all_goals first | rfl | trivial
  | list ix ps =>
    have hj := hg.1
    simp only [isF, parD]
    rcases j3 hj with rfl | rfl | rfl <;> simp only [lk]
    all_goals (repeat' walk_at "m")
    all_goals (simp [isL])
theorem para_lines_ok (p : Par) (hg : PGood p) {W : Nat} (hW : 20 ≤ W ∧ W ≤ 100) : w1 (m_para_lines [parD p, .int W, .int ((W - 5 : Nat) : Int)]) (· = .tup (lns (blockP W p))) := by
  have ip := par_imm p
  apply w1_def (by simp [imms, imm, ip])
  unfold b_para_lines
  rw [l_sp, l_0]
  repeat' walk_at "m"
  refine w1_mono (is_fault_ok p) fun d e => ?_
  subst e
  cases p with
  | fault t =>
    simp only [isF, parD]
    have ht : t.length ≤ 200 := hg
    repeat' walk_at "m"
    refine w1_mono (show_ok (by simp) (by omega)) fun d e => ?_
    subst e
    repeat' walk_at "m"
    refine w1_mono (wrap_ok (by simp; omega) (by simp; omega) (by simp [flt]; omega) (by omega)) fun d e => ?_
    subst e
    repeat' walk_at "m"
    rfl
  | list ix ps =>
    simp only [isF, parD] at ip ⊢
    repeat' walk_at "m"
    have ip2 := prs_imm ps
    refine And.intro (by simp [imms, imm, prs_imm]) ?_
    refine w1_mono (is_listing_ok (.list ix ps) hg) fun d e => ?_
    subst e
    repeat' walk_at "m"
    refine w1_mono (listing_ok hg.2 ⟨by omega, by omega⟩) fun d e => ?_
    subst e
    have it := tls_imm (ps.map (wl (W - 5)))
    repeat' walk_at "m"
    refine w1_mono (joined_ok (by rw [List.length_map]; exact hg.2.1) (fun ls hl => ?_)) fun d e => ?_
    · obtain ⟨p, hp, rfl⟩ := List.mem_map.mp hl
      have := hg.2.2 p hp
      exact Nat.le_trans (wrapP_len (by simp; omega) (by simp; omega)).2 (by simp; omega)
    · subst e
      repeat' walk_at "m"
      rfl
  | doc k n num t =>
    obtain ⟨hk, h1, h2⟩ := hg
    simp only [isF]
    have hst := st_ok hk
    have hne := st_ne
    repeat' walk_at "m"
    refine w1_mono (is_listing_ok (.doc k n num t) ⟨hk, h1, h2⟩) fun d e => ?_
    subst e
    simp only [isL]
    rcases k8 hk with rfl | rfl | rfl | rfl | rfl | rfl | rfl | rfl
    all_goals (simp only [kd] at hst ⊢)
    all_goals (repeat' walk_at "m")
    · exact w1_mono (wrap_ok (by simp; omega) (by simp; omega) (by first | omega | (simp; omega)) (by omega)) fun d e => by rw [e]; rfl
    · exact w1_mono (wrap_ok (by simp; omega) (by simp; omega) (by first | omega | (simp; omega)) (by omega)) fun d e => by rw [e]; rfl
    · exact w1_mono (wrap_ok (by simp; omega) (by simp; omega) (by first | omega | (simp; omega)) (by omega)) fun d e => by rw [e]; rfl
    · exact w1_mono (wrap_ok (by simp; omega) (by simp; omega) (by first | omega | (simp; omega)) (by omega)) fun d e => by rw [e]; rfl
    · exact w1_mono (wrap_ok (by simp; omega) (by simp; omega) (by first | omega | (simp; omega)) (by omega)) fun d e => by rw [e]; rfl
    · exact w1_mono (wrap_ok (by simp; omega) (by simp; omega) (by first | omega | (simp; omega)) (by omega)) fun d e => by rw [e]; rfl
    · exact w1_mono (wrap_ok (by simp; omega) (by simp; omega) (by first | omega | (simp; omega)) (by omega)) fun d e => by rw [e]; rfl
    · exact w1_mono (wrap_ok (by simp; omega) (by simp; omega) (by first | omega | (simp; omega)) (by omega)) fun d e => by rw [e]; rfl

/-! ### the law's paragraph -/
def rls (L : List Ls) : List D := L.map fun ls => .rol (lns ls)
theorem rls_imm (L : List Ls) : imms (rls L) = true := by
  rw [imms_all, rls, List.all_map]
  exact List.all_eq_true.mpr fun ls _ => lns_imm ls
def wlR (W : Nat) : D → D
  | .tup [.str a, .str b] => .rol (lns (wl W (a, b)))
  | _ => .non
theorem lwrap {s f r : List Nat} {W : Nat} (hW : 15 ≤ W ∧ W ≤ 100) (hs : s.length ≤ 5000) (hf : f.length ≤ 7) (hr : r.length ≤ 7) : w1 (m__law_wrap [.str s, .int W, .str f, .str r]) (· = .rol (lns (wrapP s W f r))) := law_wrap_ok (by omega) (by omega) (by omega) (by omega)
theorem law_texts_ok {j : Nat} {ps : List (Nm × Nm)} (hp : ps.length ≤ 14 ∧ ∀ p ∈ ps, p.1.length ≤ 5 ∧ p.2.length ≤ 1700) {W : Nat} (hW : 20 ≤ W ∧ W ≤ 100) : w1 (m__law_texts [parD (.list j ps), .int W]) (· = .rol (rls (ps.map (wl (W - 5))))) := by
  have ip := prs_imm ps
  have e5 : (W : Int) - 5 = ((W - 5 : Nat) : Int) := by omega
  apply w1_def (by simp [imms, imm, par_imm])
  unfold b__law_texts
  rw [l_sp]
  have h4 : fIx (parD (.list j ps)) (.int 4) = some (.tup (prs ps)) := rfl
  generalize parD (.list j ps) = P at h4
  refine wS_ret (w2_frz ?_)
  refine w2_comp (wlR (W - 5)) ?_
  repeat' walk_at "m"
  refine ⟨prs ps, if_pos ip, fits_of (by rw [prs_len]; omega), fun d hd => ?_, ?_⟩
  · obtain ⟨p, hpm, rfl⟩ := List.mem_map.mp hd
    obtain ⟨p1, p2⟩ := hp.2 p hpm
    repeat' walk_at "m"
    rw [e5]
    refine w1_mono (lwrap ⟨by omega, by omega⟩ (by simp; omega) (by simp) (by simp)) fun y hy => ?_
    subst hy
    exact ⟨rfl, rfl⟩
  · have e1 : (prs ps).map (wlR (W - 5)) = rls (ps.map (wl (W - 5))) := by
      simp only [prs, rls, List.map_map]
      rfl
    rw [e1]
    exact ⟨_, rfl, rls_imm _, rfl⟩
theorem w0_addLR {as bs : List D} {Q : D → Prop} (h : imms as = true) (h1 : imms bs = true) (h2 : as.length + bs.length ≤ 16777216) (q : Q (.lst (as ++ bs))) : w0 (fAdd (.lst as) (.rol bs)) Q :=
  w0_of (show (if imms as = true ∧ imms bs = true ∧ fits (as.length + bs.length) = true then some (D.lst (as ++ bs)) else none) = _ by rw [if_pos ⟨h, h1, fits_of h2⟩]) q
theorem wl_len {W : Nat} (hW : 15 ≤ W) {p : Nm × Nm} (h : p.1.length ≤ 5 ∧ p.2.length ≤ 1700) : 1 ≤ (wl W p).length ∧ (wl W p).length ≤ 1710 := by
  have := wrapP_len (s := p.1 ++ [32] ++ p.2) (W := W) (first := lit "  ") (rest := lit "    ") (by simp; omega) (by simp; omega)
  unfold wl
  simp only [List.length_append, List.length_cons, List.length_nil] at this
  omega
noncomputable def bb_law : MS := (mSet 3 (ofN (bin fAdd (bVar 3) (bVar 4))))
theorem blist_ok {L : List Ls} (hL : L.length ≤ 14) (h : ∀ ls ∈ L, ls.length ≤ 2000) {x0 x1 x2 x4 : Option D} {N B C : E → Prop} {R : D → E → Prop}
    (hN : ∀ x4, N [x0, x1, x2, some (.lst (lns L.flatten)), x4]) : wS (mLoop (gN 4) bb_law (rls L) [x0, x1, x2, some (.lst []), x4]) N R B C := by
  unfold bb_law
  refine wS_loop0 (fun k e => Hold (∃ x4, e = [x0, x1, x2, some (.lst (lns (L.take k).flatten)), x4] ∧ (L.take k).flatten.length ≤ 2000 * k)) _ ⟨x4, rfl, by simp⟩ (fun i d e hd hI => ?_) (fun e hI => ?_)
  · obtain ⟨x4, rfl, hl⟩ := hI
    unfold rls at hd
    rw [List.getElem?_map] at hd
    obtain ⟨ls, h1, rfl⟩ := Option.map_eq_some_iff.mp hd
    have hls := h ls (mem_get h1)
    have hi : i < L.length := (List.getElem?_eq_some_iff.mp h1).1
    have e1 : (L.take (i + 1)).flatten = (L.take i).flatten ++ ls := by rw [List.take_add_one, h1]; simp
    repeat' walk_at "m"
    refine w0_addLR (lns_imm _) (lns_imm _) (by rw [lns_len, lns_len]; omega) ?_
    rw [← lns_app, ← e1]
    exact ⟨_, rfl, by rw [e1, List.length_append]; omega⟩
  · obtain ⟨x4, rfl, hl⟩ := hI
    rw [List.take_of_length_le (by simp [rls])]
    exact hN _
theorem law_lines_ok (p : Par) (hg : PGood p) {W : Nat} (hW : 20 ≤ W ∧ W ≤ 100) : w1 (m__law_lines [parD p, .int W]) (· = .rol (lns (blockP W p))) := by
  have ip := par_imm p
  have hW2 : 15 ≤ W ∧ W ≤ 100 := by omega
  apply w1_def (by simp [imms, imm, ip])
  unfold b__law_lines
  rw [l_sp, l_0]
  cases p with
  | fault t =>
    simp only [parD]
    have ht : t.length ≤ 200 := hg
    repeat' walk_at "m"
    exact w1_mono (lwrap hW2 (by simp; omega) (by simp) (by simp)) fun d e => by rw [e]; rfl
  | doc k n num t =>
    obtain ⟨hk, h1, h2⟩ := hg
    simp only [parD]
    rcases k8 hk with rfl | rfl | rfl | rfl | rfl | rfl | rfl | rfl
    all_goals (simp only [kd] at ip ⊢)
    all_goals (repeat' walk_at "m")
    all_goals (first
      | exact w1_mono (lwrap hW2 (by first | omega | (simp; omega)) (by first | (simp; done) | (simp; omega)) (by simp)) fun d e => by rw [e]; rfl)
  | list j ps =>
    have hj := hg.1
    have k1 := w1_is (law_texts_ok (j := j) hg.2 hW)
    have i1 : imms [parD (.list j ps), .int (W : Int)] = true := by simp [imms, ip]; rfl
    have ir := rls_imm (ps.map (wl (W - 5)))
    have h0 : fIx (parD (.list j ps)) (.int 0) = some (.str (lit "para")) := rfl
    have h1 : fIx (parD (.list j ps)) (.int 1) = some (.str (lk j)) := rfl
    have hb : blockP W (.list j ps) = (ps.map (wl (W - 5))).flatten := rfl
    rw [hb]
    generalize parD (.list j ps) = P at *
    have hlen : ∀ ls ∈ ps.map (wl (W - 5)), ls.length ≤ 2000 := fun ls m => by
      obtain ⟨p, hp, rfl⟩ := List.mem_map.mp m
      have := (wl_len (W := W - 5) (by omega) (hg.2.2 p hp)).2
      omega
    have h14 : (ps.map (wl (W - 5))).length ≤ 14 := by rw [List.length_map]; exact hg.2.1
    clear hg
    have inn : ∀ {N B C : E → Prop} {R : D → E → Prop} {x0 x1 x2 x4}, (∀ x4, N [x0, x1, x2, some (.lst (lns (ps.map (wl (W - 5))).flatten)), x4]) → wS (mLoop (gN 4) (mSet 3 (ofN (bin fAdd (bVar 3) (bVar 4)))) (rls (ps.map (wl (W - 5)))) [x0, x1, x2, some (.lst []), x4]) N R B C := fun h => blist_ok h14 hlen h
    generalize (ps.map (wl (W - 5))) = LL at *
    have il := lns_imm LL.flatten
    have hlk : lk j = lit "contents" ∨ lk j = lit "index" := by
      unfold lk
      split
      · exact .inl rfl
      · exact .inr rfl
    generalize lk j = q at *
    repeat' walk_at "m"
    · refine ⟨rls LL, if_pos ir, inn fun x4 => ?_⟩
      repeat' walk_at "m"
      rfl
    · refine ⟨rls LL, if_pos ir, inn fun x4 => ?_⟩
      repeat' walk_at "m"
      rfl
    all_goals (exfalso; simp only [eqv_str, decide_eq_false_iff_not] at *; rcases hlk with z | z <;> simp_all)

/-! ### blocks -/
def kP : Par → List Nat
  | .doc k _ _ _ => kd k
  | .fault _ => lit "fault"
  | .list j _ => lk j
def kL : Par → List Nat
  | .doc k _ _ _ => kd k
  | .fault _ => lit "-"
  | .list j _ => lk j
abbrev Blk := Int × List Nat × Ls
def blkD (b : Blk) : D := .tup [.int b.1, .str b.2.1, .tup (lns b.2.2)]
def lblD (b : Blk) : D := .tup [.int b.1, .str b.2.1, .rol (lns b.2.2)]
theorem blk_imm (b : Blk) : imm (blkD b) = true := by simp [blkD, imm, imms, lns_imm]
theorem lbl_imm (b : Blk) : imm (lblD b) = true := by simp [lblD, imm, imms, lns_imm]
theorem blks_imm (B : List Blk) : imms (B.map blkD) = true := by
  rw [imms_all, List.all_map]
  exact List.all_eq_true.mpr fun b _ => blk_imm b
theorem lbls_imm (B : List Blk) : imms (B.map lblD) = true := by
  rw [imms_all, List.all_map]
  exact List.all_eq_true.mpr fun b _ => lbl_imm b
abbrev Flt := List Nat × List Nat × Int
def faultD (f : Flt) : D := .tup [.str f.1, .str f.2.1, .int f.2.2]
def FGood (f : Flt) : Prop := f.1.length ≤ 30 ∧ f.2.1.length ≤ 10 ∧ 0 ≤ f.2.2 ∧ f.2.2 < 1000
def fline (f : Flt) : List Nat := lit "! " ++ f.1 ++ [32] ++ f.2.1 ++ [32] ++ lit (toString f.2.2)
theorem flts_imm (F : List Flt) : imms (F.map faultD) = true := by
  rw [imms_all, List.all_map]
  exact List.all_eq_true.mpr fun _ _ => rfl
def viewD (ps : List Par) (F : List Flt) : D := .tup [.str (lit "document"), .tup (ps.map parD), .tup (F.map faultD)]
theorem view_imm (ps : List Par) (F : List Flt) : imm (viewD ps F) = true := by simp [viewD, imm, imms, pars_imm, flts_imm]
/-- the blocks, with kinds as the one or the other tells them -/
def pb (kf : Par → Nm) (W : Nat) : Nat → List Par → List Blk
  | _, [] => []
  | i, p :: ps => (if blockP W p = [] then [] else [(((i + 1 : Nat) : Int), kf p, blockP W p)]) ++ pb kf W (i + 1) ps
theorem pb_snoc (kf : Par → Nm) (W : Nat) (p : Par) : ∀ (i : Nat) (l : List Par), pb kf W i (l ++ [p]) = pb kf W i l ++ (if blockP W p = [] then [] else [(((i + l.length + 1 : Nat) : Int), kf p, blockP W p)])
  | i, [] => by simp [pb]
  | i, q :: l => by
    rw [List.cons_append, pb, pb, pb_snoc kf W p (i + 1) l, List.append_assoc, List.length_cons, show i + 1 + l.length + 1 = i + (l.length + 1) + 1 by omega]
theorem pb_len (kf : Par → Nm) (W : Nat) : ∀ (i : Nat) (l : List Par), (pb kf W i l).length ≤ l.length
  | i, [] => by simp [pb]
  | i, q :: l => by
    have := pb_len kf W (i + 1) l
    rw [pb, List.length_append, List.length_cons]
    split <;> simp <;> omega
def fb (fk : Nm) (F : List Flt) : List Blk := if F = [] then [] else [(0, fk, F.map fline)]
def blocksP (W : Nat) (ps : List Par) (F : List Flt) : List Blk := pb kP W 0 ps ++ fb (lit "fault") F
def blocksL (W : Nat) (ps : List Par) (F : List Flt) : List Blk := pb kL W 0 ps ++ fb (lit "-") F
theorem block_len {p : Par} (hg : PGood p) {W : Nat} (hW : 20 ≤ W ∧ W ≤ 100) : (blockP W p).length ≤ 30000 := by
  cases p with
  | doc k n num t =>
    obtain ⟨hk, h1, h2⟩ := hg
    rcases k8 hk with rfl | rfl | rfl | rfl | rfl | rfl | rfl | rfl
    all_goals (refine Nat.le_trans (wrapP_len ?_ ?_).2 ?_)
    all_goals (simp only [bFirst, bRest, bText, kd])
    all_goals (first | omega | (simp; done) | (simp; omega))
  | fault t =>
    have ht : t.length ≤ 200 := hg
    exact Nat.le_trans (wrapP_len (by simp; omega) (by simp; omega)).2 (by simp [flt]; omega)
  | list j ps =>
    obtain ⟨h0, h1, h2⟩ := hg
    show ((ps.map (wl (W - 5))).flatten).length ≤ 30000
    have key : ∀ (l : List (List Nat × List Nat)), (∀ p ∈ l, p.1.length ≤ 5 ∧ p.2.length ≤ 1700) → ((l.map (wl (W - 5))).flatten).length ≤ 1710 * l.length := by
      intro l
      induction l with
      | nil => simp
      | cons a l ih =>
        intro h
        have := ih fun p hp => h p (List.mem_cons_of_mem _ hp)
        have hw := (wl_len (W := W - 5) (by omega) (h a List.mem_cons_self)).2
        simp only [List.map_cons, List.flatten_cons, List.length_append, List.length_cons]
        omega
    have := key ps h2
    omega
/-- all but lists have lines -/
theorem block_pos {p : Par} (hg : PGood p) {W : Nat} (hW : 20 ≤ W ∧ W ≤ 100) {j : Nat} (hj : isK j p = true) : blockP W p ≠ [] := by
  cases p with
  | doc k n num t =>
    obtain ⟨hk, h1, h2⟩ := hg
    intro z
    have : 1 ≤ (blockP W (.doc k n num t)).length := by
      rcases k8 hk with rfl | rfl | rfl | rfl | rfl | rfl | rfl | rfl
      all_goals (refine (wrapP_len ?_ ?_).1)
      all_goals (simp only [bFirst, bRest, bText, kd])
      all_goals (first | omega | (simp; done) | (simp; omega))
    rw [z] at this
    simp at this
  | fault t => cases hj
  | list j ps => cases hj

/-! ### the view's blocks -/
theorem kind_ok (p : Par) : w1 (m_para_kind [parD p]) (· = .str (kP p)) := by
  have ip := par_imm p
  apply w1_def (by simp [imms, ip])
  unfold b_para_kind
  repeat' walk_at "m"
  refine w1_mono (is_fault_ok p) fun d e => ?_
  subst e
  cases p with
  | doc k n num t => simp only [isF, parD]; (repeat' walk_at "m"); rfl
  | fault t => simp only [isF, parD]; (repeat' walk_at "m"); rfl
  | list ix ps => simp only [isF, parD]; (repeat' walk_at "m"); rfl
theorem fline_ok {f : Flt} (h : FGood f) : w1 (m_fault_line [faultD f]) (· = .str (fline f)) := by
  obtain ⟨h1, h2, h3, h4⟩ := h
  apply w1_def rfl
  unfold b_fault_line
  rw [l_sp]
  simp only [faultD]
  have := toStr5 (n := f.2.2) h3 (by omega)
  simp only [fline]
  repeat' walk_at "m"
  generalize lit (toString f.2.2) = u at this ⊢
  repeat' walk_at "m"
  rfl
theorem view_fault (ps : List Par) (F : List Flt) : w1 (m_is_fault [viewD ps F]) (· = .bl false) := by
  apply w1_def (by simp [imms, view_imm])
  unfold b_is_fault
  simp only [viewD]
  repeat' walk_at "m"
  all_goals simp
theorem w0_ixP {ps : List Par} {i : Nat} {b : Par} {z : Int} {Q : D → Prop} (hb : ps[i]? = some b) (e : z = (i : Int)) (q : Q (parD b)) : w0 (fIx (.tup (ps.map parD)) (.int z)) Q := by
  subst e
  obtain ⟨h1, _⟩ := List.getElem?_eq_some_iff.mp hb
  refine w0_ixT (by omega) (by rw [List.length_map]; omega) fun d hd => ?_
  rw [Int.toNat_natCast, List.getElem?_map, hb] at hd
  rw [← Option.some.inj hd]; exact q
def flD : D → D
  | .tup [.str a, .str w, .int c] => .str (fline (a, w, c))
  | _ => .non
theorem view_ok {ps : List Par} {F : List Flt} {W : Nat} (hW : 20 ≤ W ∧ W ≤ 100) (g1 : ps.length ≤ 14) (g2 : ∀ p ∈ ps, PGood p) (g3 : F.length ≤ 8) (g4 : ∀ f ∈ F, FGood f) : w1 (m_view_blocks [viewD ps F, .int W, .int ((W - 5 : Nat) : Int)]) (· = .tup ((blocksP W ps F).map blkD)) := by
  have iv := view_imm ps F
  have ip := pars_imm ps
  have iF := flts_imm F
  have lp : (ps.map parD).length = ps.length := List.length_map _
  have lF : (F.map faultD).length = F.length := List.length_map _
  apply w1_def (by simp [imms, imm, iv])
  unfold b_view_blocks
  repeat' walk_at "m"
  refine w1_mono (view_fault ps F) fun d e => ?_
  subst e
  simp only [viewD] at iv ⊢
  repeat' walk_at "m"
  refine wS_loop0 (fun k e => Hold (∃ x7 x8, e = [some (.tup [.str (lit "document"), .tup (ps.map parD), .tup (F.map faultD)]), some (.int W), some (.int ((W - 5 : Nat) : Int)), some (.str (lit "document")), some (.tup (ps.map parD)), some (.tup (F.map faultD)), some (.lst ((pb kP W 0 (ps.take k)).map blkD)), x7, x8, none])) _ ⟨none, none, rfl⟩ (fun i d e hd hI => ?_) (fun e hI => ?_)
  · obtain ⟨hi, rfl⟩ := range_at hd
    obtain ⟨x7, x8, rfl⟩ := hI
    obtain ⟨p, hp⟩ : ∃ p, ps[i]? = some p := ⟨ps[i], List.getElem?_eq_getElem (by omega)⟩
    have hg := g2 p (mem_get hp)
    have e1 : pb kP W 0 (ps.take (i + 1)) = pb kP W 0 (ps.take i) ++ (if blockP W p = [] then [] else [(((i + 1 : Nat) : Int), kP p, blockP W p)]) := by
      rw [List.take_add_one, hp]
      have := pb_snoc kP W p 0 (ps.take i)
      rw [show (0 + (ps.take i).length + 1) = i + 1 by simp; omega] at this
      simpa using this
    have pl := pb_len kP W 0 (ps.take i)
    have pl2 : ((pb kP W 0 (ps.take i)).map blkD).length ≤ 14 := by rw [List.length_map]; simp at pl; omega
    have ipp := par_imm p
    have ilb := lns_imm (blockP W p)
    repeat' walk_at "m"
    refine w0_ixP hp (by omega) ?_
    repeat' walk_at "m"
    refine w1_mono (para_lines_ok p hg hW) fun d e => ?_
    subst e
    repeat' walk_at "m"
    · rename_i hc
      have hne : blockP W p ≠ [] := fun z => by rw [z] at hc; simp [lns] at hc
      refine w0_ixP hp (by omega) ?_
      repeat' walk_at "m"
      refine w1_mono (kind_ok p) fun d e => ?_
      subst e
      repeat' walk_at "m"
      refine ⟨some (.int (0 + (i : Int))), some (.tup (lns (blockP W p))), ?_⟩
      rw [e1, if_neg hne, List.map_append, show (((i + 1 : Nat) : Int)) = 0 + (i : Int) + 1 by omega]
      rfl
    · rename_i hc
      have hne : blockP W p = [] := by
        rw [lns_len] at hc
        exact List.length_eq_zero_iff.mp (by omega)
      refine ⟨some (.int (0 + (i : Int))), some (.tup (lns (blockP W p))), ?_⟩
      rw [e1, if_pos hne, List.append_nil]
      rfl
  · obtain ⟨x7, x8, rfl⟩ := hI
    rw [range_len, List.take_of_length_le (by omega)]
    have pl := pb_len kP W 0 ps
    have pl2 : ((pb kP W 0 ps).map blkD).length ≤ 14 := by rw [List.length_map]; omega
    repeat' walk_at "m"
    · rename_i hc
      have hF : F ≠ [] := fun z => by rw [z] at hc; simp at hc
      refine w2_comp flD ?_
      repeat' walk_at "m"
      refine ⟨F.map faultD, by show (if _ then _ else _) = _; rw [if_pos iF], fits_of (by rw [lF]; omega), fun d hd => ?_, ?_⟩
      · obtain ⟨f, hf, rfl⟩ := List.mem_map.mp hd
        repeat' walk_at "m"
        refine w1_mono (fline_ok (g4 f hf)) fun y hy => ?_
        exact ⟨hy, rfl⟩
      · have e1 : (F.map faultD).map flD = lns (F.map fline) := by
          simp only [lns, List.map_map]
          rfl
        rw [e1]
        repeat' walk_at "m"
        have e2 : (pb kP W 0 ps).map blkD ++ [D.tup [.int 0, c_FAULT_KIND, .tup (lns (F.map fline))]] = (blocksP W ps F).map blkD := by
          rw [blocksP, fb, if_neg hF, List.map_append]
          rfl
        rw [e2]
        refine w0_tupL (blks_imm _) ?_
        rfl
    · rename_i hc
      have hF : F = [] := by
        rw [lF] at hc
        exact List.length_eq_zero_iff.mp (by omega)
      refine w0_tupL (blks_imm _) ?_
      rw [blocksP, fb, if_pos hF, List.append_nil]
/-! ### the law's blocks -/
def Par.isF' : Par → Bool
  | .fault _ => true
  | _ => false
def w0h (p : Par) : Nm := match p with
  | .fault _ => lit "fault"
  | _ => lit "para"
theorem par_0 (p : Par) : fIx (parD p) (.int 0) = some (.str (w0h p)) := by cases p <;> rfl
def flL : D → D
  | .tup [.str a, .str w, .int c] => .str (fline (a, w, c))
  | _ => .non
theorem kL_of (p : Par) : (p.isF' = true → kL p = lit "-") ∧ (p.isF' = false → kL p = kOf p) := by cases p <;> simp [Par.isF', kL, kOf]
theorem law_blocks_ok {ps : List Par} {F : List Flt} {W : Nat} (hW : 20 ≤ W ∧ W ≤ 100) (g1 : ps.length ≤ 14) (g2 : ∀ p ∈ ps, PGood p) (g3 : F.length ≤ 8) (g4 : ∀ f ∈ F, FGood f) : w1 (m__law_blocks [.rol (ps.map parD), .rol (F.map faultD), .int W]) (· = .rol ((blocksL W ps F).map lblD)) := by
  have ip := pars_imm ps
  have iF := flts_imm F
  have lp : (ps.map parD).length = ps.length := List.length_map _
  have lF : (F.map faultD).length = F.length := List.length_map _
  apply w1_def (by simp [imms, imm, ip, iF])
  unfold b__law_blocks
  rw [l_sp]
  repeat' walk_at "m"
  refine wS_loop0 (fun k e => Hold (∃ x4 x5 x6, e = [some (.rol (ps.map parD)), some (.rol (F.map faultD)), some (.int W), some (.lst ((pb kL W 0 (ps.take k)).map lblD)), x4, x5, x6, none, none, none])) _ ⟨none, none, none, rfl⟩ (fun i d e hd hI => ?_) (fun e hI => ?_)
  · obtain ⟨hi, rfl⟩ := range_at hd
    obtain ⟨x4, x5, x6, rfl⟩ := hI
    have hi2 : i < ps.length := by omega
    obtain ⟨p, hp⟩ : ∃ p, ps[i]? = some p := ⟨ps[i], List.getElem?_eq_getElem hi2⟩
    have hpd : ps.getD i (.fault []) = p := by rw [List.getD_eq_getElem?_getD, hp]; rfl
    have hg := g2 p (mem_get hp)
    have e1 : pb kL W 0 (ps.take (i + 1)) = pb kL W 0 (ps.take i) ++ (if blockP W p = [] then [] else [(((i + 1 : Nat) : Int), kL p, blockP W p)]) := by
      rw [List.take_add_one, hp]
      have := pb_snoc kL W p 0 (ps.take i)
      rw [show (0 + (ps.take i).length + 1) = i + 1 by simp; omega] at this
      simpa using this
    have pl := pb_len kL W 0 (ps.take i)
    have pl2 : ((pb kL W 0 (ps.take i)).map lblD).length ≤ 14 := by rw [List.length_map]; simp at pl; omega
    have ipp := par_imm p
    have ilb := lns_imm (blockP W p)
    have q0 := par_0 p
    have q1 := par_k p
    have q2 := rol_at hi2
    rw [hpd] at q2
    have q3 := w1_is (law_lines_ok p hg hW)
    have i2 : imms [parD p, .int (W : Int)] = true := by simp [imms, ipp]; rfl
    obtain ⟨q4, q5⟩ := kL_of p
    have hf : p.isF' = decide (w0h p = lit "fault") := by cases p <;> simp [Par.isF', w0h]
    generalize parD p = P at *
    have e0 : (0 : Int) + (i : Int) = i := by omega
    rw [e0]
    generalize hk : w0h p = wk at q0 hf
    walk_at "m0"
    refine wS_seq (wS_set ?_)
    repeat' (first | walk_at "m2" | walk_at "m1" | walk_at "mE" | walk_at "mA" | walk_at "m0")
    refine wS_seq (wS_set ?_)
    repeat' (first | walk_at "m2" | walk_at "m1" | walk_at "mE" | walk_at "mA" | walk_at "m0")
    refine wS_seq (wS_mono (N := fun e => e = [some (.rol (ps.map parD)), some (.rol (F.map faultD)), some (.int W), some (.lst ((pb kL W 0 (ps.take i)).map lblD)), some (.int (i : Int)), some (.rol (lns (blockP W p))), some (.str (kL p)), none, none, none]) ?_ (fun e h => ?_) (fun _ _ h => h) (fun _ h => h) (fun _ h => h))
    · repeat' walk_at "m"
      · rename_i hc
        rw [eqv_str] at hc
        rw [q4 (by rw [hf]; exact hc)]
        rfl
      · rename_i hc
        rw [eqv_str] at hc
        rw [q5 (by rw [hf]; exact hc)]
        rfl
    subst h
    repeat' walk_at "m"
    · rename_i hc
      have hne : blockP W p ≠ [] := fun z => by rw [z] at hc; simp [lns] at hc
      refine ⟨some (.int (i : Int)), some (.rol (lns (blockP W p))), some (.str (kL p)), ?_⟩
      rw [e1, if_neg hne, List.map_append, show (((i + 1 : Nat) : Int)) = (i : Int) + 1 by omega]
      rfl
    · rename_i hc
      have hne : blockP W p = [] := by
        rw [lns_len] at hc
        exact List.length_eq_zero_iff.mp (by omega)
      refine ⟨some (.int (i : Int)), some (.rol (lns (blockP W p))), some (.str (kL p)), ?_⟩
      rw [e1, if_pos hne, List.append_nil]
  · obtain ⟨x4, x5, x6, rfl⟩ := hI
    rw [range_len, List.take_of_length_le (by omega)]
    have pl := pb_len kL W 0 ps
    have pl2 : ((pb kL W 0 ps).map lblD).length ≤ 14 := by rw [List.length_map]; omega
    repeat' walk_at "m"
    · rename_i hc
      have hF : F ≠ [] := fun z => by rw [z] at hc; simp at hc
      refine w2_comp flL ?_
      repeat' walk_at "m"
      refine ⟨F.map faultD, if_pos iF, fits_of (by rw [lF]; omega), fun d hd => ?_, ?_⟩
      · obtain ⟨f, hf, rfl⟩ := List.mem_map.mp hd
        obtain ⟨f1, f2, f3, f4⟩ := g4 f hf
        have := toStr5 (n := f.2.2) f3 (by omega)
        show w0 (gT [7, 8, 9] (.tup [.str f.1, .str f.2.1, .int f.2.2]) _) _
        have hfl : flL (faultD f) = .str (lit "! " ++ f.1 ++ [32] ++ f.2.1 ++ [32] ++ lit (toString f.2.2)) := rfl
        rw [hfl]
        repeat' walk_at "m"
        generalize lit (toString f.2.2) = u at this ⊢
        repeat' walk_at "m"
        all_goals rfl
      · have e1 : (F.map faultD).map flL = lns (F.map fline) := by
          simp only [lns, List.map_map]
          rfl
        rw [e1]
        refine ⟨_, rfl, lns_imm _, ?_⟩
        have ils := lns_imm (F.map fline)
        repeat' walk_at "m"
        have e2 : (pb kL W 0 ps).map lblD ++ [D.tup [.int 0, .str (lit "-"), .rol (lns (F.map fline))]] = (blocksL W ps F).map lblD := by
          rw [blocksL, fb, if_neg hF, List.map_append]
          rfl
        rw [e2]
        exact ⟨lbls_imm _, rfl⟩
    · rename_i hc
      have hF : F = [] := by
        rw [lF] at hc
        exact List.length_eq_zero_iff.mp (by omega)
      rw [blocksL, fb, if_pos hF, List.append_nil]
      exact ⟨lbls_imm _, rfl⟩

/-! ### where blocks stand -/
def b0 : Blk := (0, [], [])
def sz (B : List Blk) (i : Nat) : Nat := (B.getD i b0).2.2.length
def kn (B : List Blk) (i : Nat) : Nm := (B.getD i b0).2.1
def gq (a b : Nm) : Nat := if a = b ∧ (a = lit "item" ∨ a = lit "point") then 0 else 1
def gp (B : List Blk) (i : Nat) : Nat := gq (kn B i) (kn B (i + 1))
def hdg (B : List Blk) (i : Nat) : Bool := decide (kn B i = lit "heading")
def nd (B : List Blk) (i : Nat) : Nat := gp B (i - 1) + sz B i + (if hdg B i = true ∧ i + 1 < B.length then gp B i + 1 else 0)
def start1 (B : List Blk) (H i p u : Nat) : Nat × Nat := if i = 0 then (p, 0) else if sz B i ≤ H ∧ u + nd B i ≤ H then (p, u + gp B (i - 1)) else (p + 1, 0)
def st (B : List Blk) (H : Nat) : Nat → Nat × Nat
  | 0 => (1, 0)
  | i + 1 => ((start1 B H i (st B H i).1 (st B H i).2).1 + ((start1 B H i (st B H i).1 (st B H i).2).2 + sz B i - 1) / H, ((start1 B H i (st B H i).1 (st B H i).2).2 + sz B i - 1) % H + 1)
def start (B : List Blk) (H i : Nat) : Nat × Nat := start1 B H i (st B H i).1 (st B H i).2
theorem st_succ (B : List Blk) (H i : Nat) : st B H (i + 1) = ((start B H i).1 + ((start B H i).2 + sz B i - 1) / H, ((start B H i).2 + sz B i - 1) % H + 1) := rfl
def stD (B : List Blk) (H n : Nat) : List D := (List.range n).map fun i => .tup [.int (start B H i).1, .int (start B H i).2]
theorem stD_imm (B : List Blk) (H n : Nat) : imms (stD B H n) = true := by
  rw [imms_all, stD, List.all_map]
  exact List.all_eq_true.mpr fun _ _ => rfl
theorem stD_len (B : List Blk) (H n : Nat) : (stD B H n).length = n := by rw [stD, List.length_map, List.length_range]
theorem stD_succ (B : List Blk) (H n : Nat) : stD B H (n + 1) = stD B H n ++ [.tup [.int (start B H n).1, .int (start B H n).2]] := by
  unfold stD
  rw [List.range_succ, List.map_append]
  rfl
/-- the law's kinds -/
def tlk (k : Nm) : Nm := if k = lit "fault" then lit "-" else k
def tl (b : Blk) : Blk := (b.1, tlk b.2.1, b.2.2)
theorem kd_nf (k : Nat) : kd k ≠ lit "fault" := by
  unfold kd
  split <;> simp
theorem lk_nf (j : Nat) : lk j ≠ lit "fault" := by
  unfold lk
  split <;> simp
theorem kL_tlk (p : Par) : kL p = tlk (kP p) := by
  cases p with
  | doc k n num t => exact (if_neg (kd_nf k)).symm
  | fault t => exact (if_pos rfl).symm
  | list j ps => exact (if_neg (lk_nf j)).symm
theorem pb_tl (W : Nat) : ∀ (i : Nat) (l : List Par), pb kL W i l = (pb kP W i l).map tl
  | i, [] => rfl
  | i, p :: l => by
    rw [pb, pb, List.map_append, pb_tl W (i + 1) l, kL_tlk]
    split <;> rfl
theorem blocks_tl (W : Nat) (ps : List Par) (F : List Flt) : blocksL W ps F = (blocksP W ps F).map tl := by
  unfold blocksL blocksP fb
  rw [List.map_append, pb_tl]
  congr 1
  split
  · rfl
  · show _ = [((0 : Int), tlk (lit "fault"), F.map fline)]
    rw [tlk, if_pos rfl]
theorem tl_at (B : List Blk) (i : Nat) : (B.map tl).getD i b0 = tl (B.getD i b0) := by
  rw [List.getD_eq_getElem?_getD, List.getD_eq_getElem?_getD, List.getElem?_map]
  cases B[i]? with
  | some b => rfl
  | none =>
    show b0 = tl b0
    unfold tl tlk b0
    rw [if_neg]
    intro z
    have := congrArg List.length z
    simp at this
theorem sz_tl (B : List Blk) (i : Nat) : sz (B.map tl) i = sz B i := by unfold sz; rw [tl_at]; rfl
theorem kn_tl (B : List Blk) (i : Nat) : kn (B.map tl) i = tlk (kn B i) := by unfold kn; rw [tl_at]; rfl
theorem tlk_is {k w : Nm} (h : w ≠ lit "fault") (h1 : w ≠ lit "-") : tlk k = w ↔ k = w := by
  unfold tlk
  split
  · rename_i z
    exact ⟨fun q => (h1 q.symm).elim, fun q => (h (q ▸ z)).elim⟩
  · exact Iff.rfl
theorem gq_tl (a b : Nm) : gq (tlk a) (tlk b) = gq a b := by
  have i1 : ∀ k, tlk k = lit "item" ↔ k = lit "item" := fun k => tlk_is (by simp) (by simp)
  have i2 : ∀ k, tlk k = lit "point" ↔ k = lit "point" := fun k => tlk_is (by simp) (by simp)
  unfold gq
  congr 1
  rw [i1, i2]
  refine propext ⟨?_, ?_⟩
  · rintro ⟨h, z | z⟩
    · have := (i1 a).mpr z
      rw [this] at h
      exact ⟨z.trans ((i1 b).mp h.symm).symm, .inl z⟩
    · have := (i2 a).mpr z
      rw [this] at h
      exact ⟨z.trans ((i2 b).mp h.symm).symm, .inr z⟩
  · rintro ⟨h, z⟩
    exact ⟨by rw [h], z⟩
theorem gp_tl (B : List Blk) (i : Nat) : gp (B.map tl) i = gp B i := by unfold gp; rw [kn_tl, kn_tl, gq_tl]
theorem hdg_tl (B : List Blk) (i : Nat) : hdg (B.map tl) i = hdg B i := by
  unfold hdg
  rw [kn_tl]
  exact decide_eq_decide.mpr (tlk_is (by simp) (by simp))
theorem nd_tl (B : List Blk) (i : Nat) : nd (B.map tl) i = nd B i := by unfold nd; rw [gp_tl, gp_tl, sz_tl, hdg_tl, List.length_map]
theorem start1_tl (B : List Blk) (H i p u : Nat) : start1 (B.map tl) H i p u = start1 B H i p u := by unfold start1; rw [nd_tl, gp_tl, sz_tl]
theorem st_tl (B : List Blk) (H : Nat) : ∀ i, st (B.map tl) H i = st B H i
  | 0 => rfl
  | i + 1 => by rw [st, st, start1_tl, sz_tl, st_tl B H i]
theorem start_tl (B : List Blk) (H i : Nat) : start (B.map tl) H i = start B H i := by unfold start; rw [start1_tl, st_tl]
theorem stD_tl (B : List Blk) (H n : Nat) : stD (B.map tl) H n = stD B H n := by
  unfold stD
  exact List.map_congr_left fun i _ => by rw [start_tl]
/-- what a page holds -/
theorem gq_le (a b : Nm) : gq a b ≤ 1 := by unfold gq; split <;> omega
theorem st_pos {B : List Blk} {H : Nat} (hH : 5 ≤ H) : ∀ i, 1 ≤ (st B H i).1 ∧ (st B H i).2 ≤ H
  | 0 => ⟨by simp [st], by simp [st]⟩
  | i + 1 => by
    rw [st_succ]
    have := st_pos (B := B) hH i
    have h1 : 1 ≤ (start B H i).1 := by
      unfold start start1
      split
      · exact this.1
      · split
        · exact this.1
        · exact Nat.le_add_left _ _
    refine ⟨Nat.le_trans h1 (Nat.le_add_right _ _), ?_⟩
    show _ % H + 1 ≤ H
    have := Nat.mod_lt ((start B H i).2 + sz B i - 1) (show 0 < H by omega)
    omega
theorem start_lt {B : List Blk} {H i : Nat} (hH : 5 ≤ H) (hs : 1 ≤ sz B i) : (start B H i).2 < H ∧ 1 ≤ (start B H i).1 := by
  have := st_pos (B := B) hH i
  unfold start start1
  split
  · exact ⟨by simp only; omega, this.1⟩
  · split
    · rename_i h
      have : gp B (i - 1) + sz B i ≤ nd B i := by unfold nd; omega
      refine ⟨?_, by simp only; omega⟩
      simp only; omega
    · exact ⟨by simp only; omega, by simp only; omega⟩

/-! ### the program's starts, the law's starts -/
def SmallB (B : List Blk) : Prop := B.length ≤ 15 ∧ ∀ b ∈ B, 1 ≤ b.2.2.length ∧ b.2.2.length ≤ 30000
theorem getD_at {B : List Blk} {i : Nat} (h : i < B.length) : B[i]? = some (B.getD i b0) := by
  rw [List.getD_eq_getElem?_getD, List.getElem?_eq_getElem h]; rfl
theorem SmallB.sz {B : List Blk} (h : SmallB B) {i : Nat} (hi : i < B.length) : 1 ≤ LK53.sz B i ∧ LK53.sz B i ≤ 30000 := h.2 _ (mem_get (getD_at hi))
theorem SmallB.tl {B : List Blk} (h : SmallB B) : SmallB (B.map tl) := ⟨by rw [List.length_map]; exact h.1, fun b m => by
  obtain ⟨c, hc, rfl⟩ := List.mem_map.mp m
  exact h.2 c hc⟩
theorem ixB {B : List Blk} {i : Nat} (h : i < B.length) : fIx (.tup (B.map blkD)) (.int (i : Int)) = some (blkD (B.getD i b0)) := by
  show atI (B.map blkD) (i : Int) = _
  unfold atI ixN
  rw [if_pos (by omega), if_pos (by rw [List.length_map]; omega)]
  show (B.map blkD)[i]? = _
  rw [List.getElem?_map, getD_at h]; rfl
theorem ixL {B : List Blk} {i : Nat} (h : i < B.length) : fIx (.rol (B.map lblD)) (.int (i : Int)) = some (lblD (B.getD i b0)) := by
  show atI (B.map lblD) (i : Int) = _
  unfold atI ixN
  rw [if_pos (by omega), if_pos (by rw [List.length_map]; omega)]
  show (B.map lblD)[i]? = _
  rw [List.getElem?_map, getD_at h]; rfl
theorem gap_ok (a b : Blk) : w1 (m_gap_size [blkD a, blkD b]) (· = .int (gq a.2.1 b.2.1 : Nat)) := by
  have ia := blk_imm a
  have ib := blk_imm b
  apply w1_def (by simp [imms, ia, ib])
  unfold b_gap_size
  simp only [blkD]
  repeat' walk_at "m"
  all_goals (simp only [eqv_str, decide_eq_true_eq, decide_eq_false_iff_not] at *)
  all_goals (unfold gq)
  all_goals (simp_all)
theorem lgap_ok (a b : Blk) : w1 (m__law_gap [lblD a, lblD b]) (· = .int (gq a.2.1 b.2.1 : Nat)) := by
  have ia := lbl_imm a
  have ib := lbl_imm b
  apply w1_def (by simp [imms, ia, ib])
  unfold b__law_gap
  simp only [lblD]
  repeat' walk_at "m"
  all_goals (simp only [eqv_str, decide_eq_true_eq, decide_eq_false_iff_not, Bool.not_eq_true', Bool.not_eq_false', Bool.not_eq_true, Bool.not_eq_false] at *)
  all_goals (unfold gq)
  all_goals (try simp_all)
  all_goals (try (split <;> rfl))
theorem needed_ok {B : List Blk} (hB : SmallB B) {i : Nat} (h0 : 0 < i) (hi : i < B.length) : w1 (m_needed_lines [.tup (B.map blkD), .int (i : Int)]) (· = .int (nd B i : Nat)) := by
  have ib := blks_imm B
  have hl : (B.map blkD).length = B.length := List.length_map _
  apply w1_def (by simp [imms, imm, ib])
  unfold b_needed_lines
  obtain ⟨j, rfl⟩ : ∃ j, i = j + 1 := ⟨i - 1, by omega⟩
  have e1 : ((j + 1 : Nat) : Int) - 1 = (j : Int) := by omega
  have e2 : ((j + 1 : Nat) : Int) + 1 = ((j + 2 : Nat) : Int) := by omega
  have q1 := ixB (B := B) (i := j) (by omega)
  have q2 := ixB hi
  have q3 := w1_is (gap_ok (B.getD j b0) (B.getD (j + 1) b0))
  have g1 : fIx (blkD (B.getD (j + 1) b0)) (.int 2) = some (.tup (lns (B.getD (j + 1) b0).2.2)) := rfl
  have g2 : fIx (blkD (B.getD (j + 1) b0)) (.int 1) = some (.str (B.getD (j + 1) b0).2.1) := rfl
  have i1 := blk_imm (B.getD j b0)
  have i2 := blk_imm (B.getD (j + 1) b0)
  have i3 := blk_imm (B.getD (j + 2) b0)
  have hsz : (lns (B.getD (j + 1) b0).2.2).length = sz B (j + 1) := lns_len _
  have hhd : hdg B (j + 1) = decide ((B.getD (j + 1) b0).2.1 = lit "heading") := rfl
  have hgp : gp B j = gq (B.getD j b0).2.1 (B.getD (j + 1) b0).2.1 := rfl
  have hgp2 : gp B (j + 1) = gq (B.getD (j + 1) b0).2.1 (B.getD (j + 2) b0).2.1 := rfl
  have hnd : nd B (j + 1) = gp B j + sz B (j + 1) + (if hdg B (j + 1) = true ∧ j + 1 + 1 < B.length then gp B (j + 1) + 1 else 0) := rfl
  have ii : imms [blkD (B.getD j b0), blkD (B.getD (j + 1) b0)] = true := by simp only [imms, i1, i2]; rfl
  have ii2 : imms [blkD (B.getD (j + 1) b0), blkD (B.getD (j + 2) b0)] = true := by simp only [imms, i3, i2]; rfl
  by_cases hn : j + 2 < B.length
  · have q4 := ixB hn
    have q5 := w1_is (gap_ok (B.getD (j + 1) b0) (B.getD (j + 2) b0))
    rw [← hgp2] at q5
    rw [← hgp] at q3
    generalize blkD (B.getD j b0) = P0 at *
    generalize blkD (B.getD (j + 1) b0) = P1 at *
    generalize blkD (B.getD (j + 2) b0) = P2 at *
    repeat' (first | walk_at "m" | rw [e1] | rw [e2])
    all_goals first
      | (have hx : hdg B (j + 1) = true := by rw [hhd, ← eqv_str]; assumption
         rw [hsz, hnd, if_pos (show hdg B (j + 1) = true ∧ j + 1 + 1 < B.length from ⟨hx, by omega⟩)]
         exact congrArg D.int (by omega))
      | (have hx : hdg B (j + 1) = false := by rw [hhd, ← eqv_str]; assumption
         rw [hsz, hnd, if_neg (by rw [hx]; simp)]
         exact congrArg D.int (by omega))
  · rw [← hgp] at q3
    generalize blkD (B.getD j b0) = P0 at *
    generalize blkD (B.getD (j + 1) b0) = P1 at *
    repeat' (first | walk_at "m" | rw [e1] | rw [e2])
    all_goals (rw [hsz, hnd, if_neg (fun z => hn (by have := z.2; omega))]; exact congrArg D.int (by omega))
noncomputable def bs_body : MS := (mSeq (mSet 6 (ofN (cal fLen (aCons (bin fIx (bin fIx (bVar 0) (bVar 5)) (bC (.int 2))) aNil))))
  (mSeq (mSet 7 (ofN (bC (.int 0))))
  (mSeq (mIf (tst (ofN (bin fGt (bVar 5) (bC (.int 0)))))
  (mIf (andT (tst (ofN (bin fLe (bVar 6) (bVar 1)))) (tst (ofN (bin fLe (bin fAdd (bVar 4) (cN m_needed_lines (aCons (bVar 0) (aCons (bVar 5) aNil)))) (bVar 1)))))
  (mSet 7 (ofN (bin fAdd (bVar 4) (cN m_gap_size (aCons (bin fIx (bVar 0) (bin fSub (bVar 5) (bC (.int 1)))) (aCons (bin fIx (bVar 0) (bVar 5)) aNil))))))
  (mAug 3 fAug (ofN (bC (.int 1)))))
  mNil)
  (mSeq (mExpr (eMut 2 fAppend (acons (ofN (dTup (aCons (bVar 3) (aCons (bVar 7) aNil)))) anil)))
  (mSeq (mAsg (gT [8, 9]) (ofN (cal fDivmod (aCons (bin fSub (bin fAdd (bVar 7) (bVar 6)) (bC (.int 1))) (aCons (bVar 1) aNil)))))
  (mSeq (mAug 3 fAug (own (bVar 8)))
  (mSet 4 (ofN (bin fAdd (bVar 9) (bC (.int 1))))))))))) 
theorem w0_divmod {i j : Int} {Q : D → Prop} (h : 0 < j ∧ j < 1073741824) (q : Q (.tup [.int (i / j), .int (i % j)])) : w0 (fDivmod [.int i, .int j]) Q := w0_of (if_pos h) q
local macro_rules | `(tactic| walk_at "m0") => `(tactic| ((with_reducible refine w0_divmod ?_ ?_); (focus omega)))
theorem bs_ok {B : List Blk} {H : Nat} (hB : SmallB B) (hH : 5 ≤ H ∧ H ≤ 100) {i : Nat} (hi : i < B.length) {x6 x7 x8 x9 : Option D} {N : E → Prop}
    (h : ∀ x6 x7 x8 x9, N [some (.tup (B.map blkD)), some (.int H), some (.lst (stD B H (i + 1))), some (.int (st B H (i + 1)).1), some (.int (st B H (i + 1)).2), some (.int (i : Int)), x6, x7, x8, x9]) :
    wS (bs_body [some (.tup (B.map blkD)), some (.int H), some (.lst (stD B H i)), some (.int (st B H i).1), some (.int (st B H i).2), some (.int (i : Int)), x6, x7, x8, x9]) N (fun _ _ => False) (fun _ => False) N := by
  have ib := blks_imm B
  have hs := hB.sz hi
  have sl := stD_len B H i
  have hB1 := hB.1
  have q2 := ixB hi
  have g1 : fIx (blkD (B.getD i b0)) (.int 2) = some (.tup (lns (B.getD i b0).2.2)) := rfl
  have hsz : (lns (B.getD i b0).2.2).length = sz B i := lns_len _
  -- the start
  have stop : ∀ (e : E), (∃ x8 x9, e = [some (.tup (B.map blkD)), some (.int H), some (.lst (stD B H i)), some (.int (start B H i).1), some (.int (st B H i).2), some (.int (i : Int)), some (.int (sz B i)), some (.int (start B H i).2), x8, x9]) →
      wS (mSeq (mExpr (eMut 2 fAppend (acons (ofN (dTup (aCons (bVar 3) (aCons (bVar 7) aNil)))) anil)))
  (mSeq (mAsg (gT [8, 9]) (ofN (cal fDivmod (aCons (bin fSub (bin fAdd (bVar 7) (bVar 6)) (bC (.int 1))) (aCons (bVar 1) aNil)))))
  (mSeq (mAug 3 fAug (own (bVar 8)))
  (mSet 4 (ofN (bin fAdd (bVar 9) (bC (.int 1))))))) e) N (fun _ _ => False) (fun _ => False) N := by
    rintro e ⟨x8, x9, rfl⟩
    repeat' walk_at "m"
    have c0 : ((start B H i).2 : Int) + (sz B i : Int) - 1 = (((start B H i).2 + sz B i - 1 : Nat) : Int) := by omega
    rw [c0]
    have h' := fun x8 x9 => h (some (.int (sz B i))) (some (.int (start B H i).2)) x8 x9
    simp only [st_succ, stD_succ, Int.natCast_add, Int.natCast_ediv, Int.natCast_emod, Int.natCast_one] at h'
    exact h' _ _
  unfold bs_body
  have hst : start B H i = start1 B H i (st B H i).1 (st B H i).2 := rfl
  refine wS_seq (wS_set ?_)
  repeat' (first | walk_at "m2" | walk_at "m1" | walk_at "mE" | walk_at "mA" | walk_at "m0")
  refine wS_seq (wS_set ?_)
  repeat' (first | walk_at "m2" | walk_at "m1" | walk_at "mE" | walk_at "mA" | walk_at "m0")
  rw [hsz]
  refine wS_seq (wS_mono (N := fun e => ∃ x8 x9, e = [some (.tup (B.map blkD)), some (.int H), some (.lst (stD B H i)), some (.int (start B H i).1), some (.int (st B H i).2), some (.int (i : Int)), some (.int (sz B i)), some (.int (start B H i).2), x8, x9]) ?_ (fun e h => stop e h) (fun _ _ h => h) (fun _ h => h) (fun _ h => h))
  cases i with
  | zero =>
    rw [hst]
    unfold start1
    rw [if_pos rfl]
    repeat' walk_at "m"
    exact ⟨_, _, rfl⟩
  | succ j =>
    have q1 := ixB (B := B) (i := j) (by omega)
    have q3 := w1_is (gap_ok (B.getD j b0) (B.getD (j + 1) b0))
    have hgp : gp B j = gq (B.getD j b0).2.1 (B.getD (j + 1) b0).2.1 := rfl
    rw [← hgp] at q3
    have i1 := blk_imm (B.getD j b0)
    have i2 := blk_imm (B.getD (j + 1) b0)
    have ii : imms [blkD (B.getD j b0), blkD (B.getD (j + 1) b0)] = true := by simp only [imms, i1, i2]; rfl
    have q4 := w1_is (needed_ok hB (i := j + 1) (by omega) hi)
    have i3 : imms [.tup (B.map blkD), .int ((j + 1 : Nat) : Int)] = true := by simp [imms, imm, ib]
    have e1 : ((j + 1 : Nat) : Int) - 1 = (j : Int) := by omega
    generalize blkD (B.getD j b0) = P0 at *
    generalize blkD (B.getD (j + 1) b0) = P1 at *
    rw [hst]
    unfold start1
    rw [if_neg (by omega)]
    clear stop h
    repeat' (first | walk_at "m" | rw [e1])
    · rename_i c1 c2
      rw [if_pos ⟨by omega, by omega⟩]
      exact ⟨_, _, rfl⟩
    all_goals (rw [if_neg (by omega)])
    all_goals exact ⟨_, _, rfl⟩
theorem starts_ok {B : List Blk} {H : Nat} (hB : SmallB B) (hH : 5 ≤ H ∧ H ≤ 100) : w1 (m_block_starts [.tup (B.map blkD), .int H]) (· = .tup (stD B H B.length)) := by
  have ib := blks_imm B
  have hl : (B.map blkD).length = B.length := List.length_map _
  have hB1 := hB.1
  apply w1_def (by simp [imms, imm, ib])
  unfold b_block_starts
  show wS (mSeq _ (mSeq _ (mSeq _ (mSeq (mFor _ _ bs_body) _))) _) _ _ _ _
  repeat' walk_at "m"
  refine wS_loop0 (fun k e => Hold (∃ x5 x6 x7 x8 x9, e = [some (.tup (B.map blkD)), some (.int H), some (.lst (stD B H k)), some (.int (st B H k).1), some (.int (st B H k).2), x5, x6, x7, x8, x9])) _ ⟨_, _, _, _, _, rfl⟩ (fun i d e hd hI => ?_) (fun e hI => ?_)
  · obtain ⟨hi, rfl⟩ := range_at hd
    obtain ⟨x5, x6, x7, x8, x9, rfl⟩ := hI
    have e0 : (0 : Int) + (i : Int) = i := by omega
    rw [e0]
    walk_at "m0"
    refine wS_mono (bs_ok hB hH (i := i) (by omega) (N := fun e => ∃ x5 x6 x7 x8 x9, e = [some (.tup (B.map blkD)), some (.int H), some (.lst (stD B H (i + 1))), some (.int (st B H (i + 1)).1), some (.int (st B H (i + 1)).2), x5, x6, x7, x8, x9]) fun x6 x7 x8 x9 => ⟨_, _, _, _, _, rfl⟩) (fun _ h => h) (fun _ _ h => h.elim) (fun _ h => h.elim) (fun _ h => h)
  · obtain ⟨x5, x6, x7, x8, x9, rfl⟩ := hI
    rw [range_len, hl, Int.toNat_natCast]
    have is := stD_imm B H B.length
    repeat' walk_at "m"
    all_goals first | rfl | (refine w0_tupL is ?_; rfl)

/-! ### the law's starts -/
noncomputable def dr_body : MS := (mIf (tst (ofN (bin fGt (bVar 4) (bVar 1))))
  (mSeq (mSet 4 (ofN (bin fSub (bVar 4) (bVar 1))))
  (mSet 3 (ofN (bin fAdd (bVar 3) (bC (.int 1))))))
  mNil)
theorem div_of {u m H T : Nat} (h1 : 1 ≤ u) (h2 : u ≤ H) (h : u + m * H = T) : (T - 1) / H = m ∧ (T - 1) % H + 1 = u := by
  have e : T - 1 = (u - 1) + m * H := by omega
  have hH : 0 < H := by omega
  rw [e, Nat.add_mul_div_right _ _ hH, Nat.div_eq_of_lt (by omega), Nat.add_mul_mod_self_right, Nat.mod_eq_of_lt (by omega)]
  omega
theorem drain_ok {H T p n : Nat} (hH : 5 ≤ H) (hT : 1 ≤ T) (hn : T ≤ H + n) (hn2 : n ≤ 100000) {x0 x2 x5 x6 x7 x8 x9 : Option D} {N B C : E → Prop} {R : D → E → Prop}
    (h : ∀ x9, N [x0, some (.int H), x2, some (.int (p + (T - 1) / H : Nat)), some (.int ((T - 1) % H + 1 : Nat)), x5, x6, x7, x8, x9]) :
    wS (mLoop (gN 9) dr_body (rangeD 0 (n : Int).toNat) [x0, some (.int H), x2, some (.int (p : Int)), some (.int (T : Int)), x5, x6, x7, x8, x9]) N R B C := by
  unfold dr_body
  refine wS_loop0 (fun k e => Hold (∃ (m u : Nat) (x9 : Option D), u + m * H = T ∧ 1 ≤ u ∧ (u ≤ H ∨ m = k) ∧ e = [x0, some (.int H), x2, some (.int ((p + m : Nat) : Int)), some (.int (u : Int)), x5, x6, x7, x8, x9])) _ ⟨0, T, x9, by omega, hT, .inr rfl, rfl⟩ (fun i d e hd hI => ?_) (fun e hI => ?_)
  · obtain ⟨hi, rfl⟩ := range_at hd
    obtain ⟨m, u, x9, h1, h2, h3, rfl⟩ := hI
    repeat' walk_at "m"
    · rename_i hc
      have hc : H < u := by omega
      have hm : m = i := by omega
      refine ⟨m + 1, u - H, some (.int (0 + (i : Int))), ?_, by omega, by omega, ?_⟩
      · rw [Nat.succ_mul]; omega
      · rw [show ((u - H : Nat) : Int) = (u : Int) - H by omega, show ((p + (m + 1) : Nat) : Int) = ((p + m : Nat) : Int) + 1 by omega]
        rfl
    · rename_i hc
      exact ⟨m, u, _, h1, h2, by omega, rfl⟩
  · obtain ⟨m, u, x9, h1, h2, h3, rfl⟩ := hI
    rw [range_len, Int.toNat_natCast] at h3
    have hu : u ≤ H := by
      rcases h3 with z | z
      · exact z
      · subst z
        by_cases q : u ≤ H
        · exact q
        · exfalso
          have : 5 * m ≤ m * H := by rw [Nat.mul_comm 5]; exact Nat.mul_le_mul_left m hH
          omega
    obtain ⟨e1, e2⟩ := div_of h2 hu h1
    rw [← e1, ← e2]
    exact h _
noncomputable def lp_body : MS := (mSeq (mSet 6 (ofN (cal fLen (aCons (bin fIx (bin fIx (bVar 0) (bVar 5)) (bC (.int 2))) aNil))))
  (mSeq (mSet 7 (own (bVar 6)))
  (mSeq (mSet 8 (ofN (bC (.int 0))))
  (mSeq (mIf (tst (ofN (bin fGt (bVar 5) (bC (.int 0)))))
  (mSeq (mSet 8 (ofN (cN m__law_gap (aCons (bin fIx (bVar 0) (bin fSub (bVar 5) (bC (.int 1)))) (aCons (bin fIx (bVar 0) (bVar 5)) aNil)))))
  (mSeq (mSet 7 (ofN (bin fAdd (bVar 8) (bVar 6))))
  (mSeq (mIf (andT (tst (ofN (bin fEq (bin fIx (bin fIx (bVar 0) (bVar 5)) (bC (.int 1))) (bC (.str (lit "heading")))))) (tst (ofN (bin fLt (bin fAdd (bVar 5) (bC (.int 1))) (cal fLen (aCons (bVar 0) aNil))))))
  (mSet 7 (ofN (bin fAdd (bin fAdd (bVar 7) (cN m__law_gap (aCons (bin fIx (bVar 0) (bVar 5)) (aCons (bin fIx (bVar 0) (bin fAdd (bVar 5) (bC (.int 1)))) aNil)))) (bC (.int 1)))))
  mNil)
  (mIf (orT (tst (ofN (bin fGt (bVar 6) (bVar 1)))) (tst (ofN (bin fGt (bin fAdd (bVar 4) (bVar 7)) (bVar 1)))))
  (mSeq (mSet 3 (ofN (bin fAdd (bVar 3) (bC (.int 1)))))
  (mSeq (mSet 4 (ofN (bC (.int 0))))
  (mSet 8 (ofN (bC (.int 0))))))
  mNil))))
  mNil)
  (mSeq (mExpr (eMut 2 fAppend (acons (ofN (dTup (aCons (bVar 3) (aCons (bin fAdd (bVar 4) (bVar 8)) aNil)))) anil)))
  (mSeq (mSet 4 (ofN (bin fAdd (bin fAdd (bVar 4) (bVar 8)) (bVar 6))))
  (mFor (wR (acons (own (bVar 6)) anil)) (gN 9) dr_body)))))))
theorem lp_ok {B : List Blk} {H : Nat} (hB : SmallB B) (hH : 5 ≤ H ∧ H ≤ 100) {i : Nat} (hi : i < B.length) {x6 x7 x8 x9 : Option D} {N : E → Prop}
    (h : ∀ x6 x7 x8 x9, N [some (.rol (B.map lblD)), some (.int H), some (.lst (stD B H (i + 1))), some (.int (st B H (i + 1)).1), some (.int (st B H (i + 1)).2), some (.int (i : Int)), x6, x7, x8, x9]) :
    wS (lp_body [some (.rol (B.map lblD)), some (.int H), some (.lst (stD B H i)), some (.int (st B H i).1), some (.int (st B H i).2), some (.int (i : Int)), x6, x7, x8, x9]) N (fun _ _ => False) (fun _ => False) N := by
  have ib := lbls_imm B
  have hs := hB.sz hi
  have sl := stD_len B H i
  have hB1 := hB.1
  have q2 := ixL hi
  have g1 : fIx (lblD (B.getD i b0)) (.int 2) = some (.rol (lns (B.getD i b0).2.2)) := rfl
  have g2 : fIx (lblD (B.getD i b0)) (.int 1) = some (.str (kn B i)) := rfl
  have hsz : (lns (B.getD i b0).2.2).length = sz B i := lns_len _
  have hl : (B.map lblD).length = B.length := List.length_map _
  have hst : start B H i = start1 B H i (st B H i).1 (st B H i).2 := rfl
  have slt := start_lt hH.1 hs.1
  unfold lp_body
  refine wS_seq (wS_set ?_)
  repeat' (first | walk_at "m2" | walk_at "m1" | walk_at "mE" | walk_at "mA" | walk_at "m0")
  refine wS_seq (wS_set ?_)
  repeat' (first | walk_at "m2" | walk_at "m1" | walk_at "mE" | walk_at "mA" | walk_at "m0")
  refine wS_seq (wS_set ?_)
  repeat' (first | walk_at "m2" | walk_at "m1" | walk_at "mE" | walk_at "mA" | walk_at "m0")
  rw [hsz]
  refine wS_seq (wS_mono (N := fun e => Hold (∃ (u g : Nat) (x7 : Option D), u + g = (start B H i).2 ∧ e = [some (.rol (B.map lblD)), some (.int H), some (.lst (stD B H i)), some (.int (start B H i).1), some (.int (u : Int)), some (.int (i : Int)), some (.int (sz B i)), x7, some (.int (g : Int)), x9])) ?_ (fun e hI => ?_) (fun _ _ h => h) (fun _ h => h) (fun _ h => h))
  · clear h
    cases i with
    | zero =>
      rw [hst]
      unfold start1
      rw [if_pos rfl]
      repeat' walk_at "m"
      exact ⟨0, 0, _, rfl, rfl⟩
    | succ j =>
      have q1 := ixL (B := B) (i := j) (by omega)
      have q3 := w1_is (lgap_ok (B.getD j b0) (B.getD (j + 1) b0))
      have hgp : gp B j = gq (B.getD j b0).2.1 (B.getD (j + 1) b0).2.1 := rfl
      rw [← hgp] at q3
      have i1 := lbl_imm (B.getD j b0)
      have i2 := lbl_imm (B.getD (j + 1) b0)
      have i3 := lbl_imm (B.getD (j + 2) b0)
      have ii : imms [lblD (B.getD j b0), lblD (B.getD (j + 1) b0)] = true := by simp only [imms, i1, i2]; rfl
      have ii2 : imms [lblD (B.getD (j + 1) b0), lblD (B.getD (j + 2) b0)] = true := by simp only [imms, i3, i2]; rfl
      have e1 : ((j + 1 : Nat) : Int) - 1 = (j : Int) := by omega
      have e2 : ((j + 1 : Nat) : Int) + 1 = ((j + 2 : Nat) : Int) := by omega
      have q5 := w1_is (lgap_ok (B.getD (j + 1) b0) (B.getD (j + 2) b0))
      have hgp2 : gp B (j + 1) = gq (B.getD (j + 1) b0).2.1 (B.getD (j + 2) b0).2.1 := rfl
      rw [← hgp2] at q5
      have hnd : nd B (j + 1) = gp B j + sz B (j + 1) + (if hdg B (j + 1) = true ∧ j + 1 + 1 < B.length then gp B (j + 1) + 1 else 0) := rfl
      have hhd : hdg B (j + 1) = decide (kn B (j + 1) = lit "heading") := rfl
      have q4 : j + 2 < B.length → fIx (.rol (B.map lblD)) (.int ((j + 2 : Nat) : Int)) = some (lblD (B.getD (j + 2) b0)) := fun hn => ixL hn
      generalize lblD (B.getD j b0) = P0 at *
      generalize lblD (B.getD (j + 1) b0) = P1 at *
      generalize lblD (B.getD (j + 2) b0) = P2 at *
      refine wS_if ?_
      repeat' (first | walk_at "m2" | walk_at "m1" | walk_at "mE" | walk_at "mA" | walk_at "m0")
      refine wS_seq (wS_set ?_)
      repeat' (first | walk_at "m2" | walk_at "m1" | walk_at "mE" | walk_at "mA" | walk_at "m0" | rw [e1])
      refine wS_seq (wS_set ?_)
      repeat' (first | walk_at "m2" | walk_at "m1" | walk_at "mE" | walk_at "mA" | walk_at "m0")
      refine wS_seq (wS_mono (N := fun e => e = [some (.rol (B.map lblD)), some (.int H), some (.lst (stD B H (j + 1))), some (.int (st B H (j + 1)).1), some (.int (st B H (j + 1)).2), some (.int ((j + 1 : Nat) : Int)), some (.int (sz B (j + 1))), some (.int (nd B (j + 1))), some (.int (gp B j)), x9]) ?_ (fun e hI => ?_) (fun _ _ h => h) (fun _ h => h) (fun _ h => h))
      · by_cases hn : j + 2 < B.length
        · have q4 := q4 hn
          repeat' (first | walk_at "m" | rw [e2])
          all_goals first
            | (have hx : hdg B (j + 1) = true := by rw [hhd, ← eqv_str]; assumption
               rw [hnd, if_pos (show hdg B (j + 1) = true ∧ j + 1 + 1 < B.length from ⟨hx, by omega⟩), show ((gp B j + sz B (j + 1) + (gp B (j + 1) + 1) : Nat) : Int) = (gp B j : Int) + sz B (j + 1) + gp B (j + 1) + 1 by omega]
               rfl)
            | (have hx : hdg B (j + 1) = false := by rw [hhd, ← eqv_str]; assumption
               rw [hnd, if_neg (by rw [hx]; simp), show ((gp B j + sz B (j + 1) + 0 : Nat) : Int) = (gp B j : Int) + sz B (j + 1) by omega]
               rfl)
        · clear q4
          repeat' (first | walk_at "m" | rw [e2])
          all_goals (rw [hnd, if_neg (fun z => hn (by have := z.2; omega)), show ((gp B j + sz B (j + 1) + 0 : Nat) : Int) = (gp B j : Int) + sz B (j + 1) by omega]; rfl)
      · subst hI
        rw [hst]
        unfold start1
        rw [if_neg (by omega)]
        repeat' walk_at "m"
        · rw [if_neg (by omega)]
          exact ⟨0, 0, _, rfl, rfl⟩
        · rw [if_neg (by omega)]
          exact ⟨0, 0, _, rfl, rfl⟩
        · rw [if_pos ⟨by omega, by omega⟩]
          exact ⟨_, _, _, rfl, rfl⟩
  · obtain ⟨u, g, x7, hug, rfl⟩ := hI
    have eug : (u : Int) + (g : Int) = ((start B H i).2 : Int) := by omega
    have eT : ((start B H i).2 : Int) + (sz B i : Int) = (((start B H i).2 + sz B i : Nat) : Int) := by omega
    repeat' (first | walk_at "m" | rw [eug] | rw [eT])
    refine drain_ok hH.1 (by omega) (by omega) (by omega) fun x9 => ?_
    have h' := h (some (.int (sz B i))) x7 (some (.int (g : Int))) x9
    rw [st_succ, stD_succ] at h'
    exact h'
theorem law_put_ok {B : List Blk} {H : Nat} (hB : SmallB B) (hH : 5 ≤ H ∧ H ≤ 100) : w1 (m__law_put [.rol (B.map lblD), .int H]) (· = .rol (stD B H B.length)) := by
  have ib := lbls_imm B
  have hl : (B.map lblD).length = B.length := List.length_map _
  have hB1 := hB.1
  apply w1_def (by simp [imms, imm, ib])
  unfold b__law_put
  show wS (mSeq _ (mSeq _ (mSeq _ (mSeq (mFor _ _ lp_body) _))) _) _ _ _ _
  repeat' walk_at "m"
  refine wS_loop0 (fun k e => Hold (∃ x5 x6 x7 x8 x9, e = [some (.rol (B.map lblD)), some (.int H), some (.lst (stD B H k)), some (.int (st B H k).1), some (.int (st B H k).2), x5, x6, x7, x8, x9])) _ ⟨_, _, _, _, _, rfl⟩ (fun i d e hd hI => ?_) (fun e hI => ?_)
  · obtain ⟨hi, rfl⟩ := range_at hd
    obtain ⟨x5, x6, x7, x8, x9, rfl⟩ := hI
    have e0 : (0 : Int) + (i : Int) = i := by omega
    rw [e0]
    walk_at "m0"
    refine wS_mono (lp_ok hB hH (i := i) (by omega) (N := fun e => ∃ x5 x6 x7 x8 x9, e = [some (.rol (B.map lblD)), some (.int H), some (.lst (stD B H (i + 1))), some (.int (st B H (i + 1)).1), some (.int (st B H (i + 1)).2), x5, x6, x7, x8, x9]) fun x6 x7 x8 x9 => ⟨_, _, _, _, _, rfl⟩) (fun _ h => h) (fun _ _ h => h.elim) (fun _ h => h.elim) (fun _ h => h)
  · obtain ⟨x5, x6, x7, x8, x9, rfl⟩ := hI
    rw [range_len, hl, Int.toNat_natCast]
    have is := stD_imm B H B.length
    repeat' walk_at "m"
    all_goals first | rfl | exact ⟨is, rfl⟩

/-! ### pages of paragraphs -/
abbrev Pg := Int × Nat
def nb (B : List Blk) (i : Nat) : Int := (B.getD i b0).1
def pgsN (B : List Blk) (H n : Nat) : List Pg := ((List.range n).filter fun i => decide (0 < nb B i)).map fun i => (nb B i, (start B H i).1)
def pgs (B : List Blk) (H : Nat) : List Pg := pgsN B H B.length
def pgD (l : List Pg) : List (D × D) := l.map fun p => (D.int p.1, D.int p.2)
def pgT (l : List Pg) : List D := l.map fun p => .tup [.int p.1, .int p.2]
theorem pgT_imm (l : List Pg) : imms (pgT l) = true := by
  rw [imms_all, pgT, List.all_map]
  exact List.all_eq_true.mpr fun _ _ => rfl
def lkI (l : List Pg) (k : Int) : Option Nat := (l.find? fun p => decide (p.1 = k)).map (·.2)
theorem dget_pg (l : List Pg) (k : Int) : dgetD (pgD l) (.int k) = (lkI l k).map fun (v : Nat) => D.int (v : Int) := by
  unfold dgetD pgD lkI
  rw [List.find?_map]
  have : ((fun p : D × D => keyEq p.1 (.int k)) ∘ fun p : Pg => (D.int p.1, D.int p.2)) = fun p : Pg => decide (p.1 = k) := by
    funext p; rfl
  rw [this]
  cases l.find? fun p => decide (p.1 = k) <;> rfl
theorem dput_pg {l : List Pg} {k : Int} {v : Nat} (h : k ∉ l.map (·.1)) : dputD (pgD l) (.int k) (.int v) = pgD (l ++ [(k, v)]) := by
  unfold dputD
  rw [if_neg]
  · unfold pgD; rw [List.map_append]; rfl
  · intro z
    obtain ⟨p, hp, e⟩ := List.any_eq_true.mp z
    obtain ⟨q, hq, rfl⟩ := List.mem_map.mp hp
    have : q.1 = k := of_decide_eq_true e
    exact h (List.mem_map.mpr ⟨q, hq, this⟩)
theorem lkI_mem : ∀ {l : List Pg}, (l.map (·.1)).Nodup → ∀ {p : Pg}, p ∈ l → lkI l p.1 = some p.2
  | q :: l, nd, p, h => by
    rw [List.map_cons, List.nodup_cons] at nd
    unfold lkI
    rw [List.find?_cons]
    rcases List.mem_cons.mp h with rfl | h
    · simp
    · have : ¬ q.1 = p.1 := fun z => nd.1 (z ▸ List.mem_map.mpr ⟨p, h, rfl⟩)
      simp only [this, decide_false]
      exact lkI_mem nd.2 h
/-- the numbers are all different -/
def NumOk (B : List Blk) : Prop := ∀ i j, i < B.length → j < B.length → 0 < nb B i → nb B i = nb B j → i = j
theorem pgsN_succ (B : List Blk) (H n : Nat) : pgsN B H (n + 1) = pgsN B H n ++ (if 0 < nb B n then [(nb B n, (start B H n).1)] else []) := by
  unfold pgsN
  rw [List.range_succ, List.filter_append, List.map_append]
  congr 1
  by_cases h : 0 < nb B n
  · rw [if_pos h, List.filter_cons, if_pos (decide_eq_true h)]; rfl
  · rw [if_neg h, List.filter_cons, if_neg (by simp [h])]; rfl
theorem pgsN_mem {B : List Blk} {H n : Nat} {p : Pg} : p ∈ pgsN B H n ↔ ∃ i, i < n ∧ 0 < nb B i ∧ p = (nb B i, (start B H i).1) := by
  unfold pgsN
  constructor
  · intro h
    obtain ⟨i, hi, rfl⟩ := List.mem_map.mp h
    obtain ⟨h1, h2⟩ := List.mem_filter.mp hi
    exact ⟨i, List.mem_range.mp h1, of_decide_eq_true h2, rfl⟩
  · rintro ⟨i, h1, h2, rfl⟩
    exact List.mem_map.mpr ⟨i, List.mem_filter.mpr ⟨List.mem_range.mpr h1, decide_eq_true h2⟩, rfl⟩
theorem pgsN_new {B : List Blk} {H n : Nat} (hN : NumOk B) (hn : n < B.length) (hp : 0 < nb B n) : nb B n ∉ (pgsN B H n).map (·.1) := fun h => by
  obtain ⟨p, h1, h2⟩ := List.mem_map.mp h
  obtain ⟨i, h3, h4, rfl⟩ := pgsN_mem.mp h1
  have := hN i n (by omega) hn h4 h2
  omega
theorem pgsN_nodup {B : List Blk} {H : Nat} (hN : NumOk B) : ∀ n, n ≤ B.length → ((pgsN B H n).map (·.1)).Nodup
  | 0, _ => by simp [pgsN]
  | n + 1, h => by
    rw [pgsN_succ]
    have ih := pgsN_nodup (H := H) hN n (by omega)
    by_cases hp : 0 < nb B n
    · rw [if_pos hp, List.map_append]
      refine List.nodup_append.mpr ⟨ih, by simp, fun a m b m' z => ?_⟩
      subst z
      rw [List.map_singleton, List.mem_singleton] at m'
      exact pgsN_new hN (by omega) hp (m' ▸ m)
    · rw [if_neg hp, List.append_nil]; exact ih
theorem pgsN_len (B : List Blk) (H n : Nat) : (pgsN B H n).length ≤ n := by
  unfold pgsN
  rw [List.length_map]
  have := List.length_filter_le (fun i => decide (0 < nb B i)) (List.range n)
  rwa [List.length_range] at this
theorem nb_tl (B : List Blk) (i : Nat) : nb (B.map tl) i = nb B i := by unfold nb; rw [tl_at]; rfl
theorem pgs_tl (B : List Blk) (H : Nat) : pgs (B.map tl) H = pgs B H := by
  unfold pgs pgsN
  rw [List.length_map]
  simp only [nb_tl, start_tl]
theorem stD_at {B : List Blk} {H n i : Nat} (h : i < n) : fIx (.tup (stD B H n)) (.int (i : Int)) = some (.tup [.int (start B H i).1, .int (start B H i).2]) ∧ fIx (.rol (stD B H n)) (.int (i : Int)) = some (.tup [.int (start B H i).1, .int (start B H i).2]) := by
  have : atI (stD B H n) (i : Int) = some (.tup [.int (start B H i).1, .int (start B H i).2]) := by
    unfold atI ixN
    rw [if_pos (by omega), if_pos (by rw [stD_len]; omega)]
    show (stD B H n)[i]? = _
    unfold stD
    rw [List.getElem?_map, List.getElem?_range h]; rfl
  exact ⟨this, this⟩
/-! ### the program's pages -/
theorem pages_ok {v : D} {B : List Blk} {W H : Nat} (iv : imm v = true) (hW : 20 ≤ W ∧ W ≤ 100) (hH : 5 ≤ H ∧ H ≤ 100) (hB : SmallB B) (hN : NumOk B) (hv : w1 (m_view_blocks [v, .int W, .int ((W - 5 : Nat) : Int)]) (· = .tup (B.map blkD))) : w1 (m_para_pages [v, .int W, .int H]) (· = .rdc (pgD (pgs B H))) := by
  have ib := blks_imm B
  have hl : (B.map blkD).length = B.length := List.length_map _
  have hB1 := hB.1
  have k1 := w1_is hv
  have k2 := w1_is (starts_ok hB hH)
  have e5 : (W : Int) - 5 = ((W - 5 : Nat) : Int) := by omega
  have i1 : imms [v, .int (W : Int), .int ((W - 5 : Nat) : Int)] = true := by simp [imms, imm, iv]
  have i2 : imms [.tup (B.map blkD), .int (H : Int)] = true := by simp [imms, imm, ib]
  have is := stD_imm B H B.length
  apply w1_def (by simp [imms, imm, iv])
  unfold b_para_pages
  rw [show c_LISTING_MARGIN = D.int 5 from rfl]
  repeat' (first | walk_at "m" | rw [e5])
  refine wS_loop0 (fun k e => Hold (∃ x6, e = [some v, some (.int W), some (.int H), some (.tup (B.map blkD)), some (.tup (stD B H B.length)), some (.dct (pgD (pgsN B H k))), x6])) _ ⟨_, rfl⟩ (fun i d e hd hI => ?_) (fun e hI => ?_)
  · obtain ⟨hi, rfl⟩ := range_at hd
    obtain ⟨x6, rfl⟩ := hI
    have hi2 : i < B.length := by omega
    have e0 : (0 : Int) + (i : Int) = i := by omega
    rw [e0]
    have q1 := ixB hi2
    have q2 := (stD_at (B := B) (H := H) hi2).1
    have g1 : fIx (blkD (B.getD i b0)) (.int 0) = some (.int (nb B i)) := rfl
    have hsu := pgsN_succ B H i
    have hnew := fun hp => dput_pg (v := (start B H i).1) (pgsN_new (H := H) hN hi2 hp)
    have hpl := pgsN_len B H i
    generalize blkD (B.getD i b0) = P at *
    walk_at "m0"
    refine wS_if ?_
    repeat' (first | walk_at "m2" | walk_at "m1" | walk_at "mE" | walk_at "mA" | walk_at "m0")
    · rename_i hc
      refine wS_dset ?_
      repeat' (first | walk_at "m2" | walk_at "m1" | walk_at "mE" | walk_at "mA" | walk_at "m0")
      refine ⟨by unfold pgD; rw [List.length_map]; have : sizeLine = 16777216 := rfl; omega, ?_⟩
      rw [hnew hc]
      rw [if_pos hc] at hsu
      rw [← hsu]
      exact ⟨_, rfl⟩
    · rename_i hc
      rw [if_neg hc, List.append_nil] at hsu
      repeat' walk_at "m"
      rw [hsu]
      exact ⟨_, rfl⟩
  · obtain ⟨x6, rfl⟩ := hI
    rw [range_len, hl, Int.toNat_natCast]
    repeat' walk_at "m"
    all_goals first | rfl | exact ⟨_, rfl, rfl⟩
theorem count_ok {d : D} {a b : Int} (h : d = .non ∨ (∃ n, d = .int n) ∨ (∃ b, d = .bl b) ∨ ∃ s, d = .str s) : w1 (m_is_count [d, .int a, .int b]) (· = .bl (match d with | .int n => decide (a ≤ n) && decide (n ≤ b) | _ => false)) := by
  rcases h with rfl | ⟨n, rfl⟩ | ⟨b, rfl⟩ | ⟨s, rfl⟩ <;> apply w1_def rfl <;> unfold b_is_count <;> repeat' walk_at "m"
  all_goals first | rfl | (simp; omega) | simp
theorem check_ok {W : Nat} (hW : 20 ≤ W ∧ W ≤ 100) : w1 (m_check_width [.int W]) (· = .non) := by
  apply w1_defX rfl
  unfold b_check_width
  rw [show c_WIDTH_LEAST = D.int 20 from rfl, show c_WIDTH_MOST = D.int 100 from rfl]
  repeat' walk_at "m"
  refine w1_mono (count_ok (.inr (.inl ⟨_, rfl⟩))) fun d e => ?_
  have e2 : d = .bl true := by rw [e]; simp; omega
  clear e
  subst e2
  repeat' walk_at "m"
  rfl
theorem size_ok {W H : Nat} (hW : 20 ≤ W ∧ W ≤ 100) (hH : 5 ≤ H ∧ H ≤ 100) : w1 (m_check_size [.int W, .int H]) (· = .non) := by
  apply w1_defX rfl
  unfold b_check_size
  rw [show c_HEIGHT_LEAST = D.int 5 from rfl, show c_HEIGHT_MOST = D.int 100 from rfl]
  have k1 := w1_is (check_ok hW)
  repeat' walk_at "m"
  refine w1_mono (count_ok (.inr (.inl ⟨_, rfl⟩))) fun d e => ?_
  have e2 : d = .bl true := by rw [e]; simp; omega
  clear e
  subst e2
  repeat' walk_at "m"
  rfl
def pgE (l : List Pg) : D → D
  | .int z => .tup [.int z, .int ((lkI l z).getD 0 : Nat)]
  | d => d
theorem map_pgE {l : List Pg} (nd : (l.map (·.1)).Nodup) : ((pgD l).map (·.1)).map (pgE l) = pgT l := by
  unfold pgD pgT
  rw [List.map_map, List.map_map]
  refine List.map_congr_left fun p hp => ?_
  show D.tup [.int p.1, .int ((lkI l p.1).getD 0 : Nat)] = _
  rw [lkI_mem nd hp]; rfl
theorem numbers_ok {v : D} {B : List Blk} {W H : Nat} (iv : imm v = true) (hW : 20 ≤ W ∧ W ≤ 100) (hH : 5 ≤ H ∧ H ≤ 100) (hB : SmallB B) (hN : NumOk B) (hv : w1 (m_view_blocks [v, .int W, .int ((W - 5 : Nat) : Int)]) (· = .tup (B.map blkD))) : w1 (m_page_numbers [v, .int W, .int H]) (· = .tup (pgT (pgs B H))) := by
  have k1 := w1_is (size_ok hW hH)
  have k2 := w1_is (pages_ok iv hW hH hB hN hv)
  have i1 : imms [v, .int (W : Int), .int (H : Int)] = true := by simp [imms, imm, iv]
  have nd : ((pgs B H).map (·.1)).Nodup := pgsN_nodup (H := H) hN B.length (Nat.le_refl _)
  have hpl := pgsN_len B H B.length
  have hB1 := hB.1
  have ip := pgT_imm (pgs B H)
  apply w1_defX i1
  unfold b_page_numbers
  repeat' walk_at "m"
  refine w2_comp (pgE (pgs B H)) (w2_wK (w1_var rfl ⟨_, rfl, ?_, ?_⟩))
  · unfold pgD
    rw [List.all_map]
    exact List.all_eq_true.mpr fun _ _ => rfl
  · refine ⟨fits_of (by unfold pgD pgs; rw [List.length_map, List.length_map]; omega), fun d hd => ?_, ?_⟩
    · obtain ⟨q, hq, rfl⟩ := List.mem_map.mp hd
      obtain ⟨p, hp, rfl⟩ := List.mem_map.mp hq
      have hg : fDGet (.rdc (pgD (pgs B H))) (.int p.1) = some (.int (p.2 : Int)) := by
        show dgetD (pgD (pgs B H)) (.int p.1) = _
        rw [dget_pg, lkI_mem nd hp]; rfl
      have he : pgE (pgs B H) (.int p.1) = .tup [.int p.1, .int (p.2 : Int)] := by
        show D.tup [.int p.1, .int ((lkI (pgs B H) p.1).getD 0 : Nat)] = _
        rw [lkI_mem nd hp]; rfl
      show w0 (gN 4 (.int p.1) _) _
      rw [he]
      generalize pgD (pgs B H) = X at *
      repeat' walk_at "m"
      all_goals rfl
    · rw [map_pgE nd]
      repeat' walk_at "m"
      all_goals first | rfl | (refine w0_tupL ip ?_; rfl)

/-! ### lines with pages -/
def rep (n c : Nat) : Nm := (List.replicate n [c]).flatten
theorem rep_len (n c : Nat) : (rep n c).length = n := by unfold rep; simp
def pgS (p : Nat) : Nm := lit (toString (p : Int))
def withP (W p : Nat) : Ls → Ls
  | [] => []
  | f :: r => (f ++ rep (W - 4 - f.length) 46 ++ (rep (4 - (pgS p).length) 32 ++ pgS p)) :: r
theorem l_dot : lit "." = [46] := by rw [lit_eq]; rfl
theorem st_bd {B : List Blk} {H : Nat} (hB : SmallB B) (hH : 5 ≤ H ∧ H ≤ 100) : ∀ i, i ≤ B.length → (st B H i).1 ≤ 1 + i * 40000
  | 0, _ => by simp [st]
  | i + 1, hi => by
    have ih := st_bd hB hH i (by omega)
    have hs := hB.sz (i := i) (by omega)
    have hl := start_lt (B := B) hH.1 hs.1
    rw [st_succ]
    have h1 : (start B H i).1 ≤ (st B H i).1 + 1 := by
      unfold start start1
      split
      · exact Nat.le_succ _
      · split
        · exact Nat.le_succ _
        · exact Nat.le_refl _
    have h2 : ((start B H i).2 + sz B i - 1) / H ≤ (start B H i).2 + sz B i - 1 := Nat.div_le_self _ _
    show (start B H i).1 + ((start B H i).2 + sz B i - 1) / H ≤ 1 + (i + 1) * 40000
    omega
theorem start_bd {B : List Blk} {H : Nat} (hB : SmallB B) (hH : 5 ≤ H ∧ H ≤ 100) {i : Nat} (hi : i < B.length) : (start B H i).1 ≤ 1000000 := by
  have ih := st_bd hB hH i (by omega)
  have := hB.1
  have h1 : (start B H i).1 ≤ (st B H i).1 + 1 := by
    unfold start start1
    split
    · exact Nat.le_succ _
    · split
      · exact Nat.le_succ _
      · exact Nat.le_refl _
  have : i * 40000 ≤ 15 * 40000 := Nat.mul_le_mul_right _ (by omega)
  omega
theorem pgS_len {p : Nat} (h : p ≤ 1000000) : (pgS p).length ≤ 21 := toStr_len (n := (p : Int)) (by omega)
theorem w0_rep {c : Nat} {n : Int} {Q : D → Prop} (h : 0 ≤ n ∧ n ≤ 10000) (q : Q (.str (rep n.toNat c))) : w0 (fMul (.str [c]) (.int n)) Q := w0_mulS ⟨h.1, by omega⟩ (by simp; omega) q
theorem w0_repN {c : Nat} {n : Int} {Q : D → Prop} (h : -10000 ≤ n ∧ n ≤ 10000) (q : Q (.str (rep n.toNat c))) : w0 (fMul (.str [c]) (.int n)) Q := by
  by_cases h0 : 0 ≤ n
  · exact w0_rep ⟨h0, h.2⟩ q
  · refine w0_mulS0 (by omega) ?_
    rw [show n.toNat = 0 by omega] at q
    exact q
theorem w0_max0 {n : Int} {Q : D → Prop} (q : Q (.int (n.toNat : Nat))) : w0 (fMax [.int 0, .int n]) Q := by
  refine w0_of (show some (D.int (if n > 0 then n else 0)) = some (.int (n.toNat : Nat)) from ?_) q
  congr 2
  split <;> omega
theorem pad_ok {t : Nm} (ht : t.length ≤ 100) : w1 (m_pad_left [.str t, .int 4]) (· = .str (rep (4 - t.length) 32 ++ t)) := by
  apply w1_def rfl
  unfold b_pad_left
  rw [l_sp]
  repeat' walk_at "m"
  rw [show (if (4 : Int) - (t.length : Int) > 0 then (4 : Int) - (t.length : Int) else 0) = ((4 - t.length : Nat) : Int) by split <;> omega]
  refine w0_rep (by omega) ?_
  rw [Int.toNat_natCast]
  have := rep_len (4 - t.length) 32
  repeat' walk_at "m"
  rfl
theorem ixS0 {f : Nm} {r : Ls} : fIx (.tup (lns (f :: r))) (.int 0) = some (.str f) := by
  show atI (lns (f :: r)) 0 = _
  unfold atI ixN
  rw [if_pos (by decide), if_pos (by simp [lns])]
  rfl
theorem ixR0 {f : Nm} {r : Ls} : fIx (.rol (lns (f :: r))) (.int 0) = some (.str f) := by
  show atI (lns (f :: r)) 0 = _
  unfold atI ixN
  rw [if_pos (by decide), if_pos (by simp [lns])]
  rfl
theorem cut1 {f : Nm} {r : Ls} : fCut (.tup (lns (f :: r))) (some 1) none = some (.tup (lns r)) := by
  show (if imms (lns (f :: r)) = true then some (D.tup (cutL (lns (f :: r)) (some 1) none)) else none) = _
  rw [if_pos (lns_imm _), cutL_from (by decide)]
  rfl
theorem cutR1 {f : Nm} {r : Ls} : fCut (.rol (lns (f :: r))) (some 1) none = some (.lst (lns r)) := by
  show (if imms (lns (f :: r)) = true then some (D.lst (cutL (lns (f :: r)) (some 1) none)) else none) = _
  rw [if_pos (lns_imm _), cutL_from (by decide)]
  rfl
theorem with_ok {f : Nm} {r : Ls} {W p : Nat} (hW : 20 ≤ W ∧ W ≤ 100) (hf : f.length ≤ W - 5) (hp : p ≤ 1000000) (hr : r.length ≤ 5000) : w1 (m_with_page [.tup (lns (f :: r)), .int p, .int W]) (· = .tup (lns (withP W p (f :: r)))) := by
  have il := lns_imm (f :: r)
  have h0 := ixS0 (f := f) (r := r)
  have h1 := cut1 (f := f) (r := r)
  have hs := pgS_len hp
  have k1 := w1_is (pad_ok (t := pgS p) (by omega))
  have i1 : imms [.str (pgS p), .int 4] = true := rfl
  have irl := lns_imm r
  have hrl := lns_len r
  apply w1_def (by simp [imms, imm, il])
  unfold b_with_page
  rw [l_dot, show c_PAGE_COLUMNS = D.int 4 from rfl]
  generalize D.tup (lns (f :: r)) = T at *
  repeat' walk_at "m"
  refine w0_rep (by omega) ?_
  rw [show ((W : Int) - 4 - (f.length : Int)).toNat = W - 4 - f.length by omega]
  have hl1 := rep_len (W - 4 - f.length) 46
  have hl2 := rep_len (4 - (pgS p).length) 32
  repeat' walk_at "m"
  show w1 (m_pad_left [.str (pgS p), .int 4]) _
  refine w1_eq k1 ?_
  repeat' walk_at "m"
  all_goals rfl
/-- where the listed ones stand -/
def pgF (l : List Pg) (i : Nat) : Nat := (lkI l ((i + 1 : Nat) : Int)).getD 0
def dotF (W : Nat) (l : List Pg) (ix : List Nat) (ps : List (Nm × Nm)) : List Ls := (List.range ps.length).map fun m => withP W (pgF l (ix.getD m 0)) (wl (W - 5) (ps.getD m ([], [])))
/-- all that is listed has a page -/
def Has (l : List Pg) (ix : List Nat) : Prop := ∀ i ∈ ix, ∃ p, p ≤ 1000000 ∧ lkI l ((i + 1 : Nat) : Int) = some p
theorem num_ok {L : List Par} {j : Nat} {ps : List (Nm × Nm)} (hL : L.length ≤ 14) (hg : ∀ p ∈ L, PGood p) (hj : j < 3) : w1 (m_listed_numbers [.tup (L.map parD), parD (.list j ps)]) (· = .lst ((idx L j).map fun (i : Nat) => D.int ((i + 1 : Nat) : Int))) := by
  have ip := pars_imm L
  have iq := prs_imm ps
  have hl : (L.map parD).length = L.length := List.length_map _
  have fin : ∀ X, wS (mRet (eComp (wR (acons (ofN (cal fLen (aCons (bVar 0) aNil))) anil)) (gN 3) (andT (notT (tst (ofN (cN m_is_fault (aCons (bin fIx (bVar 0) (bVar 3)) aNil))))) (tst (ofN (bin fEq (bin fIx (bin fIx (bVar 0) (bVar 3)) (bC (.int 1))) (bVar 2))))) (ofN (bin fAdd (bVar 3) (bC (.int 1)))) (([("at", 3)] : List (PySem.Str × Nat)).map (·.2))) [some (.tup (L.map parD)), X, some (.str (kd j)), none]) (fun _ => False) (fun d _ => d = .lst ((idx L j).map fun (i : Nat) => D.int ((i + 1 : Nat) : Int))) (fun _ => False) (fun _ => False) := fun X => by
    refine wS_ret ?_
    refine w2_compF (pI fun i => isK j (L.getD i (.fault []))) (fun d => match d with | .int z => .int (z + 1) | d => d) ?_
    repeat' walk_at "m"
    refine ⟨fits_of (by rw [range_len, hl]; omega), fun d hd => ?_, ?_⟩
    · rw [rangeD_nts, hl, Int.toNat_natCast] at hd
      obtain ⟨i, hi, rfl⟩ := List.mem_map.mp hd
      have hi : i < L.length := List.mem_range.mp hi
      obtain ⟨_, h1⟩ := par_at hi
      have h2 := par_k (L.getD i (.fault []))
      have h3 := kOf_eq hj (hg _ (getD_mem hi))
      have h4 := w1_is (is_fault_ok (L.getD i (.fault [])))
      have i4 : imms [parD (L.getD i (.fault []))] = true := by simp only [imms, par_imm]; rfl
      have h5 : isF (L.getD i (.fault [])) = true → isK j (L.getD i (.fault [])) = false := fun z => by
        generalize L.getD i (.fault []) = q at z
        cases q with
        | fault _ => rfl
        | doc _ _ _ _ => cases z
        | list _ _ => cases z
      have hp : pI (fun i => isK j (L.getD i (.fault []))) (.int (i : Int)) = isK j (L.getD i (.fault [])) := by
        show isK j (L.getD (i : Int).toNat (.fault [])) = _
        rw [Int.toNat_natCast]
      rw [hp]
      generalize parD (L.getD i (.fault [])) = pd at h1 h2 h4 i4
      cases hf : isF (L.getD i (.fault [])) with
      | true =>
        rw [hf] at h4
        repeat' walk_at "m"
        refine And.intro (h5 hf).symm (And.intro ?_ ?_)
        · intro z
          exact absurd z (by decide)
        · intro _
          rfl
      | false =>
        rw [hf] at h4
        repeat' walk_at "m"
        refine ⟨by rw [eqv_str, h3], fun hb => ?_, fun hb => rfl⟩
        repeat' walk_at "m"
        all_goals rfl
    · rw [rangeD_nts, hl, Int.toNat_natCast, nts_filter]
      show D.lst ((nts (idx L j)).map _) = _
      unfold nts
      rw [List.map_map]
      rfl
  apply w1_def (by simp [imms, imm, ip, par_imm])
  unfold b_listed_numbers
  simp only [parD]
  have hkd := fun h => kd_j hj h
  rcases j3 hj with rfl | rfl | rfl
  · simp only [lk, lm]
    refine wS_seq (wS_set ?_)
    repeat' (first | walk_at "m2" | walk_at "m1" | walk_at "mE" | walk_at "mA" | walk_at "m0")
    refine wS_seq (wS_if ?_)
    repeat' (first | walk_at "m2" | walk_at "m1" | walk_at "mE" | walk_at "mA" | walk_at "m0")
    refine wS_nil ?_
    exact wS_mono (fin _) (fun _ h => h.elim) (fun _ _ h => h) (fun _ h => h) (fun _ h => h)
  all_goals
    have hkd := hkd (by decide)
    simp only [lk, lm] at hkd ⊢
    refine wS_seq (wS_set ?_)
    repeat' (first | walk_at "m2" | walk_at "m1" | walk_at "mE" | walk_at "mA" | walk_at "m0")
    refine wS_seq (wS_if ?_)
    repeat' (first | walk_at "m2" | walk_at "m1" | walk_at "mE" | walk_at "mA" | walk_at "m0")
    refine wS_set ?_
    repeat' (first | walk_at "m2" | walk_at "m1" | walk_at "mE" | walk_at "mA" | walk_at "m0")
    rw [hkd]
    exact wS_mono (fin _) (fun _ h => h.elim) (fun _ _ h => h) (fun _ h => h) (fun _ h => h)

/-! ### no line is too long -/
def AllLe (W : Nat) (ls : Ls) : Prop := ∀ x ∈ ls, x.length ≤ W
theorem AllLe.snoc {W : Nat} {ls : Ls} {l : Nm} (h : AllLe W ls) (hl : l.length ≤ W) : AllLe W (ls ++ [l]) := fun x m => by
  rcases List.mem_append.mp m with m | m
  · exact h x m
  · rw [List.mem_singleton.mp m]; exact hl
theorem chop_le {W : Nat} {rest : Nm} (hr : rest.length < W) : ∀ (k : Nat) (ls : Ls) (l w : Nm), AllLe W ls → l.length ≤ W → AllLe W (chop W rest k (ls, l, w)).1
  | 0, ls, l, w, h, hl => h
  | k + 1, ls, l, w, h, hl => by
    rw [chop]
    split
    · exact chop_le hr k _ _ _ (h.snoc (by rw [List.length_append, List.length_take]; omega)) (by omega)
    · exact h
theorem stepW_le {W : Nat} {rest w : Nm} {b : Nat} {p : Ls × Nm × Bool} (hr : rest.length < W) (h : okP W b p) (ha : AllLe W p.1) : AllLe W (stepW W rest p w).1 := by
  unfold stepW
  split
  · exact ha
  · split
    · exact ha
    · simp only
      split
      · exact chop_le hr _ _ _ _ (ha.snoc h.2.1) (by omega)
      · exact chop_le hr _ _ _ _ ha h.2.1
theorem foldW_le {W : Nat} {first rest : Nm} (hf : first.length < W) (hr : rest.length < W) (ws : Ls) : ∀ i, AllLe W ((ws.take i).foldl (stepW W rest) ([], first, false)).1
  | 0 => fun x m => by simp at m
  | i + 1 => by
    cases h : ws[i]? with
    | none =>
      rw [List.take_add_one, h]
      simpa using foldW_le hf hr ws i
    | some w =>
      rw [take_stepW h]
      exact stepW_le hr (foldW_ok hf hr ws i) (foldW_le hf hr ws i)
theorem wrapP_le {s first rest : Nm} {W : Nat} (hf : first.length < W) (hr : rest.length < W) : AllLe W (wrapP s W first rest) := by
  have h1 := foldW_le hf hr (wordsOf s) (wordsOf s).length
  have h2 := (foldW_ok hf hr (wordsOf s) (wordsOf s).length).2.1
  rw [List.take_of_length_le (Nat.le_refl _)] at h1 h2
  exact h1.snoc h2
theorem wl_cons {W : Nat} (hW : 15 ≤ W) {p : Nm × Nm} (h : p.1.length ≤ 5 ∧ p.2.length ≤ 1700) : ∃ f r, wl W p = f :: r ∧ f.length ≤ W ∧ r.length ≤ 1710 := by
  have h1 := wl_len hW h
  have h2 : AllLe W (wl W p) := wrapP_le (by simp; omega) (by simp; omega)
  cases q : wl W p with
  | nil => rw [q] at h1; simp at h1
  | cons f r =>
    rw [q] at h1 h2
    exact ⟨f, r, rfl, h2 f List.mem_cons_self, by simp at h1; omega⟩
theorem withP_len (W p : Nat) (ls : Ls) : (withP W p ls).length = ls.length := by cases ls <;> rfl
def dotD (W : Nat) (l : List Pg) (ix : List Nat) (ps : List (Nm × Nm)) : D → D
  | .int z => .tup (lns (withP W (pgF l (ix.getD z.toNat 0)) (wl (W - 5) (ps.getD z.toNat ([], [])))))
  | d => d
theorem map_dotD (W : Nat) (l : List Pg) (ix : List Nat) (ps : List (Nm × Nm)) : (nts (List.range ps.length)).map (dotD W l ix ps) = tls (dotF W l ix ps) := by
  unfold nts tls dotF
  rw [List.map_map, List.map_map]
  rfl
theorem dotF_good {W : Nat} (hW : 20 ≤ W ∧ W ≤ 100) {l : List Pg} {ix : List Nat} {ps : List (Nm × Nm)} (hp : ps.length ≤ 14 ∧ ∀ p ∈ ps, p.1.length ≤ 5 ∧ p.2.length ≤ 1700) : (dotF W l ix ps).length ≤ 14 ∧ ∀ ls ∈ dotF W l ix ps, ls.length ≤ 2000 := by
  unfold dotF
  refine ⟨by rw [List.length_map, List.length_range]; exact hp.1, fun ls m => ?_⟩
  obtain ⟨i, hi, rfl⟩ := List.mem_map.mp m
  have hi := List.mem_range.mp hi
  rw [withP_len]
  have : ps.getD i ([], []) ∈ ps := by
    rw [List.getD_eq_getElem?_getD, List.getElem?_eq_getElem hi]
    exact List.getElem_mem hi
  have := (wl_len (W := W - 5) (by omega) (hp.2 _ this)).2
  omega
theorem pairs_len (L : List Par) (j : Nat) : (pairsOf L j).length = (idx L j).length := List.length_map _
theorem tls_at {A : List Ls} {i : Nat} {ls : Ls} (h : A[i]? = some ls) : fIx (.tup (tls A)) (.int (i : Int)) = some (.tup (lns ls)) := by
  obtain ⟨hi, _⟩ := List.getElem?_eq_some_iff.mp h
  show atI (tls A) (i : Int) = _
  unfold atI ixN
  rw [if_pos (by omega), if_pos (by unfold tls; rw [List.length_map]; omega)]
  show (tls A)[i]? = _
  unfold tls
  rw [List.getElem?_map, h]; rfl
theorem rls_at {A : List Ls} {i : Nat} {ls : Ls} (h : A[i]? = some ls) : fIx (.rol (rls A)) (.int (i : Int)) = some (.rol (lns ls)) := by
  obtain ⟨hi, _⟩ := List.getElem?_eq_some_iff.mp h
  show atI (rls A) (i : Int) = _
  unfold atI ixN
  rw [if_pos (by omega), if_pos (by unfold rls; rw [List.length_map]; omega)]
  show (rls A)[i]? = _
  unfold rls
  rw [List.getElem?_map, h]; rfl
theorem plisting_ok {L : List Par} {j : Nat} (hL : L.length ≤ 14) (hg : ∀ p ∈ L, PGood p) (hj : j < 3) {W : Nat} (hW : 20 ≤ W ∧ W ≤ 100) {l : List Pg} (hh : Has l (idx L j)) :
    w1 (m_printed_listing [.tup (L.map parD), parD (.list j (pairsOf L j)), .int W, .rdc (pgD l)]) (· = .tup (lns (dotF W l (idx L j) (pairsOf L j)).flatten)) := by
  have ip := pars_imm L
  have hp := pairs_good hL hg j
  have hlen := pairs_len L j
  have k1 := w1_is (listing_ok (ps := pairsOf L j) (W := W - 5) hp ⟨by omega, by omega⟩)
  have k2 := w1_is (num_ok (ps := pairsOf L j) hL hg hj)
  have e5 : (W : Int) - 5 = ((W - 5 : Nat) : Int) := by omega
  have h4 : fIx (parD (.list j (pairsOf L j))) (.int 4) = some (.tup (prs (pairsOf L j))) := rfl
  have i1 : imms [.tup (prs (pairsOf L j)), .int ((W - 5 : Nat) : Int)] = true := by simp [imms, imm, prs_imm]
  have i2 : imms [.tup (L.map parD), parD (.list j (pairsOf L j))] = true := by simp [imms, imm, ip, par_imm]
  have i3 := par_imm (.list j (pairsOf L j))
  have it := tls_imm ((pairsOf L j).map (wl (W - 5)))
  have hd2 := dotF_good (l := l) (ix := idx L j) hW hp
  have k3 := w1_is (joined_rol hd2.1 hd2.2)
  have i4 := tls_imm (dotF W l (idx L j) (pairsOf L j))
  have i5 : imms [.rol (tls (dotF W l (idx L j) (pairsOf L j)))] = true := by simp [imms, imm, i4]
  have hwl : (tls ((pairsOf L j).map (wl (W - 5)))).length = (pairsOf L j).length := by unfold tls; rw [List.length_map, List.length_map]
  apply w1_def (by simp [imms, imm, ip, par_imm])
  unfold b_printed_listing
  rw [show c_LISTING_MARGIN = D.int 5 from rfl]
  generalize hP : parD (.list j (pairsOf L j)) = P at *
  generalize hX : pgD l = X
  repeat' (first | walk_at "m" | rw [e5])
  refine w2_comp (dotD W l (idx L j) (pairsOf L j)) ?_
  repeat' walk_at "m"
  refine ⟨fits_of (by rw [range_len, hwl]; omega), fun d hd => ?_, ?_⟩
  · rw [rangeD_nts, hwl, Int.toNat_natCast] at hd
    obtain ⟨i, hi, rfl⟩ := List.mem_map.mp hd
    have hi : i < (pairsOf L j).length := List.mem_range.mp hi
    obtain ⟨q, hq⟩ : ∃ q, (pairsOf L j)[i]? = some q := ⟨_, List.getElem?_eq_getElem hi⟩
    obtain ⟨x, hx⟩ : ∃ x, (idx L j)[i]? = some x := ⟨_, List.getElem?_eq_getElem (by omega)⟩
    obtain ⟨p, hpb, hlk⟩ := hh x (mem_get hx)
    obtain ⟨f, r, hfr, hf1, hr1⟩ := wl_cons (W := W - 5) (by omega) (hp.2 q (mem_get hq))
    have a1 := tls_at (A := (pairsOf L j).map (wl (W - 5))) (i := i) (ls := f :: r) (by rw [List.getElem?_map, hq, ← hfr]; rfl)
    have a2 : fIx (.lst ((idx L j).map fun (i : Nat) => D.int ((i + 1 : Nat) : Int))) (.int (i : Int)) = some (.int ((x + 1 : Nat) : Int)) := by
      show atI ((idx L j).map fun (i : Nat) => D.int ((i + 1 : Nat) : Int)) (i : Int) = _
      unfold atI ixN
      rw [if_pos (by omega), if_pos (by rw [List.length_map]; omega)]
      show ((idx L j).map fun (i : Nat) => D.int ((i + 1 : Nat) : Int))[i]? = _
      rw [List.getElem?_map, hx]; rfl
    have a3 : fDGet (.rdc X) (.int ((x + 1 : Nat) : Int)) = some (.int (p : Int)) := by
      show dgetD X (.int ((x + 1 : Nat) : Int)) = _
      rw [← hX, dget_pg, hlk]; rfl
    have a4 := w1_is (with_ok (f := f) (r := r) (W := W) (p := p) hW (by omega) hpb (by omega))
    have a5 : imms [.tup (lns (f :: r)), .int (p : Int), .int (W : Int)] = true := by simp [imms, imm, lns_imm]
    have a6 : dotD W l (idx L j) (pairsOf L j) (.int (i : Int)) = .tup (lns (withP W p (f :: r))) := by
      show D.tup (lns (withP W (pgF l ((idx L j).getD (i : Int).toNat 0)) (wl (W - 5) ((pairsOf L j).getD (i : Int).toNat ([], []))))) = _
      rw [Int.toNat_natCast, List.getD_eq_getElem?_getD, hx, List.getD_eq_getElem?_getD, hq]
      show D.tup (lns (withP W ((lkI l ((x + 1 : Nat) : Int)).getD 0) (wl (W - 5) q))) = _
      rw [hlk, hfr]; rfl
    rw [a6]
    clear a6 hlk
    generalize D.tup (tls ((pairsOf L j).map (wl (W - 5)))) = T at *
    generalize D.lst ((idx L j).map fun (i : Nat) => D.int ((i + 1 : Nat) : Int)) = T2 at *
    generalize D.tup (lns (f :: r)) = T3 at *
    repeat' walk_at "m"
    all_goals rfl
  · rw [rangeD_nts, hwl, Int.toNat_natCast, map_dotD]
    refine ⟨_, rfl, i4, ?_⟩
    repeat' walk_at "m"
    all_goals first | rfl | exact ⟨_, rfl, rfl⟩

/-! ### the law's dots -/
theorem lkI_snoc (l : List Pg) (q : Pg) (K : Int) : lkI (l ++ [q]) K = match lkI l K with
    | some p => some p
    | none => if q.1 = K then some q.2 else none := by
  unfold lkI
  rw [List.find?_append]
  cases l.find? fun p => decide (p.1 = K) with
  | some p => rfl
  | none =>
    show ([q].find? fun p => decide (p.1 = K)).map (·.2) = _
    rw [List.find?_cons]
    by_cases h : q.1 = K
    · simp [h]
    · simp [h]
theorem lkI_none {l : List Pg} {K : Int} (h : K ∉ l.map (·.1)) : lkI l K = none := by
  unfold lkI
  rw [List.find?_eq_none.mpr fun p hp z => h (List.mem_map.mpr ⟨p, hp, of_decide_eq_true z⟩)]
  rfl
def pgO : Option Nat → Nm
  | some p => pgS p
  | none => []
noncomputable def in_body : MS := (mIf (tst (ofN (bin fEq (bVar 9) (bin fAdd (bin fIx (bVar 5) (bVar 7)) (bC (.int 1))))))
  (mSet 8 (ofN (cal fStr (aCons (bVar 10) aNil))))
  mNil)
theorem in_ok {l : List Pg} {ix : List Nat} {k x : Nat} (nd : (l.map (·.1)).Nodup) (hb : ∀ q ∈ l, q.2 ≤ 1000000) (hl : l.length ≤ 100) (hx : ix[k]? = some x) {x0 x1 x3 x4 x6 x9 x10 x11 : Option D} {N B C : E → Prop} {R : D → E → Prop}
    (h : ∀ x9 x10, N [x0, x1, some (.rol (pgT l)), x3, x4, some (.rol (nts ix)), x6, some (.int (k : Int)), some (.str (pgO (lkI l ((x + 1 : Nat) : Int)))), x9, x10, x11]) :
    wS (mLoop (gT [9, 10]) in_body (pgT l) [x0, x1, some (.rol (pgT l)), x3, x4, some (.rol (nts ix)), x6, some (.int (k : Int)), some (.str []), x9, x10, x11]) N R B C := by
  unfold in_body
  refine wS_loop0 (fun t e => Hold (∃ x9 x10, e = [x0, x1, some (.rol (pgT l)), x3, x4, some (.rol (nts ix)), x6, some (.int (k : Int)), some (.str (pgO (lkI (l.take t) ((x + 1 : Nat) : Int)))), x9, x10, x11])) _ ⟨_, _, rfl⟩ (fun i d e hd hI => ?_) (fun e hI => ?_)
  · obtain ⟨x9, x10, rfl⟩ := hI
    unfold pgT at hd
    rw [List.getElem?_map] at hd
    obtain ⟨q, hq, rfl⟩ := Option.map_eq_some_iff.mp hd
    have hq2 := hb q (mem_get hq)
    have htk : l.take (i + 1) = l.take i ++ [q] := by rw [List.take_add_one, hq]; rfl
    have hix : fIx (.rol (nts ix)) (.int (k : Int)) = some (.int (x : Int)) := by
      obtain ⟨hk, _⟩ := List.getElem?_eq_some_iff.mp hx
      show atI (nts ix) (k : Int) = _
      unfold atI ixN
      rw [if_pos (by omega), if_pos (by unfold nts; rw [List.length_map]; omega)]
      show (nts ix)[k]? = _
      unfold nts
      rw [List.getElem?_map, hx]; rfl
    have e1 : (x : Int) + 1 = ((x + 1 : Nat) : Int) := by omega
    have hs := lkI_snoc (l.take i) q ((x + 1 : Nat) : Int)
    rw [← htk] at hs
    have hnew : q.1 = ((x + 1 : Nat) : Int) → lkI (l.take i) ((x + 1 : Nat) : Int) = none := fun z => by
      refine lkI_none fun m => ?_
      rw [← z] at m
      have nd2 : ((l.take (i + 1)).map (·.1)).Nodup := by
        have := List.take_append_drop (i + 1) l
        rw [← this, List.map_append] at nd
        exact (List.nodup_append.mp nd).1
      rw [htk, List.map_append] at nd2
      exact (List.nodup_append.mp nd2).2.2 _ m _ (by simp) rfl
    clear hd
    generalize D.rol (pgT l) = X at *
    generalize D.rol (nts ix) = Y at *
    repeat' (first | walk_at "m" | rw [e1])
    · rename_i hc
      have hc : q.1 = ((x + 1 : Nat) : Int) := by simpa using hc
      rw [hnew hc] at hs
      simp only [hc, if_true] at hs
      rw [hs]
      exact ⟨_, _, rfl⟩
    · rename_i hc
      have hc : ¬ q.1 = ((x + 1 : Nat) : Int) := by simpa using hc
      have : lkI (l.take (i + 1)) ((x + 1 : Nat) : Int) = lkI (l.take i) ((x + 1 : Nat) : Int) := by
        rw [hs]
        cases lkI (l.take i) ((x + 1 : Nat) : Int) with
        | some p => rfl
        | none => show (if q.1 = ((x + 1 : Nat) : Int) then some q.2 else none) = none
                  rw [if_neg hc]
      rw [this]
      exact ⟨_, _, rfl⟩
  · obtain ⟨x9, x10, rfl⟩ := hI
    have : (pgT l).length = l.length := List.length_map _
    rw [this, List.take_length]
    exact h _ _
noncomputable def ld_body : MS := (mSeq (mSet 8 (ofN (bC (.str []))))
  (mSeq (mForV 2 (gT [9, 10]) in_body)
  (mSeq (mSet 11 (own (bin fIx (bin fIx (bVar 6) (bVar 7)) (bC (.int 0)))))
  (mSeq (mSet 11 (ofN (bin fAdd (bin fAdd (bin fAdd (bVar 11) (bin fMul (bC (.str [46])) (bin fSub (bin fSub (bVar 3) (bC (.int 4))) (cal fLen (aCons (bVar 11) aNil))))) (bin fMul (bC (.str [32])) (bin fSub (bC (.int 4)) (cal fLen (aCons (bVar 8) aNil))))) (bVar 8))))
  (mSet 4 (ofN (bin fAdd (bin fAdd (bVar 4) (dLst (aCons (bVar 11) aNil))) (cut (bin fIx (bVar 6) (bVar 7)) (some (bC (.int 1))) none))))))))
theorem law_dotted_ok {L : List Par} {j : Nat} (hL : L.length ≤ 14) (hg : ∀ p ∈ L, PGood p) (hj : j < 3) {W : Nat} (hW : 20 ≤ W ∧ W ≤ 100) {l : List Pg} (hh : Has l (idx L j)) (nd : (l.map (·.1)).Nodup) (hb : ∀ q ∈ l, q.2 ≤ 1000000) (hl : l.length ≤ 100) :
    w1 (m__law_dotted [.rol (L.map parD), parD (.list j (pairsOf L j)), .rol (pgT l), .int W]) (· = .rol (lns (dotF W l (idx L j) (pairsOf L j)).flatten)) := by
  have ip := pars_imm L
  have hp := pairs_good hL hg j
  have hlen := pairs_len L j
  have k1 := w1_is (law_texts_ok (j := j) (ps := pairsOf L j) hp hW)
  have k2 := w1_is (law_listed_ok (ps := pairsOf L j) hL hg hj)
  have i1 : imms [parD (.list j (pairsOf L j)), .int (W : Int)] = true := by simp [imms, imm, par_imm]
  have i2 : imms [.rol (L.map parD), parD (.list j (pairsOf L j))] = true := by simp [imms, imm, ip, par_imm]
  have i3 := par_imm (.list j (pairsOf L j))
  have it := rls_imm ((pairsOf L j).map (wl (W - 5)))
  have ig := pgT_imm l
  have hd2 := dotF_good (l := l) (ix := idx L j) hW hp
  have hdl : (dotF W l (idx L j) (pairsOf L j)).length = (pairsOf L j).length := by unfold dotF; rw [List.length_map, List.length_range]
  have hwl : (rls ((pairsOf L j).map (wl (W - 5)))).length = (pairsOf L j).length := by unfold rls; rw [List.length_map, List.length_map]
  have n1 := nts_imm (idx L j)
  apply w1_def (by simp [imms, imm, ip, par_imm, ig])
  unfold b__law_dotted
  rw [l_dot, l_sp, l_0]
  show wS (mSeq _ (mSeq _ (mSeq _ (mSeq (mFor _ _ ld_body) _))) _) _ _ _ _
  generalize hP : parD (.list j (pairsOf L j)) = P at *
  repeat' walk_at "m"
  rw [hwl]
  refine wS_loop0 (fun k e => Hold (∃ x7 x8 x9 x10 x11, ((dotF W l (idx L j) (pairsOf L j)).take k).flatten.length ≤ 2000 * k ∧ e = [some (.rol (L.map parD)), some P, some (.rol (pgT l)), some (.int W), some (.lst (lns ((dotF W l (idx L j) (pairsOf L j)).take k).flatten)), some (.rol (nts (idx L j))), some (.rol (rls ((pairsOf L j).map (wl (W - 5))))), x7, x8, x9, x10, x11])) _ ⟨_, _, _, _, _, by simp, rfl⟩ (fun i d e hd hI => ?_) (fun e hI => ?_)
  · obtain ⟨hi, rfl⟩ := range_at hd
    obtain ⟨x7, x8, x9, x10, x11, hfl, rfl⟩ := hI
    have hi : i < (pairsOf L j).length := by omega
    have e0 : (0 : Int) + (i : Int) = i := by omega
    rw [e0]
    obtain ⟨q, hq⟩ : ∃ q, (pairsOf L j)[i]? = some q := ⟨_, List.getElem?_eq_getElem hi⟩
    obtain ⟨x, hx⟩ : ∃ x, (idx L j)[i]? = some x := ⟨_, List.getElem?_eq_getElem (by omega)⟩
    obtain ⟨p, hpb, hlk⟩ := hh x (mem_get hx)
    obtain ⟨f, r, hfr, hf1, hr1⟩ := wl_cons (W := W - 5) (by omega) (hp.2 q (mem_get hq))
    have a1 := rls_at (A := (pairsOf L j).map (wl (W - 5))) (i := i) (ls := f :: r) (by rw [List.getElem?_map, hq, ← hfr]; rfl)
    have a2 := ixR0 (f := f) (r := r)
    have a3 := cutR1 (f := f) (r := r)
    have hs := pgS_len hpb
    have hl1 := rep_len (W - 4 - f.length) 46
    have hl2 := rep_len (4 - (pgS p).length) 32
    have hnext : (dotF W l (idx L j) (pairsOf L j))[i]? = some ((f ++ rep (W - 4 - f.length) 46 ++ (rep (4 - (pgS p).length) 32 ++ pgS p)) :: r) := by
      unfold dotF
      rw [List.getElem?_map, List.getElem?_range hi]
      show some (withP W (pgF l ((idx L j).getD i 0)) (wl (W - 5) ((pairsOf L j).getD i ([], [])))) = _
      rw [List.getD_eq_getElem?_getD, hx, List.getD_eq_getElem?_getD, hq]
      show some (withP W ((lkI l ((x + 1 : Nat) : Int)).getD 0) (wl (W - 5) q)) = _
      rw [hlk, hfr]; rfl
    have htk : ((dotF W l (idx L j) (pairsOf L j)).take (i + 1)).flatten = ((dotF W l (idx L j) (pairsOf L j)).take i).flatten ++ ((f ++ rep (W - 4 - f.length) 46 ++ (rep (4 - (pgS p).length) 32 ++ pgS p)) :: r) := by rw [List.take_add_one, hnext]; simp
    have hdl2 : (dotF W l (idx L j) (pairsOf L j)).length ≤ 14 := hd2.1
    have hi14 : i < 14 := by omega
    clear hnext hd
    generalize dotF W l (idx L j) (pairsOf L j) = DF at *
    unfold ld_body
    walk_at "m0"
    refine wS_seq (wS_set ?_)
    repeat' (first | walk_at "m2" | walk_at "m1" | walk_at "mE" | walk_at "mA" | walk_at "m0")
    refine wS_seq ?_
    refine wS_forV (ds := pgT l) rfl (if_pos ig) (by simpa [imm] using ig) ?_
    refine in_ok nd hb hl hx fun x9 x10 => ?_
    rw [hlk]
    simp only [pgO]
    generalize D.rol (rls ((pairsOf L j).map (wl (W - 5)))) = T at *
    generalize D.rol (lns (f :: r)) = T3 at *
    have ilr := lns_imm r
    refine wS_seq (wS_set ?_)
    repeat' (first | walk_at "m2" | walk_at "m1" | walk_at "mE" | walk_at "mA" | walk_at "m0")
    refine wS_seq (wS_set ?_)
    repeat' (first | walk_at "m2" | walk_at "m1" | walk_at "mE" | walk_at "mA" | walk_at "m0")
    refine w0_rep (by omega) ?_
    rw [show ((W : Int) - 4 - (f.length : Int)).toNat = W - 4 - f.length by omega]
    repeat' (first | walk_at "m2" | walk_at "m1" | walk_at "mE" | walk_at "mA" | walk_at "m0")
    refine w0_repN (by omega) ?_
    rw [show ((4 : Int) - ((pgS p).length : Int)).toNat = 4 - (pgS p).length by omega]
    repeat' (first | walk_at "m2" | walk_at "m1" | walk_at "mE" | walk_at "mA" | walk_at "m0")
    rw [List.append_assoc (f ++ _)]
    generalize hz : f ++ rep (W - 4 - f.length) 46 ++ (rep (4 - (pgS p).length) 32 ++ pgS p) = z at *
    refine wS_set ?_
    repeat' (first | walk_at "m2" | walk_at "m1" | walk_at "mE" | walk_at "mA" | walk_at "m0")
    refine w0_addL (lns_imm _) rfl (by rw [lns_len]; show _ + 1 ≤ _; omega) ?_
    repeat' (first | walk_at "m2" | walk_at "m1" | walk_at "mE" | walk_at "mA" | walk_at "m0")
    refine w0_addL (by rw [imms_append, lns_imm]; rfl) ilr (by rw [List.length_append, lns_len, lns_len]; show _ + 1 + _ ≤ _; omega) ?_
    have e2 : lns (DF.take i).flatten ++ [D.str z] ++ lns r = lns (DF.take (i + 1)).flatten := by rw [htk, lns_app, List.append_assoc]; rfl
    rw [e2]
    exact ⟨_, _, _, _, _, by rw [htk, List.length_append]; simp only [List.length_cons]; omega, rfl⟩
  · obtain ⟨x7, x8, x9, x10, x11, hfl, rfl⟩ := hI
    rw [range_len, Int.toNat_natCast, ← hdl, List.take_length]
    have := lns_imm (dotF W l (idx L j) (pairsOf L j)).flatten
    repeat' walk_at "m"
    all_goals first | rfl | exact ⟨this, rfl⟩

/-! ### facts of the blocks -/
theorem pb_mem {kf : Par → Nm} {W : Nat} : ∀ {i : Nat} {l : List Par} {b : Blk}, b ∈ pb kf W i l ↔ ∃ m p, l[m]? = some p ∧ blockP W p ≠ [] ∧ b = (((i + m + 1 : Nat) : Int), kf p, blockP W p)
  | i, [], b => ⟨fun h => by simp [pb] at h, fun ⟨m, p, h, _⟩ => by simp at h⟩
  | i, q :: l, b => by
    rw [pb, List.mem_append, pb_mem]
    constructor
    · rintro (h | ⟨m, p, h1, h2, h3⟩)
      · by_cases hq : blockP W q = []
        · rw [if_pos hq] at h; simp at h
        · rw [if_neg hq] at h
          exact ⟨0, q, rfl, hq, by rw [List.mem_singleton.mp h]⟩
      · exact ⟨m + 1, p, by simpa using h1, h2, by rw [h3, show i + 1 + m + 1 = i + (m + 1) + 1 by omega]⟩
    · rintro ⟨m, p, h1, h2, h3⟩
      cases m with
      | zero =>
        have : q = p := Option.some.inj h1
        subst this
        exact .inl (by rw [if_neg h2, h3]; exact List.mem_singleton.mpr rfl)
      | succ m => exact .inr ⟨m, p, by simpa using h1, h2, by rw [h3, show i + 1 + m + 1 = i + (m + 1) + 1 by omega]⟩
def RN (a b : Blk) : Prop := (0 < a.1 → a.1 ≠ b.1) ∧ (0 < b.1 → a.1 ≠ b.1)
theorem pb_pw (kf : Par → Nm) (W : Nat) : ∀ (i : Nat) (l : List Par), (pb kf W i l).Pairwise RN
  | i, [] => List.Pairwise.nil
  | i, q :: l => by
    rw [pb]
    refine List.pairwise_append.mpr ⟨by split <;> simp, pb_pw kf W (i + 1) l, fun a ha b hb => ?_⟩
    obtain ⟨m, p, _, _, rfl⟩ := pb_mem.mp hb
    split at ha
    · simp at ha
    · rw [List.mem_singleton.mp ha]
      have : ((i + 1 : Nat) : Int) ≠ ((i + 1 + m + 1 : Nat) : Int) := by omega
      exact ⟨fun _ => this, fun _ => this⟩
theorem fb_mem {fk : Nm} {F : List Flt} {b : Blk} (h : b ∈ fb fk F) : b = (0, fk, F.map fline) ∧ F ≠ [] := by
  unfold fb at h
  split at h
  · simp at h
  · rename_i hF; exact ⟨List.mem_singleton.mp h, hF⟩
theorem blocks_num (W : Nat) (ps : List Par) (F : List Flt) : NumOk (blocksP W ps F) := by
  have pw : (blocksP W ps F).Pairwise RN := by
    refine List.pairwise_append.mpr ⟨pb_pw _ _ _ _, by unfold fb; split <;> simp, fun a ha b hb => ?_⟩
    obtain ⟨m, p, _, _, rfl⟩ := pb_mem.mp ha
    obtain ⟨rfl, _⟩ := fb_mem hb
    have : ((0 + m + 1 : Nat) : Int) ≠ 0 := by omega
    exact ⟨fun _ => this, fun _ => this⟩
  intro i j hi hj hp he
  rw [List.pairwise_iff_getElem] at pw
  have e : ∀ k (h : k < (blocksP W ps F).length), nb (blocksP W ps F) k = (blocksP W ps F)[k].1 := fun k h => by unfold nb; rw [List.getD_eq_getElem?_getD, List.getElem?_eq_getElem h]; rfl
  rcases Nat.lt_trichotomy i j with h | h | h
  · exact ((pw i j hi hj h).1 (by rw [← e]; exact hp) (by rw [← e, ← e]; exact he)).elim
  · exact h
  · exact ((pw j i hj hi h).2 (by rw [← e]; exact hp) (by rw [← e, ← e]; exact he.symm)).elim
theorem blocks_small {W : Nat} {ps : List Par} {F : List Flt} (hW : 20 ≤ W ∧ W ≤ 100) (g1 : ps.length ≤ 14) (g2 : ∀ p ∈ ps, PGood p) (g3 : F.length ≤ 8) : SmallB (blocksP W ps F) := by
  constructor
  · unfold blocksP
    rw [List.length_append]
    have := pb_len kP W 0 ps
    have : (fb (lit "fault") F).length ≤ 1 := by unfold fb; split <;> simp
    omega
  · intro b hb
    rcases List.mem_append.mp hb with h | h
    · obtain ⟨m, p, h1, h2, rfl⟩ := pb_mem.mp h
      exact ⟨List.length_pos_iff.mpr h2, block_len (g2 p (mem_get h1)) hW⟩
    · obtain ⟨rfl, hF⟩ := fb_mem h
      have := List.length_pos_iff.mpr hF
      have e : (F.map fline).length = F.length := List.length_map _
      exact ⟨by show 1 ≤ (F.map fline).length; omega, by show (F.map fline).length ≤ _; omega⟩
theorem par_q {L : List Par} {i : Nat} (h : i < L.length) : L[i]? = some (L.getD i (.fault [])) := by
  rw [List.getD_eq_getElem?_getD, List.getElem?_eq_getElem h]; rfl
theorem blocks_has {W H : Nat} {L : List Par} {F : List Flt} (hW : 20 ≤ W ∧ W ≤ 100) (hH : 5 ≤ H ∧ H ≤ 100) (g1 : L.length ≤ 14) (g2 : ∀ p ∈ L, PGood p) (g3 : F.length ≤ 8) (j : Nat) : Has (pgs (blocksP W L F) H) (idx L j) := by
  intro i hi
  obtain ⟨hi1, hi2⟩ := List.mem_filter.mp hi
  have hi1 := List.mem_range.mp hi1
  have hb : (((0 + i + 1 : Nat) : Int), kP (L.getD i (.fault [])), blockP W (L.getD i (.fault []))) ∈ blocksP W L F := List.mem_append.mpr (.inl (pb_mem.mpr ⟨i, _, par_q hi1, block_pos (g2 _ (getD_mem hi1)) hW hi2, rfl⟩))
  obtain ⟨m, hm, e⟩ := List.mem_iff_getElem.mp hb
  have hnb : nb (blocksP W L F) m = ((i + 1 : Nat) : Int) := by
    unfold nb
    rw [List.getD_eq_getElem?_getD, List.getElem?_eq_getElem hm, e]
    show ((0 + i + 1 : Nat) : Int) = _
    omega
  refine ⟨(start (blocksP W L F) H m).1, start_bd (blocks_small hW g1 g2 g3) hH hm, ?_⟩
  have := lkI_mem (pgsN_nodup (H := H) (blocks_num W L F) _ (Nat.le_refl _)) (pgsN_mem.mpr ⟨m, hm, by rw [hnb]; omega, rfl⟩)
  rw [← hnb]
  exact this
/-! ### a block's lines as they are printed -/
def outP (W : Nat) (L : List Par) (l : List Pg) (ls : Ls) : Par → Ls
  | .list j ps => (dotF W l (idx L j) ps).flatten
  | _ => ls
def outB (W : Nat) (L : List Par) (l : List Pg) (b : Blk) : Ls := if 0 < b.1 then outP W L l b.2.2 (L.getD (b.1 - 1).toNat (.fault [])) else b.2.2
theorem map_getD {α β : Type} (f : α → β) (d : α) (l : List α) : (List.range l.length).map (fun m => f (l.getD m d)) = l.map f := by
  apply List.ext_getElem (by simp)
  intro i h1 h2
  rw [List.length_map] at h2
  rw [List.getElem_map, List.getElem_map, List.getElem_range, List.getD_eq_getElem?_getD, List.getElem?_eq_getElem h2]
  rfl
theorem outP_len {W : Nat} {L : List Par} {l : List Pg} (p : Par) : (outP W L l (blockP W p) p).length = (blockP W p).length := by
  cases p with
  | doc k n num t => rfl
  | fault t => rfl
  | list j ps =>
    show ((dotF W l (idx L j) ps).flatten).length = ((ps.map (wl (W - 5))).flatten).length
    rw [List.length_flatten, List.length_flatten]
    congr 1
    unfold dotF
    rw [List.map_map, List.map_map, ← map_getD _ ([], []) ps]
    exact List.map_congr_left fun m _ => withP_len _ _ _
theorem out_cases {W : Nat} {L : List Par} {F : List Flt} {l : List Pg} {b : Blk} (hb : b ∈ blocksP W L F) : (∃ m p, m < L.length ∧ L[m]? = some p ∧ b = (((m + 1 : Nat) : Int), kP p, blockP W p) ∧ outB W L l b = outP W L l (blockP W p) p) ∨ (b = (0, lit "fault", F.map fline) ∧ outB W L l b = b.2.2) := by
  rcases List.mem_append.mp hb with h | h
  · obtain ⟨m, p, h1, h2, rfl⟩ := pb_mem.mp h
    obtain ⟨hm, _⟩ := List.getElem?_eq_some_iff.mp h1
    rw [show 0 + m + 1 = m + 1 by omega]
    refine .inl ⟨m, p, hm, h1, rfl, ?_⟩
    unfold outB
    rw [if_pos (by show (0 : Int) < ((m + 1 : Nat) : Int); omega)]
    show outP W L l (blockP W p) (L.getD (((m + 1 : Nat) : Int) - 1).toNat (.fault [])) = _
    rw [show (((m + 1 : Nat) : Int) - 1).toNat = m by omega, List.getD_eq_getElem?_getD, h1]; rfl
  · obtain ⟨rfl, _⟩ := fb_mem h
    exact .inr ⟨rfl, if_neg (show ¬ (0 : Int) < 0 by decide)⟩
theorem out_len {W : Nat} {L : List Par} {F : List Flt} {l : List Pg} {b : Blk} (hb : b ∈ blocksP W L F) : (outB W L l b).length = b.2.2.length := by
  rcases out_cases (l := l) hb with ⟨m, p, _, _, rfl, e⟩ | ⟨rfl, e⟩
  · rw [e]; exact outP_len p
  · rw [e]

/-! ### the program's printed lines -/
theorem plines_ok {L : List Par} {F : List Flt} {W : Nat} {l : List Pg} {b : Blk} (hW : 20 ≤ W ∧ W ≤ 100) (g1 : L.length ≤ 14) (g2 : ∀ p ∈ L, PGood p) (gc : Cons L) (hb : b ∈ blocksP W L F) (hh : ∀ j, Has l (idx L j)) :
    w1 (m_printed_lines [viewD L F, blkD b, .int W, .rdc (pgD l)]) (· = .tup (lns (outB W L l b))) := by
  have iv := view_imm L F
  have ip := pars_imm L
  have ib := blk_imm b
  apply w1_def (by simp [imms, imm, iv, ib])
  unfold b_printed_lines
  have v1 : fIx (viewD L F) (.int 1) = some (.tup (L.map parD)) := rfl
  generalize viewD L F = V at *
  rcases out_cases (l := l) hb with ⟨m, p, hm, hp, rfl, e⟩ | ⟨rfl, e⟩
  · have hg := g2 p (mem_get hp)
    have k1 := w1_is (is_listing_ok p hg)
    have q := (par_at hm).2
    have hpd : L.getD m (.fault []) = p := by rw [List.getD_eq_getElem?_getD, hp]; rfl
    rw [hpd] at q
    have e1 : ((m + 1 : Nat) : Int) - 1 = (m : Int) := by omega
    have ipp := par_imm p
    have i1 : imms [parD p] = true := by simp [imms, ipp]
    have hn : ¬ ((m + 1 : Nat) : Int) = 0 := by omega
    have ev : (D.int ((m + 1 : Nat) : Int)).eqv (D.int 0) = false := by rw [eqv_int]; exact decide_eq_false hn
    rw [e]
    unfold blkD
    have il := lns_imm (blockP W p)
    simp only
    cases p with
    | doc k n num t =>
      generalize parD (.doc k n num t) = P at *
      generalize ((m + 1 : Nat) : Int) = M at *
      repeat' (first | walk_at "m" | rw [e1])
      all_goals first | rfl | (rename_i h1 h2; first | (rw [ev] at h1; cases h1) | cases h2)
    | fault t =>
      generalize parD (.fault t) = P at *
      generalize ((m + 1 : Nat) : Int) = M at *
      repeat' (first | walk_at "m" | rw [e1])
      all_goals first | rfl | (rename_i h1 h2; first | (rw [ev] at h1; cases h1) | cases h2)
    | list j ps =>
      have hc := gc j ps (mem_get hp)
      subst hc
      have k2 := w1_is (plisting_ok (j := j) g1 g2 hg.1 hW (hh j))
      have i2 : imms [.tup (L.map parD), parD (.list j (pairsOf L j)), .int W, .rdc (pgD l)] = true := by
        simp [imms, imm, ip, ipp]
      generalize parD (.list j (pairsOf L j)) = P at *
      generalize D.rdc (pgD l) = X at *
      generalize ((m + 1 : Nat) : Int) = M at *
      repeat' (first | walk_at "m" | rw [e1])
      all_goals first | rfl | (rename_i h1 h2; first | (rw [ev] at h1; cases h1) | cases h2)
  · rw [e]
    unfold blkD
    have il := lns_imm (F.map fline)
    simp only
    repeat' walk_at "m"
    all_goals rfl

/-! ### the sheets -/
def shD (S : List Ls) : List D := S.map fun ls => .lst (lns ls)
@[simp] theorem shD_len (S : List Ls) : (shD S).length = S.length := List.length_map _
def grow (S : List Ls) (n : Nat) : List Ls := S ++ List.replicate (n + 1 - S.length) []
def padr (ls : Ls) (c : Nat) : Ls := ls ++ List.replicate (c - ls.length) []
def placeR (S : List Ls) (n c : Nat) (z : Nm) : List Ls := (grow S n).set n (padr ((grow S n).getD n []) c ++ [z])
def place (H : Nat) (S : List Ls) (a : Nat) (z : Nm) : List Ls := placeR S (a / H) (a % H) z
def places (H : Nat) : List Ls → Nat → Ls → List Ls
  | S, _, [] => S
  | S, a, z :: Z => places H (place H S a z) (a + 1) Z
theorem places_snoc (H : Nat) (z : Nm) : ∀ (Z : Ls) (S : List Ls) (a : Nat), places H S a (Z ++ [z]) = place H (places H S a Z) (a + Z.length) z
  | [], S, a => rfl
  | y :: Z, S, a => by
    show places H (place H S a y) (a + 1) (Z ++ [z]) = place H (places H (place H S a y) (a + 1) Z) (a + (Z.length + 1)) z
    rw [places_snoc H z Z, show a + 1 + Z.length = a + (Z.length + 1) by omega]
def Bef (H : Nat) (S : List Ls) (a : Nat) : Prop := S.length ≤ a / H + 1 ∧ ∀ i ls, S[i]? = some ls → i * H + ls.length ≤ a ∧ ls.length ≤ H
theorem Bef.up {H a b : Nat} {S : List Ls} (h : Bef H S a) (ha : a ≤ b) : Bef H S b := ⟨Nat.le_trans h.1 (Nat.succ_le_succ (Nat.div_le_div_right ha)), fun i ls q => ⟨Nat.le_trans (h.2 i ls q).1 ha, (h.2 i ls q).2⟩⟩
theorem Bef.grow {H a : Nat} {S : List Ls} (h : Bef H S a) : (grow S (a / H)).length = a / H + 1 ∧ ∀ i ls, (LK53.grow S (a / H))[i]? = some ls → i * H + ls.length ≤ a ∧ ls.length ≤ H := by
  have h1 := h.1
  have hl : (LK53.grow S (a / H)).length = a / H + 1 := by unfold LK53.grow; rw [List.length_append, List.length_replicate]; omega
  refine ⟨hl, fun i ls q => ?_⟩
  obtain ⟨hi, _⟩ := List.getElem?_eq_some_iff.mp q
  rw [hl] at hi
  unfold LK53.grow at q
  by_cases hs : i < S.length
  · rw [List.getElem?_append_left hs] at q
    exact h.2 i ls q
  · rw [List.getElem?_append_right (by omega), List.getElem?_replicate] at q
    split at q
    · have := Option.some.inj q
      subst this
      have h2 : i * H ≤ a / H * H := Nat.mul_le_mul_right H (by omega)
      have h3 := Nat.div_mul_le_self a H
      exact ⟨by show i * H + 0 ≤ a; omega, Nat.zero_le _⟩
    · cases q
theorem Bef.at {H a : Nat} {S : List Ls} (h : Bef H S a) : (LK53.grow S (a / H))[a / H]? = some ((LK53.grow S (a / H)).getD (a / H) []) ∧ ((LK53.grow S (a / H)).getD (a / H) []).length ≤ a % H := by
  obtain ⟨h1, h2⟩ := h.grow
  have q : (LK53.grow S (a / H))[a / H]? = some ((LK53.grow S (a / H)).getD (a / H) []) := by
    rw [List.getD_eq_getElem?_getD, List.getElem?_eq_getElem (by omega)]; rfl
  have := (h2 _ _ q).1
  have h3 := Nat.div_add_mod a H
  rw [Nat.mul_comm] at h3
  exact ⟨q, by omega⟩
theorem padr_len {ls : Ls} {c : Nat} (h : ls.length ≤ c) : (padr ls c).length = c := by unfold padr; rw [List.length_append, List.length_replicate]; omega
theorem Bef.place {H a : Nat} {S : List Ls} {z : Nm} (hH : 0 < H) (h : Bef H S a) : Bef H (place H S a z) (a + 1) ∧ (LK53.place H S a z).length = a / H + 1 ∧ ∃ x, (LK53.place H S a z)[a / H]? = some x ∧ x.length = a % H + 1 := by
  obtain ⟨h1, h2⟩ := h.grow
  obtain ⟨_, h3⟩ := h.at
  have hx : (padr ((LK53.grow S (a / H)).getD (a / H) []) (a % H) ++ [z]).length = a % H + 1 := by rw [List.length_append, padr_len h3]; rfl
  have hm := Nat.mod_lt a hH
  have hd := Nat.div_add_mod a H
  rw [Nat.mul_comm] at hd
  have hl : (LK53.place H S a z).length = a / H + 1 := by unfold LK53.place placeR; rw [List.length_set]; exact h1
  refine ⟨⟨by rw [hl]; exact Nat.succ_le_succ (Nat.div_le_div_right (Nat.le_succ a)), fun i ls q => ?_⟩, hl, _, by unfold LK53.place placeR; rw [List.getElem?_set_self (by omega)], hx⟩
  unfold LK53.place placeR at q
  rw [List.getElem?_set] at q
  split at q
  · rename_i hi
    rw [if_pos (by omega)] at q
    have := Option.some.inj q
    subst this
    subst hi
    rw [hx]
    omega
  · have := h2 i ls q
    omega
theorem Bef.places {H : Nat} (hH : 0 < H) : ∀ {Z : Ls} {S : List Ls} {a : Nat}, Bef H S a → Bef H (places H S a Z) (a + Z.length)
  | [], S, a, h => h
  | z :: Z, S, a, h => by
    have := Bef.places hH (Z := Z) (Bef.place (z := z) hH h).1
    rw [show a + 1 + Z.length = a + (Z.length + 1) by omega] at this
    exact this
theorem grow_snoc {S : List Ls} {n : Nat} (h : S.length < n + 1) : grow (S ++ [[]]) n = grow S n := by
  unfold grow
  rw [List.length_append, List.append_assoc]
  congr 1
  rw [show n + 1 - S.length = (n + 1 - (S.length + 1)) + 1 by omega, List.replicate_succ]; rfl
theorem grow_full {S : List Ls} {n : Nat} (h : S.length = n + 1) : grow S n = S := by
  unfold grow
  rw [h, Nat.sub_self]
  exact List.append_nil _
theorem padr_snoc {g : Ls} {c : Nat} (h : g.length < c) : padr (g ++ [[]]) c = padr g c := by
  unfold padr
  rw [List.length_append, List.append_assoc]
  congr 1
  rw [show c - g.length = (c - (g.length + 1)) + 1 by omega, List.replicate_succ]; rfl
theorem padr_full {g : Ls} {c : Nat} (h : c ≤ g.length) : padr g c = g := by
  unfold padr
  rw [Nat.sub_eq_zero_of_le h]
  exact List.append_nil _
theorem w0_appD {ds : List D} {d : D} {Q : D × D → Prop} (h : ds.length ≤ 10000000) (q : Q (.non, .lst (ds ++ [d]))) : w0 (fAppend (.lst ds) [d]) Q :=
  w0_of (show (if ds.length < sizeLine then some (D.non, D.lst (ds ++ [d])) else none) = _ by rw [if_pos (by have : sizeLine = 16777216 := rfl; omega)]) q
noncomputable def wh_grow : MS := (mWh (tst (ofN (bin fLt (cal fLen (aCons (bVar 0) aNil)) (bin fAdd (bVar 1) (bVar 6)))))
  (mExpr (eMut 0 fAppend (acons (ofN (dLst aNil)) anil))))
theorem grow_ok {S : List Ls} {n : Nat} {p d : Int} (hp : p + d = ((n + 1 : Nat) : Int)) (hn : n ≤ 2000000) (hS : S.length ≤ n + 1) {x2 x3 x4 x5 x7 x8 : Option D} {N B C : E → Prop} {R : D → E → Prop}
    (h : N [some (.lst (shD (grow S n))), some (.int p), x2, x3, x4, x5, some (.int d), x7, x8]) :
    wS (wh_grow [some (.lst (shD S)), some (.int p), x2, x3, x4, x5, some (.int d), x7, x8]) N R B C := by
  unfold wh_grow
  refine wS_wh (fun m e => Hold (∃ S', m = n + 1 - S'.length ∧ S'.length ≤ n + 1 ∧ grow S' n = grow S n ∧ e = [some (.lst (shD S')), some (.int p), x2, x3, x4, x5, some (.int d), x7, x8])) (n + 1 - S.length) (by show _ < 1000000000; omega) ⟨S, rfl, hS, rfl, rfl⟩ (fun m e hI => ?_)
  obtain ⟨S', rfl, h1, h2, rfl⟩ := hI
  have hl := shD_len S'
  repeat' walk_at "m"
  · rename_i hc
    refine ⟨n + 1 - (S' ++ [[]]).length, ?_, S' ++ [[]], rfl, by rw [List.length_append]; show S'.length + 1 ≤ _; omega, by rw [grow_snoc (by omega)]; exact h2, by unfold shD; rw [List.map_append]; rfl⟩
    rw [List.length_append]; show n + 1 - (S'.length + 1) < _; omega
  · rename_i hc
    rw [← h2, grow_full (by omega)] at h
    exact h
noncomputable def wh_pad : MS := (mWh (tst (ofN (bin fLt (cal fLen (aCons (bVar 8) aNil)) (bVar 7))))
  (mExpr (eMut 8 fAppend (acons (ofN (bC (.str []))) anil))))
theorem padr_ok {g : Ls} {c : Nat} (hc : c ≤ 1000) {x0 x1 x2 x3 x4 x5 x6 : Option D} {N B C : E → Prop} {R : D → E → Prop} (hg : g.length ≤ c)
    (h : N [x0, x1, x2, x3, x4, x5, x6, some (.int (c : Int)), some (.lst (lns (padr g c)))]) :
    wS (wh_pad [x0, x1, x2, x3, x4, x5, x6, some (.int (c : Int)), some (.lst (lns g))]) N R B C := by
  unfold wh_pad
  refine wS_wh (fun m e => Hold (∃ g', m = c - g'.length ∧ g'.length ≤ c ∧ padr g' c = padr g c ∧ e = [x0, x1, x2, x3, x4, x5, x6, some (.int (c : Int)), some (.lst (lns g'))])) (c - g.length) (by show _ < 1000000000; omega) ⟨g, rfl, hg, rfl, rfl⟩ (fun m e hI => ?_)
  obtain ⟨g', rfl, h1, h2, rfl⟩ := hI
  have hl := lns_len g'
  repeat' walk_at "m"
  · rename_i hc
    refine ⟨c - (g' ++ [[]]).length, ?_, g' ++ [[]], rfl, by rw [List.length_append]; show g'.length + 1 ≤ _; omega, by rw [padr_snoc (by omega)]; exact h2, by rw [lns_app]; rfl⟩
    rw [List.length_append]; show c - (g'.length + 1) < _; omega
  · rename_i hc
    rw [← h2, padr_full (by omega)] at h
    exact h

/-! ### put_lines -/
noncomputable def pl_body : MS := (mSeq (mAsg (gT [6, 7]) (ofN (cal fDivmod (aCons (bin fAdd (bVar 2) (bVar 5)) (aCons (bVar 4) aNil)))))
  (mSeq wh_grow
  (mBor 0 8 (pIx 0 pNil (bin fSub (bin fAdd (bVar 1) (bVar 6)) (bC (.int 1))))
  (mSeq wh_pad
  (mExpr (eMut 8 fAppend (acons (own (bin fIx (bVar 3) (bVar 5))) anil)))))))
def at0 (H p u : Nat) : Nat := u + (p - 1) * H
theorem at_div {H p u i : Nat} (hH : 0 < H) : (at0 H p u + i) / H = (u + i) / H + (p - 1) ∧ (at0 H p u + i) % H = (u + i) % H := by
  unfold at0
  rw [show u + (p - 1) * H + i = u + i + (p - 1) * H by omega]
  exact ⟨Nat.add_mul_div_right _ _ hH, Nat.add_mul_mod_self_right _ _ _⟩
theorem pl_ok {S : List Ls} {p u H i : Nat} {Z : Ls} {z : Nm} (hp : 1 ≤ p ∧ p ≤ 1000000) (hu : u ≤ 100) (hZ : Z.length ≤ 30000) (hH : 5 ≤ H ∧ H ≤ 100) (hB : Bef H S (at0 H p u + i)) (hz : Z[i]? = some z) {x6 x7 x8 : Option D} {N B C : E → Prop} {R : D → E → Prop}
    (h : ∀ x6 x7, N [some (.lst (shD (place H S (at0 H p u + i) z))), some (.int p), some (.int u), some (.tup (lns Z)), some (.int H), some (.int (i : Int)), x6, x7, none]) :
    wS (pl_body [some (.lst (shD S)), some (.int p), some (.int u), some (.tup (lns Z)), some (.int H), some (.int (i : Int)), x6, x7, x8]) N R B C := by
  obtain ⟨hi, _⟩ := List.getElem?_eq_some_iff.mp hz
  obtain ⟨d1, d2⟩ := at_div (H := H) (p := p) (u := u) (i := i) (by omega)
  have hq : (u + i) / H ≤ (u + i) / 1 := Nat.div_le_div_left (by omega) (by omega)
  rw [Nat.div_one] at hq
  obtain ⟨b1, b2⟩ := hB.grow
  obtain ⟨b3, b4⟩ := hB.at
  have b0 := hB.1
  have hm : (u + i) % H < H := Nat.mod_lt _ (by omega)
  have hz2 : fIx (.tup (lns Z)) (.int (i : Int)) = some (.str z) := by
    show atI (lns Z) (i : Int) = _
    unfold atI ixN
    rw [if_pos (by omega), if_pos (by rw [lns_len]; omega)]
    show (lns Z)[i]? = _
    unfold lns
    rw [List.getElem?_map, hz]; rfl
  have hpl : place H S (at0 H p u + i) z = (grow S ((u + i) / H + (p - 1))).set ((u + i) / H + (p - 1)) (padr ((grow S ((u + i) / H + (p - 1))).getD ((u + i) / H + (p - 1)) []) ((u + i) % H) ++ [z]) := by
    unfold place placeR
    rw [d1, d2]
  have iZ := lns_imm Z
  rw [d1] at b0 b1 b2 b3 b4
  rw [d2] at b4
  rw [hpl] at h
  have e1 : (u : Int) + (i : Int) = ((u + i : Nat) : Int) := by omega
  have e2 : ((u + i : Nat) : Int) / (H : Int) = (((u + i) / H : Nat) : Int) := rfl
  have e3 : ((u + i : Nat) : Int) % (H : Int) = (((u + i) % H : Nat) : Int) := rfl
  unfold pl_body
  refine wS_seq (wS_asg ?_)
  generalize D.tup (lns Z) = T at *
  repeat' (first | walk_at "m2" | walk_at "m1" | walk_at "mE" | walk_at "mA" | rw [e1] | walk_at "m0")
  rw [e2, e3]
  clear e2 e3 d1 d2
  generalize (u + i) / H = dd at *
  generalize (u + i) % H = mm at *
  refine wS_seq (grow_ok (S := S) (n := dd + (p - 1)) (by omega) (by omega) b0 ?_)
  have sl : (shD (grow S (dd + (p - 1)))).length = dd + (p - 1) + 1 := by rw [shD_len, b1]
  refine wS_bor1 rfl (show (8 : Nat) < 9 by decide) ?_
  repeat' (first | walk_at "m2" | walk_at "m1" | walk_at "mE" | walk_at "mA" | walk_at "m0")
  refine ⟨dd + (p - 1), .lst (lns ((grow S (dd + (p - 1))).getD (dd + (p - 1)) [])), ?_, by unfold shD; rw [List.getElem?_map, b3]; rfl, ?_⟩
  · unfold ixN
    rw [sl, if_pos (by omega), if_pos (by omega)]
    congr 1
    omega
  refine wS_seq (padr_ok (by omega) b4 ?_)
  have hpd := padr_len b4
  have hpd2 := lns_len (padr ((grow S (dd + (p - 1))).getD (dd + (p - 1)) []) (mm))
  repeat' walk_at "m"
  have := h (some (.int ((dd : Nat) : Int))) (some (.int ((mm : Nat) : Int)))
  unfold shD at this ⊢
  rw [List.map_set, lns_app] at this
  exact this
theorem w0_outs0 {d0 j a b c f : D} {e : E} {Q : List D → Prop} (h : e[0]? = some (some j)) (ia : imm a = true) (ib : imm b = true) (ic : imm c = true) (iF : imm f = true) (q : Q [j, a, b, c, f]) : w0 (outsOf (fun i => i == 0) 0 [d0, a, b, c, f] e) Q := by
  have h3 : ∀ e', outsOf (fun i => i == 0) 1 [a, b, c, f] e' = some [a, b, c, f] := fun e' => by simp [outsOf, ia, ib, ic, iF]
  refine w0_of (a := [j, a, b, c, f]) ?_ q
  rw [outsOf]
  simp only [h, h3]
  rfl
theorem put_ok {S : List Ls} {p u H : Nat} {Z : Ls} (hp : 1 ≤ p ∧ p ≤ 1000000) (hu : u ≤ 100) (hZ : Z.length ≤ 30000) (hH : 5 ≤ H ∧ H ≤ 100) (hB : Bef H S (at0 H p u)) :
    wD (m_put_lines [.lst (shD S), .int p, .int u, .tup (lns Z), .int H]) (fun d os => d = .non ∧ os = [.lst (shD (places H S (at0 H p u) Z)), .int p, .int u, .tup (lns Z), .int H]) := by
  have hl := lns_len Z
  have iZ := lns_imm Z
  apply wD_def
  unfold b_put_lines
  rw [l_0]
  repeat' walk_at "m"
  refine wS_loop0 (fun k e => Hold (∃ x5 x6 x7, e = [some (.lst (shD (places H S (at0 H p u) (Z.take k)))), some (.int p), some (.int u), some (.tup (lns Z)), some (.int H), x5, x6, x7, none])) _ ⟨_, _, _, rfl⟩ (fun i d e hd hI => ?_) (fun e hI => ?_)
  · obtain ⟨hi, rfl⟩ := range_at hd
    obtain ⟨x5, x6, x7, rfl⟩ := hI
    have hi : i < Z.length := by omega
    obtain ⟨z, hz⟩ : ∃ z, Z[i]? = some z := ⟨_, List.getElem?_eq_getElem hi⟩
    have hs := places_snoc H z (Z.take i) S (at0 H p u)
    have htl : (Z.take i).length = i := by rw [List.length_take]; omega
    rw [htl] at hs
    have hb := Bef.places (H := H) (by omega) (Z := Z.take i) hB
    rw [htl] at hb
    have htk : Z.take (i + 1) = Z.take i ++ [z] := by rw [List.take_add_one, hz]; rfl
    rw [show (0 : Int) + (i : Int) = i by omega]
    walk_at "m0"
    refine pl_ok hp hu hZ hH hb hz fun x6 x7 => ?_
    rw [htk, hs]
    exact ⟨_, _, _, rfl⟩
  · obtain ⟨x5, x6, x7, rfl⟩ := hI
    rw [range_len, hl, Int.toNat_natCast, List.take_length]
    repeat' walk_at "m"
    refine w0_outs0 rfl rfl rfl (by simpa [imm] using iZ) rfl ⟨rfl, rfl⟩

/-! ### all blocks on sheets -/
def sheetsN (B : List Blk) (H : Nat) (O : List Ls) : Nat → List Ls
  | 0 => []
  | n + 1 => places H (sheetsN B H O n) (at0 H (start B H n).1 (start B H n).2) (O.getD n [])
theorem step_mod {a H : Nat} (hH : 0 < H) : (a + 1) % H = 0 ∨ ((a + 1) / H = a / H ∧ (a + 1) % H = a % H + 1) := by
  have h := Nat.div_add_mod a H
  have hm := Nat.mod_lt a hH
  rw [Nat.mul_comm] at h
  by_cases q : a % H + 1 < H
  · have e : a + 1 = a % H + 1 + a / H * H := by omega
    right
    constructor
    · conv => lhs; rw [e, Nat.add_mul_div_right _ _ hH, Nat.div_eq_of_lt q, Nat.zero_add]
    · conv => lhs; rw [e, Nat.add_mul_mod_self_right, Nat.mod_eq_of_lt q]
  · left
    have e : a + 1 = (a / H + 1) * H := by rw [Nat.succ_mul]; omega
    rw [e, Nat.mul_mod_left]
theorem places_last {H : Nat} (hH : 0 < H) {Z : Ls} {S : List Ls} {a : Nat} (hB : Bef H S a) {n : Nat} (hZ : Z.length = n + 1) : (places H S a Z).length = (a + n) / H + 1 ∧ ∃ x, (places H S a Z)[(a + n) / H]? = some x ∧ x.length = (a + n) % H + 1 := by
  have hne : Z ≠ [] := fun z => by rw [z] at hZ; simp at hZ
  have e := List.dropLast_concat_getLast hne
  have hl : Z.dropLast.length = n := by rw [List.length_dropLast, hZ]; rfl
  have hb := Bef.places hH (Z := Z.dropLast) hB
  rw [hl] at hb
  have := (Bef.place (z := Z.getLast hne) hH hb).2
  rw [← e, places_snoc, hl]
  exact this
/-- the law's one empty line is enough -/
def Tight (H : Nat) (S : List Ls) (a : Nat) : Prop := a % H ≤ ((grow S (a / H)).getD (a / H) []).length + 1
theorem Tight.of0 {H a : Nat} {S : List Ls} (h : a % H = 0) : Tight H S a := by unfold Tight; omega
theorem Tight.last {H a c : Nat} {S : List Ls} {x : Ls} (h : S.length = a / H + 1) (hx : S[a / H]? = some x) (hl : x.length + 1 ≥ a % H) : Tight H S a := by
  unfold Tight
  rw [grow_full h, List.getD_eq_getElem?_getD, hx]
  exact hl
theorem places_tight {H : Nat} (hH : 0 < H) {Z : Ls} {S : List Ls} {a : Nat} (hB : Bef H S a) (hT : Tight H S a) : Tight H (places H S a Z) (a + Z.length) := by
  cases hn : Z.length with
  | zero =>
    rw [List.length_eq_zero_iff.mp hn]
    exact hT
  | succ n =>
    obtain ⟨h1, x, h2, h3⟩ := places_last hH hB hn
    rcases step_mod (a := a + n) hH with h | ⟨h4, h5⟩
    · exact Tight.of0 h
    · exact Tight.last (c := 0) (a := a + (n + 1)) (by rw [h1]; show _ = (a + n + 1) / H + 1; rw [h4]) (by show (places H S a Z)[(a + n + 1) / H]? = _; rw [h4]; exact h2) (by show x.length + 1 ≥ (a + n + 1) % H; rw [h5, h3]; omega)
theorem sheets_inv {B : List Blk} {H : Nat} {O : List Ls} (hB : SmallB B) (hH : 5 ≤ H ∧ H ≤ 100) (hO : ∀ i, i < B.length → (O.getD i []).length = sz B i) : ∀ n, n ≤ B.length →
    Bef H (sheetsN B H O n) (at0 H (st B H n).1 (st B H n).2) ∧ (n = 0 ∨ ((sheetsN B H O n).length = (st B H n).1 ∧ ∃ x, (sheetsN B H O n)[(st B H n).1 - 1]? = some x ∧ x.length = (st B H n).2))
  | 0, _ => ⟨⟨by simp [sheetsN], fun i ls q => by simp [sheetsN] at q⟩, .inl rfl⟩
  | n + 1, hn => by
    obtain ⟨h1, _⟩ := sheets_inv hB hH hO n (by omega)
    have hs := hB.sz (i := n) (by omega)
    have hl := start_lt (B := B) hH.1 hs.1
    have hp := st_pos (B := B) hH.1 n
    have hup : at0 H (st B H n).1 (st B H n).2 ≤ at0 H (start B H n).1 (start B H n).2 := by
      unfold start start1 at0
      split
      · rename_i z; subst z; exact Nat.le_refl _
      · split
        · show (st B H n).2 + ((st B H n).1 - 1) * H ≤ (st B H n).2 + gp B (n - 1) + ((st B H n).1 - 1) * H; omega
        · show _ ≤ 0 + ((st B H n).1 + 1 - 1) * H
          have : (st B H n).1 * H = ((st B H n).1 - 1) * H + H := by
            conv => lhs; rw [show (st B H n).1 = (st B H n).1 - 1 + 1 by omega, Nat.succ_mul]
          rw [Nat.add_sub_cancel]
          omega
    have h2 := h1.up hup
    have hz := hO n (by omega)
    obtain ⟨m, hm⟩ : ∃ m, sz B n = m + 1 := ⟨sz B n - 1, by omega⟩
    obtain ⟨q1, x, q2, q3⟩ := places_last (H := H) (by omega) (Z := O.getD n []) h2 (n := m) (by omega)
    have hb := Bef.places (H := H) (by omega) (Z := O.getD n []) h2
    obtain ⟨d1, d2⟩ := at_div (H := H) (p := (start B H n).1) (u := (start B H n).2) (i := m) (by omega)
    have e1 : (st B H (n + 1)).1 = (at0 H (start B H n).1 (start B H n).2 + m) / H + 1 := by
      rw [st_succ, d1, hm]
      show (start B H n).1 + ((start B H n).2 + (m + 1) - 1) / H = _
      rw [show (start B H n).2 + (m + 1) - 1 = (start B H n).2 + m by omega]
      omega
    have e2 : (st B H (n + 1)).2 = (at0 H (start B H n).1 (start B H n).2 + m) % H + 1 := by
      rw [st_succ, d2, hm]
      show ((start B H n).2 + (m + 1) - 1) % H + 1 = _
      rw [show (start B H n).2 + (m + 1) - 1 = (start B H n).2 + m by omega]
    refine ⟨?_, .inr ⟨by rw [e1]; exact q1, x, by rw [e1, Nat.add_sub_cancel]; exact q2, by rw [e2]; exact q3⟩⟩
    have e3 : at0 H (st B H (n + 1)).1 (st B H (n + 1)).2 = at0 H (start B H n).1 (start B H n).2 + (O.getD n []).length := by
      rw [hz, hm, e1, e2]
      generalize at0 H (start B H n).1 (start B H n).2 = a0
      unfold at0
      have := Nat.div_add_mod (a0 + m) H
      rw [Nat.mul_comm] at this
      rw [Nat.add_sub_cancel]
      omega
    rw [e3]
    exact hb
theorem sheets_at {B : List Blk} {H : Nat} {O : List Ls} (hB : SmallB B) (hH : 5 ≤ H ∧ H ≤ 100) (hO : ∀ i, i < B.length → (O.getD i []).length = sz B i) {n : Nat} (hn : n < B.length) :
    Bef H (sheetsN B H O n) (at0 H (start B H n).1 (start B H n).2) ∧ Tight H (sheetsN B H O n) (at0 H (start B H n).1 (start B H n).2) := by
  obtain ⟨h1, h2⟩ := sheets_inv hB hH hO n (by omega)
  have hs := hB.sz (i := n) (by omega)
  have hl := start_lt (B := B) hH.1 hs.1
  have hp := st_pos (B := B) hH.1 n
  have hd := at_div (H := H) (p := (start B H n).1) (u := (start B H n).2) (i := 0) (by omega)
  rw [Nat.add_zero, Nat.add_zero, Nat.div_eq_of_lt hl.1, Nat.mod_eq_of_lt hl.1] at hd
  have g := gq_le (kn B (n - 1)) (kn B (n - 1 + 1))
  have key : (at0 H (st B H n).1 (st B H n).2 ≤ at0 H (start B H n).1 (start B H n).2) ∧ ((start B H n).2 = 0 ∨ (n ≠ 0 ∧ (start B H n).1 = (st B H n).1 ∧ (start B H n).2 ≤ (st B H n).2 + 1)) := by
    unfold start start1 at0
    split
    · rename_i z; subst z; exact ⟨Nat.le_refl _, .inl rfl⟩
    · rename_i z
      split
      · exact ⟨by show (st B H n).2 + ((st B H n).1 - 1) * H ≤ (st B H n).2 + gp B (n - 1) + ((st B H n).1 - 1) * H; omega, .inr ⟨z, rfl, by show _ + gq _ _ ≤ _; omega⟩⟩
      · refine ⟨?_, .inl rfl⟩
        show _ ≤ 0 + ((st B H n).1 + 1 - 1) * H
        have : (st B H n).1 * H = ((st B H n).1 - 1) * H + H := by
          conv => lhs; rw [show (st B H n).1 = (st B H n).1 - 1 + 1 by omega, Nat.succ_mul]
        rw [Nat.add_sub_cancel]
        omega
  refine ⟨h1.up key.1, ?_⟩
  rcases key.2 with z | ⟨z, e1, e2⟩
  · exact Tight.of0 (by rw [hd.2]; exact z)
  · rcases h2 with q | ⟨q1, x, q2, q3⟩
    · exact (z q).elim
    · refine Tight.last (c := 0) (x := x) ?_ ?_ ?_
      · rw [q1, hd.1]; omega
      · rw [hd.1, Nat.zero_add, e1]; exact q2
      · rw [hd.2, q3]; omega

/-! ### the law's sheets -/
noncomputable def tg_loop : MS := (mFor (wR (acons (ofN (bin fSub (bin fAdd (bVar 11) (bC (.int 1))) (cal fLen (aCons (bVar 4) aNil)))) anil)) (gN 12)
  (mExpr (eMut 4 fAppend (acons (ofN (dLst aNil)) anil))))
theorem tg_ok {S : List Ls} {n : Nat} (hn : n ≤ 2000000) (hS : S.length ≤ n + 1) {x0 x1 x2 x3 x5 x6 x7 x8 x9 x10 x12 x13 : Option D} {N B C : E → Prop} {R : D → E → Prop}
    (h : ∀ x12, N [x0, x1, x2, x3, some (.lst (shD (grow S n))), x5, x6, x7, x8, x9, x10, some (.int (n : Int)), x12, x13]) :
    wS (tg_loop [x0, x1, x2, x3, some (.lst (shD S)), x5, x6, x7, x8, x9, x10, some (.int (n : Int)), x12, x13]) N R B C := by
  unfold tg_loop
  have hl := shD_len S
  repeat' walk_at "m"
  have e1 : ((n : Int) + 1 - ((shD S).length : Int)).toNat = n + 1 - S.length := by omega
  rw [e1]
  refine wS_loop0 (fun k e => Hold (∃ x12, e = [x0, x1, x2, x3, some (.lst (shD (S ++ List.replicate k []))), x5, x6, x7, x8, x9, x10, some (.int (n : Int)), x12, x13])) _ ⟨x12, by rw [List.replicate_zero, List.append_nil]⟩ (fun i d e hd hI => ?_) (fun e hI => ?_)
  · obtain ⟨hi, rfl⟩ := range_at hd
    obtain ⟨x12, rfl⟩ := hI
    have hk : (shD (S ++ List.replicate i [])).length ≤ 2000001 := by rw [shD_len, List.length_append, List.length_replicate]; omega
    repeat' walk_at "m"
    refine ⟨some (.int (0 + (i : Int))), ?_⟩
    have e2 : shD (S ++ List.replicate (i + 1) []) = shD (S ++ List.replicate i []) ++ [.lst []] := by
      rw [show i + 1 = i + 1 from rfl, List.replicate_succ', ← List.append_assoc]
      unfold shD
      rw [List.map_append]; rfl
    rw [e2]; rfl
  · obtain ⟨x12, rfl⟩ := hI
    rw [range_len]
    exact h _
noncomputable def row_body : MS := (mSeq (mSet 10 (ofN (bin fAdd (bVar 7) (bVar 9))))
  (mSeq (mSet 11 (ofN (bin fAdd (bin fSub (bVar 6) (bC (.int 1))) (bin fDiv (bVar 10) (bVar 3)))))
  (mSeq tg_loop
  (mBor 4 13 (pIx 4 pNil (bVar 11))
  (mSeq (mIf (tst (ofN (bin fLt (cal fLen (aCons (bVar 13) aNil)) (bin fSub (bVar 10) (bin fMul (bin fDiv (bVar 10) (bVar 3)) (bVar 3))))))
  (mExpr (eMut 13 fAppend (acons (ofN (bC (.str []))) anil)))
  mNil)
  (mExpr (eMut 13 fAppend (acons (own (bin fIx (bVar 8) (bVar 9))) anil))))))))
theorem row_ok {S : List Ls} {p u H i : Nat} {Z : Ls} {z : Nm} (hp : 1 ≤ p ∧ p ≤ 1000000) (hu : u ≤ 100) (hZ : Z.length ≤ 30000) (hH : 5 ≤ H ∧ H ≤ 100) (hB : Bef H S (at0 H p u + i)) (hT : Tight H S (at0 H p u + i)) (hz : Z[i]? = some z) {x0 x1 x2 x5 x10 x11 x12 x13 : Option D} {N B C : E → Prop} {R : D → E → Prop}
    (h : ∀ x10 x11 x12, N [x0, x1, x2, some (.int H), some (.lst (shD (place H S (at0 H p u + i) z))), x5, some (.int p), some (.int u), some (.rol (lns Z)), some (.int (i : Int)), x10, x11, x12, none]) :
    wS (row_body [x0, x1, x2, some (.int H), some (.lst (shD S)), x5, some (.int p), some (.int u), some (.rol (lns Z)), some (.int (i : Int)), x10, x11, x12, x13]) N R B C := by
  obtain ⟨hi, _⟩ := List.getElem?_eq_some_iff.mp hz
  obtain ⟨d1, d2⟩ := at_div (H := H) (p := p) (u := u) (i := i) (by omega)
  have hq : (u + i) / H ≤ (u + i) / 1 := Nat.div_le_div_left (by omega) (by omega)
  rw [Nat.div_one] at hq
  obtain ⟨b1, b2⟩ := hB.grow
  obtain ⟨b3, b4⟩ := hB.at
  have b0 := hB.1
  have hm : (u + i) % H < H := Nat.mod_lt _ (by omega)
  have hz2 : fIx (.rol (lns Z)) (.int (i : Int)) = some (.str z) := by
    show atI (lns Z) (i : Int) = _
    unfold atI ixN
    rw [if_pos (by omega), if_pos (by rw [lns_len]; omega)]
    show (lns Z)[i]? = _
    unfold lns
    rw [List.getElem?_map, hz]; rfl
  have hpl : place H S (at0 H p u + i) z = (grow S ((u + i) / H + (p - 1))).set ((u + i) / H + (p - 1)) (padr ((grow S ((u + i) / H + (p - 1))).getD ((u + i) / H + (p - 1)) []) ((u + i) % H) ++ [z]) := by
    unfold place placeR
    rw [d1, d2]
  have iZ := lns_imm Z
  unfold Tight at hT
  rw [d1] at b0 b1 b2 b3 b4
  rw [d1, d2] at hT
  rw [d2] at b4
  rw [hpl] at h
  have e1 : (u : Int) + (i : Int) = ((u + i : Nat) : Int) := by omega
  have e2 : ((u + i : Nat) : Int) / (H : Int) = (((u + i) / H : Nat) : Int) := rfl
  have e5 : ((u + i : Nat) : Int) - (((u + i) / H : Nat) : Int) * (H : Int) = (((u + i) % H : Nat) : Int) := by
    have t := Nat.div_add_mod (u + i) H
    have t2 : (((H * ((u + i) / H) + (u + i) % H : Nat)) : Int) = ((u + i : Nat) : Int) := by rw [t]
    rw [Int.natCast_add, Int.natCast_mul, Int.mul_comm] at t2
    omega
  have e6 : (p : Int) - 1 + (((u + i) / H : Nat) : Int) = (((u + i) / H + (p - 1) : Nat) : Int) := by omega
  have hv : u + i ≤ 30100 := by omega
  generalize hv2 : u + i = v at *
  unfold row_body
  generalize D.rol (lns Z) = T at *
  refine wS_seq (wS_set ?_)
  repeat' (first | walk_at "m2" | walk_at "m1" | walk_at "mE" | walk_at "mA" | rw [e1] | walk_at "m0")
  refine wS_seq (wS_set ?_)
  repeat' (first | walk_at "m2" | walk_at "m1" | walk_at "mE" | walk_at "mA" | rw [e2] | rw [e6] | walk_at "m0")
  clear d1 d2
  generalize v / H = dd at *
  generalize v % H = mm at *
  refine wS_seq (tg_ok (S := S) (n := dd + (p - 1)) (by omega) b0 fun x12 => ?_)
  have sl : (shD (grow S (dd + (p - 1)))).length = dd + (p - 1) + 1 := by rw [shD_len, b1]
  refine wS_bor1 rfl (show (13 : Nat) < 14 by decide) ?_
  repeat' (first | walk_at "m2" | walk_at "m1" | walk_at "mE" | walk_at "mA" | walk_at "m0")
  refine ⟨dd + (p - 1), .lst (lns ((grow S (dd + (p - 1))).getD (dd + (p - 1)) [])), ?_, by unfold shD; rw [List.getElem?_map, b3]; rfl, ?_⟩
  · unfold ixN
    rw [sl, if_pos (by omega), if_pos (by omega)]
    rfl
  generalize hg : (grow S (dd + (p - 1))).getD (dd + (p - 1)) [] = g at *
  have hgl := lns_len g
  refine wS_seq (wS_mono (N := fun e => e = [x0, x1, x2, some (.int (H : Int)), none, x5, some (.int p), some (.int u), some T, some (.int (i : Int)), some (.int (v : Int)), some (.int ((dd + (p - 1) : Nat) : Int)), x12, some (.lst (lns (padr g mm)))]) ?_ (fun e h => ?_) (fun _ _ h => h) (fun _ h => h) (fun _ h => h))
  · refine wS_if ?_
    repeat' (first | walk_at "m2" | walk_at "m1" | walk_at "mE" | walk_at "mA" | rw [e2] | rw [e5] | walk_at "m0")
    · rename_i hc
      have e7 : padr g mm = g ++ [[]] := by rw [← padr_snoc (by omega), padr_full (by rw [List.length_append]; show mm ≤ g.length + 1; omega)]
      rw [e7, lns_app]
      repeat' walk_at "m"
      rfl
    · rename_i hc
      rw [padr_full (by omega)]
      repeat' walk_at "m"
      rfl
  subst h
  have hpd := padr_len b4
  have hpd2 := lns_len (padr g mm)
  repeat' walk_at "m"
  have := h (some (.int (v : Int))) (some (.int ((dd + (p - 1) : Nat) : Int))) x12
  rw [shD, List.map_set, lns_app] at this
  exact this

/-! ### the law's sheets, all -/
noncomputable def ls_body : MS := (mSeq (mAsg (gT [6, 7]) (own (bin fIx (bVar 1) (bVar 5))))
  (mSeq (mSet 8 (own (bin fIx (bVar 2) (bVar 5))))
  (mFor (wR (acons (ofN (cal fLen (aCons (bVar 8) aNil))) anil)) (gN 9) row_body)))
theorem sheets_len {B : List Blk} {H : Nat} {O : List Ls} (hB : SmallB B) (hH : 5 ≤ H ∧ H ≤ 100) (hO : ∀ i, i < B.length → (O.getD i []).length = sz B i) : (sheetsN B H O B.length).length ≤ 1000000 := by
  rcases (sheets_inv hB hH hO B.length (Nat.le_refl _)).2 with h | ⟨h, _⟩
  · rw [h]; exact Nat.zero_le _
  · rw [h]
    have := st_bd hB hH B.length (Nat.le_refl _)
    have := hB.1
    have : B.length * 40000 ≤ 15 * 40000 := Nat.mul_le_mul_right _ (by omega)
    omega
def rtD : D → D
  | .rol l => .tup l
  | d => d
theorem rt_map (S : List Ls) : (rls S).map rtD = tls S := by
  unfold rls tls
  rw [List.map_map]; rfl
theorem w0_tupR {ds : List D} {Q : D → Prop} (h : imms ds = true) (q : Q (.tup ds)) : w0 (fTuple [.rol ds]) Q := w0_of (show (if imms ds = true then some (D.tup ds) else none) = _ by rw [if_pos h]) q
theorem shD_eq (S : List Ls) : shD S = (S.map lns).map .lst := by unfold shD; rw [List.map_map]; rfl
theorem rls_eq (S : List Ls) : rls S = (S.map lns).map .rol := by unfold rls; rw [List.map_map]; rfl
theorem lns_all (S : List Ls) : ∀ ds ∈ S.map lns, imms ds = true := fun ds h => by
  obtain ⟨ls, _, rfl⟩ := List.mem_map.mp h
  exact lns_imm ls
theorem lsheets_ok {B : List Blk} {H : Nat} {O : List Ls} (hB : SmallB B) (hH : 5 ≤ H ∧ H ≤ 100) (hOl : O.length = B.length) (hO : ∀ i, i < B.length → (O.getD i []).length = sz B i) :
    w1 (m__law_sheets [.rol (B.map lblD), .rol (stD B H B.length), .rol (rls O), .int H]) (· = .tup (tls (sheetsN B H O B.length))) := by
  have ib := lbls_imm B
  have is := stD_imm B H B.length
  have io := rls_imm O
  have hl : (B.map lblD).length = B.length := List.length_map _
  have hB1 := hB.1
  have hsl := sheets_len hB hH hO
  have irs := rls_imm (sheetsN B H O B.length)
  have its := tls_imm (sheetsN B H O B.length)
  apply w1_def (by simp [imms, imm, ib, is, io])
  unfold b__law_sheets
  rw [l_0]
  show wS (mSeq _ (mSeq (mFor _ _ ls_body) _) _) _ _ _ _
  repeat' walk_at "m"
  refine wS_loop0 (fun k e => Hold (∃ x5 x6 x7 x8 x9 x10 x11 x12, e = [some (.rol (B.map lblD)), some (.rol (stD B H B.length)), some (.rol (rls O)), some (.int H), some (.lst (shD (sheetsN B H O k))), x5, x6, x7, x8, x9, x10, x11, x12, none])) _ ⟨_, _, _, _, _, _, _, _, rfl⟩ (fun i d e hd hI => ?_) (fun e hI => ?_)
  · obtain ⟨hi, rfl⟩ := range_at hd
    obtain ⟨x5, x6, x7, x8, x9, x10, x11, x12, rfl⟩ := hI
    have hi : i < B.length := by omega
    have q1 := (stD_at (B := B) (H := H) hi).2
    have q2 := rls_at (A := O) (i := i) (ls := O.getD i []) (by rw [List.getD_eq_getElem?_getD, List.getElem?_eq_getElem (by omega)]; rfl)
    obtain ⟨s1, s2⟩ := sheets_at hB hH hO hi
    have hs := hB.sz (i := i) hi
    have hst := start_lt (B := B) (i := i) hH.1 hs.1
    have hsb := start_bd hB hH hi
    have hz := hO i hi
    have hn : sheetsN B H O (i + 1) = places H (sheetsN B H O i) (at0 H (start B H i).1 (start B H i).2) (O.getD i []) := rfl
    rw [hn]
    generalize hp : (start B H i).1 = p at *
    generalize hu : (start B H i).2 = u at *
    generalize hZ : O.getD i [] = Z at *
    generalize sheetsN B H O i = S at *
    have hlz := lns_len Z
    have ilz := lns_imm Z
    rw [show (0 : Int) + (i : Int) = i by omega]
    walk_at "m0"
    unfold ls_body
    refine wS_seq (wS_asg ?_)
    generalize D.rol (stD B H B.length) = X1 at *
    generalize D.rol (rls O) = X2 at *
    repeat' (first | walk_at "m2" | walk_at "m1" | walk_at "mE" | walk_at "mA" | walk_at "m0")
    refine wS_seq (wS_set ?_)
    repeat' (first | walk_at "m2" | walk_at "m1" | walk_at "mE" | walk_at "mA" | walk_at "m0")
    refine wS_for ?_
    repeat' (first | walk_at "m2" | walk_at "m1" | walk_at "mE" | walk_at "mA" | walk_at "m0")
    refine wS_loop0 (fun k e => Hold (∃ x9 x10 x11 x12, e = [some (.rol (B.map lblD)), some X1, some X2, some (.int H), some (.lst (shD (places H S (at0 H p u) (Z.take k)))), some (.int (i : Int)), some (.int p), some (.int u), some (.rol (lns Z)), x9, x10, x11, x12, none])) _ ⟨_, _, _, _, rfl⟩ (fun j d e hd hI => ?_) (fun e hI => ?_)
    · obtain ⟨hj, rfl⟩ := range_at hd
      obtain ⟨x9, x10, x11, x12, rfl⟩ := hI
      have hj : j < Z.length := by omega
      obtain ⟨z, hz2⟩ : ∃ z, Z[j]? = some z := ⟨_, List.getElem?_eq_getElem hj⟩
      have hs2 := places_snoc H z (Z.take j) S (at0 H p u)
      have htl : (Z.take j).length = j := by rw [List.length_take]; omega
      have hb := Bef.places (H := H) (by omega) (Z := Z.take j) s1
      have ht := places_tight (H := H) (by omega) (Z := Z.take j) s1 s2
      rw [htl] at hs2 hb ht
      have htk : Z.take (j + 1) = Z.take j ++ [z] := by rw [List.take_add_one, hz2]; rfl
      rw [show (0 : Int) + (j : Int) = j by omega]
      walk_at "m0"
      refine row_ok (by omega) (by omega) (by omega) hH hb ht hz2 fun x10 x11 x12 => ?_
      rw [htk, hs2]
      exact ⟨_, _, _, _, rfl⟩
    · obtain ⟨x9, x10, x11, x12, rfl⟩ := hI
      rw [range_len, hlz, Int.toNat_natCast, List.take_length]
      exact ⟨_, _, _, _, _, _, _, _, rfl⟩
  · obtain ⟨x5, x6, x7, x8, x9, x10, x11, x12, rfl⟩ := hI
    rw [range_len, hl, Int.toNat_natCast, shD_eq]
    refine wS_lock2 rfl (lns_all _) ?_
    rw [← rls_eq]
    refine wS_ret ?_
    repeat' walk_at "m"
    refine w2_comp rtD ?_
    repeat' walk_at "m"
    refine ⟨rls (sheetsN B H O B.length), if_pos irs, fits_of (by unfold rls; rw [List.length_map]; omega), fun d hd => ?_, ?_⟩
    · obtain ⟨ls, _, rfl⟩ := List.mem_map.mp hd
      have ils := lns_imm ls
      rw [show rtD (.rol (lns ls)) = .tup (lns ls) from rfl]
      repeat' walk_at "m"
      all_goals exact w0_tupR ils ⟨rfl, rfl⟩
    · rw [rt_map]
      repeat' walk_at "m"
      all_goals first | rfl | (refine w0_tupL its ?_; rfl)

/-! ### print_pages -/
noncomputable def pp_body : MS := (mSeq (mAsg (gT [8, 9]) (own (bin fIx (bVar 5) (bVar 7))))
  (mExpr (eIO [6] m_put_lines (acons (own (bVar 8)) (acons (own (bVar 9)) (acons (ofN (cN m_printed_lines (aCons (bVar 0) (aCons (bin fIx (bVar 4) (bVar 7)) (aCons (bVar 1) (aCons (bVar 3) aNil)))))) (acons (own (bVar 2)) anil)))))))
theorem put_k {S : List Ls} {p u H : Nat} {Z : Ls} {Q : D → List D → Prop} (hp : 1 ≤ p ∧ p ≤ 1000000) (hu : u ≤ 100) (hZ : Z.length ≤ 30000) (hH : 5 ≤ H ∧ H ≤ 100) (hB : Bef H S (at0 H p u)) (q : Q .non [.lst (shD (places H S (at0 H p u) Z)), .int p, .int u, .tup (lns Z), .int H]) :
    wD (m_put_lines [.lst (shD S), .int p, .int u, .tup (lns Z), .int H]) Q := wD_mono (put_ok hp hu hZ hH hB) fun _ _ ⟨e1, e2⟩ => by subst e1 e2; exact q
theorem print_ok {v : D} {B : List Blk} {W H : Nat} {O : List Ls} (iv : imm v = true) (hW : 20 ≤ W ∧ W ≤ 100) (hH : 5 ≤ H ∧ H ≤ 100) (hB : SmallB B) (hN : NumOk B) (hv : w1 (m_view_blocks [v, .int W, .int ((W - 5 : Nat) : Int)]) (· = .tup (B.map blkD)))
    (hO : ∀ i, i < B.length → (O.getD i []).length = sz B i) (hpl : ∀ i, i < B.length → w1 (m_printed_lines [v, blkD (B.getD i b0), .int W, .rdc (pgD (pgs B H))]) (· = .tup (lns (O.getD i [])))) :
    w1 (m_print_pages [v, .int W, .int H]) (· = .tup (tls (sheetsN B H O B.length))) := by
  have ib := blks_imm B
  have hl : (B.map blkD).length = B.length := List.length_map _
  have hB1 := hB.1
  have k0 := w1_is (size_ok hW hH)
  have k1 := w1_is hv
  have k2 := w1_is (starts_ok hB hH)
  have k3 := w1_is (pages_ok iv hW hH hB hN hv)
  have e5 : (W : Int) - 5 = ((W - 5 : Nat) : Int) := by omega
  have i1 : imms [v, .int (W : Int), .int ((W - 5 : Nat) : Int)] = true := by simp [imms, imm, iv]
  have i2 : imms [.tup (B.map blkD), .int (H : Int)] = true := by simp [imms, imm, ib]
  have i3 : imms [v, .int (W : Int), .int (H : Int)] = true := by simp [imms, imm, iv]
  have is := stD_imm B H B.length
  have hsl := sheets_len hB hH hO
  have irs := rls_imm (sheetsN B H O B.length)
  have its := tls_imm (sheetsN B H O B.length)
  have ix : imm (.rdc (pgD (pgs B H))) = true := rfl
  apply w1_defX i3
  unfold b_print_pages
  rw [show c_LISTING_MARGIN = D.int 5 from rfl]
  generalize D.rdc (pgD (pgs B H)) = X at *
  show wS (mSeq _ (mSeq _ (mSeq _ (mSeq _ (mSeq _ (mSeq (mFor _ _ pp_body) _))))) _) _ _ _ _
  repeat' (first | walk_at "m" | rw [e5])
  refine wS_loop0 (fun k e => Hold (∃ x7 x8 x9, e = [some v, some (.int W), some (.int H), some X, some (.tup (B.map blkD)), some (.tup (stD B H B.length)), some (.lst (shD (sheetsN B H O k))), x7, x8, x9, none])) _ ⟨_, _, _, rfl⟩ (fun i d e hd hI => ?_) (fun e hI => ?_)
  · obtain ⟨hi, rfl⟩ := range_at hd
    obtain ⟨x7, x8, x9, rfl⟩ := hI
    have hi : i < B.length := by omega
    have q1 := (stD_at (B := B) (H := H) hi).1
    have q2 := ixB hi
    obtain ⟨s1, s2⟩ := sheets_at hB hH hO hi
    have hs := hB.sz (i := i) hi
    have hst := start_lt (B := B) (i := i) hH.1 hs.1
    have hsb := start_bd hB hH hi
    have hz := hO i hi
    have k4 := w1_is (hpl i hi)
    have ibk := blk_imm (B.getD i b0)
    have i4 : imms [v, blkD (B.getD i b0), .int (W : Int), X] = true := by simp only [imms, iv, ibk, ix, Bool.and_self, Bool.and_true, Bool.true_and]; rfl
    have hn : sheetsN B H O (i + 1) = places H (sheetsN B H O i) (at0 H (start B H i).1 (start B H i).2) (O.getD i []) := rfl
    rw [hn]
    generalize hp : (start B H i).1 = p at *
    generalize hu : (start B H i).2 = u at *
    generalize hZ : O.getD i [] = Z at *
    generalize sheetsN B H O i = S at *
    generalize blkD (B.getD i b0) = P at *
    have hlz := lns_len Z
    have ilz := lns_imm Z
    rw [show (0 : Int) + (i : Int) = i by omega]
    walk_at "m0"
    unfold pp_body
    refine wS_seq (wS_asg ?_)
    generalize D.tup (stD B H B.length) = X1 at *
    generalize D.tup (B.map blkD) = X2 at *
    repeat' (first | walk_at "m2" | walk_at "m1" | walk_at "mE" | walk_at "mA" | walk_at "m0")
    refine wS_expr ?_
    repeat' (first | walk_at "m2" | walk_at "m1" | walk_at "mE" | walk_at "mA" | walk_at "m0")
    exact put_k (by omega) (by omega) (by omega) hH s1 ⟨_, _, rfl, _, _, _, rfl⟩
  · obtain ⟨x7, x8, x9, rfl⟩ := hI
    rw [range_len, hl, Int.toNat_natCast, shD_eq]
    refine wS_lock2 rfl (lns_all _) ?_
    rw [← rls_eq]
    refine wS_ret ?_
    repeat' walk_at "m"
    refine w2_comp rtD ?_
    repeat' walk_at "m"
    refine ⟨rls (sheetsN B H O B.length), if_pos irs, fits_of (by unfold rls; rw [List.length_map]; omega), fun d hd => ?_, ?_⟩
    · obtain ⟨ls, _, rfl⟩ := List.mem_map.mp hd
      have ils := lns_imm ls
      rw [show rtD (.rol (lns ls)) = .tup (lns ls) from rfl]
      repeat' walk_at "m"
      all_goals exact w0_tupR ils ⟨rfl, rfl⟩
    · rw [rt_map]
      repeat' walk_at "m"
      all_goals first | rfl | (refine w0_tupL its ?_; rfl)

/-! ### what is refused -/
def BV : Ex := ⟨"BadValue", []⟩
theorem exc_def {k : Nat} {mb : MS} {ds : List D} {x : Ex} {e : E} (hi : imms ds = true) (h : mb (ds.map some ++ List.replicate k none) = .exc x e) : mDef k mb ds = .exc x := by
  unfold mDef
  rw [if_pos hi, h]
  rfl
theorem kit1 : kit_LecternError "BadValue" = some true := if_pos rfl
theorem kit2 : kit_ValueError "BadValue" = some true := if_pos rfl
theorem kit3 : kit_BadLine "BadValue" = some false := if_pos rfl
theorem cat1 : cat_BadValue "BadValue" = some true := if_pos rfl
theorem width_bad {x : D} (ix : imm x = true) (h : w1 (m_is_count [x, .int 20, .int 100]) (· = .bl false)) : m_check_width [x] = .exc BV := by
  have e2 := w1_is h
  refine exc_def (e := [some x]) (by simp [imms, ix]) ?_
  simp [b_check_width, mIf, notT, tst, ofN, cN, aCons, aNil, bVar, bC, Rs.bind, Re.bind, Rs.at, Rs.of, imms, imm, ix, show c_WIDTH_LEAST = D.int 20 from rfl, show c_WIDTH_MOST = D.int 100 from rfl, e2, mRaise, BV]
theorem size_bad1 {x y : D} (ix : imm x = true) (iy : imm y = true) (h : w1 (m_is_count [x, .int 20, .int 100]) (· = .bl false)) : m_check_size [x, y] = .exc BV := by
  have e3 := width_bad ix h
  refine exc_def (e := [some x, some y]) (by simp [imms, ix, iy]) ?_
  simp [b_check_size, mSeq, mExpr, ofN, cN, aCons, aNil, bVar, Rs.bind, Re.bind, Rs.at, Rs.of, imms, ix, e3]
theorem size_bad2 {W : Nat} {y : D} (hW : 20 ≤ W ∧ W ≤ 100) (iy : imm y = true) (h : w1 (m_is_count [y, .int 5, .int 100]) (· = .bl false)) : m_check_size [.int W, y] = .exc BV := by
  have e3 := w1_is (check_ok hW)
  have e2 := w1_is h
  refine exc_def (e := [some (.int W), some y]) (by simp [imms, imm, iy]) ?_
  simp [b_check_size, mSeq, mExpr, mIf, notT, tst, ofN, cN, aCons, aNil, bVar, bC, Rs.bind, Re.bind, Rs.at, Rs.of, imms, imm, iy, show c_HEIGHT_LEAST = D.int 5 from rfl, show c_HEIGHT_MOST = D.int 100 from rfl, e3, e2, mRaise, BV]
theorem print_bad {v w h : D} (iv : imm v = true) (iw : imm w = true) (ih : imm h = true) (hs : m_check_size [w, h] = .exc BV) : m_print_pages [v, w, h] = .exc BV := by
  refine exc_def (e := [some v, some w, some h, none, none, none, none, none, none, none, none]) (by simp [imms, iv, iw, ih]) ?_
  simp [b_print_pages, mSeq, mExpr, ofN, cN, aCons, aNil, bVar, Rs.bind, Re.bind, Rs.at, Rs.of, imms, iw, ih, hs]
theorem numbers_bad {v w h : D} (iv : imm v = true) (iw : imm w = true) (ih : imm h = true) (hs : m_check_size [w, h] = .exc BV) : m_page_numbers [v, w, h] = .exc BV := by
  refine exc_def (e := [some v, some w, some h, none, none]) (by simp [imms, iv, iw, ih]) ?_
  simp [b_page_numbers, mSeq, mExpr, ofN, cN, aCons, aNil, bVar, Rs.bind, Re.bind, Rs.at, Rs.of, imms, iw, ih, hs]
theorem refuses_ok {v w h : D} (iv : imm v = true) (iw : imm w = true) (ih : imm h = true) (hs : m_check_size [w, h] = .exc BV) : w1 (m__law_refuses [v, w, h]) (· = .bl true) := by
  have hp := print_bad iv iw ih hs
  have hn := numbers_bad iv iw ih hs
  apply w1_def (by simp [imms, iv, iw, ih])
  unfold b__law_refuses
  refine wS_seq (wS_set ?_)
  repeat' (first | walk_at "m2" | walk_at "m1" | walk_at "mE" | walk_at "mA" | walk_at "m0")
  refine wS_seq (wS_tryX (c := "BadValue") (e1 := [some v, some w, some h, some (.int 0), none]) (r := .nx [some v, some w, some h, some (.int 1), none]) ?_ cat1 (fun p => ?_) (.nx ?_))
  · simp [mExpr, ofN, cN, aCons, aNil, bVar, Rs.bind, Rs.at, imms, iv, iw, ih, hp, BV]
  · simp only [kit1, kit2, kit3]
    simp [clr, mSet, ofN, Mir.bin, bVar, cal, aCons, aNil, andB, notB, isX, Rs.bind, Rs.at, Rs.of, fAdd, fInt, bl1]
  refine wS_seq (wS_tryX (c := "BadValue") (e1 := [some v, some w, some h, some (.int 1), none]) (r := .nx [some v, some w, some h, some (.int 2), none]) ?_ cat1 (fun p => ?_) (.nx ?_))
  · simp [mExpr, ofN, cN, aCons, aNil, bVar, Rs.bind, Rs.at, imms, iv, iw, ih, hn, BV]
  · simp only [kit1, kit2, kit3]
    simp [clr, mSet, ofN, Mir.bin, bVar, cal, aCons, aNil, andB, notB, isX, Rs.bind, Rs.at, Rs.of, fAdd, fInt, bl1]
  repeat' walk_at "m"
  all_goals simp

/-! ### the lost view -/
def lostD (u : Nm) : D := .tup [.str (lit "fault"), .str (lit "missing"), .str u]
def lostB (u : Nm) : List Blk := [((0 : Int), lit "fault", [flt (lit "missing") u])]
theorem lost_view {u : Nm} (hu : u.length ≤ 300) (W : Nat) : w1 (m_view_blocks [lostD u, .int W, .int ((W - 5 : Nat) : Int)]) (· = .tup ((lostB u).map blkD)) := by
  unfold lostD
  apply w1_def rfl
  unfold b_view_blocks
  repeat' walk_at "m"
  have e0 : w1 (m_is_fault [.tup [.str (lit "fault"), .str (lit "missing"), .str u]]) (· = .bl true) := by
    apply w1_def rfl
    unfold b_is_fault
    repeat' walk_at "m"
    all_goals simp
  refine w1_mono e0 fun d e => ?_
  subst e
  repeat' walk_at "m"
  refine w1_mono (show_ok (by simp) hu) fun d e => ?_
  subst e
  repeat' walk_at "m"
  rfl
theorem lost_small (u : Nm) : SmallB (lostB u) := ⟨by show 1 ≤ 15; decide, fun b hb => by rw [List.mem_singleton.mp hb]; exact ⟨Nat.le_refl 1, by show 1 ≤ 30000; decide⟩⟩
theorem lost_num (u : Nm) : NumOk (lostB u) := fun i j hi hj _ _ => by
  have h1 : (lostB u).length = 1 := rfl
  omega
theorem lost_numbers {u : Nm} (hu : u.length ≤ 300) {W H : Nat} (hW : 20 ≤ W ∧ W ≤ 100) (hH : 5 ≤ H ∧ H ≤ 100) : w1 (m_page_numbers [lostD u, .int W, .int H]) (· = .tup []) :=
  numbers_ok (B := lostB u) rfl hW hH (lost_small u) (lost_num u) (lost_view hu W)
theorem lost_print {u : Nm} (hu : u.length ≤ 300) : w1 (m_print_pages [lostD u, .int 20, .int 5]) (· = .tup [.tup [.str (flt (lit "missing") u)]]) := by
  have e : sheetsN (lostB u) 5 [[flt (lit "missing") u]] (lostB u).length = [[flt (lit "missing") u]] := by
    show sheetsN (lostB u) 5 [[flt (lit "missing") u]] 1 = _
    simp [sheetsN, start, start1, st, at0, places, place, placeR, grow, padr]
  have e2 : D.tup [.tup [.str (flt (lit "missing") u)]] = .tup (tls (sheetsN (lostB u) 5 [[flt (lit "missing") u]] (lostB u).length)) := by rw [e]; rfl
  rw [e2]
  refine print_ok (v := lostD u) (B := lostB u) (W := 20) (H := 5) (O := [[flt (lit "missing") u]]) rfl (by decide) (by decide) (lost_small u) (lost_num u) (lost_view hu 20) (fun i hi => ?_) (fun i hi => ?_)
  · have h1 : (lostB u).length = 1 := rfl
    have : i = 0 := by omega
    subst this
    rfl
  · have h1 : (lostB u).length = 1 := rfl
    have : i = 0 := by omega
    subst this
    show w1 (m_printed_lines [lostD u, .tup [.int 0, .str (lit "fault"), .tup [.str (flt (lit "missing") u)]], .int 20, .rdc []]) (· = .tup [.str (flt (lit "missing") u)])
    apply w1_def rfl
    unfold b_printed_lines
    repeat' walk_at "m"
    all_goals first | rfl | (rename_i h1 h2; simp at h2)
theorem miss_eq (u : List Nat) : flt (lit "missing") (lit "entries " ++ u) = lit "[missing entries " ++ u ++ lit "]" := by
  have e : lit "[missing entries " = lit "[" ++ lit "missing" ++ [32] ++ lit "entries " := by
    simp only [lit_eq]
    decide
  rw [flt, e]
  simp only [List.append_assoc]
theorem same9 {d : D} (h : pt 8 d = true) : w1 (m__law_same 9 [d, d]) (· = .bl true) := w1_mono (same_ok 8 8 d d h h) fun d ⟨b, e1, hb⟩ => by rw [e1, hb.mpr rfl]
theorem same_big {L : List D} (hL : L.length ≤ 1000000) (hp : ∀ d ∈ L, pt 8 d = true) : w1 (m__law_same 10 [.tup L, .tup L]) (· = .bl true) := by
  have il : imms L = true := by
    rw [imms_all]
    exact List.all_eq_true.mpr fun d hd => pt_imm (hp d hd)
  show w1 (mDef0 1 (b__law_same (m__law_same 9)) [.tup L, .tup L]) _
  apply w1_def (by simp [imms, imm, il])
  unfold b__law_same
  repeat' walk_at "m"
  · refine wS_inv (fun e => Hold (∃ x, e = [some (.tup L), some (.tup L), x])) _ ⟨none, rfl⟩ (fun d e hd hI => ?_) (fun e hI => ?_)
    · obtain ⟨x, rfl⟩ := hI
      obtain ⟨i, hi⟩ := List.getElem?_of_mem hd
      obtain ⟨h1, rfl⟩ := range_at hi
      obtain ⟨t, ht⟩ : ∃ t, L[i]? = some t := ⟨L[i], List.getElem?_eq_getElem (by omega)⟩
      have e0 : (0 + (i : Int)).toNat = i := by omega
      have ipt := pt_imm (hp t (mem_get ht))
      repeat' walk_at "m"
      refine w0_ixT (by omega) (by omega) fun y hy => ?_
      rw [e0, ht] at hy
      obtain rfl := Option.some.inj hy
      repeat' walk_at "m"
      refine w0_ixT (by omega) (by omega) fun y hy => ?_
      rw [e0, ht] at hy
      obtain rfl := Option.some.inj hy
      repeat' walk_at "m"
      refine w1_mono (same9 (hp _ (mem_get ht))) fun d e => ?_
      subst e
      repeat' walk_at "m"
      exact ⟨_, rfl⟩
    · obtain ⟨x, rfl⟩ := hI
      repeat' walk_at "m"
      rfl
theorem lns_pt {ls : Ls} (h : ls.length ≤ 1000) (n : Nat) : pt (n + 1) (.tup (lns ls)) = true := pt_tup_iff.mpr ⟨by rw [lns_len]; exact h, fun d hd => by
  obtain ⟨s, _, rfl⟩ := List.mem_map.mp hd
  exact pt_str _ _⟩
theorem pgT_pt {l : List Pg} (h : l.length ≤ 100) (n : Nat) : pt (n + 2) (.tup (pgT l)) = true := pt_tup_iff.mpr ⟨by unfold pgT; rw [List.length_map]; omega, fun d hd => by
  obtain ⟨s, _, rfl⟩ := List.mem_map.mp hd
  simp⟩

/-! ### the document, all -/
def outs (W : Nat) (L : List Par) (l : List Pg) (B : List Blk) : List Ls := B.map (outB W L l)
theorem outs_at {W : Nat} {L : List Par} {l : List Pg} {B : List Blk} {i : Nat} (h : i < B.length) : (outs W L l B).getD i [] = outB W L l (B.getD i b0) := by
  unfold outs
  rw [List.getD_eq_getElem?_getD, List.getElem?_map, getD_at h]; rfl
theorem doc_lens {W : Nat} {L : List Par} {F : List Flt} {l : List Pg} : ∀ i, i < (blocksP W L F).length → ((outs W L l (blocksP W L F)).getD i []).length = sz (blocksP W L F) i := fun i hi => by
  rw [outs_at hi, out_len (mem_get (getD_at hi))]; rfl
theorem doc_print {L : List Par} {F : List Flt} {W H : Nat} (hW : 20 ≤ W ∧ W ≤ 100) (hH : 5 ≤ H ∧ H ≤ 100) (g1 : L.length ≤ 14) (g2 : ∀ p ∈ L, PGood p) (gc : Cons L) (g3 : F.length ≤ 8) (g4 : ∀ f ∈ F, FGood f) :
    w1 (m_print_pages [viewD L F, .int W, .int H]) (· = .tup (tls (sheetsN (blocksP W L F) H (outs W L (pgs (blocksP W L F) H) (blocksP W L F)) (blocksP W L F).length))) :=
  print_ok (view_imm L F) hW hH (blocks_small hW g1 g2 g3) (blocks_num W L F) (view_ok hW g1 g2 g3 g4) doc_lens (fun i hi => by rw [outs_at hi]; exact plines_ok hW g1 g2 gc (mem_get (getD_at hi)) (blocks_has hW hH g1 g2 g3))
theorem doc_numbers {L : List Par} {F : List Flt} {W H : Nat} (hW : 20 ≤ W ∧ W ≤ 100) (hH : 5 ≤ H ∧ H ≤ 100) (g1 : L.length ≤ 14) (g2 : ∀ p ∈ L, PGood p) (g3 : F.length ≤ 8) (g4 : ∀ f ∈ F, FGood f) :
    w1 (m_page_numbers [viewD L F, .int W, .int H]) (· = .tup (pgT (pgs (blocksP W L F) H))) :=
  numbers_ok (view_imm L F) hW hH (blocks_small hW g1 g2 g3) (blocks_num W L F) (view_ok hW g1 g2 g3 g4)
theorem sheetsN_tl (B : List Blk) (H : Nat) (O : List Ls) : ∀ n, sheetsN (B.map tl) H O n = sheetsN B H O n
  | 0 => rfl
  | n + 1 => by rw [sheetsN, sheetsN, sheetsN_tl B H O n, start_tl]
theorem doc_sheets {L : List Par} {F : List Flt} {W H : Nat} {l : List Pg} (hW : 20 ≤ W ∧ W ≤ 100) (hH : 5 ≤ H ∧ H ≤ 100) (g1 : L.length ≤ 14) (g2 : ∀ p ∈ L, PGood p) (g3 : F.length ≤ 8) :
    w1 (m__law_sheets [.rol ((blocksL W L F).map lblD), .rol (stD (blocksL W L F) H (blocksL W L F).length), .rol (rls (outs W L l (blocksP W L F))), .int H]) (· = .tup (tls (sheetsN (blocksP W L F) H (outs W L l (blocksP W L F)) (blocksP W L F).length))) := by
  have h := lsheets_ok (B := blocksL W L F) (H := H) (O := outs W L l (blocksP W L F)) (by rw [blocks_tl]; exact (blocks_small hW g1 g2 g3).tl) hH (by rw [blocks_tl]; unfold outs; rw [List.length_map, List.length_map]) (fun i hi => by
    rw [blocks_tl] at hi ⊢
    rw [List.length_map] at hi
    rw [sz_tl]
    exact doc_lens i hi)
  have e : tls (sheetsN (blocksL W L F) H (outs W L l (blocksP W L F)) (blocksL W L F).length) = tls (sheetsN (blocksP W L F) H (outs W L l (blocksP W L F)) (blocksP W L F).length) := by
    rw [blocks_tl, List.length_map, sheetsN_tl]
  rw [e] at h
  exact h
theorem sheets_pt {L : List Par} {F : List Flt} {W H : Nat} {l : List Pg} (hW : 20 ≤ W ∧ W ≤ 100) (hH : 5 ≤ H ∧ H ≤ 100) (g1 : L.length ≤ 14) (g2 : ∀ p ∈ L, PGood p) (g3 : F.length ≤ 8) :
    (tls (sheetsN (blocksP W L F) H (outs W L l (blocksP W L F)) (blocksP W L F).length)).length ≤ 1000000 ∧ ∀ d ∈ tls (sheetsN (blocksP W L F) H (outs W L l (blocksP W L F)) (blocksP W L F).length), pt 8 d = true := by
  have hB := blocks_small (F := F) hW g1 g2 g3
  have h1 := sheets_len (O := outs W L l (blocksP W L F)) hB hH doc_lens
  have h2 := (sheets_inv (O := outs W L l (blocksP W L F)) hB hH doc_lens _ (Nat.le_refl _)).1.2
  refine ⟨by unfold tls; rw [List.length_map]; exact h1, fun d hd => ?_⟩
  obtain ⟨ls, hls, rfl⟩ := List.mem_map.mp hd
  obtain ⟨i, hi⟩ := List.getElem?_of_mem hls
  have := (h2 i ls hi).2
  exact lns_pt (by omega) 7
theorem kL_isL (p : Par) : (decide (kL p = lit "contents") || decide (kL p = lit "index")) = isL p := by
  cases p with
  | doc k n num t =>
    show (decide (kd k = lit "contents") || decide (kd k = lit "index")) = false
    unfold kd
    split <;> simp
  | fault t => show (decide (lit "-" = lit "contents") || decide (lit "-" = lit "index")) = false; simp
  | list j ps =>
    show (decide (lk j = lit "contents") || decide (lk j = lit "index")) = true
    unfold lk
    split <;> simp

noncomputable def dot_body : MS := (mIf (andT (tst (ofN (bin fGt (bVar 12) (bC (.int 0))))) (orT (tst (ofN (bin fEq (bVar 13) (bC (.str (lit "contents")))))) (tst (ofN (bin fEq (bVar 13) (bC (.str (lit "index"))))))))
  (mExpr (eMut 11 fAppend (acons (ofN (cN m__law_dotted (aCons (bVar 2) (aCons (bin fIx (bVar 2) (bin fSub (bVar 12) (bC (.int 1)))) (aCons (bVar 10) (aCons (bVar 6) aNil)))))) anil)))
  (mExpr (eMut 11 fAppend (acons (own (bVar 14)) anil))))
noncomputable def law_t15 : MS :=
  (mSeq (mSet 15 (ofN (dTup (aCons (bC (.str (lit "fault"))) (aCons (bC (.str (lit "missing"))) (aCons (bin fAdd (bC (.str (lit "entries "))) (bin fMul (bC (.str (lit "abc"))) (bC (.int 9)))) aNil))))))
  (mSeq (mIf (notT (tst (ofN (cN (m__law_same 10) (aCons (cN m_print_pages (aCons (bVar 15) (aCons (bC (.int 20)) (aCons (bC (.int 5)) aNil)))) (aCons (dTup (aCons (dTup (aCons (bin fAdd (bin fAdd (bC (.str (lit "[missing entries "))) (bin fMul (bC (.str (lit "abc"))) (bC (.int 9)))) (bC (.str (lit "]")))) aNil)) aNil)) aNil))))))
  (mRet (ofN (bC (.bl false))))
  mNil)
  (mSeq (mIf (notT (tst (ofN (cN (m__law_same 10) (aCons (cN m_page_numbers (aCons (bVar 15) (aCons (bC (.int 100)) (aCons (bC (.int 100)) aNil)))) (aCons (dTup aNil) aNil))))))
  (mRet (ofN (bC (.bl false))))
  mNil)
  (mSeq (mSet 16 (binE (immF fIx) (ofN (dLst (aCons (dTup (aCons (bC (.int 19)) (aCons (bC (.int 9)) aNil))) (aCons (dTup (aCons (bC (.int 101)) (aCons (bC (.int 9)) aNil))) (aCons (dTup (aCons (bC (.bl true)) (aCons (bC (.int 9)) aNil))) (aCons (dTup (aCons (bC (.int 30)) (aCons (bC (.int 4)) aNil))) (aCons (dTup (aCons (bC (.int 30)) (aCons (bC (.int 101)) aNil))) (aCons (dTup (aCons (bC (.int 30)) (aCons (bC (.bl true)) aNil))) (aCons (dTup (aCons (bC (.str (lit "30"))) (aCons (bC (.int 9)) aNil))) (aCons (dTup (aCons (bC (.int 30)) (aCons (bC .non) aNil))) (aCons (dTup (aCons (bC (.int 30)) (aCons (bC (.int 0)) aNil))) aNil))))))))))) (eIO [1] m__law_take (acons (ofN (bC (.int 9))) anil))))
  (mRet (ofN (andB (cN m__law_refuses (aCons (bVar 5) (aCons (bin fIx (bVar 16) (bC (.int 0))) (aCons (bin fIx (bVar 16) (bC (.int 1))) aNil)))) (cN m__law_refuses (aCons (bVar 15) (aCons (bin fIx (bVar 16) (bC (.int 0))) (aCons (bin fIx (bVar 16) (bC (.int 1))) aNil)))))))))))
noncomputable def law_t11 : MS :=
  (mSeq (mSet 11 (ofN (dLst aNil)))
  (mSeq (mLock 10 (mForV 8 (gT [12, 13, 14])
  dot_body))
  (mSeq (mLock 11 (mIf (notT (tst (ofN (cN (m__law_same 10) (aCons (cN m_print_pages (aCons (bVar 5) (aCons (bVar 6) (aCons (bVar 7) aNil)))) (aCons (cN m__law_sheets (aCons (bVar 8) (aCons (bVar 9) (aCons (bVar 11) (aCons (bVar 7) aNil))))) aNil))))))
  (mRet (ofN (bC (.bl false))))
  mNil))
  law_t15)))
noncomputable def law_t8 : MS :=
  (mSeq (mLock 3 (mSet 8 (ofN (cN m__law_blocks (aCons (bVar 2) (aCons (bVar 3) (aCons (bVar 6) aNil)))))))
  (mSeq (mSet 9 (ofN (cN m__law_put (aCons (bVar 8) (aCons (bVar 7) aNil)))))
  (mSeq (mSet 10 (eComp (wR (acons (ofN (cal fLen (aCons (bVar 8) aNil))) anil)) (gN 4) (tst (ofN (bin fGt (bin fIx (bin fIx (bVar 8) (bVar 4)) (bC (.int 0))) (bC (.int 0))))) (ofN (dTup (aCons (bin fIx (bin fIx (bVar 8) (bVar 4)) (bC (.int 0))) (aCons (bin fIx (bin fIx (bVar 9) (bVar 4)) (bC (.int 0))) aNil)))) (([("k", 4)] : List (PySem.Str × Nat)).map (·.2))))
  (mSeq (mIf (notT (tst (ofN (cN (m__law_same 10) (aCons (cN m_page_numbers (aCons (bVar 5) (aCons (bVar 6) (aCons (bVar 7) aNil)))) (aCons (cal fTuple (aCons (bVar 10) aNil)) aNil))))))
  (mRet (ofN (bC (.bl false))))
  mNil)
  law_t11))))
theorem dots_ok {L : List Par} {F : List Flt} {W H : Nat} (hW : 20 ≤ W ∧ W ≤ 100) (hH : 5 ≤ H ∧ H ≤ 100) (g1 : L.length ≤ 14) (g2 : ∀ p ∈ L, PGood p) (gc : Cons L) (g3 : F.length ≤ 8) {x0 x1 x3 x4 x5 x7 x8 x9 x12 x13 x14 x15 x16 : Option D} {N B C : E → Prop} {R : D → E → Prop}
    (h : ∀ x12 x13 x14, N [x0, x1, some (.rol (L.map parD)), x3, x4, x5, some (.int W), x7, x8, x9, some (.rol (pgT (pgs (blocksP W L F) H))), some (.lst (rls (outs W L (pgs (blocksP W L F) H) (blocksP W L F)))), x12, x13, x14, x15, x16]) :
    wS (mLoop (gT [12, 13, 14]) dot_body (((blocksP W L F).map tl).map lblD) [x0, x1, some (.rol (L.map parD)), x3, x4, x5, some (.int W), x7, x8, x9, some (.rol (pgT (pgs (blocksP W L F) H))), some (.lst []), x12, x13, x14, x15, x16]) N R B C := by
  have hB := blocks_small (F := F) hW g1 g2 g3
  have hB1 := hB.1
  have hh := blocks_has (F := F) hW hH g1 g2 g3
  have nd : ((pgs (blocksP W L F) H).map (·.1)).Nodup := pgsN_nodup (H := H) (blocks_num W L F) _ (Nat.le_refl _)
  have hpl := pgsN_len (blocksP W L F) H (blocksP W L F).length
  have hbd : ∀ q ∈ pgs (blocksP W L F) H, q.2 ≤ 1000000 := fun q hq => by
    obtain ⟨i, hi, _, rfl⟩ := pgsN_mem.mp hq
    exact start_bd hB hH hi
  have hll : (pgs (blocksP W L F) H).length ≤ 100 := by unfold pgs; omega
  have ip := pars_imm L
  have ig := pgT_imm (pgs (blocksP W L F) H)
  refine wS_loop0 (fun k e => Hold (∃ x12 x13 x14, e = [x0, x1, some (.rol (L.map parD)), x3, x4, x5, some (.int W), x7, x8, x9, some (.rol (pgT (pgs (blocksP W L F) H))), some (.lst (rls ((outs W L (pgs (blocksP W L F) H) (blocksP W L F)).take k))), x12, x13, x14, x15, x16])) _ ⟨_, _, _, rfl⟩ (fun i d e hd hI => ?_) (fun e hI => ?_)
  · obtain ⟨x12, x13, x14, rfl⟩ := hI
    rw [List.getElem?_map, List.getElem?_map] at hd
    obtain ⟨b', hb', rfl⟩ := Option.map_eq_some_iff.mp hd
    obtain ⟨b, hb, rfl⟩ := Option.map_eq_some_iff.mp hb'
    clear hd hb'
    have hm := mem_get hb
    obtain ⟨hi, _⟩ := List.getElem?_eq_some_iff.mp hb
    have htk : rls ((outs W L (pgs (blocksP W L F) H) (blocksP W L F)).take (i + 1)) = rls ((outs W L (pgs (blocksP W L F) H) (blocksP W L F)).take i) ++ [.rol (lns (outB W L (pgs (blocksP W L F) H) b))] := by
      rw [List.take_add_one]
      unfold outs
      rw [List.getElem?_map, hb]
      unfold rls
      rw [List.map_append]; rfl
    have htl : (rls ((outs W L (pgs (blocksP W L F) H) (blocksP W L F)).take i)).length ≤ 15 := by
      unfold rls outs
      rw [List.length_map, List.length_take, List.length_map]
      omega
    have fin : ∀ x12 x13 x14, Hold (∃ y12 y13 y14, [x0, x1, some (.rol (L.map parD)), x3, x4, x5, some (.int W), x7, x8, x9, some (.rol (pgT (pgs (blocksP W L F) H))), some (.lst (rls ((outs W L (pgs (blocksP W L F) H) (blocksP W L F)).take i) ++ [.rol (lns (outB W L (pgs (blocksP W L F) H) b))])), x12, x13, x14, x15, x16] = [x0, x1, some (.rol (L.map parD)), x3, x4, x5, some (.int W), x7, x8, x9, some (.rol (pgT (pgs (blocksP W L F) H))), some (.lst (rls ((outs W L (pgs (blocksP W L F) H) (blocksP W L F)).take (i + 1)))), y12, y13, y14, x15, x16]) := fun x12 x13 x14 => ⟨x12, x13, x14, by rw [htk]⟩
    have ilb := lns_imm b.2.2
    have ilD := lbl_imm (tl b)
    unfold dot_body
    rcases out_cases (l := pgs (blocksP W L F) H) hm with ⟨m, p, hmL, hp, rfl, e⟩ | ⟨rfl, e⟩
    · have hpd : L.getD m (.fault []) = p := by rw [List.getD_eq_getElem?_getD, hp]; rfl
      have q := (par_at hmL).1
      rw [hpd] at q
      have e1 : ((m + 1 : Nat) : Int) - 1 = (m : Int) := by omega
      have hk := kL_isL p
      have htlb : tl (((m + 1 : Nat) : Int), kP p, blockP W p) = (((m + 1 : Nat) : Int), kL p, blockP W p) := by unfold tl; rw [← kL_tlk]
      rw [htlb]
      rw [e] at fin
      clear htk
      generalize rls ((outs W L (pgs (blocksP W L F) H) (blocksP W L F)).take i) = RL at *
      have hpos : (0 : Int) < ((m + 1 : Nat) : Int) := by omega
      have ipp := par_imm p
      unfold lblD
      simp only
      simp only at ilb
      cases p with
      | doc k n num t =>
        change (decide (kL (.doc k n num t) = lit "contents") || decide (kL (.doc k n num t) = lit "index")) = false at hk
        rw [← eqv_str, ← eqv_str] at hk
        have hk1 := (Bool.or_eq_false_iff.mp hk).1
        have hk2 := (Bool.or_eq_false_iff.mp hk).2
        generalize kL (.doc k n num t) = kw at *
        generalize ((m + 1 : Nat) : Int) = M at *
        generalize D.rol (pgT (pgs (blocksP W L F) H)) = X at *
        generalize D.rol (L.map parD) = Y at *
        repeat' (first | walk_at "m" | rw [hk1] | rw [hk2])
        all_goals first
          | exact fin _ _ _
          | (have z : (D.str kw).eqv (.str (lit "contents")) = true := by assumption
             rw [hk1] at z; cases z)
          | (have z : (D.str kw).eqv (.str (lit "index")) = true := by assumption
             rw [hk2] at z; cases z)
      | fault t =>
        change (decide (kL (.fault t) = lit "contents") || decide (kL (.fault t) = lit "index")) = false at hk
        rw [← eqv_str, ← eqv_str] at hk
        have hk1 := (Bool.or_eq_false_iff.mp hk).1
        have hk2 := (Bool.or_eq_false_iff.mp hk).2
        generalize kL (.fault t) = kw at *
        generalize ((m + 1 : Nat) : Int) = M at *
        generalize D.rol (pgT (pgs (blocksP W L F) H)) = X at *
        generalize D.rol (L.map parD) = Y at *
        repeat' (first | walk_at "m" | rw [hk1] | rw [hk2])
        all_goals first
          | exact fin _ _ _
          | (have z : (D.str kw).eqv (.str (lit "contents")) = true := by assumption
             rw [hk1] at z; cases z)
          | (have z : (D.str kw).eqv (.str (lit "index")) = true := by assumption
             rw [hk2] at z; cases z)
      | list j ps =>
        have hc := gc j ps (mem_get hp)
        subst hc
        have k1 := w1_is (law_dotted_ok (j := j) g1 g2 (g2 _ (mem_get hp)).1 hW (hh j) nd hbd hll)
        have i4 : imms [.rol (L.map parD), parD (.list j (pairsOf L j)), .rol (pgT (pgs (blocksP W L F) H)), .int W] = true := by simp [imms, imm, ip, ipp, ig]
        change (decide (kL (.list j (pairsOf L j)) = lit "contents") || decide (kL (.list j (pairsOf L j)) = lit "index")) = true at hk
        change ∀ x12 x13 x14, Hold (∃ y12 y13 y14, [x0, x1, some (.rol (L.map parD)), x3, x4, x5, some (.int W), x7, x8, x9, some (.rol (pgT (pgs (blocksP W L F) H))), some (.lst (RL ++ [.rol (lns (dotF W (pgs (blocksP W L F) H) (idx L j) (pairsOf L j)).flatten)])), x12, x13, x14, x15, x16] = _) at fin
        rw [← eqv_str, ← eqv_str] at hk
        generalize kL (.list j (pairsOf L j)) = kw at *
        generalize ((m + 1 : Nat) : Int) = M at *
        generalize D.rol (pgT (pgs (blocksP W L F) H)) = X at *
        generalize D.rol (L.map parD) = Y at *
        generalize parD (.list j (pairsOf L j)) = P at *
        repeat' (first | walk_at "m" | rw [e1])
        all_goals first
          | exact fin _ _ _
          | (have z1 : (D.str kw).eqv (.str (lit "contents")) = false := by assumption
             have z2 : (D.str kw).eqv (.str (lit "index")) = false := by assumption
             rw [z1, z2] at hk; cases hk)
          | omega
    · have htlb : tl ((0 : Int), lit "fault", F.map fline) = (0, tlk (lit "fault"), F.map fline) := rfl
      rw [htlb]
      rw [e] at fin
      clear htk
      generalize rls ((outs W L (pgs (blocksP W L F) H) (blocksP W L F)).take i) = RL at *
      unfold lblD
      simp only
      simp only at ilb
      generalize tlk (lit "fault") = kw at *
      generalize D.rol (pgT (pgs (blocksP W L F) H)) = X at *
      generalize D.rol (L.map parD) = Y at *
      repeat' walk_at "m"
      all_goals exact fin _ _ _
  · obtain ⟨x12, x13, x14, rfl⟩ := hI
    have : (((blocksP W L F).map tl).map lblD).length = (outs W L (pgs (blocksP W L F) H) (blocksP W L F)).length := by unfold outs; rw [List.length_map, List.length_map, List.length_map]
    rw [this, List.take_length]
    exact h _ _ _

/-! ### the law's end -/
theorem wrong_ok : ∀ d ∈ [D.tup [.int 19, .int 9], .tup [.int 101, .int 9], .tup [.bl true, .int 9], .tup [.int 30, .int 4], .tup [.int 30, .int 101], .tup [.int 30, .bl true], .tup [.str (lit "30"), .int 9], .tup [.int 30, .non], .tup [.int 30, .int 0]],
    ∃ x y, d = .tup [x, y] ∧ imm x = true ∧ imm y = true ∧ m_check_size [x, y] = .exc BV := by
  intro d hd
  simp only [List.mem_cons, List.not_mem_nil, or_false] at hd
  rcases hd with rfl | rfl | rfl | rfl | rfl | rfl | rfl | rfl | rfl
  · exact ⟨_, _, rfl, rfl, rfl, size_bad1 rfl rfl (w1_mono (count_ok (by simp)) fun d e => e.trans rfl)⟩
  · exact ⟨_, _, rfl, rfl, rfl, size_bad1 rfl rfl (w1_mono (count_ok (by simp)) fun d e => e.trans rfl)⟩
  · exact ⟨_, _, rfl, rfl, rfl, size_bad1 rfl rfl (w1_mono (count_ok (by simp)) fun d e => e.trans rfl)⟩
  · exact ⟨_, _, rfl, rfl, rfl, size_bad2 (W := 30) (by decide) rfl (w1_mono (count_ok (by simp)) fun d e => e.trans rfl)⟩
  · exact ⟨_, _, rfl, rfl, rfl, size_bad2 (W := 30) (by decide) rfl (w1_mono (count_ok (by simp)) fun d e => e.trans rfl)⟩
  · exact ⟨_, _, rfl, rfl, rfl, size_bad2 (W := 30) (by decide) rfl (w1_mono (count_ok (by simp)) fun d e => e.trans rfl)⟩
  · exact ⟨_, _, rfl, rfl, rfl, size_bad1 rfl rfl (w1_mono (count_ok (by simp)) fun d e => e.trans rfl)⟩
  · exact ⟨_, _, rfl, rfl, rfl, size_bad2 (W := 30) (by decide) rfl (w1_mono (count_ok (by simp)) fun d e => e.trans rfl)⟩
  · exact ⟨_, _, rfl, rfl, rfl, size_bad2 (W := 30) (by decide) rfl (w1_mono (count_ok (by simp)) fun d e => e.trans rfl)⟩
theorem t15_ok {jar V : D} (hj : Jar jar) (iv : imm V = true) {x0 x2 x3 x4 x6 x7 x8 x9 x10 x11 x12 x13 x14 x15 x16 : Option D} :
    wS (law_t15 [x0, some jar, x2, x3, x4, some V, x6, x7, x8, x9, x10, x11, x12, x13, x14, x15, x16]) (fun _ => False) (fun d _ => d = .bl true) (fun _ => False) (fun _ => False) := by
  unfold law_t15
  repeat' (first | walk_at "m" | walk_at "t")
  have hu : (List.replicate (Int.toNat 9) (lit "abc")).flatten.length = 27 := by simp
  generalize hU : (List.replicate (Int.toNat 9) (lit "abc")).flatten = u at hu ⊢
  refine w1_mono (lost_print (u := lit "entries " ++ u) (by simp; omega)) fun d e => ?_
  subst e
  repeat' (first | walk_at "m" | walk_at "t")
  rw [hU]
  refine w1_mono (same_yes (by simp) (by rw [← miss_eq])) fun d e => ?_
  subst e
  repeat' (first | walk_at "m" | walk_at "t")
  refine w1_mono (lost_numbers (u := lit "entries " ++ u) (W := 100) (H := 100) (by simp; omega) (by decide) (by decide)) fun d e => ?_
  subst e
  repeat' (first | walk_at "m" | walk_at "t")
  refine w1_mono (same_yes (by simp) rfl) fun d e => ?_
  subst e
  repeat' (first | walk_at "m" | walk_at "t")
  refine w0_ixL (by omega) (by simp; omega) fun wr hw => ?_
  obtain ⟨wx, wy, rfl, ix, iy, hs⟩ := wrong_ok _ (mem_get hw)
  clear hw
  have f0 : fIx (.tup [wx, wy]) (.int 0) = some wx := rfl
  have f1 : fIx (.tup [wx, wy]) (.int 1) = some wy := rfl
  have i1 : imms [V, wx, wy] = true := by simp [imms, iv, ix, iy]
  have k1 := w1_is (refuses_ok iv ix iy hs)
  have k2 := w1_is (refuses_ok (v := lostD (lit "entries " ++ u)) rfl ix iy hs)
  unfold lostD at k2
  repeat' (first | walk_at "m" | walk_at "t")
  all_goals rfl

theorem t11_ok {jar : D} {L : List Par} {F : List Flt} {W H : Nat} (hj : Jar jar) (hW : 20 ≤ W ∧ W ≤ 100) (hH : 5 ≤ H ∧ H ≤ 100) (g1 : L.length ≤ 14) (g2 : ∀ p ∈ L, PGood p) (gc : Cons L) (g3 : F.length ≤ 8) (g4 : ∀ f ∈ F, FGood f) {x0 x3 x4 x11 x12 x13 x14 x15 x16 : Option D} :
    wS (law_t11 [x0, some jar, some (.rol (L.map parD)), x3, x4, some (viewD L F), some (.int W), some (.int H), some (.rol ((blocksL W L F).map lblD)), some (.rol (stD (blocksL W L F) H (blocksL W L F).length)), some (.lst (pgT (pgs (blocksP W L F) H))), x11, x12, x13, x14, x15, x16]) (fun _ => False) (fun d _ => d = .bl true) (fun _ => False) (fun _ => False) := by
  have iv := view_imm L F
  have ibl := lbls_imm (blocksL W L F)
  unfold law_t11
  refine wS_seq (wS_set ?_)
  repeat' (first | walk_at "m2" | walk_at "m1" | walk_at "mE" | walk_at "mA" | walk_at "m0")
  refine wS_seq (wS_lock1 rfl (pgT_imm _) ?_)
  refine wS_forV (ds := (blocksL W L F).map lblD) rfl (if_pos ibl) (by simpa [imm] using ibl) ?_
  have e : (blocksL W L F).map lblD = ((blocksP W L F).map tl).map lblD := by rw [blocks_tl]
  conv => arg 1; rw [e]
  refine dots_ok hW hH g1 g2 gc g3 fun x12 x13 x14 => ?_
  have io := rls_imm (outs W L (pgs (blocksP W L F) H) (blocksP W L F))
  refine wS_seq (wS_lock1 rfl io ?_)
  have k1 := w1_is (doc_print hW hH g1 g2 gc g3 g4)
  have k2 := w1_is (doc_sheets (l := pgs (blocksP W L F) H) hW hH g1 g2 g3)
  obtain ⟨p1, p2⟩ := sheets_pt (l := pgs (blocksP W L F) H) hW hH g1 g2 g3
  have its := tls_imm (sheetsN (blocksP W L F) H (outs W L (pgs (blocksP W L F) H) (blocksP W L F)) (blocksP W L F).length)
  rw [← e]
  have is := stD_imm (blocksL W L F) H (blocksL W L F).length
  have i1 : imms [viewD L F, .int (W : Int), .int (H : Int)] = true := by simp [imms, imm, iv]
  have i2 : imms [.rol ((blocksL W L F).map lblD), .rol (stD (blocksL W L F) H (blocksL W L F).length), .rol (rls (outs W L (pgs (blocksP W L F) H) (blocksP W L F))), .int (H : Int)] = true := by simp [imms, imm, ibl, is, io]
  have k3 := w1_is (same_big p1 p2)
  generalize tls (sheetsN (blocksP W L F) H (outs W L (pgs (blocksP W L F) H) (blocksP W L F)) (blocksP W L F).length) = T at *
  have i3 : imms [.tup T, .tup T] = true := by simp [imms, imm, its]
  generalize viewD L F = V at *
  generalize D.rol ((blocksL W L F).map lblD) = X1 at *
  generalize D.rol (stD (blocksL W L F) H (blocksL W L F).length) = X2 at *
  generalize D.rol (rls (outs W L (pgs (blocksP W L F) H) (blocksP W L F))) = X3 at *
  refine wS_if ?_
  repeat' (first | walk_at "m2" | walk_at "m1" | walk_at "mE" | walk_at "mA" | walk_at "m0")
  walk_at "mS"
  exact t15_ok hj iv
theorem t8_ok {jar : D} {L : List Par} {F : List Flt} {W H : Nat} (hj : Jar jar) (hW : 20 ≤ W ∧ W ≤ 100) (hH : 5 ≤ H ∧ H ≤ 100) (g1 : L.length ≤ 14) (g2 : ∀ p ∈ L, PGood p) (gc : Cons L) (g3 : F.length ≤ 8) (g4 : ∀ f ∈ F, FGood f) {x0 x8 x9 x10 x11 x12 x13 x14 x15 x16 : Option D} {x4 : Option D} :
    wS (law_t8 [x0, some jar, some (.rol (L.map parD)), some (.lst (F.map faultD)), x4, some (viewD L F), some (.int W), some (.int H), x8, x9, x10, x11, x12, x13, x14, x15, x16]) (fun _ => False) (fun d _ => d = .bl true) (fun _ => False) (fun _ => False) := by
  have iv := view_imm L F
  have iF := flts_imm F
  have ip := pars_imm L
  have hBs : SmallB (blocksL W L F) := by rw [blocks_tl]; exact (blocks_small hW g1 g2 g3).tl
  have ibl := lbls_imm (blocksL W L F)
  have kb := w1_is (law_blocks_ok hW g1 g2 g3 g4)
  have kp := w1_is (law_put_ok hBs hH)
  have i1 : imms [.rol (L.map parD), .rol (F.map faultD), .int (W : Int)] = true := by simp [imms, imm, ip, iF]
  have i2 : imms [.rol ((blocksL W L F).map lblD), .int (H : Int)] = true := by simp [imms, imm, ibl]
  have is := stD_imm (blocksL W L F) H (blocksL W L F).length
  have hl : ((blocksL W L F).map lblD).length = (blocksL W L F).length := List.length_map _
  have hB1 := hBs.1
  have kn := w1_is (doc_numbers hW hH g1 g2 g3 g4)
  have i3 : imms [viewD L F, .int (W : Int), .int (H : Int)] = true := by simp [imms, imm, iv]
  unfold law_t8
  refine wS_seq (wS_lock1 rfl iF ?_)
  refine wS_set ?_
  generalize hY : D.rol (L.map parD) = Y at *
  generalize hV : viewD L F = V at *
  repeat' (first | walk_at "m2" | walk_at "m1" | walk_at "mE" | walk_at "mA" | walk_at "m0")
  refine wS_seq (wS_set ?_)
  repeat' (first | walk_at "m2" | walk_at "m1" | walk_at "mE" | walk_at "mA" | walk_at "m0")
  refine wS_seq (wS_set ?_)
  refine w2_compF (pI fun i => decide (0 < nb (blocksL W L F) i)) (fun d => match d with | .int z => .tup [.int (nb (blocksL W L F) z.toNat), .int (start (blocksL W L F) H z.toNat).1] | d => d) ?_
  repeat' walk_at "m"
  refine ⟨fits_of (by rw [range_len, hl]; omega), fun d hd => ?_, ?_⟩
  · rw [rangeD_nts, hl, Int.toNat_natCast] at hd
    obtain ⟨i, hi, rfl⟩ := List.mem_map.mp hd
    have hi : i < (blocksL W L F).length := List.mem_range.mp hi
    have q1 : fIx (.rol ((blocksL W L F).map lblD)) (.int (i : Int)) = some (lblD ((blocksL W L F).getD i b0)) := by
      show atI ((blocksL W L F).map lblD) (i : Int) = _
      unfold atI ixN
      rw [if_pos (by omega), if_pos (by rw [hl]; omega)]
      show ((blocksL W L F).map lblD)[i]? = _
      rw [List.getElem?_map, getD_at hi]; rfl
    have q2 := (stD_at (B := blocksL W L F) (H := H) hi).2
    have q3 : fIx (lblD ((blocksL W L F).getD i b0)) (.int 0) = some (.int (nb (blocksL W L F) i)) := rfl
    have hp : pI (fun i => decide (0 < nb (blocksL W L F) i)) (.int (i : Int)) = decide (0 < nb (blocksL W L F) i) := by
      show decide (0 < nb (blocksL W L F) (i : Int).toNat) = _
      rw [Int.toNat_natCast]
    rw [hp]
    simp only [Int.toNat_natCast]
    have ilb := lbl_imm ((blocksL W L F).getD i b0)
    generalize lblD ((blocksL W L F).getD i b0) = P at *
    generalize D.rol ((blocksL W L F).map lblD) = X1 at *
    generalize D.rol (stD (blocksL W L F) H (blocksL W L F).length) = X2 at *
    generalize nb (blocksL W L F) i = nn at *
    generalize (start (blocksL W L F) H i).1 = ss at *
    repeat' (first | walk_at "m2" | walk_at "m1" | walk_at "mE" | walk_at "mA" | walk_at "m0")
    all_goals rfl
  · rw [rangeD_nts, hl, Int.toNat_natCast, nts_filter]
    have e : (nts ((List.range (blocksL W L F).length).filter fun i => decide (0 < nb (blocksL W L F) i))).map (fun d => match d with | .int z => D.tup [.int (nb (blocksL W L F) z.toNat), .int (start (blocksL W L F) H z.toNat).1] | d => d) = pgT (pgs (blocksP W L F) H) := by
      rw [← pgs_tl, ← blocks_tl]
      unfold nts pgT pgs pgsN
      rw [List.map_map, List.map_map]
      rfl
    rw [e]
    have ig := pgT_imm (pgs (blocksP W L F) H)
    have hpt := pgT_pt (l := pgs (blocksP W L F) H) (by have := pgsN_len (blocksP W L F) H (blocksP W L F).length; have := (blocks_small (F := F) hW g1 g2 g3).1; unfold pgs; omega) 7
    have ks := w1_is (same_yes hpt rfl)
    have i4 : imms [.tup (pgT (pgs (blocksP W L F) H)), .tup (pgT (pgs (blocksP W L F) H))] = true := by simp [imms, imm, ig]
    generalize hZ : pgT (pgs (blocksP W L F) H) = Z at *
    generalize hX1 : D.rol ((blocksL W L F).map lblD) = X1 at *
    generalize hX2 : D.rol (stD (blocksL W L F) H (blocksL W L F).length) = X2 at *
    refine wS_seq (wS_if ?_)
    repeat' (first | walk_at "m2" | walk_at "m1" | walk_at "mE" | walk_at "mA" | walk_at "m0")
    walk_at "mS"
    subst hY hV hX1 hX2 hZ
    exact t11_ok hj hW hH g1 g2 gc g3 g4

theorem law_w {d : D} {r1 r2 : Int} (h1 : 0 ≤ r1 ∧ r1 < 20) (h2 : 0 ≤ r2 ∧ r2 < 81) (h : d ∈ [D.int 20, .int 100, .int (20 + r1), .int (20 + r2)]) : ∃ W : Nat, d = .int W ∧ (20 ≤ W ∧ W ≤ 100) := by
  simp only [List.mem_cons, List.not_mem_nil, or_false] at h
  rcases h with rfl | rfl | rfl | rfl
  · exact ⟨20, rfl, by decide⟩
  · exact ⟨100, rfl, by decide⟩
  · exact ⟨20 + r1.toNat, by congr 1; omega, by omega⟩
  · exact ⟨20 + r2.toNat, by congr 1; omega, by omega⟩
theorem law_h {d : D} {r1 r2 : Int} (h1 : 0 ≤ r1 ∧ r1 < 12) (h2 : 0 ≤ r2 ∧ r2 < 96) (h : d ∈ [D.int 5, .int 6, .int (5 + r1), .int (5 + r2)]) : ∃ W : Nat, d = .int W ∧ (5 ≤ W ∧ W ≤ 100) := by
  simp only [List.mem_cons, List.not_mem_nil, or_false] at h
  rcases h with rfl | rfl | rfl | rfl
  · exact ⟨5, rfl, by decide⟩
  · exact ⟨6, rfl, by decide⟩
  · exact ⟨5 + r1.toNat, by congr 1; omega, by omega⟩
  · exact ⟨5 + r2.toNat, by congr 1; omega, by omega⟩
theorem math (ns : List Int) (h : ns.length ≤ 63) : m_law [.rol (ns.map D.int)] = .ok (.bl true) := by
  apply w1_is
  apply w1_def (by simp [imms, imm, imms_ints])
  unfold b_law
  generalize hscr : D.rol (ns.map D.int) = script
  have iscr : imm script = true := by rw [← hscr]; simp [imm, imms_ints]
  repeat' (first | walk_at "m" | walk_at "t")
  refine w1_mono (by rw [← hscr]; exact jar_ok ns h) fun jar hj => ?_
  clear hscr h
  repeat' (first | walk_at "m" | walk_at "t")
  refine wD_mono (law_view_ok hj) fun d os ⟨L, jar2, e1, g1, g2, gc, hj2, e2⟩ => ?_
  subst e1 e2
  have ip := pars_imm L
  clear hj
  repeat' (first | walk_at "m" | walk_at "t")
  rename_i r1 j1 a1 a2 a3 r2 j2 b1 b2 b3
  have hq : 0 ≤ r1 / 6 * r2 ∧ r1 / 6 * r2 ≤ 8 := by
    have : r1 / 6 = 0 ∨ r1 / 6 = 1 := by omega
    rcases this with e | e
    · rw [e]; omega
    · rw [e]; omega
  generalize r1 / 6 * r2 = many at hq ⊢
  refine And.intro (small62_of (by omega)) ?_
  refine wS_loop0 (fun k e => Hold (∃ (F : List Flt) (x4 : Option D), F.length = k ∧ (∀ f ∈ F, FGood f) ∧ e = [some script, some j2, some (.rol (L.map parD)), some (.lst (F.map faultD)), x4, none, none, none, none, none, none, none, none, none, none, none, none])) _ ⟨[], _, rfl, by simp, rfl⟩ (fun i d e hd hI => ?_) (fun e hI => ?_)
  · obtain ⟨F, x4, hF, hG, rfl⟩ := hI
    obtain ⟨hi, rfl⟩ := range_at hd
    have lF : (F.map faultD).length = F.length := List.length_map _
    have := toStr5 (n := 0 + (i : Int) + 1) (by omega) (by omega)
    repeat' (first | walk_at "m" | walk_at "t")
    generalize lit (toString (0 + (i : Int) + 1)) = zt at this ⊢
    repeat' (first | walk_at "m" | walk_at "t")
    refine ⟨F ++ [(lit "zz." ++ zt, lit "double", 0 + (i : Int))], some (.int (0 + (i : Int))), by simp; omega, fun q hq => ?_, ?_⟩
    · rcases List.mem_append.mp hq with z | z
      · exact hG q z
      · rw [List.mem_singleton.mp z]
        refine ⟨?_, by show (lit "double").length ≤ 10; simp, by simp only; omega, by simp only; omega⟩
        show (lit "zz." ++ zt).length ≤ 30
        rw [List.length_append]
        have : (lit "zz.").length = 3 := by simp
        omega
    · rw [List.map_append]
      rfl
  · obtain ⟨F, x4, hF, hG, rfl⟩ := hI
    rw [range_len] at hF
    have hF : F.length ≤ 8 := by omega
    have lF : (F.map faultD).length = F.length := List.length_map _
    have iF := flts_imm F
    clear a3 hj2
    refine wS_seq (wS_set ?_)
    repeat' (first | walk_at "m2" | walk_at "m1" | walk_at "mE" | walk_at "mA" | walk_at "m0")
    refine w0_tupR ip ?_
    repeat' (first | walk_at "m2" | walk_at "m1" | walk_at "mE" | walk_at "mA" | walk_at "m0")
    refine wS_seq (wS_set ?_)
    repeat' (first | walk_at "m" | walk_at "t")
    rename_i s1 js1 c1 c2 c3 s2 js2 c4 c5 c6 s3 js3 c7 c8 c9
    refine w0_ixL (by omega) (by simp; omega) fun d hd => ?_
    obtain ⟨W, rfl, hW⟩ := law_w ⟨c1, c2⟩ ⟨c4, c5⟩ (mem_get hd)
    clear hd c3 c6
    refine And.intro rfl ?_
    refine wS_seq (wS_set ?_)
    repeat' (first | walk_at "m" | walk_at "t")
    rename_i t1 jt1 d1 d2 d3 t2 jt2 d4 d5 d6 t3 jt3 d7 d8 d9
    refine w0_ixL (by omega) (by simp; omega) fun d hd => ?_
    obtain ⟨H, rfl, hH⟩ := law_h ⟨d1, d2⟩ ⟨d4, d5⟩ (mem_get hd)
    clear hd
    refine And.intro rfl ?_
    refine wS_mono (t8_ok (by assumption) hW hH g1 g2 gc hF hG) (fun _ z => z.elim) (fun _ _ h => h) (fun _ z => z) (fun _ z => z)

end LK53

open PySem PySem.W PyProof.Rows in
set_option maxHeartbeats 0 in
theorem PySem.Challenge.cw_lectern_k53_pages_holds : PySem.Challenge.rw_lectern_k53_pages.Holds := by
  w_on; o_law; k_head; (case hw => w_witness2)
  k_fill
  refine L2.walk_of (l := PySem.Challenge.rw_lectern_k53_pages) (n := 63) (k := 12) (x := "script") (CX := fun _ => L2.CX0) (sp := fun w => Mir.spN _ 1 LK53.m_law) rfl (by decide) rfl ⟨rfl, by decide, by decide⟩ (fun w h Y => PySem.W.kIn_of Y) ?F (fun w H a ns hl ho hS => Mir.law_start ho hS (LK53.math ns hl)) (fun _ _ _ _ _ h => h)
  case F =>
    intro w mg fa h KX G hmg
    refine' LK53.all_mk KX G hmg ?a0 ?l0 ?c0 ?k0 ?a1 ?l1 ?c1 ?k1 ?a2 ?l2 ?c2 ?k2 ?a3 ?l3 ?c3 ?k3 ?a4 ?l4 ?c4 ?k4 ?a5 ?l5 ?c5 ?k5 ?a6 ?l6 ?c6 ?k6 ?a7 ?l7 ?c7 ?k7 ?a8 ?l8 ?c8 ?k8 ?a9 ?l9 ?c9 ?k9 ?a10 ?l10 ?c10 ?k10 ?a11 ?l11 ?c11 ?k11 ?a12 ?l12 ?c12 ?k12 ?a13 ?l13 ?c13 ?k13 ?a14 ?l14 ?c14 ?k14 ?a15 ?l15 ?c15 ?k15 ?a16 ?l16 ?c16 ?k16 ?a17 ?l17 ?c17 ?k17 ?a18 ?l18 ?c18 ?k18 ?a19 ?l19 ?c19 ?k19 ?a20 ?l20 ?c20 ?k20 ?a21 ?l21 ?c21 ?k21 ?a22 ?l22 ?c22 ?k22 ?a23 ?l23 ?c23 ?k23 ?a24 ?l24 ?c24 ?k24 ?a25 ?l25 ?c25 ?k25 ?a26 ?l26 ?c26 ?k26 ?a27 ?l27 ?c27 ?k27 ?a28 ?l28 ?c28 ?k28 ?a29 ?l29 ?c29 ?k29 ?a30 ?l30 ?c30 ?k30 ?a31 ?l31 ?c31 ?k31 ?a32 ?l32 ?c32 ?k32 ?a33 ?l33 ?c33 ?k33 ?a34 ?l34 ?c34 ?k34 ?a35 ?l35 ?c35 ?k35 ?a36 ?l36 ?c36 ?k36 ?a37 ?l37 ?c37 ?k37 ?a38 ?l38 ?c38 ?k38 ?a39 ?l39 ?c39 ?k39 ?a40 ?l40 ?c40 ?k40 ?e0 ?e1 ?e2 ?e3 ?e4 ?e5 ?e6 ?z0 ?z1 ?z2 ?z3 ?z4 ?z5 ?z6 ?z7 ?z8 ?z9 ?z10 ?z11 ?ga0 ?ga1 ?ga2 ?xk1 ?xx1 ?xs1 ?xt1 ?xg1 ?xh1 ?xd1 ?xc1 ?xn ?xa ?xm1 ?xself1 ?sb1_0 ?xd0 ?xt0 ?sb1_2 ?xd2 ?xt2 ?sv1
    (case a0 => k_is); (case l0 => k_is); (case c0 => k_is); (case k0 => k_is); (case a1 => k_is); (case l1 => k_is); (case c1 => k_is); (case k1 => k_is); (case a2 => k_is); (case l2 => k_is); (case c2 => k_is); (case k2 => k_is); (case a3 => k_is); (case l3 => k_is); (case c3 => k_is); (case k3 => k_is); (case a4 => k_is); (case l4 => k_is); (case c4 => k_is); (case k4 => k_is); (case a5 => k_is); (case l5 => k_is); (case c5 => k_is); (case k5 => k_is); (case a6 => k_is); (case l6 => k_is); (case c6 => k_is); (case k6 => k_is); (case a7 => k_is); (case l7 => k_is); (case c7 => k_is); (case k7 => k_is); (case a8 => k_is); (case l8 => k_is); (case c8 => k_is); (case k8 => k_is); (case a9 => k_is); (case l9 => k_is); (case c9 => k_is); (case k9 => k_is); (case a10 => k_is); (case l10 => k_is); (case c10 => k_is); (case k10 => k_is); (case a11 => k_is); (case l11 => k_is); (case c11 => k_is); (case k11 => k_is); (case a12 => k_is); (case l12 => k_is); (case c12 => k_is); (case k12 => k_is); (case a13 => k_is); (case l13 => k_is); (case c13 => k_is); (case k13 => k_is); (case a14 => k_is); (case l14 => k_is); (case c14 => k_is); (case k14 => k_is); (case a15 => k_is); (case l15 => k_is); (case c15 => k_is); (case k15 => k_is); (case a16 => k_is); (case l16 => k_is); (case c16 => k_is); (case k16 => k_is); (case a17 => k_is); (case l17 => k_is); (case c17 => k_is); (case k17 => k_is); (case a18 => k_is); (case l18 => k_is); (case c18 => k_is); (case k18 => k_is); (case a19 => k_is); (case l19 => k_is); (case c19 => k_is); (case k19 => k_is); (case a20 => k_is); (case l20 => k_is); (case c20 => k_is); (case k20 => k_is); (case a21 => k_is); (case l21 => k_is); (case c21 => k_is); (case k21 => k_is); (case a22 => k_is); (case l22 => k_is); (case c22 => k_is); (case k22 => k_is); (case a23 => k_is); (case l23 => k_is); (case c23 => k_is); (case k23 => k_is); (case a24 => k_is); (case l24 => k_is); (case c24 => k_is); (case k24 => k_is); (case a25 => k_is); (case l25 => k_is); (case c25 => k_is); (case k25 => k_is); (case a26 => k_is); (case l26 => k_is); (case c26 => k_is); (case k26 => k_is); (case a27 => k_is); (case l27 => k_is); (case c27 => k_is); (case k27 => k_is); (case a28 => k_is); (case l28 => k_is); (case c28 => k_is); (case k28 => k_is); (case a29 => k_is); (case l29 => k_is); (case c29 => k_is); (case k29 => k_is); (case a30 => k_is); (case l30 => k_is); (case c30 => k_is); (case k30 => k_is); (case a31 => k_is); (case l31 => k_is); (case c31 => k_is); (case k31 => k_is); (case a32 => k_is); (case l32 => k_is); (case c32 => k_is); (case k32 => k_is); (case a33 => k_is); (case l33 => k_is); (case c33 => k_is); (case k33 => k_is); (case a34 => k_is); (case l34 => k_is); (case c34 => k_is); (case k34 => k_is); (case a35 => k_is); (case l35 => k_is); (case c35 => k_is); (case k35 => k_is); (case a36 => k_is); (case l36 => k_is); (case c36 => k_is); (case k36 => k_is); (case a37 => k_is); (case l37 => k_is); (case c37 => k_is); (case k37 => k_is); (case a38 => k_is); (case l38 => k_is); (case c38 => k_is); (case k38 => k_is); (case a39 => k_is); (case l39 => k_is); (case c39 => k_is); (case k39 => k_is); (case a40 => k_is); (case l40 => k_is); (case c40 => k_is); (case k40 => k_is); (case e0 => k_is); (case e1 => k_is); (case e2 => k_is); (case e3 => k_is); (case e4 => k_is); (case e5 => k_is); (case e6 => k_is); (case z0 => k_is); (case z1 => k_is); (case z2 => k_is); (case z3 => k_is); (case z4 => k_is); (case z5 => k_is); (case z6 => k_is); (case z7 => k_is); (case z8 => k_is); (case z9 => k_is); (case z10 => k_is); (case z11 => k_is); (case ga0 => k_is); (case ga1 => k_is); (case ga2 => k_is); (case xk1 => k_is); (case xx1 => k_exc); (case xs1 => k_is); (case xt1 => k_is); (case xg1 => k_is); (case xh1 => k_is); (case xd1 => k_is); (case xc1 => k_is); (case xn => k_is); (case xa => k_is); (case xm1 => k_is); (case xself1 => first | k_is | rfl); (case sb1_0 => k_is); (case xd0 => k_is); (case xt0 => k_is); (case sb1_2 => k_is); (case xd2 => k_is); (case xt2 => k_is); (case sv1 => k_is)
