import PyProof.Rows.All
import Wide.All
import OpenK.AllK
import Wide.FinOn
import HandS.ForMost
import HandS.Style
import HandS.DictComp
import HandS.Wide
import HandS.WideBits
import HandS.IsInst
import HandS.TupAny
import HandS.Deep
import PyProof.ReprReads
import KE.LtData
import HandS.SortInts
import KE.SortData
import KE.DataMinMax
import PyProof.ListStr
import PyProof.ReprRoads
import HandS.ListItems
import KE.KDictZip
import HandS.Defaults
import HandS.Zip
import PySem.Challenge.RW_eachdelay_k71_whole_times_of_webs
set_option Elab.async false
set_option linter.all false
set_option maxRecDepth 100000
set_option maxHeartbeats 4000000
namespace DL
open PySem PySem.Spec PyProof.Rows L2

/-! ### data -/
inductive D where
  | non | bl (b : Bool) | int (i : Int) | str (x : Str)
  | lst (xs : List D) | tup (xs : List D) | scr (ns : List Int)
  | dK (ks : List Key) (xs : List D) | dT (ks : List (List Key)) (xs : List D)

mutual
def Rep (K : PySem.W.Frag) (H : Hp) : D → V → Prop
  | .non, v => v = .non
  | .bl b, v => v = .bl b
  | .int i, v => v = .int i
  | .str x, v => v = .str x
  | .lst ds, v => ∃ a vs, v = .ref a ∧ H a = some (.lst vs) ∧ Reps K H ds vs
  | .scr ns, v => ∃ a, v = .ref a ∧ SqL K H a (ns.map V.int)
  | .tup ds, v => ∃ a vs, v = .ref a ∧ H a = some (.tup vs) ∧ Reps K H ds vs
  | .dK ks ds, v => ∃ a vs, v = .ref a ∧ Rd H a (.dK (ks.zip vs)) ∧ ks.length = ds.length ∧ Reps K H ds vs
  | .dT ks ds, v => ∃ a vs, v = .ref a ∧ Rd H a (.dT (ks.zip vs)) ∧ ks.length = ds.length ∧ Reps K H ds vs
def Reps (K : PySem.W.Frag) (H : Hp) : List D → List V → Prop
  | [], vs => vs = []
  | d :: ds, vs => ∃ v r, vs = v :: r ∧ Rep K H d v ∧ Reps K H ds r
end

/-- what is read in H is read in H' -/
def Dat : HO → Prop
  | .lst _ => True
  | .tup _ => True
  | .dK _ => True
  | .dT _ => True
  | _ => False
structure Le (H H' : Hp) : Prop where
  rd : ∀ a u, Dat u → Rd H a u → Rd H' a u
  ls : ∀ a xs, H a = some (.lst xs) → H' a = some (.lst xs)
  tp : ∀ a xs, H a = some (.tup xs) → H' a = some (.tup xs)
theorem Le.of {H H' : Hp} (s : Same H H') : Le H H' := ⟨fun a u _ r => r.elim (fun e => .inl (s _ _ e)) fun ⟨o, e⟩ => .inr ⟨o, s _ _ e⟩, fun a xs e => s _ _ e, fun a xs e => s _ _ e⟩
theorem Le.refl (H : Hp) : Le H H := ⟨fun _ _ _ r => r, fun _ _ e => e, fun _ _ e => e⟩
theorem Le.trans {H H1 H2 : Hp} (a : Le H H1) (b : Le H1 H2) : Le H H2 := ⟨fun x u d r => b.rd x u d (a.rd x u d r), fun x u e => b.ls x u (a.ls x u e), fun x u e => b.tp x u (a.tp x u e)⟩
theorem Le.sqL {K : PySem.W.Frag} {H H' : Hp} {a : Addr} {xs : List V} (l : Le H H') (h : SqL K H a xs) : SqL K H' a xs := h.elim (fun r => .inl (l.rd _ _ trivial r)) .inr
theorem Le.sqT {K : PySem.W.Frag} {H H' : Hp} {a : Addr} {xs : List V} (l : Le H H') (h : SqT K H a xs) : SqT K H' a xs := h.elim (fun r => .inl (l.rd _ _ trivial r)) .inr

section
variable {K : PySem.W.Frag} {H H' : Hp}
mutual
theorem rep_le (l : Le H H') : ∀ (d : D) (v : V), Rep K H d v → Rep K H' d v
  | .non, v, h => by unfold Rep at *; exact h
  | .bl b, v, h => by unfold Rep at *; exact h
  | .int b, v, h => by unfold Rep at *; exact h
  | .str b, v, h => by unfold Rep at *; exact h
  | .lst ds, v, h => by
    unfold Rep at *
    obtain ⟨a, vs, e, q, r⟩ := h
    exact ⟨a, vs, e, l.ls _ _ q, reps_le l ds vs r⟩
  | .scr ns, v, h => by
    unfold Rep at *
    obtain ⟨a, e, q⟩ := h
    exact ⟨a, e, l.sqL q⟩
  | .tup ds, v, h => by
    unfold Rep at *
    obtain ⟨a, vs, e, q, r⟩ := h
    exact ⟨a, vs, e, l.tp _ _ q, reps_le l ds vs r⟩
  | .dK ks ds, v, h => by
    unfold Rep at *
    obtain ⟨a, vs, e, q, z, r⟩ := h
    exact ⟨a, vs, e, l.rd _ _ trivial q, z, reps_le l ds vs r⟩
  | .dT ks ds, v, h => by
    unfold Rep at *
    obtain ⟨a, vs, e, q, z, r⟩ := h
    exact ⟨a, vs, e, l.rd _ _ trivial q, z, reps_le l ds vs r⟩
theorem reps_le (l : Le H H') : ∀ (ds : List D) (vs : List V), Reps K H ds vs → Reps K H' ds vs
  | [], vs, h => by unfold Reps at *; exact h
  | d :: ds, vs, h => by
    unfold Reps at *
    obtain ⟨v, r, e, q, z⟩ := h
    exact ⟨v, r, e, rep_le l d v q, reps_le l ds r z⟩
end
theorem Rep.same {d : D} {v : V} (h : Rep K H d v) (s : Same H H') : Rep K H' d v := rep_le (Le.of s) d v h
theorem Reps.same {ds : List D} {vs : List V} (h : Reps K H ds vs) (s : Same H H') : Reps K H' ds vs := reps_le (Le.of s) ds vs h
theorem reps_nil {vs : List V} : Reps K H [] vs ↔ vs = [] := by unfold Reps; exact Iff.rfl
theorem reps_cons {d : D} {ds : List D} {vs : List V} : Reps K H (d :: ds) vs ↔ ∃ v r, vs = v :: r ∧ Rep K H d v ∧ Reps K H ds r := by rw [Reps]
theorem Reps.cons {d : D} {ds : List D} {v : V} {vs : List V} (h : Rep K H d v) (r : Reps K H ds vs) : Reps K H (d :: ds) (v :: vs) := reps_cons.mpr ⟨v, vs, rfl, h, r⟩
theorem Reps.nil : Reps K H [] [] := reps_nil.mpr rfl
theorem Reps.length : ∀ {ds : List D} {vs : List V}, Reps K H ds vs → vs.length = ds.length
  | [], vs, h => by rw [reps_nil.mp h]; rfl
  | d :: ds, vs, h => by
    obtain ⟨v, r, e, _, z⟩ := reps_cons.mp h
    rw [e, List.length_cons, List.length_cons, Reps.length z]
theorem Reps.get : ∀ {ds : List D} {vs : List V} {i : Nat} {d : D}, Reps K H ds vs → ds[i]? = some d → ∃ v, vs[i]? = some v ∧ Rep K H d v
  | [], vs, i, d, h, e => by simp at e
  | d :: ds, vs, 0, x, h, e => by
    obtain ⟨v, r, rfl, q, z⟩ := reps_cons.mp h
    simp at e; subst e
    exact ⟨v, rfl, q⟩
  | d :: ds, vs, i + 1, x, h, e => by
    obtain ⟨v, r, rfl, q, z⟩ := reps_cons.mp h
    simp at e
    obtain ⟨w, h1, h2⟩ := Reps.get z e
    exact ⟨w, by simpa using h1, h2⟩
theorem Reps.getV : ∀ {ds : List D} {vs : List V} {i : Nat} {v : V}, Reps K H ds vs → vs[i]? = some v → ∃ d, ds[i]? = some d ∧ Rep K H d v
  | [], vs, i, d, h, e => by rw [reps_nil.mp h] at e; simp at e
  | d :: ds, vs, 0, x, h, e => by
    obtain ⟨v, r, rfl, q, z⟩ := reps_cons.mp h
    simp at e; subst e
    exact ⟨d, rfl, q⟩
  | d :: ds, vs, i + 1, x, h, e => by
    obtain ⟨v, r, rfl, q, z⟩ := reps_cons.mp h
    simp at e
    obtain ⟨w, h1, h2⟩ := Reps.getV z e
    exact ⟨w, by simpa using h1, h2⟩
theorem Reps.append : ∀ {ds es : List D} {vs us : List V}, Reps K H ds vs → Reps K H es us → Reps K H (ds ++ es) (vs ++ us)
  | [], es, vs, us, h, h' => by rw [reps_nil.mp h]; exact h'
  | d :: ds, es, vs, us, h, h' => by
    obtain ⟨v, r, rfl, q, z⟩ := reps_cons.mp h
    exact .cons q (Reps.append z h')
theorem Reps.take : ∀ (n : Nat) {ds : List D} {vs : List V}, Reps K H ds vs → Reps K H (ds.take n) (vs.take n)
  | 0, ds, vs, h => by simpa using Reps.nil
  | n + 1, [], vs, h => by rw [reps_nil.mp h]; exact .nil
  | n + 1, d :: ds, vs, h => by
    obtain ⟨v, r, rfl, q, z⟩ := reps_cons.mp h
    exact .cons q (Reps.take n z)
theorem Reps.drop : ∀ (n : Nat) {ds : List D} {vs : List V}, Reps K H ds vs → Reps K H (ds.drop n) (vs.drop n)
  | 0, ds, vs, h => by simpa using h
  | n + 1, [], vs, h => by rw [reps_nil.mp h]; exact .nil
  | n + 1, d :: ds, vs, h => by
    obtain ⟨v, r, rfl, q, z⟩ := reps_cons.mp h
    exact Reps.drop n z
theorem Reps.set {d : D} {v : V} (hd : Rep K H d v) : ∀ (n : Nat) {ds : List D} {vs : List V}, Reps K H ds vs → Reps K H (ds.set n d) (vs.set n v)
  | n, [], vs, h => by rw [reps_nil.mp h]; exact .nil
  | 0, x :: ds, vs, h => by
    obtain ⟨u, r, rfl, q, z⟩ := reps_cons.mp h
    exact .cons hd z
  | n + 1, x :: ds, vs, h => by
    obtain ⟨u, r, rfl, q, z⟩ := reps_cons.mp h
    exact .cons q (Reps.set hd n z)
theorem Reps.eraseIdx : ∀ (n : Nat) {ds : List D} {vs : List V}, Reps K H ds vs → Reps K H (ds.eraseIdx n) (vs.eraseIdx n)
  | n, [], vs, h => by rw [reps_nil.mp h]; exact .nil
  | 0, x :: ds, vs, h => by
    obtain ⟨u, r, rfl, q, z⟩ := reps_cons.mp h
    exact z
  | n + 1, x :: ds, vs, h => by
    obtain ⟨u, r, rfl, q, z⟩ := reps_cons.mp h
    exact .cons q (Reps.eraseIdx n z)
theorem Reps.mem : ∀ {ds : List D} {vs : List V} {v : V}, Reps K H ds vs → v ∈ vs → ∃ d ∈ ds, Rep K H d v := fun {ds vs v} h m => by
  obtain ⟨i, hi⟩ := List.getElem?_of_mem m
  obtain ⟨d, e, r⟩ := h.getV hi
  exact ⟨d, List.mem_of_getElem? e, r⟩
end

/-! ### owned trees -/
def Owns (rel : D → V → List Addr → Prop) : List D → List V → List Addr → Prop
  | [], vs, fp => vs = [] ∧ fp = []
  | d :: ds, vs, fp => ∃ v r f1 f2, vs = v :: r ∧ fp = f1 ++ f2 ∧ rel d v f1 ∧ Owns rel ds r f2
def Own (K : PySem.W.Frag) (G H : Hp) : Nat → D → V → List Addr → Prop
  | 0, d, v, fp => Rep K G d v ∧ fp = []
  | n + 1, d, v, fp => ∃ a fr, v = .ref a ∧ fp = a :: fr ∧ (match d with
    | .lst ds => ∃ vs, H a = some (.lst vs) ∧ Owns (Own K G H n) ds vs fr
    | .dK ks ds => ∃ vs, H a = some (.dK (ks.zip vs)) ∧ ks.length = ds.length ∧ Owns (Own K G H n) ds vs fr
    | .dT ks ds => ∃ vs, H a = some (.dT (ks.zip vs)) ∧ ks.length = ds.length ∧ Owns (Own K G H n) ds vs fr
    | _ => False)
theorem Owns.imp {R R' : D → V → List Addr → Prop} : ∀ {ds : List D} {vs : List V} {fp : List Addr}, Owns R ds vs fp → (∀ d v f, (∀ a ∈ f, a ∈ fp) → R d v f → R' d v f) → Owns R' ds vs fp
  | [], vs, fp, h, _ => h
  | d :: ds, vs, fp, h, k => by
    obtain ⟨v, r, f1, f2, e1, e2, h1, h2⟩ := h
    subst e2
    exact ⟨v, r, f1, f2, e1, rfl, k d v f1 (fun a q => List.mem_append_left _ q) h1, Owns.imp h2 fun d v f q => k d v f fun a z => List.mem_append_right _ (q a z)⟩
theorem Owns.reps {K : PySem.W.Frag} {R : D → V → List Addr → Prop} {H : Hp} : ∀ {ds : List D} {vs : List V} {fp : List Addr}, Owns R ds vs fp → (∀ d v f, (∀ a ∈ f, a ∈ fp) → R d v f → Rep K H d v) → Reps K H ds vs
  | [], vs, fp, h, _ => by rw [h.1]; exact .nil
  | d :: ds, vs, fp, h, k => by
    obtain ⟨v, r, f1, f2, e1, e2, h1, h2⟩ := h
    subst e2 e1
    exact .cons (k d v f1 (fun a q => List.mem_append_left _ q) h1) (Owns.reps h2 fun d v f q => k d v f fun a z => List.mem_append_right _ (q a z))
theorem Owns.of_reps {K : PySem.W.Frag} {G H : Hp} : ∀ {ds : List D} {vs : List V}, Reps K G ds vs → Owns (Own K G H 0) ds vs []
  | [], vs, h => by rw [reps_nil.mp h]; exact ⟨rfl, rfl⟩
  | d :: ds, vs, h => by
    obtain ⟨v, r, rfl, q, z⟩ := reps_cons.mp h
    exact ⟨v, r, [], [], rfl, rfl, ⟨q, rfl⟩, Owns.of_reps z⟩
theorem Owns.to_reps {K : PySem.W.Frag} {G H : Hp} : ∀ {ds : List D} {vs : List V} {fp : List Addr}, Owns (Own K G H 0) ds vs fp → Reps K G ds vs ∧ fp = []
  | [], vs, fp, h => by obtain ⟨rfl, rfl⟩ := h; exact ⟨.nil, rfl⟩
  | d :: ds, vs, fp, h => by
    obtain ⟨v, r, f1, f2, rfl, rfl, ⟨h1, rfl⟩, h2⟩ := h
    obtain ⟨z, rfl⟩ := Owns.to_reps h2
    exact ⟨.cons h1 z, rfl⟩
theorem Owns.length {R : D → V → List Addr → Prop} : ∀ {ds : List D} {vs : List V} {fp : List Addr}, Owns R ds vs fp → vs.length = ds.length
  | [], vs, fp, h => by rw [h.1]; rfl
  | d :: ds, vs, fp, h => by
    obtain ⟨v, r, f1, f2, e1, e2, h1, h2⟩ := h
    rw [e1, List.length_cons, List.length_cons, Owns.length h2]
/-- what is owned stays owned: G grows, its own objects stand -/
theorem Own.keep {K : PySem.W.Frag} {G G' H H' : Hp} (s : Same G G') : ∀ {n : Nat} {d : D} {v : V} {fp : List Addr}, Own K G H n d v fp → (∀ a ∈ fp, ∀ o, H a = some o → H' a = some o) → Own K G' H' n d v fp
  | 0, d, v, fp, h, _ => ⟨h.1.same s, h.2⟩
  | n + 1, d, v, fp, h, k => by
    obtain ⟨a, fr, e1, e2, h⟩ := h
    subst e2
    refine ⟨a, fr, e1, rfl, ?_⟩
    have ka : ∀ o, H a = some o → H' a = some o := k a List.mem_cons_self
    have kr : ∀ {ds vs}, Owns (Own K G H n) ds vs fr → Owns (Own K G' H' n) ds vs fr := fun q => q.imp fun d v f q r => Own.keep s r fun b hb => k b (List.mem_cons_of_mem _ (q b hb))
    cases d with
    | lst ds => obtain ⟨vs, e, q⟩ := h; exact ⟨vs, ka _ e, kr q⟩
    | dK ks ds => obtain ⟨vs, e, z, q⟩ := h; exact ⟨vs, ka _ e, z, kr q⟩
    | dT ks ds => obtain ⟨vs, e, z, q⟩ := h; exact ⟨vs, ka _ e, z, kr q⟩
    | non => exact h
    | bl b => exact h
    | int b => exact h
    | str b => exact h
    | tup b => exact h
    | scr b => exact h
/-- what is owned is there as data, in any heap that has it and the shared part -/
theorem Own.rep {K : PySem.W.Frag} {G H J : Hp} (s : Same G J) : ∀ {n : Nat} {d : D} {v : V} {fp : List Addr}, Own K G H n d v fp → (∀ a ∈ fp, ∀ o, H a = some o → J a = some o) → Rep K J d v
  | 0, d, v, fp, h, _ => h.1.same s
  | n + 1, d, v, fp, h, k => by
    obtain ⟨a, fr, e1, e2, h⟩ := h
    subst e2
    have ka : ∀ o, H a = some o → J a = some o := k a List.mem_cons_self
    have kr : ∀ {ds vs}, Owns (Own K G H n) ds vs fr → Reps K J ds vs := fun q => q.reps fun d v f q r => Own.rep s r fun b hb => k b (List.mem_cons_of_mem _ (q b hb))
    cases d with
    | lst ds => obtain ⟨vs, e, q⟩ := h; unfold Rep; exact ⟨a, vs, e1, ka _ e, kr q⟩
    | dK ks ds => obtain ⟨vs, e, z, q⟩ := h; unfold Rep; exact ⟨a, vs, e1, .inl (ka _ e), z, kr q⟩
    | dT ks ds => obtain ⟨vs, e, z, q⟩ := h; unfold Rep; exact ⟨a, vs, e1, .inl (ka _ e), z, kr q⟩
    | non => exact h.elim
    | bl b => exact h.elim
    | int b => exact h.elim
    | str b => exact h.elim
    | tup b => exact h.elim
    | scr b => exact h.elim

/-! ### slots -/
inductive M where
  | un | sh | vw (n : Nat) | bo | ow (n : Nat) | lk
  deriving DecidableEq
def SlotOk (K : PySem.W.Frag) (G H : Hp) (m : M) (d : D) (o : Option V) (fp : List Addr) : Prop := match m with
  | .sh => fp = [] ∧ ∃ v, o = some v ∧ Rep K G d v
  | .lk => fp = [] ∧ ∃ v, o = some v ∧ Rep K G d v ∧ ∃ a od kvs, v = .ref a ∧ G a = some (.frz od (.dK kvs))
  | .ow n => ∃ v, o = some v ∧ Own K G H n d v fp
  | _ => fp = []
def Slots (K : PySem.W.Frag) (G H : Hp) : List M → List D → L2.St → List (List Addr) → Prop
  | [], [], [], [] => True
  | m :: ms, d :: ds, o :: os, f :: fs => SlotOk K G H m d o f ∧ Slots K G H ms ds os fs
  | _, _, _, _ => False
structure Sat (K : PySem.W.Frag) (ms : List M) (env : List D) (σ : L2.St) (fps : List (List Addr)) (G H : Hp) : Prop where
  sl : Slots K G H ms env σ fps
  nd : fps.flatten.Nodup
  out : ∀ a ∈ fps.flatten, G a = none
  sub : Same G H
/-- what a step may do -/
structure Tr (F : List Addr) (G H : Hp) (F' : List Addr) (G' H' : Hp) : Prop where
  gs : Same G G'
  gn : ∀ a, G' a ≠ none → G a ≠ none ∨ H a = none ∨ a ∈ F
  fp : ∀ a ∈ F', a ∈ F ∨ H a = none
  fr : ∀ a o, H a = some o → a ∉ F → H' a = some o
  th : ∀ a, H a ≠ none → H' a ≠ none
theorem Tr.refl (F : List Addr) (G H : Hp) : Tr F G H F G H := ⟨Same.refl _, fun _ h => .inl h, fun _ h => .inl h, fun _ _ h _ => h, fun _ h => h⟩
theorem Tr.back {F F' : List Addr} {G G' H H' : Hp} (t : Tr F G H F' G' H') {a : Addr} (h : H' a = none) : H a = none := by
  cases e : H a with
  | none => rfl
  | some o => exact absurd h (t.th a (by rw [e]; exact fun z => nomatch z))
theorem Tr.trans {F F1 F2 : List Addr} {G G1 G2 H H1 H2 : Hp} (a : Tr F G H F1 G1 H1) (b : Tr F1 G1 H1 F2 G2 H2) : Tr F G H F2 G2 H2 := by
  refine ⟨a.gs.trans b.gs, fun x h => ?_, fun x h => ?_, fun x o h hx => ?_, fun x h => b.th x (a.th x h)⟩
  · rcases b.gn x h with z | z | z
    · exact a.gn x z
    · exact .inr (.inl (a.back z))
    · rcases a.fp x z with q | q
      · exact .inr (.inr q)
      · exact .inr (.inl q)
  · rcases b.fp x h with z | z
    · exact a.fp x z
    · exact .inr (a.back z)
  · refine b.fr x o (a.fr x o h hx) fun z => ?_
    rcases a.fp x z with q | q
    · exact hx q
    · rw [h] at q; cases q
end DL
namespace DL
open PySem PySem.Spec PyProof.Rows L2

section
variable {K : PySem.W.Frag} {G G' H H' : Hp}
theorem Owns.there {R : D → V → List Addr → Prop} : ∀ {ds : List D} {vs : List V} {fp : List Addr}, Owns R ds vs fp → (∀ d v f, R d v f → ∀ a ∈ f, ∃ o, H a = some o) → ∀ a ∈ fp, ∃ o, H a = some o
  | [], vs, fp, h, _ => by rw [h.2]; intro a q; cases q
  | d :: ds, vs, fp, h, k => by
    obtain ⟨v, r, f1, f2, e1, e2, h1, h2⟩ := h
    subst e2
    intro a q
    rcases List.mem_append.mp q with q | q
    · exact k d v f1 h1 a q
    · exact Owns.there h2 k a q
theorem Own.there : ∀ {n : Nat} {d : D} {v : V} {fp : List Addr}, Own K G H n d v fp → ∀ a ∈ fp, ∃ o, H a = some o
  | 0, d, v, fp, h => by rw [h.2]; intro a q; cases q
  | n + 1, d, v, fp, h => by
    obtain ⟨a, fr, e1, e2, h⟩ := h
    subst e2
    intro b hb
    have key : ∀ {o : HO} {ds vs}, H a = some o → Owns (Own K G H n) ds vs fr → ∃ o, H b = some o := fun e q => by
      rcases List.mem_cons.mp hb with z | z
      · rw [z]; exact ⟨_, e⟩
      · exact q.there (fun d v f r => Own.there r) b z
    cases d with
    | lst ds => obtain ⟨vs, e, q⟩ := h; exact key e q
    | dK ks ds => obtain ⟨vs, e, z, q⟩ := h; exact key e q
    | dT ks ds => obtain ⟨vs, e, z, q⟩ := h; exact key e q
    | non => exact h.elim
    | bl b => exact h.elim
    | int b => exact h.elim
    | str b => exact h.elim
    | tup b => exact h.elim
    | scr b => exact h.elim
theorem SlotOk.there {m : M} {d : D} {o : Option V} {fp : List Addr} (h : SlotOk K G H m d o fp) : ∀ a ∈ fp, ∃ o, H a = some o := by
  cases m with
  | un => rw [show fp = [] from h]; intro a q; cases q
  | lk => rw [h.1]; intro a q; cases q
  | sh => rw [h.1]; intro a q; cases q
  | vw n => rw [show fp = [] from h]; intro a q; cases q
  | bo => rw [show fp = [] from h]; intro a q; cases q
  | ow n => obtain ⟨v, _, r⟩ := h; exact r.there
theorem SlotOk.keep {m : M} {d : D} {o : Option V} {fp : List Addr} (h : SlotOk K G H m d o fp) (s : Same G G') (k : ∀ a ∈ fp, ∀ o, H a = some o → H' a = some o) : SlotOk K G' H' m d o fp := by
  cases m with
  | un => exact h
  | lk => obtain ⟨e, v, h1, h2, a, od, kvs, h3, h4⟩ := h; exact ⟨e, v, h1, h2.same s, a, od, kvs, h3, s _ _ h4⟩
  | sh => obtain ⟨e, v, h1, h2⟩ := h; exact ⟨e, v, h1, h2.same s⟩
  | vw n => exact h
  | bo => exact h
  | ow n => obtain ⟨v, e, r⟩ := h; exact ⟨v, e, r.keep s k⟩
theorem Slots.there : ∀ {ms : List M} {env : List D} {σ : L2.St} {fps : List (List Addr)}, Slots K G H ms env σ fps → ∀ a ∈ fps.flatten, ∃ o, H a = some o
  | [], [], [], [], _ => by intro a q; simp at q
  | m :: ms, d :: ds, o :: os, f :: fs, h => by
    obtain ⟨h1, h2⟩ := h
    intro a q
    rw [List.flatten_cons] at q
    rcases List.mem_append.mp q with q | q
    · exact h1.there a q
    · exact Slots.there h2 a q
  | [], [], [], _ :: _, h => h.elim
  | [], [], _ :: _, _, h => h.elim
  | [], _ :: _, _, _, h => h.elim
  | _ :: _, [], _, _, h => h.elim
  | _ :: _, _ :: _, [], _, h => h.elim
  | _ :: _, _ :: _, _ :: _, [], h => h.elim
theorem Slots.keep (s : Same G G') : ∀ {ms : List M} {env : List D} {σ : L2.St} {fps : List (List Addr)}, Slots K G H ms env σ fps → (∀ a ∈ fps.flatten, ∀ o, H a = some o → H' a = some o) → Slots K G' H' ms env σ fps
  | [], [], [], [], _, _ => trivial
  | m :: ms, d :: ds, o :: os, f :: fs, h, k => by
    obtain ⟨h1, h2⟩ := h
    rw [List.flatten_cons] at k
    exact ⟨h1.keep s fun a q => k a (List.mem_append_left _ q), Slots.keep s h2 fun a q => k a (List.mem_append_right _ q)⟩
  | [], [], [], _ :: _, h, _ => h.elim
  | [], [], _ :: _, _, h, _ => h.elim
  | [], _ :: _, _, _, h, _ => h.elim
  | _ :: _, [], _, _, h, _ => h.elim
  | _ :: _, _ :: _, [], _, h, _ => h.elim
  | _ :: _, _ :: _, _ :: _, [], h, _ => h.elim
theorem Slots.get : ∀ {ms : List M} {env : List D} {σ : L2.St} {fps : List (List Addr)} {i : Nat} {m : M}, Slots K G H ms env σ fps → ms[i]? = some m →
    ∃ d o f, env[i]? = some d ∧ σ[i]? = some o ∧ fps[i]? = some f ∧ SlotOk K G H m d o f
  | m :: ms, d :: ds, o :: os, f :: fs, 0, x, h, e => by
    simp at e; subst e
    exact ⟨d, o, f, rfl, rfl, rfl, h.1⟩
  | m :: ms, d :: ds, o :: os, f :: fs, i + 1, x, h, e => by
    simp at e
    obtain ⟨d, o, f, h1, h2, h3, h4⟩ := Slots.get h.2 e
    exact ⟨d, o, f, by simpa using h1, by simpa using h2, by simpa using h3, h4⟩
  | [], _, _, _, _, _, _, e => by simp at e
  | _ :: _, [], _, _, _, _, h, _ => h.elim
  | _ :: _, _ :: _, [], _, _, _, h, _ => h.elim
  | _ :: _, _ :: _, _ :: _, [], _, _, h, _ => h.elim
theorem Slots.set {m : M} {d : D} {o : Option V} {f : List Addr} (hs : SlotOk K G H m d o f) : ∀ {ms : List M} {env : List D} {σ : L2.St} {fps : List (List Addr)} (i : Nat), Slots K G H ms env σ fps →
    Slots K G H (ms.set i m) (env.set i d) (σ.set i o) (fps.set i f)
  | [], [], [], [], _, _ => trivial
  | m :: ms, d :: ds, o :: os, f :: fs, 0, h => ⟨hs, h.2⟩
  | m :: ms, d :: ds, o :: os, f :: fs, i + 1, h => ⟨h.1, Slots.set hs i h.2⟩
  | [], [], [], _ :: _, _, h => h.elim
  | [], [], _ :: _, _, _, h => h.elim
  | [], _ :: _, _, _, _, h => h.elim
  | _ :: _, [], _, _, _, h => h.elim
  | _ :: _, _ :: _, [], _, _, h => h.elim
  | _ :: _, _ :: _, _ :: _, [], _, h => h.elim
theorem Slots.len : ∀ {ms : List M} {env : List D} {σ : L2.St} {fps : List (List Addr)}, Slots K G H ms env σ fps → env.length = ms.length ∧ σ.length = ms.length ∧ fps.length = ms.length
  | [], [], [], [], _ => ⟨rfl, rfl, rfl⟩
  | m :: ms, d :: ds, o :: os, f :: fs, h => by
    obtain ⟨a, b, c⟩ := Slots.len h.2
    exact ⟨by simp [a], by simp [b], by simp [c]⟩
  | [], [], [], _ :: _, h => h.elim
  | [], [], _ :: _, _, h => h.elim
  | [], _ :: _, _, _, h => h.elim
  | _ :: _, [], _, _, h => h.elim
  | _ :: _, _ :: _, [], _, h => h.elim
  | _ :: _, _ :: _, _ :: _, [], h => h.elim
/-- the footprint of one slot is set anew -/
theorem mem_flatten_set {fps : List (List Addr)} {i : Nat} {f : List Addr} {a : Addr} (h : a ∈ (fps.set i f).flatten) : a ∈ f ∨ a ∈ fps.flatten := by
  obtain ⟨l, hl, ha⟩ := List.mem_flatten.mp h
  rcases List.mem_or_eq_of_mem_set hl with z | z
  · exact .inr (List.mem_flatten.mpr ⟨l, z, ha⟩)
  · rw [← z]; exact .inl ha
theorem mem_flatten_get {fps : List (List Addr)} {i : Nat} {f : List Addr} {a : Addr} (e : fps[i]? = some f) (h : a ∈ f) : a ∈ fps.flatten := List.mem_flatten.mpr ⟨f, List.mem_of_getElem? e, h⟩
theorem nodup_flatten_set : ∀ {fps : List (List Addr)} (i : Nat) {f : List Addr}, fps.flatten.Nodup → f.Nodup → (∀ a ∈ f, a ∈ fps.flatten → ∃ g, fps[i]? = some g ∧ a ∈ g) → (fps.set i f).flatten.Nodup
  | [], i, f, h, _, _ => h
  | g :: fps, 0, f, h, hf, k => by
    rw [List.set_cons_zero, List.flatten_cons]
    rw [List.flatten_cons] at h
    obtain ⟨h1, h2, h3⟩ := List.nodup_append.mp h
    refine List.nodup_append.mpr ⟨hf, h2, fun a ha b hb e => ?_⟩
    subst e
    obtain ⟨g', e, hg⟩ := k a ha (by rw [List.flatten_cons]; exact List.mem_append_right _ hb)
    simp at e; subst e
    exact h3 a hg a hb rfl
  | g :: fps, i + 1, f, h, hf, k => by
    rw [List.set_cons_succ, List.flatten_cons]
    rw [List.flatten_cons] at h
    obtain ⟨h1, h2, h3⟩ := List.nodup_append.mp h
    have k' : ∀ a ∈ f, a ∈ fps.flatten → ∃ g, fps[i]? = some g ∧ a ∈ g := fun a ha hb => by
      obtain ⟨g', e, hg⟩ := k a ha (by rw [List.flatten_cons]; exact List.mem_append_right _ hb)
      exact ⟨g', by simpa using e, hg⟩
    refine List.nodup_append.mpr ⟨h1, nodup_flatten_set i h2 hf k', fun a ha b hb e => ?_⟩
    subst e
    rcases mem_flatten_set hb with z | z
    · obtain ⟨g', e, hg⟩ := k a z (by rw [List.flatten_cons]; exact List.mem_append_left _ ha)
      have : a ∈ fps.flatten := mem_flatten_get (i := i) (by simpa using e) hg
      exact h3 a ha a this rfl
    · exact h3 a ha a z rfl

variable {ms : List M} {env : List D} {σ : L2.St} {fps : List (List Addr)}
theorem Sat.there (S : Sat K ms env σ fps G H) : ∀ a ∈ fps.flatten, ∃ o, H a = some o := S.sl.there
/-- the slots stand while the shared part grows -/
theorem Sat.keep (S : Sat K ms env σ fps G H) (s : Same G G') (s2 : Same G' H') (hn : ∀ a ∈ fps.flatten, G' a = none) (k : ∀ a ∈ fps.flatten, ∀ o, H a = some o → H' a = some o) : Sat K ms env σ fps G' H' :=
  ⟨S.sl.keep s k, S.nd, hn, s2⟩
/-- one slot stored -/
theorem Sat.set {m : M} {d : D} {o : Option V} {f : List Addr} (S : Sat K ms env σ fps G H) (i : Nat) (hs : SlotOk K G H m d o f) (hn : f.Nodup) (ho : ∀ a ∈ f, G a = none) (hd : ∀ a ∈ f, a ∈ fps.flatten → ∃ g, fps[i]? = some g ∧ a ∈ g) :
    Sat K (ms.set i m) (env.set i d) (σ.set i o) (fps.set i f) G H :=
  ⟨S.sl.set hs i, nodup_flatten_set i S.nd hn hd, fun a h => (mem_flatten_set h).elim (ho a) (S.out a), S.sub⟩
theorem upd_some {H : Hp} {p a : Addr} {o : HO} (h : H a ≠ none) : upd H p o a ≠ none := by
  unfold upd; split
  · exact fun z => nomatch z
  · exact h
theorem Tr.alloc {F : List Addr} {p : Addr} {o : HO} (s : Same G H) (hp : H p = none) : Tr F G H F (upd G p o) (upd H p o) := by
  have gp : G p = none := s.free hp
  refine ⟨fun b u e => by rw [upd_ne (ne_of_none e gp)]; exact e, fun a h => ?_, fun _ h => .inl h, fun a u e _ => by rw [upd_ne (ne_of_none e hp)]; exact e, fun a h => upd_some h⟩
  by_cases z : a = p
  · rw [z]; exact .inr (.inl hp)
  · rw [upd_ne z] at h; exact .inl h
theorem Tr.allocO {F : List Addr} {p : Addr} {o : HO} (hp : H p = none) : Tr F G H F G (upd H p o) :=
  ⟨Same.refl _, fun _ h => .inl h, fun _ h => .inl h, fun a u e _ => by rw [upd_ne (ne_of_none e hp)]; exact e, fun a h => upd_some h⟩
theorem same_upd {H : Hp} {p : Addr} {o : HO} (hp : H p = none) : Same H (upd H p o) := fun b u e => by rw [upd_ne (ne_of_none e hp)]; exact e
theorem Sat.alloc {p : Addr} {o : HO} (S : Sat K ms env σ fps G H) (hp : H p = none) : Sat K ms env σ fps (upd G p o) (upd H p o) := by
  have gp : G p = none := S.sub.free hp
  refine S.keep (same_upd gp) (fun b u e => ?_) (fun a ha => ?_) fun a _ u e => same_upd hp _ _ e
  · by_cases z : b = p
    · rw [z, upd_same] at e ⊢; exact e
    · rw [upd_ne z] at e ⊢; exact S.sub _ _ e
  · obtain ⟨u, e⟩ := S.there a ha
    rw [upd_ne (ne_of_none e hp)]; exact S.out a ha
theorem Sat.allocO {p : Addr} {o : HO} (S : Sat K ms env σ fps G H) (hp : H p = none) : Sat K ms env σ fps G (upd H p o) :=
  S.keep (Same.refl _) (S.sub.trans (same_upd hp)) S.out fun a _ u e => same_upd hp _ _ e
end

/-! ### values of expressions -/
def RV (K : PySem.W.Frag) (H0 : Hp) (m : M) (d : D) (v : V) (F : List Addr) (G H : Hp) : Prop := match m with
  | .sh => Rep K G d v
  | .bo => Rep K H d v
  | .vw n => ∃ fp, Own K G H n d v fp
  | .ow n => ∃ fp, Own K G H n d v fp ∧ fp.Nodup ∧ ∀ a ∈ fp, G a = none ∧ a ∉ F ∧ H0 a = none
  | _ => False
/-- any value is data in the heap as it is -/
theorem RV.rep {K : PySem.W.Frag} {H0 : Hp} {m : M} {d : D} {v : V} {F : List Addr} {G H : Hp} (h : RV K H0 m d v F G H) (s : Same G H) : Rep K H d v := by
  cases m with
  | un => exact h.elim
  | lk => exact h.elim
  | sh => exact Rep.same h s
  | bo => exact h
  | vw n => obtain ⟨fp, o⟩ := h; exact o.rep s fun _ _ _ e => e
  | ow n => obtain ⟨fp, o, _⟩ := h; exact o.rep s fun _ _ _ e => e
end DL
namespace DL
open PySem PySem.Spec PyProof.Rows L2

/-- growth by new objects alone -/
structure Al (G H G' H' : Hp) : Prop where
  gs : Same G G'
  hs : Same H H'
  gn : ∀ a, G' a ≠ none → G a ≠ none ∨ H a = none
  sub : Same G' H'
section
variable {K : PySem.W.Frag} {G G' H H' H0 : Hp} {F F' : List Addr} {ms : List M} {env : List D} {σ : L2.St} {fps : List (List Addr)}
theorem Al.refl (s : Same G H) : Al G H G H := ⟨Same.refl _, Same.refl _, fun _ h => .inl h, s⟩
theorem Al.sh {p : Addr} {o : HO} (s : Same G H) (hp : H p = none) : Al G H (upd G p o) (upd H p o) := by
  have t := Tr.alloc (F := []) (o := o) s hp
  refine ⟨t.gs, same_upd hp, fun a h => (t.gn a h).elim .inl fun z => z.elim .inr fun q => (nomatch q), fun b u e => ?_⟩
  by_cases z : b = p
  · rw [z, upd_same] at e ⊢; exact e
  · rw [upd_ne z] at e ⊢; exact s _ _ e
theorem Al.ow {p : Addr} {o : HO} (s : Same G H) (hp : H p = none) : Al G H G (upd H p o) := ⟨Same.refl _, same_upd hp, fun _ h => .inl h, s.trans (same_upd hp)⟩
theorem Al.tr (a : Al G H G' H') (F : List Addr) : Tr F G H F G' H' := ⟨a.gs, fun x h => (a.gn x h).elim .inl fun z => .inr (.inl z), fun _ h => .inl h, fun x o e _ => a.hs x o e, fun x h => by
  cases e : H x with
  | none => exact absurd e h
  | some o => rw [a.hs x o e]; exact fun z => nomatch z⟩
theorem Al.sat (a : Al G H G' H') (S : Sat K ms env σ fps G H) : Sat K ms env σ fps G' H' :=
  S.keep a.gs a.sub (fun x hx => by
    cases e : G' x with
    | none => rfl
    | some o =>
      rcases a.gn x (by rw [e]; exact fun z => nomatch z) with z | z
      · exact absurd (S.out x hx) z
      · obtain ⟨u, q⟩ := S.there x hx
        rw [q] at z; cases z) fun x _ o e => a.hs x o e

/-- values as they are used: shared, any, a view of an owned tree -/
def RA (K : PySem.W.Frag) (m : M) (d : D) (v : V) (G H : Hp) : Prop := match m with
  | .sh => Rep K G d v
  | .bo => Rep K H d v
  | .vw n => ∃ fp, Own K G H n d v fp
  | _ => False
def RAs (K : PySem.W.Frag) (G H : Hp) : List M → List D → List V → Prop
  | [], ds, vs => ds = [] ∧ vs = []
  | m :: ms, ds, vs => ∃ d r v q, ds = d :: r ∧ vs = v :: q ∧ RA K m d v G H ∧ RAs K G H ms r q
theorem RA.rep {m : M} {d : D} {v : V} (h : RA K m d v G H) (s : Same G H) : Rep K H d v := by
  cases m with
  | un => exact h.elim
  | lk => exact h.elim
  | sh => exact Rep.same h s
  | bo => exact h
  | vw n => obtain ⟨fp, o⟩ := h; exact o.rep s fun _ _ _ e => e
  | ow n => exact h.elim
theorem RA.step {m : M} {d : D} {v : V} {p : Bool} (h : RA K m d v G H) (t : Tr F G H F' G' H') (ps : p = true → Same H H') (hm : (p || m == .sh) = true) : RA K m d v G' H' := by
  cases m with
  | un => exact h.elim
  | lk => exact h.elim
  | sh => exact Rep.same h t.gs
  | bo => exact Rep.same h (ps (by simpa using hm))
  | vw n => obtain ⟨fp, o⟩ := h; exact ⟨fp, o.keep t.gs fun a _ u e => ps (by simpa using hm) _ _ e⟩
  | ow n => exact h.elim
theorem RAs.reps : ∀ {ms : List M} {ds : List D} {vs : List V}, RAs K G H ms ds vs → Same G H → Reps K H ds vs
  | [], ds, vs, h, s => by rw [h.1, h.2]; exact .nil
  | m :: ms, ds, vs, h, s => by
    obtain ⟨d, r, v, q, rfl, rfl, h1, h2⟩ := h
    exact .cons (h1.rep s) (RAs.reps h2 s)
theorem RAs.shared : ∀ {ms : List M} {ds : List D} {vs : List V}, RAs K G H ms ds vs → ms.all (· == .sh) = true → Reps K G ds vs
  | [], ds, vs, h, s => by rw [h.1, h.2]; exact .nil
  | m :: ms, ds, vs, h, s => by
    obtain ⟨d, r, v, q, rfl, rfl, h1, h2⟩ := h
    simp only [List.all_cons, Bool.and_eq_true, beq_iff_eq] at s
    obtain ⟨e, s⟩ := s
    subst e
    exact .cons h1 (RAs.shared h2 s)

/-- results -/
def Fresh (F0 : List Addr) (H0 : Hp) (F : List Addr) (G : Hp) (fp : List Addr) : Prop := fp.Nodup ∧ ∀ a ∈ fp, G a = none ∧ a ∉ F ∧ (a ∈ F0 ∨ H0 a = none)
def RR (K : PySem.W.Frag) (F0 : List Addr) (H0 : Hp) (m : M) (d : D) (v : V) (F : List Addr) (G H : Hp) : Prop := match m with
  | .ow n => ∃ fp, Own K G H n d v fp ∧ Fresh F0 H0 F G fp
  | m => RA K m d v G H
theorem RR.old {F0 F1 : List Addr} {G0 G1 H1 : Hp} {m : M} {d : D} {v : V} (h : RR K F1 H1 m d v F G H) (t : Tr F0 G0 H0 F1 G1 H1) : RR K F0 H0 m d v F G H := by
  cases m with
  | ow n =>
    obtain ⟨fp, o, nd, q⟩ := h
    exact ⟨fp, o, nd, fun a ha => ⟨(q a ha).1, (q a ha).2.1, (q a ha).2.2.elim (fun z => t.fp a z) fun z => .inr (t.back z)⟩⟩
  | _ => exact h
theorem RR.new {m : M} {d : D} {v : V} (h : RR K [] H0 m d v F G H) (F0 : List Addr) : RR K F0 H0 m d v F G H := by
  cases m with
  | ow n =>
    obtain ⟨fp, o, nd, q⟩ := h
    exact ⟨fp, o, nd, fun a ha => ⟨(q a ha).1, (q a ha).2.1, .inr ((q a ha).2.2.elim (fun z => (nomatch z)) id)⟩⟩
  | _ => exact h
end

/-! ### the meaning of an expression's reading -/
abbrev FE := List D → Option (D × List D)
abbrev FA := List D → Option (List D × List D)
def SemE (K : PySem.W.Frag) (ms : List M) (p : Bool) (m : M) (f : FE) (t : TE) : Prop :=
  ∀ env σ fps G H d env' Q, Sat K ms env σ fps G H → f env = some (d, env') →
    (∀ v fps' G' H', Tr fps.flatten G H fps'.flatten G' H' → (p = true → Same H H') → Sat K ms env' σ fps' G' H' → RR K fps.flatten H m d v fps'.flatten G' H' → Q v H') → t σ H Q
def SemT (K : PySem.W.Frag) (ms : List M) (p : Bool) (f : List D → Option (Bool × List D)) (t : TT) : Prop :=
  ∀ env σ fps G H b env' Q, Sat K ms env σ fps G H → f env = some (b, env') →
    (∀ fps' G' H', Tr fps.flatten G H fps'.flatten G' H' → (p = true → Same H H') → Sat K ms env' σ fps' G' H' → Q b H') → t σ H Q
def SemA (K : PySem.W.Frag) (ms : List M) (p : Bool) (mds : List M) (f : FA) (t : TA) : Prop :=
  ∀ env σ fps G H ds env' Q, Sat K ms env σ fps G H → f env = some (ds, env') →
    (∀ vs fps' G' H', Tr fps.flatten G H fps'.flatten G' H' → (p = true → Same H H') → Sat K ms env' σ fps' G' H' → RAs K G' H' mds ds vs → Q vs H') → t σ H Q

section
variable {K : PySem.W.Frag} {ms : List M} {p pa pb pc : Bool} {m ma mb mc : M} {fa fb fc : FE} {ta tb tc : TE}
/-! the modes of a result -/
theorem sem_fz {n : Nat} (h : SemE K ms p (.ow n) fa ta) : SemE K ms p .sh fa ta := by
  intro env σ fps G H d env' Q S e k
  refine h env σ fps G H d env' Q S e fun v fps' G' H' t ps S' ⟨fp, o, nd, q⟩ => ?_
  let G2 : Hp := fun a => if a ∈ fp then H' a else G' a
  have s1 : Same G' G2 := fun a u z => by
    show (if a ∈ fp then H' a else G' a) = _
    split
    · exact S'.sub a u z
    · exact z
  have s2 : Same G2 H' := fun a u z => by
    have z' : (if a ∈ fp then H' a else G' a) = some u := z
    split at z'
    · exact z'
    · exact S'.sub a u z'
  refine k v fps' G2 H' ⟨t.gs.trans s1, fun a z => ?_, t.fp, t.fr, t.th⟩ ps (S'.keep s1 s2 (fun a ha => ?_) fun _ _ _ e => e) (o.rep s1 fun a ha u e => ?_)
  · by_cases hf : a ∈ fp
    · exact (q a hf).2.2.elim (fun w => .inr (.inr w)) fun w => .inr (.inl w)
    · exact t.gn a (by
        have z' : (if a ∈ fp then H' a else G' a) ≠ none := z
        rw [if_neg hf] at z'; exact z')
  · show (if a ∈ fp then H' a else G' a) = none
    rw [if_neg fun hf => (q a hf).2.1 ha]
    exact S'.out a ha
  · show (if a ∈ fp then H' a else G' a) = some u
    rw [if_pos ha]; exact e
theorem sem_vw {n : Nat} (h : SemE K ms p (.ow n) fa ta) : SemE K ms p (.vw n) fa ta := fun env σ fps G H d env' Q S e k =>
  h env σ fps G H d env' Q S e fun v fps' G' H' t ps S' ⟨fp, o, _⟩ => k v fps' G' H' t ps S' ⟨fp, o⟩
theorem sem_bo (h : SemE K ms p m fa ta) : SemE K ms p .bo fa ta := fun env σ fps G H d env' Q S e k =>
  h env σ fps G H d env' Q S e fun v fps' G' H' t ps S' r => k v fps' G' H' t ps S' (by
    cases m with
    | ow n => obtain ⟨fp, o, _⟩ := r; exact o.rep S'.sub fun _ _ _ e => e
    | un => exact r.elim
    | lk => exact r.elim
    | sh => exact RA.rep (m := .sh) r S'.sub
    | bo => exact r
    | vw n => exact RA.rep (m := .vw n) r S'.sub)
/-- flat data are shared whatever they came from -/
def flatD : D → Bool
  | .non => true
  | .bl _ => true
  | .int _ => true
  | .str _ => true
  | _ => false
theorem Rep.flat {H H' : Hp} {d : D} {v : V} (h : Rep K H d v) (hf : flatD d = true) : Rep K H' d v := by
  cases d with
  | non => unfold Rep at *; exact h
  | bl b => unfold Rep at *; exact h
  | int b => unfold Rep at *; exact h
  | str b => unfold Rep at *; exact h
  | _ => cases hf
def flatF (f : FE) : FE := fun env => (f env).bind fun r => if flatD r.1 = true then some r else none
theorem sem_flat (h : SemE K ms p .bo fa ta) : SemE K ms p .sh (flatF fa) ta := by
  intro env σ fps G H d env' Q S e k
  unfold flatF at e
  cases e1 : fa env with
  | none => rw [e1] at e; cases e
  | some r =>
    rw [e1] at e
    have e' : (if flatD r.1 = true then some r else none) = some (d, env') := e
    split at e'
    · rename_i hf
      cases e'
      exact h env σ fps G H _ _ Q S e1 fun v fps' G' H' t ps S' r => k v fps' G' H' t ps S' (Rep.flat r hf)
    · cases e'

/-! ### two-place operations -/
def bin2 (fa fb : FE) (g : D → D → Option D) : FE := fun env => (fa env).bind fun p => (fb p.2).bind fun q => (g p.1 q.1).map fun d => (d, q.2)
theorem bin2_some {g : D → D → Option D} {env : List D} {d : D} {env' : List D} (e : bin2 fa fb g env = some (d, env')) :
    ∃ x e1 y, fa env = some (x, e1) ∧ fb e1 = some (y, env') ∧ g x y = some d := by
  unfold bin2 at e
  cases h1 : fa env with
  | none => rw [h1] at e; cases e
  | some p =>
    rw [h1] at e
    cases h2 : fb p.2 with
    | none => rw [Option.bind_some, h2] at e; cases e
    | some q =>
      rw [Option.bind_some, h2, Option.bind_some] at e
      cases h3 : g p.1 q.1 with
      | none => rw [h3] at e; cases e
      | some z =>
        rw [h3] at e
        cases e
        exact ⟨p.1, p.2, q.1, rfl, h2, h3⟩
/-- what an operation by values does on data -/
def R2S (K : PySem.W.Frag) (ma mb m : M) (g : D → D → Option D) (r : R2) : Prop :=
  ∀ (F : List Addr) (G H : Hp) (dx dy : D) (x y : V) (d : D) (Q : VK), Same G H → (∀ a ∈ F, ∃ o, H a = some o) → RA K ma dx x G H → RA K mb dy y G H → g dx dy = some d →
    (∀ v G' H', Al G H G' H' → RR K [] H m d v F G' H' → Q v H') → r x y H Q
theorem sem_op {r : R2} {g : D → D → Option D} (ha : SemE K ms pa ma fa ta) (hb : SemE K ms pb mb fb tb) (spec : R2S K ma mb m g r) (hm : (pb || ma == .sh) = true)
    (h1 : ∀ n, ma ≠ .ow n) (h2 : ∀ n, mb ≠ .ow n) : SemE K ms (pa && pb) m (bin2 fa fb g) (tOp r ta tb) := by
  intro env σ fps G H d env' Q S e k
  obtain ⟨x, e1, y, ex, ey, ed⟩ := bin2_some e
  refine ha env σ fps G H x e1 _ S ex fun v f1 G1 H1 t1 p1 S1 r1 => ?_
  refine hb e1 σ f1 G1 H1 y env' _ S1 ey fun u f2 G2 H2 t2 p2 S2 r2 => ?_
  have r1' : RA K ma x v G1 H1 := by
    cases ma with
    | ow n => exact absurd rfl (h1 n)
    | _ => exact r1
  have r2' : RA K mb y u G2 H2 := by
    cases mb with
    | ow n => exact absurd rfl (h2 n)
    | _ => exact r2
  refine spec f2.flatten G2 H2 x y v u d Q S2.sub S2.there (r1'.step t2 p2 hm) r2' ed fun z G3 H3 a rz => ?_
  refine k z f2 G3 H3 ((t1.trans t2).trans (a.tr _)) (fun hp => ?_) (a.sat S2) ((rz.new _).old (t1.trans t2))
  simp only [Bool.and_eq_true] at hp
  exact ((p1 hp.1).trans (p2 hp.2)).trans a.hs

/-! ### argument lists -/
def nilF : FA := fun env => some ([], env)
def consF (fa : FE) (fs : FA) : FA := fun env => (fa env).bind fun p => (fs p.2).bind fun q => some (p.1 :: q.1, q.2)
theorem consF_some {fs : FA} {env : List D} {ds : List D} {env' : List D} (e : consF fa fs env = some (ds, env')) :
    ∃ x e1 r, fa env = some (x, e1) ∧ fs e1 = some (r, env') ∧ ds = x :: r := by
  unfold consF at e
  cases h1 : fa env with
  | none => rw [h1] at e; cases e
  | some p =>
    rw [h1] at e
    cases h2 : fs p.2 with
    | none => rw [Option.bind_some, h2] at e; cases e
    | some q =>
      rw [Option.bind_some, h2, Option.bind_some] at e
      cases e
      exact ⟨p.1, p.2, q.1, rfl, h2, rfl⟩
theorem sem_nil : SemA K ms true [] nilF tNil := by
  intro env σ fps G H ds env' Q S e k
  cases e
  exact k [] fps G H (Tr.refl _ _ _) (fun _ => Same.refl _) S ⟨rfl, rfl⟩
theorem sem_cons {mds : List M} {fs : FA} {ts : TA} (ha : SemE K ms pa ma fa ta) (hs : SemA K ms pb mds fs ts) (hm : (pb || ma == .sh) = true) (h1 : ∀ n, ma ≠ .ow n) : SemA K ms (pa && pb) (ma :: mds) (consF fa fs) (tCons ta ts) := by
  intro env σ fps G H ds env' Q S e k
  obtain ⟨x, e1, r, ex, er, rfl⟩ := consF_some e
  refine ha env σ fps G H x e1 _ S ex fun v f1 G1 H1 t1 p1 S1 r1 => ?_
  refine hs e1 σ f1 G1 H1 r env' _ S1 er fun us f2 G2 H2 t2 p2 S2 r2 => ?_
  have r1' : RA K ma x v G1 H1 := by
    cases ma with
    | ow n => exact absurd rfl (h1 n)
    | _ => exact r1
  refine k (v :: us) f2 G2 H2 (t1.trans t2) (fun hp => ?_) S2 ⟨x, r, v, us, rfl, rfl, r1'.step t2 p2 hm, r2⟩
  simp only [Bool.and_eq_true] at hp
  exact (p1 hp.1).trans (p2 hp.2)
/-- a call by values -/
def callF (fs : FA) (g : List D → Option D) : FE := fun env => (fs env).bind fun q => (g q.1).map fun d => (d, q.2)
theorem callF_some {fs : FA} {g : List D → Option D} {env : List D} {d : D} {env' : List D} (e : callF fs g env = some (d, env')) : ∃ ds, fs env = some (ds, env') ∧ g ds = some d := by
  unfold callF at e
  cases h1 : fs env with
  | none => rw [h1] at e; cases e
  | some q =>
    rw [h1, Option.bind_some] at e
    cases h3 : g q.1 with
    | none => rw [h3] at e; cases e
    | some z => rw [h3] at e; cases e; exact ⟨q.1, rfl, h3⟩
def CallS (K : PySem.W.Frag) (mds : List M) (m : M) (g : List D → Option D) (r : List V → Hp → VK → Prop) : Prop :=
  ∀ (F : List Addr) (G H : Hp) (ds : List D) (vs : List V) (d : D) (Q : VK), Same G H → (∀ a ∈ F, ∃ o, H a = some o) → RAs K G H mds ds vs → g ds = some d →
    (∀ v G' H', Al G H G' H' → RR K [] H m d v F G' H' → Q v H') → r vs H Q
theorem sem_call {mds : List M} {fs : FA} {ts : TA} {g : List D → Option D} {r : List V → Hp → VK → Prop} (hs : SemA K ms p mds fs ts) (spec : CallS K mds m g r) : SemE K ms p m (callF fs g) (tCB r ts) := by
  intro env σ fps G H d env' Q S e k
  obtain ⟨ds, es, ed⟩ := callF_some e
  refine hs env σ fps G H ds env' _ S es fun vs f1 G1 H1 t1 p1 S1 r1 => ?_
  refine spec f1.flatten G1 H1 ds vs d Q S1.sub S1.there r1 ed fun z G3 H3 a rz => ?_
  exact k z f1 G3 H3 (t1.trans (a.tr _)) (fun hp => (p1 hp).trans a.hs) (a.sat S1) ((rz.new _).old t1)
/-! ### names, constants -/
def varF (i : Nat) : FE := fun env => (env[i]?).map fun d => (d, env)
theorem sem_var {i : Nat} (h : ms[i]? = some .sh) : SemE K ms true .sh (varF i) (tVar i) := by
  intro env σ fps G H d env' Q S e k
  obtain ⟨d', o, f, e1, e2, e3, hf, v, rfl, r⟩ := S.sl.get h
  unfold varF at e
  rw [e1] at e
  cases e
  exact ⟨v, e2, k v fps G H (Tr.refl _ _ _) (fun _ => Same.refl _) S r⟩
theorem sem_varO {i n : Nat} (h : ms[i]? = some (.ow n)) : SemE K ms true (.vw n) (varF i) (tVar i) := by
  intro env σ fps G H d env' Q S e k
  obtain ⟨d', o, f, e1, e2, e3, v, rfl, r⟩ := S.sl.get h
  unfold varF at e
  rw [e1] at e
  cases e
  exact ⟨v, e2, k v fps G H (Tr.refl _ _ _) (fun _ => Same.refl _) S ⟨f, r⟩⟩
def conF (d : D) : FE := fun env => some (d, env)
theorem sem_con {d : D} {v : V} (h : ∀ G, Rep K G d v) : SemE K ms true .sh (conF d) (tC v) := by
  intro env σ fps G H d' env' Q S e k
  cases e
  exact k v fps G H (Tr.refl _ _ _) (fun _ => Same.refl _) S (h G)
end
end DL
namespace DL
open PySem PySem.Spec PyProof.Rows L2

abbrev FT := List D → Option (Bool × List D)
section
variable {K : PySem.W.Frag} {ms : List M} {p pa pb pc : Bool} {m ma mb mc : M} {fa fb fc : FE} {ta tb tc : TE} {ga gb : FT} {ua ub : TT}
theorem RR.bl {G H H0 : Hp} {F F0 : List Addr} {b : Bool} {v : V} (h : RR K F0 H0 m (.bl b) v F G H) : v = .bl b := by
  cases m with
  | un => exact h.elim
  | lk => exact h.elim
  | sh => have h' : Rep K G (.bl b) v := h; unfold Rep at h'; exact h'
  | bo => have h' : Rep K H (.bl b) v := h; unfold Rep at h'; exact h'
  | vw n =>
    obtain ⟨fp, h'⟩ := h
    cases n with
    | zero => have h2 := h'.1; unfold Rep at h2; exact h2
    | succ n => obtain ⟨_, _, _, _, h2⟩ := h'; exact h2.elim
  | ow n =>
    obtain ⟨fp, h', _⟩ := h
    cases n with
    | zero => have h2 := h'.1; unfold Rep at h2; exact h2
    | succ n => obtain ⟨_, _, _, _, h2⟩ := h'; exact h2.elim
def tstF (f : FE) : FT := fun env => (f env).bind fun q => match q.1 with
  | .bl b => some (b, q.2)
  | _ => none
theorem tstF_some {env : List D} {b : Bool} {env' : List D} (e : tstF fa env = some (b, env')) : fa env = some (.bl b, env') := by
  unfold tstF at e
  cases h1 : fa env with
  | none => rw [h1] at e; cases e
  | some q =>
    obtain ⟨d, e1⟩ := q
    rw [h1, Option.bind_some] at e
    cases d with
    | bl c => cases e; rfl
    | _ => cases e
theorem sem_test (h : SemE K ms p m fa ta) : SemT K ms p (tstF fa) (tTest ta) := by
  intro env σ fps G H b env' Q S e k
  refine h env σ fps G H _ env' _ S (tstF_some e) fun v fps' G' H' t ps S' r => ?_
  exact ⟨b, r.bl, k fps' G' H' t ps S'⟩
theorem sem_tB (h : SemE K ms p m fa ta) : SemT K ms p (tstF fa) (tB ta) := sem_test h
/-! and, or, not -/
def andF (ga gb : FT) : FT := fun env => (ga env).bind fun q => if q.1 = true then gb q.2 else some (false, q.2)
def orF (ga gb : FT) : FT := fun env => (ga env).bind fun q => if q.1 = true then some (true, q.2) else gb q.2
def notF (ga : FT) : FT := fun env => (ga env).map fun q => (!q.1, q.2)
theorem sem_and (ha : SemT K ms pa ga ua) (hb : SemT K ms pb gb ub) : SemT K ms (pa && pb) (andF ga gb) (tAnd ua ub) := by
  intro env σ fps G H b env' Q S e k
  unfold andF at e
  cases h1 : ga env with
  | none => rw [h1] at e; cases e
  | some q =>
    obtain ⟨c, e1⟩ := q
    rw [h1, Option.bind_some] at e
    refine ha env σ fps G H c e1 _ S h1 fun f1 G1 H1 t1 p1 S1 => ?_
    cases c with
    | true =>
      rw [if_pos rfl] at e ⊢
      exact hb e1 σ f1 G1 H1 b env' Q S1 e fun f2 G2 H2 t2 p2 S2 => k f2 G2 H2 (t1.trans t2) (fun hp => by
        simp only [Bool.and_eq_true] at hp
        exact (p1 hp.1).trans (p2 hp.2)) S2
    | false =>
      rw [if_neg Bool.false_ne_true] at e ⊢
      cases e
      exact k f1 G1 H1 t1 (fun hp => by
        simp only [Bool.and_eq_true] at hp
        exact p1 hp.1) S1
theorem sem_or (ha : SemT K ms pa ga ua) (hb : SemT K ms pb gb ub) : SemT K ms (pa && pb) (orF ga gb) (tOr ua ub) := by
  intro env σ fps G H b env' Q S e k
  unfold orF at e
  cases h1 : ga env with
  | none => rw [h1] at e; cases e
  | some q =>
    obtain ⟨c, e1⟩ := q
    rw [h1, Option.bind_some] at e
    refine ha env σ fps G H c e1 _ S h1 fun f1 G1 H1 t1 p1 S1 => ?_
    cases c with
    | false =>
      rw [if_neg Bool.false_ne_true] at e ⊢
      exact hb e1 σ f1 G1 H1 b env' Q S1 e fun f2 G2 H2 t2 p2 S2 => k f2 G2 H2 (t1.trans t2) (fun hp => by
        simp only [Bool.and_eq_true] at hp
        exact (p1 hp.1).trans (p2 hp.2)) S2
    | true =>
      rw [if_pos rfl] at e ⊢
      cases e
      exact k f1 G1 H1 t1 (fun hp => by
        simp only [Bool.and_eq_true] at hp
        exact p1 hp.1) S1
theorem sem_not (ha : SemT K ms p ga ua) : SemT K ms p (notF ga) (tNot ua) := by
  intro env σ fps G H b env' Q S e k
  unfold notF at e
  cases h1 : ga env with
  | none => rw [h1] at e; cases e
  | some q =>
    obtain ⟨c, e1⟩ := q
    rw [h1] at e
    cases e
    exact ha env σ fps G H c e1 _ S h1 fun f1 G1 H1 t1 p1 S1 => k f1 G1 H1 t1 p1 S1
/-! .. as values -/
def andV (fa fb : FE) : FE := fun env => (tstF fa env).bind fun q => if q.1 = true then fb q.2 else some (.bl false, q.2)
def orV (fa fb : FE) : FE := fun env => (tstF fa env).bind fun q => if q.1 = true then some (.bl true, q.2) else fb q.2
def notV (fa : FE) : FE := fun env => (tstF fa env).map fun q => (.bl (!q.1), q.2)
theorem rr_bl {F0 F : List Addr} {H0 G H : Hp} {b : Bool} : RR K F0 H0 .sh (.bl b) (.bl b) F G H := by
  show Rep K G (.bl b) (.bl b)
  unfold Rep; rfl
theorem sem_andV (ha : SemE K ms pa ma fa ta) (hb : SemE K ms pb .sh fb tb) : SemE K ms (pa && pb) .sh (andV fa fb) (tAndV ta tb) := by
  intro env σ fps G H d env' Q S e k
  unfold andV at e
  cases h1 : tstF fa env with
  | none => rw [h1] at e; cases e
  | some q =>
    obtain ⟨c, e1⟩ := q
    rw [h1, Option.bind_some] at e
    refine ha env σ fps G H _ e1 _ S (tstF_some h1) fun v f1 G1 H1 t1 p1 S1 r1 => ⟨c, r1.bl, ?_⟩
    cases c with
    | true =>
      rw [if_pos rfl] at e ⊢
      exact hb e1 σ f1 G1 H1 d env' Q S1 e fun u f2 G2 H2 t2 p2 S2 r2 => k u f2 G2 H2 (t1.trans t2) (fun hp => by
        simp only [Bool.and_eq_true] at hp
        exact (p1 hp.1).trans (p2 hp.2)) S2 (r2.old t1)
    | false =>
      rw [if_neg Bool.false_ne_true] at e ⊢
      cases e
      exact k _ f1 G1 H1 t1 (fun hp => by
        simp only [Bool.and_eq_true] at hp
        exact p1 hp.1) S1 rr_bl
theorem sem_orV (ha : SemE K ms pa ma fa ta) (hb : SemE K ms pb .sh fb tb) : SemE K ms (pa && pb) .sh (orV fa fb) (tOrV ta tb) := by
  intro env σ fps G H d env' Q S e k
  unfold orV at e
  cases h1 : tstF fa env with
  | none => rw [h1] at e; cases e
  | some q =>
    obtain ⟨c, e1⟩ := q
    rw [h1, Option.bind_some] at e
    refine ha env σ fps G H _ e1 _ S (tstF_some h1) fun v f1 G1 H1 t1 p1 S1 r1 => ⟨c, r1.bl, ?_⟩
    cases c with
    | false =>
      rw [if_neg Bool.false_ne_true] at e ⊢
      exact hb e1 σ f1 G1 H1 d env' Q S1 e fun u f2 G2 H2 t2 p2 S2 r2 => k u f2 G2 H2 (t1.trans t2) (fun hp => by
        simp only [Bool.and_eq_true] at hp
        exact (p1 hp.1).trans (p2 hp.2)) S2 (r2.old t1)
    | true =>
      rw [if_pos rfl] at e ⊢
      cases e
      exact k _ f1 G1 H1 t1 (fun hp => by
        simp only [Bool.and_eq_true] at hp
        exact p1 hp.1) S1 rr_bl
theorem sem_notV (ha : SemE K ms p ma fa ta) : SemE K ms p .sh (notV fa) (tNotV ta) := by
  intro env σ fps G H d env' Q S e k
  unfold notV at e
  cases h1 : tstF fa env with
  | none => rw [h1] at e; cases e
  | some q =>
    obtain ⟨c, e1⟩ := q
    rw [h1] at e
    cases e
    refine ha env σ fps G H _ e1 _ S (tstF_some h1) fun v f1 G1 H1 t1 p1 S1 r1 => ⟨c, r1.bl, ?_⟩
    exact k _ f1 G1 H1 t1 p1 S1 rr_bl
/-! a if t else b -/
def ifF (gc : FT) (fa fb : FE) : FE := fun env => (gc env).bind fun q => if q.1 = true then fa q.2 else fb q.2
theorem sem_if (hc : SemT K ms pc ga ua) (ha : SemE K ms pa m fa ta) (hb : SemE K ms pb m fb tb) : SemE K ms (pc && (pa && pb)) m (ifF ga fa fb) (tIf ua ta tb) := by
  intro env σ fps G H d env' Q S e k
  unfold ifF at e
  cases h1 : ga env with
  | none => rw [h1] at e; cases e
  | some q =>
    obtain ⟨c, e1⟩ := q
    rw [h1, Option.bind_some] at e
    refine hc env σ fps G H c e1 _ S h1 fun f1 G1 H1 t1 p1 S1 => ?_
    cases c with
    | true =>
      rw [if_pos rfl] at e ⊢
      exact ha e1 σ f1 G1 H1 d env' Q S1 e fun u f2 G2 H2 t2 p2 S2 r2 => k u f2 G2 H2 (t1.trans t2) (fun hp => by
        simp only [Bool.and_eq_true] at hp
        exact (p1 hp.1).trans (p2 hp.2.1)) S2 (r2.old t1)
    | false =>
      rw [if_neg Bool.false_ne_true] at e ⊢
      exact hb e1 σ f1 G1 H1 d env' Q S1 e fun u f2 G2 H2 t2 p2 S2 r2 => k u f2 G2 H2 (t1.trans t2) (fun hp => by
        simp only [Bool.and_eq_true] at hp
        exact (p1 hp.1).trans (p2 hp.2.2)) S2 (r2.old t1)
/-! a < b < c, all shared -/
def chainF (fa fb fc : FE) (g g' : D → D → Option D) : FE := fun env => (fa env).bind fun x => (fb x.2).bind fun y => (g x.1 y.1).bind fun z => match z with
  | .bl true => (fc y.2).bind fun w => (g' y.1 w.1).map fun d => (d, w.2)
  | .bl false => some (.bl false, y.2)
  | _ => none
theorem sem_chain {r r' : R2} {g g' : D → D → Option D} (ha : SemE K ms pa .sh fa ta) (hb : SemE K ms pb .sh fb tb) (hc : SemE K ms pc .sh fc tc) (sp : R2S K .sh .sh .sh g r) (sp' : R2S K .sh .sh .sh g' r') :
    SemE K ms (pa && (pb && pc)) .sh (chainF fa fb fc g g') (tChain r r' ta tb tc) := by
  intro env σ fps G H d env' Q S e k
  unfold chainF at e
  cases h1 : fa env with
  | none => rw [h1] at e; cases e
  | some x =>
    obtain ⟨dx, e1⟩ := x
    rw [h1, Option.bind_some] at e
    cases h2 : fb e1 with
    | none => rw [h2] at e; cases e
    | some y =>
      obtain ⟨dy, e2⟩ := y
      rw [h2, Option.bind_some] at e
      cases h3 : g dx dy with
      | none => rw [h3] at e; cases e
      | some z =>
        rw [h3, Option.bind_some] at e
        refine ha env σ fps G H dx e1 _ S h1 fun v f1 G1 H1 t1 p1 S1 r1 => ?_
        refine hb e1 σ f1 G1 H1 dy e2 _ S1 h2 fun u f2 G2 H2 t2 p2 S2 r2 => ?_
        refine sp f2.flatten G2 H2 dx dy v u z _ S2.sub S2.there (Rep.same r1 t2.gs) r2 h3 fun zv G3 H3 a3 r3 => ?_
        have S3 := a3.sat S2
        have t3 := (t1.trans t2).trans (a3.tr f2.flatten)
        have pp : (pa && (pb && pc)) = true → Same H H3 := fun hp => by
          simp only [Bool.and_eq_true] at hp
          exact ((p1 hp.1).trans (p2 hp.2.1)).trans a3.hs
        cases z with
        | bl c =>
          refine ⟨c, r3.bl, ?_⟩
          cases c with
          | false =>
            rw [if_neg Bool.false_ne_true]
            cases e
            exact k _ f2 G3 H3 t3 pp S3 rr_bl
          | true =>
            rw [if_pos rfl]
            simp only at e
            cases h4 : fc e2 with
            | none => rw [h4] at e; cases e
            | some w =>
              obtain ⟨dw, e4⟩ := w
              rw [h4, Option.bind_some] at e
              cases h5 : g' dy dw with
              | none => rw [h5] at e; cases e
              | some d' =>
                rw [h5] at e
                cases e
                refine hc e2 σ f2 G3 H3 dw _ _ S3 h4 fun w f4 G4 H4 t4 p4 S4 r4 => ?_
                refine sp' f4.flatten G4 H4 dy dw u w d _ S4.sub S4.there (Rep.same r2 (a3.gs.trans t4.gs)) r4 h5 fun z5 G5 H5 a5 r5 => ?_
                refine k z5 f4 G5 H5 ((t3.trans t4).trans (a5.tr _)) (fun hp => ?_) (a5.sat S4) ((r5.new _).old (t3.trans t4))
                have hp' := hp
                simp only [Bool.and_eq_true] at hp
                exact ((pp hp').trans (p4 hp.2.2)).trans a5.hs
        | _ => cases e
end

/-! ### statements -/
inductive Out where
  | nx (env : List D) | rt (d : D) (env : List D)
abbrev FS := List D → Option Out
/-- the slots that stay where they are -/
def Pins (rms : List M) (σ σ' : L2.St) : Prop := ∀ (i n : Nat), rms[i]? = some (M.ow n) → σ'[i]? = σ[i]?
theorem Pins.refl {rms : List M} {σ : L2.St} : Pins rms σ σ := fun _ _ _ => rfl
theorem Pins.trans {rms : List M} {σ σ1 σ2 : L2.St} (a : Pins rms σ σ1) (b : Pins rms σ1 σ2) : Pins rms σ σ2 := fun i n h => (b i n h).trans (a i n h)
def SemS (K : PySem.W.Frag) (rm : M) (rms ms ms' : List M) (g : FS) (t : TS) : Prop :=
  ∀ env σ fps G H o (De : Ends), Sat K ms env σ fps G H → g env = some o →
    (∀ env' σ' fps' G' H', o = .nx env' → Tr fps.flatten G H fps'.flatten G' H' → Pins rms σ σ' → Sat K ms' env' σ' fps' G' H' → De.nx σ' H') →
    (∀ d env' v σ' fps' G' H', o = .rt d env' → Tr fps.flatten G H fps'.flatten G' H' → Pins rms σ σ' → Sat K rms env' σ' fps' G' H' → RR K fps.flatten H rm d v fps'.flatten G' H' → De.rt v H') → t De σ H
/-- modes forgotten -/
def weakM : List M → List M → Bool
  | [], [] => true
  | m :: ms, w :: ws => (w == m || w == .un) && weakM ms ws
  | _, _ => false
section
variable {K : PySem.W.Frag} {rm : M} {rms ms ms1 ms2 ms' : List M} {p pa pb pc : Bool} {m ma mb mc : M} {fa fb fc : FE} {ta tb tc : TE} {ga gb : FT} {ua ub : TT} {g g1 g2 : FS} {t t1 t2 : TS}
theorem slots_weak {G H : Hp} : ∀ {ms ws : List M} {env : List D} {σ : L2.St} {fps : List (List Addr)}, Slots K G H ms env σ fps → weakM ms ws = true →
    ∃ fps', Slots K G H ws env σ fps' ∧ (∀ a ∈ fps'.flatten, a ∈ fps.flatten) ∧ (fps.flatten.Nodup → fps'.flatten.Nodup)
  | [], [], [], [], [], _, _ => ⟨[], trivial, fun _ h => h, fun h => h⟩
  | m :: ms, w :: ws, d :: ds, o :: os, f :: fs, h, e => by
    simp only [weakM, Bool.and_eq_true, Bool.or_eq_true, beq_iff_eq] at e
    obtain ⟨fs', s, sub, nd⟩ := slots_weak h.2 e.2
    rcases e.1 with q | q
    · subst q
      refine ⟨f :: fs', ⟨h.1, s⟩, fun a ha => ?_, fun hn => ?_⟩
      · rw [List.flatten_cons] at ha ⊢
        exact List.mem_append.mpr ((List.mem_append.mp ha).imp id (sub a))
      · rw [List.flatten_cons] at hn ⊢
        obtain ⟨h1, h2, h3⟩ := List.nodup_append.mp hn
        exact List.nodup_append.mpr ⟨h1, nd h2, fun a ha b hb => h3 a ha b (sub b hb)⟩
    · subst q
      refine ⟨[] :: fs', ⟨rfl, s⟩, fun a ha => ?_, fun hn => ?_⟩
      · rw [List.flatten_cons] at ha ⊢
        exact List.mem_append_right _ (sub a ha)
      · rw [List.flatten_cons] at hn ⊢
        obtain ⟨h1, h2, h3⟩ := List.nodup_append.mp hn
        exact nd h2
  | [], [], [], [], _ :: _, h, _ => h.elim
  | [], [], [], _ :: _, _, h, _ => h.elim
  | [], [], _ :: _, _, _, h, _ => h.elim
  | [], _ :: _, _, _, _, _, e => by simp [weakM] at e
  | _ :: _, [], _, _, _, _, e => by simp [weakM] at e
  | _ :: _, _ :: _, [], _, _, h, _ => h.elim
  | _ :: _, _ :: _, _ :: _, [], _, h, _ => h.elim
  | _ :: _, _ :: _, _ :: _, _ :: _, [], h, _ => h.elim
theorem Sat.weak {G H : Hp} {env : List D} {σ : L2.St} {fps : List (List Addr)} (S : Sat K ms env σ fps G H) (h : weakM ms ms1 = true) : ∃ fps', Sat K ms1 env σ fps' G H ∧ Tr fps.flatten G H fps'.flatten G H ∧ ∀ a ∈ fps'.flatten, a ∈ fps.flatten := by
  obtain ⟨fps', s, sub, nd⟩ := slots_weak S.sl h
  exact ⟨fps', ⟨s, nd S.nd, fun a ha => S.out a (sub a ha), S.sub⟩, ⟨Same.refl _, fun _ z => .inl z, fun a ha => .inl (sub a ha), fun _ _ e _ => e, fun _ z => z⟩, sub⟩
theorem RR.fewer {F0 F F' : List Addr} {H0 G H : Hp} {d : D} {v : V} (h : RR K F0 H0 m d v F G H) (s : ∀ a ∈ F', a ∈ F) : RR K F0 H0 m d v F' G H := by
  cases m with
  | ow n => obtain ⟨fp, o, nd, q⟩ := h; exact ⟨fp, o, nd, fun a ha => ⟨(q a ha).1, fun z => (q a ha).2.1 (s a z), (q a ha).2.2⟩⟩
  | _ => exact h
/-! blocks -/
def seqF (g1 g2 : FS) : FS := fun env => (g1 env).bind fun o => match o with
  | .nx e => g2 e
  | .rt d e => some (.rt d e)
theorem sem_seq (h1 : SemS K rm rms ms ms1 g1 t1) (h2 : SemS K rm rms ms1 ms2 g2 t2) : SemS K rm rms ms ms2 (seqF g1 g2) (tSeq t1 t2) := by
  intro env σ fps G H o De S e kn kr
  unfold seqF at e
  cases q : g1 env with
  | none => rw [q] at e; cases e
  | some o1 =>
    rw [q, Option.bind_some] at e
    refine h1 env σ fps G H o1 { De with nx := t2 De } S q (fun e1 σ1 f1 G1 H1 eo t1 p1 S1 => ?_) (fun d e1 v σ1 f1 G1 H1 eo t1 p1 S1 r1 => ?_)
    · subst eo
      exact h2 e1 σ1 f1 G1 H1 o De S1 e (fun e2 σ2 f2 G2 H2 eo t2 p2 S2 => kn e2 σ2 f2 G2 H2 eo (t1.trans t2) (p1.trans p2) S2) fun d e2 v σ2 f2 G2 H2 eo t2 p2 S2 r2 => kr d e2 v σ2 f2 G2 H2 eo (t1.trans t2) (p1.trans p2) S2 (r2.old t1)
    · subst eo
      cases e
      exact kr d e1 v σ1 f1 G1 H1 rfl t1 p1 S1 r1
def skipF : FS := fun env => some (.nx env)
theorem sem_skip : SemS K rm rms ms ms skipF tNext := fun env σ fps G H o De S e kn kr => by
  cases e
  exact kn env σ fps G H rfl (Tr.refl _ _ _) Pins.refl S
theorem sem_never {ms' : List M} : SemS K rm rms ms ms' (fun _ => none) tNever := fun _ _ _ _ _ _ _ _ e => nomatch e
/-- the modes behind, ahead -/
theorem sem_post (h : SemS K rm rms ms ms1 g t) (w : weakM ms1 ms2 = true) : SemS K rm rms ms ms2 g t := fun env σ fps G H o De S e kn kr =>
  h env σ fps G H o De S e (fun e1 σ1 f1 G1 H1 eo t1 p1 S1 => by
    obtain ⟨f2, S2, t2, _⟩ := S1.weak w
    exact kn e1 σ1 f2 G1 H1 eo (t1.trans t2) p1 S2) kr
theorem sem_pre (h : SemS K rm rms ms1 ms2 g t) (w : weakM ms ms1 = true) : SemS K rm rms ms ms2 g t := fun env σ fps G H o De S e kn kr => by
  obtain ⟨f2, S2, t2, sub⟩ := S.weak w
  exact h env σ f2 G H o De S2 e (fun e1 σ1 f1 G1 H1 eo t1 p1 S1 => kn e1 σ1 f1 G1 H1 eo (t2.trans t1) p1 S1) fun d e1 v σ1 f1 G1 H1 eo t1 p1 S1 r1 => kr d e1 v σ1 f1 G1 H1 eo (t2.trans t1) p1 S1 (r1.old t2)
/-- an owned slot becomes shared -/
theorem Sat.freeze {G H : Hp} {env : List D} {σ : L2.St} {fps : List (List Addr)} {i n : Nat} (S : Sat K ms env σ fps G H) (h : ms[i]? = some (.ow n)) :
    ∃ fps' G', Sat K (ms.set i .sh) env σ fps' G' H ∧ Tr fps.flatten G H fps'.flatten G' H := by
  obtain ⟨d, o, f, e1, e2, e3, v, rfl, ow⟩ := S.sl.get h
  let G2 : Hp := fun a => if a ∈ f then H a else G a
  have hf : ∀ a ∈ f, a ∈ fps.flatten := fun a ha => mem_flatten_get e3 ha
  have s1 : Same G G2 := fun a u z => by
    show (if a ∈ f then H a else G a) = _
    split
    · exact S.sub a u z
    · exact z
  have s2 : Same G2 H := fun a u z => by
    have z' : (if a ∈ f then H a else G a) = some u := z
    split at z'
    · exact z'
    · exact S.sub a u z'
  have hrep : Rep K G2 d v := ow.rep s1 fun a ha u e => by
    show (if a ∈ f then H a else G a) = some u
    rw [if_pos ha]; exact e
  have notin : ∀ a, a ∈ (fps.set i []).flatten → a ∉ f := by
    -- the other slots' objects are not this one's
    have key : ∀ (fps : List (List Addr)) (i : Nat) (f : List Addr), fps[i]? = some f → fps.flatten.Nodup → ∀ a, a ∈ (fps.set i []).flatten → a ∉ f := by
      intro fps
      induction fps with
      | nil => intro i f e; simp at e
      | cons g fps ih =>
        intro i f e nd a ha
        rw [List.flatten_cons] at nd
        obtain ⟨h1, h2, h3⟩ := List.nodup_append.mp nd
        cases i with
        | zero =>
          simp at e; subst e
          rw [List.set_cons_zero, List.flatten_cons, List.nil_append] at ha
          exact fun z => h3 a z a ha rfl
        | succ i =>
          rw [List.set_cons_succ, List.flatten_cons] at ha
          have e' : fps[i]? = some f := by simpa using e
          rcases List.mem_append.mp ha with q | q
          · exact fun z => h3 a q a (mem_flatten_get e' z) rfl
          · exact ih i f e' h2 a q
    exact key fps i f e3 S.nd
  have sl2 : Slots K G2 H (ms.set i .sh) (env.set i d) (σ.set i (some v)) (fps.set i []) := (S.sl.keep s1 fun _ _ _ e => e).set (m := .sh) ⟨rfl, v, rfl, hrep⟩ i
  have ee : env.set i d = env := by
    obtain ⟨h1, h2⟩ := List.getElem?_eq_some_iff.mp e1
    rw [← h2]; exact List.set_getElem_self h1
  have es : σ.set i (some v) = σ := by
    obtain ⟨h1, h2⟩ := List.getElem?_eq_some_iff.mp e2
    rw [← h2]; exact List.set_getElem_self h1
  rw [ee, es] at sl2
  refine ⟨fps.set i [], G2, ⟨sl2, nodup_flatten_set i S.nd List.nodup_nil (fun a ha => nomatch ha), fun a ha => ?_, s2⟩, s1, fun a z => ?_, fun a ha => ?_, fun _ _ e _ => e, fun _ z => z⟩
  · show (if a ∈ f then H a else G a) = none
    rw [if_neg (notin a ha)]
    rcases mem_flatten_set ha with q | q
    · exact nomatch q
    · exact S.out a q
  · by_cases hz : a ∈ f
    · exact .inr (.inr (hf a hz))
    · have z' : (if a ∈ f then H a else G a) ≠ none := z
      rw [if_neg hz] at z'
      exact .inl z'
  · rcases mem_flatten_set ha with q | q
    · exact nomatch q
    · exact .inl q
theorem sem_freeze (i : Nat) {n : Nat} (h : ms[i]? = some (.ow n)) (k : SemS K rm rms (ms.set i .sh) ms' g t) : SemS K rm rms ms ms' g t := fun env σ fps G H o De S e kn kr => by
  obtain ⟨f1, G1, S1, t1⟩ := S.freeze h
  exact k env σ f1 G1 H o De S1 e (fun e2 σ2 f2 G2 H2 eo t2 p2 S2 => kn e2 σ2 f2 G2 H2 eo (t1.trans t2) p2 S2) fun d e2 v σ2 f2 G2 H2 eo t2 p2 S2 r2 => kr d e2 v σ2 f2 G2 H2 eo (t1.trans t2) p2 S2 (r2.old t1)
theorem sem_freezeEnd (i : Nat) {n : Nat} (h : ms1[i]? = some (.ow n)) (k : SemS K rm rms ms ms1 g t) : SemS K rm rms ms (ms1.set i .sh) g t := fun env σ fps G H o De S e kn kr =>
  k env σ fps G H o De S e (fun e1 σ1 f1 G1 H1 eo t1 p1 S1 => by
    obtain ⟨f2, G2, S2, t2⟩ := S1.freeze h
    exact kn e1 σ1 f2 G2 H1 eo (t1.trans t2) p1 S2) kr
/-! small statements -/
def dropF (f : FE) : FS := fun env => (f env).map fun q => .nx q.2
theorem sem_drop (h : SemE K ms p m fa ta) : SemS K rm rms ms ms (dropF fa) (tDrop ta) := by
  intro env σ fps G H o De S e kn kr
  unfold dropF at e
  cases q : fa env with
  | none => rw [q] at e; cases e
  | some r =>
    rw [q] at e
    cases e
    exact h env σ fps G H r.1 r.2 _ S q fun v f1 G1 H1 t1 p1 S1 r1 => kn _ σ f1 G1 H1 rfl t1 Pins.refl S1
def setF (i : Nat) (f : FE) : FS := fun env => (f env).map fun q => .nx (q.2.set i q.1)
/-- x = e -/
theorem set_ok {F0 : List Addr} {H0 G H : Hp} {env : List D} {σ : L2.St} {fps : List (List Addr)} {i : Nat} {d : D} {v : V} (S : Sat K ms env σ fps G H) (r : RR K F0 H0 m d v fps.flatten G H) (hm : m = .sh ∨ ∃ n, m = .ow n) :
    ∃ fps', Sat K (ms.set i m) (env.set i d) (σ.set i (some v)) fps' G H ∧ ∀ a ∈ fps'.flatten, a ∈ fps.flatten ∨ a ∈ F0 ∨ H0 a = none := by
  rcases hm with rfl | ⟨n, rfl⟩
  · exact ⟨fps.set i [], S.set i (m := .sh) ⟨rfl, v, rfl, r⟩ List.nodup_nil (fun _ z => nomatch z) (fun _ z => nomatch z), fun a ha => (mem_flatten_set ha).elim (fun z => nomatch z) .inl⟩
  · obtain ⟨fp, o, nd, q⟩ := r
    exact ⟨fps.set i fp, S.set i (m := .ow n) ⟨v, rfl, o⟩ nd (fun a ha => (q a ha).1) (fun a ha hz => absurd hz (q a ha).2.1), fun a ha => (mem_flatten_set ha).elim (fun z => .inr (q a z).2.2) .inl⟩
theorem tr_set {F F1 F2 : List Addr} {G H G1 H1 : Hp} (t : Tr F G H F1 G1 H1) (k : ∀ a ∈ F2, a ∈ F1 ∨ a ∈ F ∨ H a = none) : Tr F G H F2 G1 H1 :=
  ⟨t.gs, t.gn, fun a ha => (k a ha).elim (fun z => t.fp a z) id, t.fr, t.th⟩
theorem pins_set {σ : L2.St} {i : Nat} {o : Option V} (h : rms[i]? = some .un) : Pins rms σ (σ.set i o) := fun j n e => by
  by_cases z : i = j
  · subst z; rw [h] at e; cases e
  · exact List.getElem?_set_ne z
theorem sem_set (i : Nat) (h : SemE K ms p m fa ta) (hm : m = .sh ∨ ∃ n, m = .ow n) (hi : rms[i]? = some .un) : SemS K rm rms ms (ms.set i m) (setF i fa) (tAsg ta (gName i)) := by
  intro env σ fps G H o De S e kn kr
  unfold setF at e
  cases q : fa env with
  | none => rw [q] at e; cases e
  | some r =>
    rw [q] at e
    cases e
    refine h env σ fps G H r.1 r.2 _ S q fun v f1 G1 H1 t1 p1 S1 r1 => ?_
    obtain ⟨f2, S2, k2⟩ := set_ok (i := i) S1 r1 hm
    exact kn _ _ f2 G1 H1 rfl (tr_set t1 k2) (pins_set hi) S2
def retF (f : FE) : FS := fun env => (f env).map fun q => .rt q.1 q.2
theorem sem_ret (h : SemE K ms p rm fa ta) (w : weakM ms rms = true) : SemS K rm rms ms ms' (retF fa) (tRet ta) := by
  intro env σ fps G H o De S e kn kr
  unfold retF at e
  cases q : fa env with
  | none => rw [q] at e; cases e
  | some r =>
    rw [q] at e
    cases e
    refine h env σ fps G H r.1 r.2 _ S q fun v f1 G1 H1 t1 p1 S1 r1 => ?_
    obtain ⟨f2, S2, t2, sub⟩ := S1.weak w
    exact kr _ _ v σ f2 G1 H1 rfl (t1.trans t2) Pins.refl S2 (r1.fewer sub)
def retNF : FS := fun env => some (.rt .non env)
theorem sem_retN (w : weakM ms rms = true) : SemS K .sh rms ms ms' retNF tRetN := by
  intro env σ fps G H o De S e kn kr
  cases e
  obtain ⟨f2, S2, t2, sub⟩ := S.weak w
  exact kr _ _ .non σ f2 G H rfl t2 Pins.refl S2 (show Rep K G .non .non by unfold Rep; rfl)
/-- return x, x an owned slot -/
theorem sem_retO (i : Nat) {n : Nat} (h : ms[i]? = some (.ow n)) (w : weakM (ms.set i .un) rms = true) : SemS K (.ow n) rms ms ms' (retF (varF i)) (tRet (tVar i)) := by
  intro env σ fps G H o De S e kn kr
  obtain ⟨d, ov, f, e1, e2, e3, v, rfl, ow⟩ := S.sl.get h
  have e' : retF (varF i) env = some (.rt d env) := by unfold retF varF; rw [e1]; rfl
  rw [e'] at e
  cases e
  have hf : ∀ a ∈ f, a ∈ fps.flatten := fun a ha => mem_flatten_get e3 ha
  have nd := S.nd
  have key : ∀ (fps : List (List Addr)) (i : Nat) (f : List Addr), fps[i]? = some f → fps.flatten.Nodup → f.Nodup ∧ ∀ a, a ∈ (fps.set i []).flatten → a ∉ f := by
    intro fps
    induction fps with
    | nil => intro i f e; simp at e
    | cons g fps ih =>
      intro i f e nd
      rw [List.flatten_cons] at nd
      obtain ⟨h1, h2, h3⟩ := List.nodup_append.mp nd
      cases i with
      | zero =>
        simp at e; subst e
        refine ⟨h1, fun a ha => ?_⟩
        rw [List.set_cons_zero, List.flatten_cons, List.nil_append] at ha
        exact fun z => h3 a z a ha rfl
      | succ i =>
        have e' : fps[i]? = some f := by simpa using e
        obtain ⟨q1, q2⟩ := ih i f e' h2
        refine ⟨q1, fun a ha => ?_⟩
        rw [List.set_cons_succ, List.flatten_cons] at ha
        rcases List.mem_append.mp ha with q | q
        · exact fun z => h3 a q a (mem_flatten_get e' z) rfl
        · exact q2 a q
  obtain ⟨nf, notin⟩ := key fps i f e3 nd
  have sl2 : Slots K G H (ms.set i .un) (env.set i d) (σ.set i (some v)) (fps.set i []) := S.sl.set (m := .un) rfl i
  have ee : env.set i d = env := by
    obtain ⟨h1, h2⟩ := List.getElem?_eq_some_iff.mp e1
    rw [← h2]; exact List.set_getElem_self h1
  have es : σ.set i (some v) = σ := by
    obtain ⟨h1, h2⟩ := List.getElem?_eq_some_iff.mp e2
    rw [← h2]; exact List.set_getElem_self h1
  rw [ee, es] at sl2
  have S2 : Sat K (ms.set i .un) env σ (fps.set i []) G H := ⟨sl2, nodup_flatten_set i nd List.nodup_nil (fun a ha => nomatch ha), fun a ha => (mem_flatten_set ha).elim (fun z => nomatch z) (S.out a), S.sub⟩
  obtain ⟨f3, S3, t3, sub⟩ := S2.weak w
  have t2 : Tr fps.flatten G H (fps.set i []).flatten G H := ⟨Same.refl _, fun _ z => .inl z, fun a ha => (mem_flatten_set ha).elim (fun z => nomatch z) .inl, fun _ _ e _ => e, fun _ z => z⟩
  exact ⟨v, e2, kr d env v σ f3 G H rfl (t2.trans t3) Pins.refl S3 ⟨f, ow, nf, fun a ha => ⟨S.out a (hf a ha), fun z => notin a (sub a z) ha, .inl (hf a ha)⟩⟩⟩
/-- if -/
def iteF' (gc : FT) (g1 g2 : FS) : FS := fun env => (gc env).bind fun q => if q.1 = true then g1 q.2 else g2 q.2
theorem sem_ifS (hc : SemT K ms p ga ua) (h1 : SemS K rm rms ms ms' g1 t1) (h2 : SemS K rm rms ms ms' g2 t2) : SemS K rm rms ms ms' (iteF' ga g1 g2) (tIfS ua t1 t2) := by
  intro env σ fps G H o De S e kn kr
  unfold iteF' at e
  cases q : ga env with
  | none => rw [q] at e; cases e
  | some r =>
    obtain ⟨c, e1⟩ := r
    rw [q, Option.bind_some] at e
    refine hc env σ fps G H c e1 _ S q fun f1 G1 H1 t1' p1 S1 => ?_
    cases c with
    | true =>
      rw [if_pos rfl] at e ⊢
      exact h1 e1 σ f1 G1 H1 o De S1 e (fun e2 σ2 f2 G2 H2 eo t2 p2 S2 => kn e2 σ2 f2 G2 H2 eo (t1'.trans t2) p2 S2) fun d e2 v σ2 f2 G2 H2 eo t2 p2 S2 r2 => kr d e2 v σ2 f2 G2 H2 eo (t1'.trans t2) p2 S2 (r2.old t1')
    | false =>
      rw [if_neg Bool.false_ne_true] at e ⊢
      exact h2 e1 σ f1 G1 H1 o De S1 e (fun e2 σ2 f2 G2 H2 eo t2 p2 S2 => kn e2 σ2 f2 G2 H2 eo (t1'.trans t2) p2 S2) fun d e2 v σ2 f2 G2 H2 eo t2 p2 S2 r2 => kr d e2 v σ2 f2 G2 H2 eo (t1'.trans t2) p2 S2 (r2.old t1')
end
end DL
namespace DL
open PySem PySem.Spec PyProof.Rows L2

section
variable {K : PySem.W.Frag} {rm : M} {rms ms ms1 ms2 msL msB ms' : List M} {p pa pb pc : Bool} {m ma mb mc : M} {fa fb fc : FE} {ta tb tc : TE} {ga gb : FT} {ua ub : TT} {g1 g2 : FS} {t t1 t2 : TS}

/-! ### targets -/
abbrev FG := D → List D → Option (List D)
def SemG (K : PySem.W.Frag) (rms ms ms' : List M) (b : FG) (g : TG) : Prop :=
  ∀ env σ fps G H d v env' (Q : L2.St → Hp → Prop), Sat K ms env σ fps G H → Rep K G d v → b d env = some env' →
    (∀ σ' fps', (∀ a ∈ fps'.flatten, a ∈ fps.flatten) → Pins rms σ σ' → Sat K ms' env' σ' fps' G H → Q σ' H) → g v σ H Q
abbrev FGs := List D → List D → Option (List D)
def SemGs (K : PySem.W.Frag) (rms ms ms' : List M) (b : FGs) (g : TGs) : Prop :=
  ∀ env σ fps G H ds vs env' (Q : L2.St → Hp → Prop), Sat K ms env σ fps G H → Reps K G ds vs → b ds env = some env' →
    (∀ σ' fps', (∀ a ∈ fps'.flatten, a ∈ fps.flatten) → Pins rms σ σ' → Sat K ms' env' σ' fps' G H → Q σ' H) → g vs σ H Q
def nameG (i : Nat) : FG := fun d env => some (env.set i d)
theorem sem_gName (i : Nat) (hi : rms[i]? = some .un) : SemG K rms ms (ms.set i .sh) (nameG i) (gName i) := by
  intro env σ fps G H d v env' Q S r e k
  cases e
  exact k _ (fps.set i []) (fun a ha => (mem_flatten_set ha).elim (fun z => nomatch z) id) (pins_set hi) (S.set i (m := .sh) ⟨rfl, v, rfl, r⟩ List.nodup_nil (fun _ z => nomatch z) (fun _ z => nomatch z))
def nilG : FGs := fun ds env => match ds with
  | [] => some env
  | _ => none
def consG (b : FG) (c : FGs) : FGs := fun ds env => match ds with
  | d :: ds => (b d env).bind fun e => c ds e
  | [] => none
theorem sem_gNil : SemGs K rms ms ms nilG gNil := by
  intro env σ fps G H ds vs env' Q S r e k
  cases ds with
  | nil => cases e; exact ⟨reps_nil.mp r, k σ fps (fun _ h => h) Pins.refl S⟩
  | cons d ds => cases e
theorem sem_gCons {b : FG} {c : FGs} {g : TG} {gs : TGs} (h1 : SemG K rms ms ms1 b g) (h2 : SemGs K rms ms1 ms2 c gs) : SemGs K rms ms ms2 (consG b c) (gCons g gs) := by
  intro env σ fps G H ds vs env' Q S r e k
  cases ds with
  | nil => cases e
  | cons d ds =>
    obtain ⟨v, q, rfl, r1, r2⟩ := reps_cons.mp r
    have e' : ((b d env).bind fun e => c ds e) = some env' := e
    cases e1 : b d env with
    | none => rw [e1] at e'; cases e'
    | some x =>
      rw [e1, Option.bind_some] at e'
      exact ⟨v, q, rfl, h1 env σ fps G H d v x _ S r1 e1 fun σ1 f1 s1 p1 S1 => h2 x σ1 f1 G H ds q env' Q S1 r2 e' fun σ2 f2 s2 p2 S2 => k σ2 f2 (fun a ha => s1 a (s2 a ha)) (p1.trans p2) S2⟩
def tupG (n : Nat) (c : FGs) : FG := fun d env => match d with
  | .tup ds => if ds.length = n then c ds env else none
  | _ => none
theorem sem_gTup {c : FGs} {gs : TGs} {n : Nat} (h : SemGs K rms ms ms' c gs) : SemG K rms ms ms' (tupG n c) (gTup K n gs) := by
  intro env σ fps G H d v env' Q S r e k
  cases d with
  | tup ds =>
    have e' : (if ds.length = n then c ds env else none) = some env' := e
    split at e'
    · rename_i hl
      unfold Rep at r
      obtain ⟨a, vs, rfl, q, rr⟩ := r
      exact ⟨a, vs, rfl, SqT.of (S.sub _ _ q), by rw [rr.length]; exact hl, h env σ fps G H ds vs env' Q S rr e' k⟩
    · cases e'
  | _ => cases e
/-- target = value, the value shared -/
def asgF (f : FE) (b : FG) : FS := fun env => (f env).bind fun q => (b q.1 q.2).map .nx
theorem sem_asg {b : FG} {g : TG} (h : SemE K ms p .sh fa ta) (hg : SemG K rms ms ms' b g) : SemS K rm rms ms ms' (asgF fa b) (tAsg ta g) := by
  intro env σ fps G H o De S e kn kr
  unfold asgF at e
  cases q : fa env with
  | none => rw [q] at e; cases e
  | some r =>
    rw [q, Option.bind_some] at e
    cases q2 : b r.1 r.2 with
    | none => rw [q2] at e; cases e
    | some e2 =>
      rw [q2] at e
      cases e
      refine h env σ fps G H r.1 r.2 _ S q fun v f1 G1 H1 t1 p1 S1 r1 => ?_
      exact hg r.2 σ f1 G1 H1 r.1 v e2 _ S1 r1 q2 fun σ2 f2 s2 p2 S2 => kn e2 σ2 f2 G1 H1 rfl ⟨t1.gs, t1.gn, fun a ha => t1.fp a (s2 a ha), t1.fr, t1.th⟩ p2 S2

/-! ### what is walked -/
structure IterOk (K : PySem.W.Frag) (G1 : Hp) (J : It) (items : List D) : Prop where
  len : items.length ≤ sizeLine
  stop : ∀ i G H, Same G1 G → Same G H → items.length ≤ i → J.stop i H
  go : ∀ i G H d, Same G1 G → Same G H → items[i]? = some d → J.go i H
  yld : ∀ i G H d x H', Same G1 G → Same G H → items[i]? = some d → J.yld i H x H' → ∃ G', Al G H G' H' ∧ Rep K G' d x
def SemI (K : PySem.W.Frag) (ms : List M) (p : Bool) (f : FA) (wi : TI) : Prop :=
  ∀ env σ fps G H items env' (R : It → Hp → Prop), Sat K ms env σ fps G H → f env = some (items, env') →
    (∀ J fps' G' H', Tr fps.flatten G H fps'.flatten G' H' → (p = true → Same H H') → Sat K ms env' σ fps' G' H' → IterOk K G' J items → R J H') → wi σ H R
/-- lists, tuples have at most sizeLine items -/
def HLen (H : Hp) : Prop := ∀ a, (∀ xs, Rd H a (.lst xs) → xs.length ≤ sizeLine) ∧ (∀ xs, Rd H a (.tup xs) → xs.length ≤ sizeLine) ∧ (∀ xs, Rd H a (.dK xs) → xs.length ≤ sizeLine) ∧ (∀ xs, Rd H a (.dT xs) → xs.length ≤ sizeLine)
theorem hlen {X : Cx} {pins : List (Addr × Obj)} {σ : L2.St} {H : Hp} {s : Shared} (I : Inv X pins σ H s) : HLen H := fun a =>
  ⟨fun xs h => (h.ok I.hok).1, fun xs h => (h.ok I.hok).1, fun xs h => (h.ok I.hok).1, fun xs h => (h.ok I.hok).1⟩
def iKnow (wi : TI) : TI := fun σ H R => wi σ H fun J H1 => HLen H1 → R J H1
theorem pi_know {X : Cx} {tg e : Expr} {wi : TI} (h : PI X tg e wi) : PI X tg e (iKnow wi) := by
  refine ⟨fun pins s σ H R I hw => ?_⟩
  refine thn (h.run pins s σ H _ I hw) fun v s1 h1 => thn h1 fun u s2 ⟨it, fp, tn, J, H', e, I2, T, t0, f2, q⟩ => ?_
  exact ⟨it, fp, tn, J, H', e, I2, T, t0, f2, q (hlen I2)⟩
def lstF (f : FE) : FA := fun env => (f env).bind fun q => match q.1 with
  | .lst ds => some (ds, q.2)
  | _ => none
theorem sem_iList (h : SemE K ms p .sh fa ta) : SemI K ms p (lstF fa) (iKnow (iList K ta)) := by
  intro env σ fps G H items env' R S e k
  unfold lstF at e
  cases q : fa env with
  | none => rw [q] at e; cases e
  | some r =>
    obtain ⟨d, e1⟩ := r
    rw [q, Option.bind_some] at e
    cases d with
    | lst ds =>
      cases e
      refine h env σ fps G H _ e1 _ S q fun v f1 G1 H1 t1 p1 S1 r1 => ?_
      have r1' : Rep K G1 (.lst items) v := r1
      unfold Rep at r1'
      obtain ⟨a, vs, rfl, ha, rr⟩ := r1'
      have hq : ∀ G H, Same G1 G → Same G H → SqL K H a vs := fun G H s1 s2 => SqL.of (s2 _ _ (s1 _ _ ha))
      refine ⟨a, rfl, ⟨vs, SqL.of (S1.sub _ _ ha)⟩, fun hl => k _ f1 G1 H1 t1 p1 S1 ⟨?_, fun i G H s1 s2 hi => ?_, fun i G H d s1 s2 hi => ?_, fun i G H d x H' s1 s2 hi y => ?_⟩⟩
      · rw [← rr.length]; exact (hl a).1 vs (.inl (S1.sub _ _ ha))
      · exact ⟨vs, hq G H s1 s2, by rw [rr.length]; exact hi⟩
      · obtain ⟨w, hw, _⟩ := rr.get hi
        exact ⟨vs, w, hq G H s1 s2, hw⟩
      · obtain ⟨e, y⟩ := y
        subst e
        obtain ⟨w, hw, rw'⟩ := rr.get hi
        have := y vs (hq _ _ s1 s2)
        rw [hw] at this; cases this
        exact ⟨G, Al.refl s2, rw'.same s1⟩
    | _ => cases e
def tupF (f : FE) : FA := fun env => (f env).bind fun q => match q.1 with
  | .tup ds => some (ds, q.2)
  | _ => none
theorem sem_iTup (h : SemE K ms p .sh fa ta) : SemI K ms p (tupF fa) (iKnow (iTup K ta)) := by
  intro env σ fps G H items env' R S e k
  unfold tupF at e
  cases q : fa env with
  | none => rw [q] at e; cases e
  | some r =>
    obtain ⟨d, e1⟩ := r
    rw [q, Option.bind_some] at e
    cases d with
    | tup ds =>
      cases e
      refine h env σ fps G H _ e1 _ S q fun v f1 G1 H1 t1 p1 S1 r1 => ?_
      have r1' : Rep K G1 (.tup items) v := r1
      unfold Rep at r1'
      obtain ⟨a, vs, rfl, ha, rr⟩ := r1'
      have hq : ∀ G H, Same G1 G → Same G H → SqT K H a vs := fun G H s1 s2 => SqT.of (s2 _ _ (s1 _ _ ha))
      refine ⟨a, rfl, ⟨vs, SqT.of (S1.sub _ _ ha)⟩, fun hl => k _ f1 G1 H1 t1 p1 S1 ⟨?_, fun i G H s1 s2 hi => ?_, fun i G H d s1 s2 hi => ?_, fun i G H d x H' s1 s2 hi y => ?_⟩⟩
      · rw [← rr.length]
        exact (hl a).2.1 vs (.inl (S1.sub _ _ ha))
      · exact ⟨vs, hq G H s1 s2, by rw [rr.length]; exact hi⟩
      · obtain ⟨w, hw, _⟩ := rr.get hi
        exact ⟨vs, w, hq G H s1 s2, hw⟩
      · obtain ⟨e, y⟩ := y
        subst e
        obtain ⟨w, hw, rw'⟩ := rr.get hi
        have := y vs (hq _ _ s1 s2)
        rw [hw] at this; cases this
        exact ⟨G, Al.refl s2, rw'.same s1⟩
    | _ => cases e
theorem rep_int {G : Hp} {i : Int} : Rep K G (.int i) (.int i) := by unfold Rep; rfl
theorem rep_str {G : Hp} {x : Str} : Rep K G (.str x) (.str x) := by unfold Rep; rfl
theorem rep_non {G : Hp} : Rep K G .non .non := by unfold Rep; rfl
/-- lo, lo + 1, .. -/
def rangeD (lo : Int) (n : Nat) : List D := (List.range n).map fun i => .int (lo + (i : Nat))
theorem rangeD_length (lo : Int) (n : Nat) : (rangeD lo n).length = n := by unfold rangeD; simp
theorem iter_range {G1 : Hp} {lo : Int} {n : Nat} (hn : n ≤ sizeLine) : IterOk K G1 (Itr lo n) (rangeD lo n) := by
  refine ⟨by rw [rangeD_length]; exact hn, fun i G H _ _ hi => by rw [rangeD_length] at hi; exact hi, fun i G H d _ _ hi => ?_, fun i G H d x H' s1 s2 hi y => ?_⟩
  · have := (List.getElem?_eq_some_iff.mp hi).1
    rw [rangeD_length] at this; exact this
  · obtain ⟨e, ex⟩ := y
    subst e
    have hlt : i < n := by
      have := (List.getElem?_eq_some_iff.mp hi).1
      rw [rangeD_length] at this; exact this
    unfold rangeD at hi
    rw [List.getElem?_map, List.getElem?_range hlt] at hi
    cases hi
    exact ⟨G, Al.refl s2, by rw [ex]; exact rep_int⟩
def rng1F (fs : FA) : FA := fun env => (fs env).bind fun q => match q.1 with
  | [.int j] => if j.natAbs ≤ 16777216 then some (rangeD 0 j.toNat, q.2) else none
  | _ => none
def rng2F (fs : FA) : FA := fun env => (fs env).bind fun q => match q.1 with
  | [.int i, .int j] => if i.natAbs ≤ 8000000 ∧ j.natAbs ≤ 8000000 then some (rangeD i (j - i).toNat, q.2) else none
  | _ => none
theorem RAs.one {G H : Hp} {m : M} {d : D} {vs : List V} (h : RAs K G H [m] [d] vs) : ∃ v, vs = [v] ∧ RA K m d v G H := by
  obtain ⟨d', r, v, q, e1, rfl, h1, h2⟩ := h
  cases e1
  obtain ⟨_, rfl⟩ := h2
  exact ⟨v, rfl, h1⟩
theorem RAs.two {G H : Hp} {m m' : M} {d d' : D} {vs : List V} (h : RAs K G H [m, m'] [d, d'] vs) : ∃ v v', vs = [v, v'] ∧ RA K m d v G H ∧ RA K m' d' v' G H := by
  obtain ⟨x, r, v, q, e1, rfl, h1, h2⟩ := h
  cases e1
  obtain ⟨v', rfl, h3⟩ := h2.one
  exact ⟨v, v', rfl, h1, h3⟩
theorem RAs.lens {G H : Hp} : ∀ {ms : List M} {ds : List D} {vs : List V}, RAs K G H ms ds vs → ds.length = ms.length ∧ vs.length = ms.length
  | [], _, _, h => by obtain ⟨rfl, rfl⟩ := h; exact ⟨rfl, rfl⟩
  | m :: ms, _, _, h => by
    obtain ⟨d, r, v, q, rfl, rfl, h1, h2⟩ := h
    obtain ⟨a, b⟩ := RAs.lens h2
    exact ⟨by simp [a], by simp [b]⟩
theorem sem_iRng1 {fs : FA} {ts : TA} (h : SemA K ms p [.sh] fs ts) : SemI K ms p (rng1F fs) (iRng1 ts) := by
  intro env σ fps G H items env' R S e k
  unfold rng1F at e
  cases q : fs env with
  | none => rw [q] at e; cases e
  | some r =>
    obtain ⟨ds, e1⟩ := r
    rw [q, Option.bind_some] at e
    simp only at e
    split at e
    · rename_i j
      split at e
      · rename_i hj
        cases e
        refine h env σ fps G H _ _ _ S q fun vs f1 G1 H1 t1 p1 S1 r1 => ?_
        obtain ⟨v, rfl, rv⟩ := r1.one
        have rv' : Rep K G1 (.int j) v := rv
        unfold Rep at rv'
        subst rv'
        exact ⟨j, rfl, by omega, by omega, k _ f1 G1 H1 t1 p1 S1 (iter_range (by rw [sizeLine_eq]; omega))⟩
      · cases e
    · cases e
theorem sem_iRng2 {fs : FA} {ts : TA} (h : SemA K ms p [.sh, .sh] fs ts) : SemI K ms p (rng2F fs) (iRng2 ts) := by
  intro env σ fps G H items env' R S e k
  unfold rng2F at e
  cases q : fs env with
  | none => rw [q] at e; cases e
  | some r =>
    obtain ⟨ds, e1⟩ := r
    rw [q, Option.bind_some] at e
    simp only at e
    split at e
    · rename_i i j
      split at e
      · rename_i hj
        cases e
        refine h env σ fps G H _ _ _ S q fun vs f1 G1 H1 t1 p1 S1 r1 => ?_
        obtain ⟨v, u, rfl, rv, ru⟩ := r1.two
        have rv' : Rep K G1 (.int i) v := rv
        unfold Rep at rv'
        subst rv'
        have ru' : Rep K G1 (.int j) u := ru
        unfold Rep at ru'
        subst ru'
        exact ⟨i, j, rfl, ⟨by omega, by omega, by omega, by omega⟩, k _ f1 G1 H1 t1 p1 S1 (iter_range (by rw [sizeLine_eq]; omega))⟩
      · cases e
    · cases e
/-- enumerate(list) -/
def enumD : Nat → List D → List D
  | _, [] => []
  | i, d :: ds => .tup [.int (i : Nat), d] :: enumD (i + 1) ds
theorem enumD_length : ∀ (i : Nat) (ds : List D), (enumD i ds).length = ds.length
  | _, [] => rfl
  | i, d :: ds => by simp [enumD, enumD_length (i + 1) ds]
theorem enumD_get : ∀ (j i : Nat) (ds : List D), (enumD j ds)[i]? = (ds[i]?).map fun d => .tup [.int ((j + i : Nat) : Int), d]
  | j, i, [] => by simp [enumD]
  | j, 0, d :: ds => by simp [enumD]
  | j, i + 1, d :: ds => by
    simp only [enumD, List.getElem?_cons_succ, enumD_get (j + 1) i ds]
    rw [show j + 1 + i = j + (i + 1) by omega]
def enumF (fs : FA) : FA := fun env => (fs env).bind fun q => match q.1 with
  | [.lst ds] => some (enumD 0 ds, q.2)
  | _ => none
theorem rep_tup {G : Hp} {p : Addr} {ds : List D} {vs : List V} (r : Reps K G ds vs) (hp : G p = none) : Rep K (upd G p (.tup vs)) (.tup ds) (.ref p) := by
  unfold Rep
  exact ⟨p, vs, rfl, upd_same, r.same (same_upd hp)⟩
theorem sem_iEnum {fs : FA} {ts : TA} (h : SemA K ms p [.sh] fs ts) : SemI K ms p (enumF fs) (iKnow (iEnum K ts)) := by
  intro env σ fps G H items env' R S e k
  unfold enumF at e
  cases q : fs env with
  | none => rw [q] at e; cases e
  | some r =>
    obtain ⟨ds, e1⟩ := r
    rw [q, Option.bind_some] at e
    simp only at e
    split at e
    · rename_i l
      cases e
      refine h env σ fps G H _ _ _ S q fun vs f1 G1 H1 t1 p1 S1 r1 => ?_
      obtain ⟨v, rfl, rv⟩ := r1.one
      have rv' : Rep K G1 (.lst l) v := rv
      unfold Rep at rv'
      obtain ⟨a, vs, rfl, ha, rr⟩ := rv'
      have hq : ∀ G H, Same G1 G → Same G H → SqL K H a vs := fun G H s1 s2 => SqL.of (s2 _ _ (s1 _ _ ha))
      refine ⟨a, vs, rfl, SqL.of (S1.sub _ _ ha), fun hl => k _ f1 G1 H1 t1 p1 S1 ⟨?_, fun i G H s1 s2 hi => ?_, fun i G H d s1 s2 hi => ?_, fun i G H d x H' s1 s2 hi y => ?_⟩⟩
      · rw [enumD_length, ← rr.length]; exact (hl a).1 vs (.inl (S1.sub _ _ ha))
      · rw [enumD_length] at hi
        exact ⟨vs, hq G H s1 s2, by rw [rr.length]; exact hi⟩
      · rw [enumD_get] at hi
        cases e : l[i]? with
        | none => rw [e] at hi; cases hi
        | some y =>
          obtain ⟨w, hw, _⟩ := rr.get e
          exact ⟨vs, w, hq G H s1 s2, hw⟩
      · obtain ⟨T, z, ex, hT, eH, y⟩ := y
        subst ex eH
        rw [enumD_get] at hi
        cases e : l[i]? with
        | none => rw [e] at hi; cases hi
        | some dy =>
          rw [e] at hi
          cases hi
          obtain ⟨w, hw, rw'⟩ := rr.get e
          have hz := y vs (hq _ _ s1 s2)
          rw [hw] at hz
          obtain rfl : w = z := Option.some.inj hz
          refine ⟨upd G T (.tup [.int (i : Nat), w]), Al.sh s2 hT, rep_tup ?_ (s2.free hT)⟩
          rw [Nat.zero_add]
          exact .cons rep_int (.cons (rw'.same s1) .nil)
    · cases e
/-- zip(list, list) -/
def zipD : List D → List D → List D
  | d :: ds, e :: es => .tup [d, e] :: zipD ds es
  | _, _ => []
theorem zipD_length : ∀ (ds es : List D), (zipD ds es).length = min ds.length es.length
  | [], es => by simp [zipD]
  | d :: ds, [] => by simp [zipD]
  | d :: ds, e :: es => by simp [zipD, zipD_length ds es]
theorem zipD_get : ∀ (i : Nat) (ds es : List D) (x : D), (zipD ds es)[i]? = some x → ∃ a b, ds[i]? = some a ∧ es[i]? = some b ∧ x = .tup [a, b]
  | i, [], es, x, h => by simp [zipD] at h
  | i, d :: ds, [], x, h => by simp [zipD] at h
  | 0, d :: ds, e :: es, x, h => by
    simp [zipD] at h
    exact ⟨d, e, rfl, rfl, h.symm⟩
  | i + 1, d :: ds, e :: es, x, h => by
    simp only [zipD, List.getElem?_cons_succ] at h
    obtain ⟨a, b, h1, h2, h3⟩ := zipD_get i ds es x h
    exact ⟨a, b, by simpa using h1, by simpa using h2, h3⟩
def zipF (fs : FA) : FA := fun env => (fs env).bind fun q => match q.1 with
  | [.lst ds, .lst es] => some (zipD ds es, q.2)
  | _ => none
theorem sem_iZip {fs : FA} {ts : TA} (h : SemA K ms p [.sh, .sh] fs ts) : SemI K ms p (zipF fs) (iKnow (iZip K ts)) := by
  intro env σ fps G H items env' R S e k
  unfold zipF at e
  cases q : fs env with
  | none => rw [q] at e; cases e
  | some r =>
    obtain ⟨ds, e1⟩ := r
    rw [q, Option.bind_some] at e
    simp only at e
    split at e
    · rename_i l l2
      cases e
      refine h env σ fps G H _ _ _ S q fun vs f1 G1 H1 t1 p1 S1 r1 => ?_
      obtain ⟨v, u, rfl, rv, ru⟩ := r1.two
      have rv' : Rep K G1 (.lst l) v := rv
      unfold Rep at rv'
      obtain ⟨a, vs, rfl, ha, rr⟩ := rv'
      have ru' : Rep K G1 (.lst l2) u := ru
      unfold Rep at ru'
      obtain ⟨b, us, rfl, hb, rr2⟩ := ru'
      have hq : ∀ G H, Same G1 G → Same G H → SqL K H a vs := fun G H s1 s2 => SqL.of (s2 _ _ (s1 _ _ ha))
      have hq2 : ∀ G H, Same G1 G → Same G H → SqL K H b us := fun G H s1 s2 => SqL.of (s2 _ _ (s1 _ _ hb))
      refine ⟨a, b, vs, us, rfl, SqL.of (S1.sub _ _ ha), SqL.of (S1.sub _ _ hb), fun hl => k _ f1 G1 H1 t1 p1 S1 ⟨?_, fun i G H s1 s2 hi => ?_, fun i G H d s1 s2 hi => ?_, fun i G H d x H' s1 s2 hi y => ?_⟩⟩
      · rw [zipD_length, ← rr.length]
        have := (hl a).1 vs (.inl (S1.sub _ _ ha))
        omega
      · rw [zipD_length] at hi
        refine ⟨vs, us, hq G H s1 s2, hq2 G H s1 s2, ?_⟩
        rw [rr.length, rr2.length]
        omega
      · obtain ⟨x, y, e1, e2, _⟩ := zipD_get i _ _ _ hi
        obtain ⟨w, hw, _⟩ := rr.get e1
        obtain ⟨z, hz, _⟩ := rr2.get e2
        exact ⟨vs, us, w, z, hq G H s1 s2, hq2 G H s1 s2, hw, hz⟩
      · obtain ⟨T, x1, y1, ex, hT, eH, y1', y2'⟩ := y
        subst ex eH
        obtain ⟨x, y, e1, e2, rfl⟩ := zipD_get i _ _ _ hi
        obtain ⟨w, hw, rw'⟩ := rr.get e1
        obtain ⟨z, hz, rz'⟩ := rr2.get e2
        have h1 := y1' vs (hq _ _ s1 s2)
        rw [hw] at h1
        obtain rfl : w = x1 := Option.some.inj h1
        have h2 := y2' us (hq2 _ _ s1 s2)
        rw [hz] at h2
        obtain rfl : z = y1 := Option.some.inj h2
        exact ⟨upd G T (.tup [w, z]), Al.sh s2 hT, rep_tup (.cons (rw'.same s1) (.cons (rz'.same s1) .nil)) (s2.free hT)⟩
    · cases e
/-- the signs of a text -/
def signsD (x : Str) : List D := x.cps.toList.map fun c => .str ⟨#[c]⟩
def strF (f : FE) : FA := fun env => (f env).bind fun q => match q.1 with
  | .str x => if x.cps.size ≤ 16777216 then some (signsD x, q.2) else none
  | _ => none
theorem sem_iStr (h : SemE K ms p m fa ta) (hm : m = .sh ∨ m = .bo) : SemI K ms p (strF fa) (iStr ta) := by
  intro env σ fps G H items env' R S e k
  unfold strF at e
  cases q : fa env with
  | none => rw [q] at e; cases e
  | some r =>
    obtain ⟨d, e1⟩ := r
    rw [q, Option.bind_some] at e
    cases d with
    | str x =>
      have e' : (if x.cps.size ≤ 16777216 then some (signsD x, e1) else none) = some (items, env') := e
      split at e'
      · rename_i hz
        cases e'
        refine h env σ fps G H _ _ _ S q fun v f1 G1 H1 t1 p1 S1 r1 => ?_
        have rv : v = .str x := by
          rcases hm with rfl | rfl
          · have z : Rep K G1 (.str x) v := r1
            unfold Rep at z; exact z
          · have z : Rep K H1 (.str x) v := r1
            unfold Rep at z; exact z
        have hlen : (signsD x).length = x.cps.size := by unfold signsD; simp
        refine ⟨x, rv, k _ f1 G1 H1 t1 p1 S1 ⟨by rw [hlen, sizeLine_eq]; exact hz, fun i G H _ _ hi => by rw [hlen] at hi; exact hi, fun i G H d _ _ hi => ?_, fun i G H d x' H' s1 s2 hi y => ?_⟩⟩
        · have := (List.getElem?_eq_some_iff.mp hi).1
          rw [hlen] at this; exact this
        · obtain ⟨e, c, hc, rfl⟩ := y
          subst e
          unfold signsD at hi
          rw [List.getElem?_map, Array.getElem?_toList, hc] at hi
          cases hi
          exact ⟨G, Al.refl s2, rep_str⟩
      · cases e'
    | _ => cases e

/-! ### for -/
def loopF (b : FG) (body : FS) : List D → FS
  | [], env => some (.nx env)
  | d :: ds, env => (b d env).bind fun e1 => (body e1).bind fun o => match o with
    | .nx e2 => loopF b body ds e2
    | .rt d e2 => some (.rt d e2)
def forF (f : FA) (b : FG) (body : FS) : FS := fun env => (f env).bind fun q => loopF b body q.1 q.2
theorem sem_for {f : FA} {wi : TI} {b : FG} {g : TG} {body : FS} {tb : TS} (hi : SemI K msL p f wi) (hg : SemG K rms msL msB b g) (hb : SemS K rm rms msB msL body tb) :
    SemS K rm rms msL msL (forF f b body) (tFor wi g tb) := by
  intro env σ fps G H o De S e kn kr
  unfold forF at e
  cases q : f env with
  | none => rw [q] at e; cases e
  | some r =>
    obtain ⟨items, e1⟩ := r
    rw [q, Option.bind_some] at e
    refine hi env σ fps G H items e1 _ S q fun J f1 G1 H1 t1 p1 S1 ok => ?_
    refine ⟨fun i m σ' H' => m = items.length - i ∧ i ≤ items.length ∧ ∃ env' fps' G', Tr fps.flatten G H fps'.flatten G' H' ∧ Same G1 G' ∧ Pins rms σ σ' ∧ Sat K msL env' σ' fps' G' H' ∧ loopF b body (items.drop i) env' = some o,
      ⟨items.length, by simp, Nat.zero_le _, e1, f1, G1, t1, Same.refl _, Pins.refl, S1, by simpa using e⟩, ?_⟩
    rintro i m σ2 H2 ⟨rfl, hle, e2, f2, G2, t2, g2, p2, S2, el⟩
    by_cases hlt : i < items.length
    · have hd : items[i]? = some items[i] := by simp [hlt]
      refine .inr ⟨ok.go i G2 H2 _ g2 S2.sub hd, fun σ3 H3 => i + 1 ≤ items.length ∧ ∃ env' fps' G', Tr fps.flatten G H fps'.flatten G' H3 ∧ Same G1 G' ∧ Pins rms σ σ3 ∧ Sat K msL env' σ3 fps' G' H3 ∧ loopF b body (items.drop (i + 1)) env' = some o,
        fun σ3 H3 z => ⟨items.length - (i + 1), by omega, rfl, z.1, z.2⟩, fun x H3 y => ?_⟩
      obtain ⟨G3, a3, r3⟩ := ok.yld i G2 H2 _ x H3 g2 S2.sub hd y
      have S3 := a3.sat S2
      have t3 := t2.trans (a3.tr f2.flatten)
      rw [List.drop_eq_getElem_cons hlt] at el
      have el' : ((b items[i] e2).bind fun e1 => (body e1).bind fun o => match o with
        | .nx e2 => loopF b body (items.drop (i + 1)) e2
        | .rt d e2 => some (.rt d e2)) = some o := el
      cases qb : b items[i] e2 with
      | none => rw [qb] at el'; cases el'
      | some e3 =>
        rw [qb, Option.bind_some] at el'
        refine hg e2 σ2 f2 G3 H3 _ x e3 _ S3 r3 qb fun σ4 f4 s4 p4 S4 => ?_
        have t4 : Tr fps.flatten G H f4.flatten G3 H3 := ⟨t3.gs, t3.gn, fun a ha => t3.fp a (s4 a ha), t3.fr, t3.th⟩
        cases qo : body e3 with
        | none => rw [qo] at el'; cases el'
        | some o3 =>
          rw [qo, Option.bind_some] at el'
          refine hb e3 σ4 f4 G3 H3 o3 _ S4 qo (fun e5 σ5 f5 G5 H5 eo t5 p5 S5 => ?_) fun d e5 v σ5 f5 G5 H5 eo t5 p5 S5 r5 => ?_
          · subst eo
            exact ⟨hlt, e5, f5, G5, t4.trans t5, (g2.trans a3.gs).trans t5.gs, (p2.trans p4).trans p5, S5, el'⟩
          · subst eo
            cases el'
            exact kr d e5 v σ5 f5 G5 H5 rfl (t4.trans t5) ((p2.trans p4).trans p5) S5 (r5.old t4)
    · have hz : i = items.length := by omega
      subst hz
      rw [List.drop_length] at el
      cases el
      exact .inl ⟨ok.stop _ G2 H2 g2 S2.sub (Nat.le_refl _), kn e2 σ2 f2 G2 H2 rfl t2 p2 S2⟩

/-! ### while -/
def whileF (c : FT) (body : FS) : Nat → FS
  | 0, _ => none
  | n + 1, env => (c env).bind fun q => if q.1 = true then (body q.2).bind fun o => match o with
      | .nx e2 => whileF c body n e2
      | .rt d e2 => some (.rt d e2)
    else some (.nx q.2)
theorem sem_while {gc : FT} {tc : TT} {body : FS} {tb : TS} (n : Nat) (hc : SemT K msL p gc tc) (hb : SemS K rm rms msL msL body tb) : SemS K rm rms msL msL (whileF gc body n) (tWhile tc tb) := by
  intro env σ fps G H o De S e kn kr
  refine ⟨fun m σ' H' => ∃ env' fps' G', Tr fps.flatten G H fps'.flatten G' H' ∧ Pins rms σ σ' ∧ Sat K msL env' σ' fps' G' H' ∧ whileF gc body m env' = some o, ⟨n, env, fps, G, Tr.refl _ _ _, Pins.refl, S, e⟩, ?_⟩
  rintro m σ1 H1 ⟨e1, f1, G1, t1, p1, S1, w1⟩
  cases m with
  | zero => cases w1
  | succ m =>
    have w1' : ((gc e1).bind fun q => if q.1 = true then (body q.2).bind fun o => match o with
      | .nx e2 => whileF gc body m e2
      | .rt d e2 => some (.rt d e2)
    else some (.nx q.2)) = some o := w1
    cases q : gc e1 with
    | none => rw [q] at w1'; cases w1'
    | some r =>
      obtain ⟨c, e2⟩ := r
      rw [q, Option.bind_some] at w1'
      refine hc e1 σ1 f1 G1 H1 c e2 _ S1 q fun f2 G2 H2 t2 p2 S2 => ?_
      cases c with
      | true =>
        rw [if_pos rfl] at w1' ⊢
        refine ⟨fun σ' H' => ∃ env' fps' G', Tr fps.flatten G H fps'.flatten G' H' ∧ Pins rms σ σ' ∧ Sat K msL env' σ' fps' G' H' ∧ whileF gc body m env' = some o, fun σ' H' z => ⟨m, Nat.lt_succ_self m, z⟩, ?_⟩
        have w1'' : ((body e2).bind fun o => match o with
          | .nx e2 => whileF gc body m e2
          | .rt d e2 => some (.rt d e2)) = some o := w1'
        cases qo : body e2 with
        | none => rw [qo] at w1''; cases w1''
        | some o3 =>
          rw [qo, Option.bind_some] at w1''
          refine hb e2 σ1 f2 G2 H2 o3 _ S2 qo (fun e5 σ5 f5 G5 H5 eo t5 p5 S5 => ?_) fun d e5 v σ5 f5 G5 H5 eo t5 p5 S5 r5 => ?_
          · subst eo
            exact ⟨e5, f5, G5, (t1.trans t2).trans t5, p1.trans p5, S5, w1''⟩
          · subst eo
            cases w1''
            exact kr d e5 v σ5 f5 G5 H5 rfl ((t1.trans t2).trans t5) (p1.trans p5) S5 (r5.old (t1.trans t2))
      | false =>
        rw [if_neg Bool.false_ne_true] at w1' ⊢
        cases w1'
        exact kn e2 σ1 f2 G2 H2 rfl (t1.trans t2) p1 S2
end
end DL
namespace DL
open PySem PySem.Spec PyProof.Rows L2

section
variable {K : PySem.W.Frag} {rm : M} {rms ms ms1 ms2 msL msB msC ms' : List M} {p pa pb pc : Bool} {m ma mb mc : M} {fa fb fc : FE} {ta tb tc : TE} {ga gb : FT} {ua ub : TT} {g1 g2 : FS} {t t1 t2 : TS}

theorem slots_iff {G H : Hp} : ∀ {ms : List M} {env : List D} {σ : L2.St} {fps : List (List Addr)}, Slots K G H ms env σ fps ↔
    env.length = ms.length ∧ σ.length = ms.length ∧ fps.length = ms.length ∧ ∀ (i : Nat) m d o f, ms[i]? = some m → env[i]? = some d → σ[i]? = some o → fps[i]? = some f → SlotOk K G H m d o f
  | [], [], [], [] => ⟨fun _ => ⟨rfl, rfl, rfl, fun i m d o f h => by simp at h⟩, fun _ => trivial⟩
  | m :: ms, d :: ds, o :: os, f :: fs => by
    constructor
    · rintro ⟨h1, h2⟩
      obtain ⟨a, b, c, k⟩ := slots_iff.mp h2
      refine ⟨by simp [a], by simp [b], by simp [c], fun i m' d' o' f' e1 e2 e3 e4 => ?_⟩
      cases i with
      | zero => simp at e1 e2 e3 e4; subst e1 e2 e3 e4; exact h1
      | succ i => simp at e1 e2 e3 e4; exact k i m' d' o' f' e1 e2 e3 e4
    · rintro ⟨a, b, c, k⟩
      refine ⟨k 0 m d o f rfl rfl rfl rfl, slots_iff.mpr ⟨by simpa using a, by simpa using b, by simpa using c, fun i m' d' o' f' e1 e2 e3 e4 => k (i + 1) m' d' o' f' (by simpa using e1) (by simpa using e2) (by simpa using e3) (by simpa using e4)⟩⟩
  | [], [], [], _ :: _ => ⟨fun h => h.elim, fun h => by simp at h⟩
  | [], [], _ :: _, _ => ⟨fun h => h.elim, fun h => by simp at h⟩
  | [], _ :: _, _, _ => ⟨fun h => h.elim, fun h => by simp at h⟩
  | _ :: _, [], _, _ => ⟨fun h => h.elim, fun h => by simp at h⟩
  | _ :: _, _ :: _, [], _ => ⟨fun h => h.elim, fun h => by simp at h⟩
  | _ :: _, _ :: _, _ :: _, [] => ⟨fun h => h.elim, fun h => by simp at h⟩
/-- other values in forgotten slots -/
theorem Slots.sig {G H : Hp} {env : List D} {σ σ' : L2.St} {fps : List (List Addr)} (h : Slots K G H ms env σ fps) (hl : σ'.length = σ.length) (k : ∀ (i : Nat), ms[i]? ≠ some .un → σ'[i]? = σ[i]?) : Slots K G H ms env σ' fps := by
  obtain ⟨a, b, c, q⟩ := slots_iff.mp h
  refine slots_iff.mpr ⟨a, hl.trans b, c, fun i m d o f e1 e2 e3 e4 => ?_⟩
  by_cases hm : m = .un
  · subst hm
    have hi : i < σ.length := by rw [b]; exact (List.getElem?_eq_some_iff.mp e1).1
    exact q i _ d σ[i] f e1 e2 (by simp [hi]) e4
  · exact q i m d o f e1 e2 (by rw [← k i (by rw [e1]; exact fun z => hm (Option.some.inj z))]; exact e3) e4
theorem wipe_get (σ : L2.St) (i : Nat) : ∀ vs : List Nat, (wipe σ vs)[i]? = if i ∈ vs then (if i < σ.length then some none else none) else σ[i]?
  | [] => by simp [wipe]
  | v :: vs => by
    unfold wipe
    rw [List.getElem?_set, wipe_length, wipe_get σ i vs]
    by_cases h : v = i
    · subst h; simp
    · rw [if_neg h]
      have : i ∈ v :: vs ↔ i ∈ vs := by simp [List.mem_cons, Ne.symm h]
      simp only [this]
theorem wipe_eq {σ σ2 : L2.St} {vs : List Nat} (hl : σ2.length = σ.length) (k : ∀ (i : Nat), i ∉ vs → σ2[i]? = σ[i]?) : wipe σ2 vs = wipe σ vs := by
  refine List.ext_getElem? fun i => ?_
  rw [wipe_get, wipe_get, hl]
  by_cases h : i ∈ vs
  · rw [if_pos h, if_pos h]
  · rw [if_neg h, if_neg h, k i h]
def blkM (ms : List M) : List Nat → List M
  | [] => ms
  | v :: vs => (blkM ms vs).set v .un
theorem blkM_length (ms : List M) : ∀ vs, (blkM ms vs).length = ms.length
  | [] => rfl
  | v :: vs => by unfold blkM; rw [List.length_set, blkM_length ms vs]
theorem blkM_get (ms : List M) (i : Nat) : ∀ vs : List Nat, (blkM ms vs)[i]? = if i ∈ vs then (if i < ms.length then some .un else none) else ms[i]?
  | [] => by simp [blkM]
  | v :: vs => by
    unfold blkM
    rw [List.getElem?_set, blkM_length, blkM_get ms i vs]
    by_cases h : v = i
    · subst h; simp
    · rw [if_neg h]
      have : i ∈ v :: vs ↔ i ∈ vs := by simp [List.mem_cons, Ne.symm h]
      simp only [this]
/-- the block's own slots are none of the owned ones -/
def ownOk (ms : List M) (own : List Nat) : Bool := own.all fun i => ms[i]? == some .un || ms[i]? == some .sh
theorem ownOk_at {own : List Nat} (h : ownOk ms own = true) {i : Nat} (hi : i ∈ own) : ms[i]? = some .un ∨ ms[i]? = some .sh := by
  have := List.all_eq_true.mp h i hi
  simpa using this
theorem Sat.block {G H : Hp} {env : List D} {σ : L2.St} {fps : List (List Addr)} {own : List Nat} (S : Sat K ms env σ fps G H) (ho : ownOk ms own = true) : Sat K (blkM ms own) env (wipe σ own) fps G H := by
  obtain ⟨a, b, c, q⟩ := slots_iff.mp S.sl
  refine ⟨slots_iff.mpr ⟨by rw [blkM_length]; exact a, by rw [wipe_length, blkM_length]; exact b, by rw [blkM_length]; exact c, fun i m d o f e1 e2 e3 e4 => ?_⟩, S.nd, S.out, S.sub⟩
  rw [blkM_get] at e1
  rw [wipe_get] at e3
  by_cases h : i ∈ own
  · rw [if_pos h] at e1 e3
    split at e1
    · rename_i hlt
      cases e1
      have hi : i < σ.length := by rw [b]; exact hlt
      rcases ownOk_at ho h with z | z
      · exact q i _ d σ[i] f z e2 (by simp [hi]) e4
      · exact (q i _ d σ[i] f z e2 (by simp [hi]) e4).1
    · cases e1
  · rw [if_neg h] at e1 e3
    exact q i m d o f e1 e2 e3 e4
def restD (e1 e3 : List D) : List Nat → List D
  | [] => e3
  | v :: vs => (restD e1 e3 vs).set v (e1.getD v .non)
theorem restD_length (e1 e3 : List D) : ∀ vs, (restD e1 e3 vs).length = e3.length
  | [] => rfl
  | v :: vs => by unfold restD; rw [List.length_set, restD_length e1 e3 vs]
theorem restD_get (e1 e3 : List D) (i : Nat) : ∀ vs : List Nat, (restD e1 e3 vs)[i]? = if i ∈ vs then (if i < e3.length then some (e1.getD i .non) else none) else e3[i]?
  | [] => by simp [restD]
  | v :: vs => by
    unfold restD
    rw [List.getElem?_set, restD_length, restD_get e1 e3 i vs]
    by_cases h : v = i
    · subst h; simp
    · rw [if_neg h]
      have : i ∈ v :: vs ↔ i ∈ vs := by simp [List.mem_cons, Ne.symm h]
      simp only [this]
theorem Sat.unblock {G H G3 H3 : Hp} {env env3 : List D} {σ : L2.St} {fps f3 : List (List Addr)} {own : List Nat} (S : Sat K ms env σ fps G H) (ho : ownOk ms own = true) (S3 : Sat K (blkM ms own) env3 (wipe σ own) f3 G3 H3) (g : Same G G3) :
    Sat K ms (restD env env3 own) σ f3 G3 H3 := by
  obtain ⟨a, b, c, q⟩ := slots_iff.mp S.sl
  obtain ⟨a3, b3, c3, q3⟩ := slots_iff.mp S3.sl
  rw [blkM_length] at a3 c3
  refine ⟨slots_iff.mpr ⟨by rw [restD_length]; exact a3, b, c3, fun i m d o f e1 e2 e3 e4 => ?_⟩, S3.nd, S3.out, S3.sub⟩
  have hlt : i < ms.length := (List.getElem?_eq_some_iff.mp e1).1
  rw [restD_get] at e2
  by_cases h : i ∈ own
  · rw [if_pos h, if_pos (by rw [a3]; exact hlt)] at e2
    cases e2
    have hm : (blkM ms own)[i]? = some .un := by rw [blkM_get, if_pos h, if_pos hlt]
    have hw : (wipe σ own)[i]? = some none := by rw [wipe_get, if_pos h, if_pos (by rw [b]; exact hlt)]
    have hf : f = [] := q3 i .un env3[i] none f hm (by simp [a3, hlt]) hw e4
    subst hf
    have hd : env[i]? = some (env.getD i .non) := by
      have : i < env.length := by rw [a]; exact hlt
      simp [List.getD, this]
    have hf2 : fps[i]? = some fps[i] := by simp [c, hlt]
    rcases ownOk_at ho h with z | z
    · rw [e1] at z; cases z; rfl
    · rw [e1] at z; cases z
      obtain ⟨_, v, hv, r⟩ := q i .sh _ o _ e1 hd e3 hf2
      exact ⟨rfl, v, hv, r.same g⟩
  · rw [if_neg h] at e2
    exact q3 i m d o f (by rw [blkM_get, if_neg h]; exact e1) e2 (by rw [wipe_get, if_neg h]; exact e3) e4
/-- all slots but the block's own stay -/
def outM (n : Nat) (own : List Nat) : List M := (List.range n).map fun i => if i ∈ own then .un else .ow 0

/-! ### list comprehensions -/
def lcF (b : FG) (gt : FT) (fe : FE) : List D → List D → Option (List D × List D)
  | [], env => some ([], env)
  | d :: ds, env => (b d env).bind fun e1 => (gt e1).bind fun q => if q.1 = true then (fe q.2).bind fun x => (lcF b gt fe ds x.2).map fun r => (x.1 :: r.1, r.2)
      else lcF b gt fe ds q.2
def compF (f : FA) (own : List Nat) (b : FG) (gt : FT) (fe : FE) : FE := fun env => (f env).bind fun q => (lcF b gt fe q.1 q.2).map fun r => (.lst r.1, restD q.2 r.2 own)
theorem Tr.frame {F F' : List Addr} {G G' H H' : Hp} {a : Addr} (t : Tr F G H F' G' H') (ha : H a ≠ none) : Tr (a :: F) G H (a :: F') G' H' :=
  ⟨t.gs, fun x h => (t.gn x h).imp id fun z => z.imp id (List.mem_cons_of_mem _), fun x h => by
    rcases List.mem_cons.mp h with z | z
    · rw [z]; exact .inl List.mem_cons_self
    · exact (t.fp x z).imp (List.mem_cons_of_mem _) id, fun x o e hx => t.fr x o e fun z => hx (List.mem_cons_of_mem _ z), t.th⟩
theorem Tr.wr {F : List Addr} {G H : Hp} {a : Addr} {o : HO} (ha : H a ≠ none) (hm : a ∈ F) : Tr F G H F G (upd H a o) :=
  ⟨Same.refl _, fun _ z => .inl z, fun _ z => .inl z, fun x u e hx => by rw [upd_ne (fun z => hx (by rw [z]; exact hm))]; exact e, fun x h => upd_some h⟩
theorem weakM_refl : ∀ ms : List M, weakM ms ms = true
  | [] => rfl
  | m :: ms => by simp [weakM, weakM_refl ms]
theorem sem_lc {f : FA} {wi : TI} {own : List Nat} {b : FG} {g : TG} {gt : FT} {tt : TT} {fe : FE} {te : TE} {n : Nat} {pi pt pe : Bool} (hi : SemI K ms pi f wi) (hg : SemG K (outM n own) (blkM ms own) msB b g)
    (ht : SemT K msB pt gt tt) (he : SemE K msB pe .sh fe te) (ho : ownOk ms own = true) (hn : ms.length = n) (hw : weakM msB (blkM ms own) = true) :
    SemE K ms (pi && (pt && pe)) (.ow 1) (compF f own b gt fe) (tLc wi g tt te own) := by
  intro env σ fps G H d env' Q S e k
  unfold compF at e
  cases q : f env with
  | none => rw [q] at e; cases e
  | some r =>
    obtain ⟨items, e1⟩ := r
    rw [q, Option.bind_some] at e
    cases q2 : lcF b gt fe items e1 with
    | none => rw [q2] at e; cases e
    | some r2 =>
      rw [q2] at e
      cases e
      refine hi env σ fps G H items e1 _ S q fun J f1 G1 H1 t1 p1 S1 ok => ?_
      intro L hL
      have SB := S1.block ho
      have g1L : G1 L = none := S1.sub.free hL
      have tL : Tr f1.flatten G1 H1 (L :: f1.flatten) G1 (upd H1 L (.lst [])) := ⟨Same.refl _, fun _ z => .inl z, fun a h => by
        rcases List.mem_cons.mp h with z | z
        · rw [z]; exact .inr hL
        · exact .inl z, fun a o e _ => by rw [upd_ne (ne_of_none e hL)]; exact e, fun a h => upd_some h⟩
      refine ⟨fun i m H' => m = items.length - i ∧ i ≤ items.length ∧ ∃ acc vs env' fps' G', acc.length ≤ i ∧ Tr f1.flatten G1 H1 (L :: fps'.flatten) G' H' ∧ Same G1 G' ∧ ((pt && pe) = true → Same H1 H') ∧
          Sat K (blkM ms own) env' (wipe σ own) fps' G' H' ∧ H' L = some (.lst vs) ∧ G' L = none ∧ L ∉ fps'.flatten ∧ Reps K G' acc vs ∧ ∃ r3, lcF b gt fe (items.drop i) env' = some r3 ∧ acc ++ r3.1 = r2.1 ∧ r3.2 = r2.2,
        ⟨items.length, by simp, Nat.zero_le _, [], [], e1, f1, G1, Nat.le_refl _, tL, Same.refl _, fun _ => same_upd hL, SB.allocO hL, upd_same, g1L, fun z => ?_, .nil, r2, by simpa using q2, rfl, rfl⟩, ?_⟩
      · obtain ⟨o, ho⟩ := S1.there L z
        rw [hL] at ho; cases ho
      rintro i m H2 ⟨rfl, hle, acc, vs, e2, f2, G2, hacc, t2, g2, p2, S2, hv, gL, nL, rr, r3, el, ea, eb⟩
      have hLs : H2 L ≠ none := by rw [hv]; exact fun z => nomatch z
      by_cases hlt : i < items.length
      · have hd : items[i]? = some items[i] := by simp [hlt]
        refine .inr ⟨ok.go i G2 H2 _ g2 S2.sub hd, fun H' => i + 1 ≤ items.length ∧ ∃ acc vs env' fps' G', acc.length ≤ i + 1 ∧ Tr f1.flatten G1 H1 (L :: fps'.flatten) G' H' ∧ Same G1 G' ∧ ((pt && pe) = true → Same H1 H') ∧
            Sat K (blkM ms own) env' (wipe σ own) fps' G' H' ∧ H' L = some (.lst vs) ∧ G' L = none ∧ L ∉ fps'.flatten ∧ Reps K G' acc vs ∧ ∃ r3, lcF b gt fe (items.drop (i + 1)) env' = some r3 ∧ acc ++ r3.1 = r2.1 ∧ r3.2 = r2.2,
          fun H' z => ⟨items.length - (i + 1), by omega, rfl, z.1, z.2⟩, fun x H3 y => ?_⟩
        obtain ⟨G3, a3, rx⟩ := ok.yld i G2 H2 _ x H3 g2 S2.sub hd y
        have S3 := a3.sat S2
        have t3 : Tr f1.flatten G1 H1 (L :: f2.flatten) G3 H3 := t2.trans ((a3.tr f2.flatten).frame hLs)
        have hv3 : H3 L = some (.lst vs) := a3.hs _ _ hv
        have hL3 : H3 L ≠ none := by rw [hv3]; exact fun z => nomatch z
        have gL3 : G3 L = none := by
          cases e : G3 L with
          | none => rfl
          | some o => rcases a3.gn L (by rw [e]; exact fun z => nomatch z) with z | z
                      · exact absurd gL z
                      · exact absurd z hLs
        have p3 : (pt && pe) = true → Same H1 H3 := fun hp => (p2 hp).trans a3.hs
        rw [List.drop_eq_getElem_cons hlt] at el
        have el' : ((b items[i] e2).bind fun e1 => (gt e1).bind fun q => if q.1 = true then (fe q.2).bind fun x => (lcF b gt fe (items.drop (i + 1)) x.2).map fun r => (x.1 :: r.1, r.2)
            else lcF b gt fe (items.drop (i + 1)) q.2) = some r3 := el
        cases qb : b items[i] e2 with
        | none => rw [qb] at el'; cases el'
        | some e3 =>
          rw [qb, Option.bind_some] at el'
          refine hg e2 (wipe σ own) f2 G3 H3 _ x e3 _ S3 rx qb fun σ4 f4 s4 p4 S4 => ?_
          have hlen4 : σ4.length = (wipe σ own).length := by
            have h1 := S4.sl.len.2.1
            have h2 := S3.sl.len.2.1
            have h3 : msB.length = (blkM ms own).length := by
              have : ∀ (a b : List M), weakM a b = true → a.length = b.length := by
                intro a
                induction a with
                | nil => intro b h; cases b with
                  | nil => rfl
                  | cons _ _ => simp [weakM] at h
                | cons x a ih => intro b h; cases b with
                  | nil => simp [weakM] at h
                  | cons y b => simp only [weakM, Bool.and_eq_true] at h; simp [ih b h.2]
              exact this _ _ hw
            rw [h1, h2, h3]
          have agree : ∀ (j : Nat), j ∉ own → σ4[j]? = (wipe σ own)[j]? := fun j hj => by
            by_cases hjn : j < n
            · refine p4 j 0 ?_
              unfold outM
              rw [List.getElem?_map, List.getElem?_range hjn]
              simp [hj]
            · have h1 : σ4.length = n := by rw [hlen4, wipe_length, ← hn]; exact S1.sl.len.2.1
              rw [List.getElem?_eq_none (by omega), List.getElem?_eq_none (by rw [← hlen4]; omega)]
          have weq : wipe σ4 own = wipe σ own := by
            have h1 : wipe σ4 own = wipe (wipe σ own) own := wipe_eq hlen4 agree
            rw [h1]
            exact wipe_eq (wipe_length _ _) fun j hj => by rw [wipe_get, if_neg hj]
          refine ⟨weq, ?_⟩
          have t4 : Tr f1.flatten G1 H1 (L :: f4.flatten) G3 H3 := ⟨t3.gs, t3.gn, fun a ha => by
            rcases List.mem_cons.mp ha with z | z
            · exact t3.fp a (by rw [z]; exact List.mem_cons_self)
            · exact t3.fp a (List.mem_cons_of_mem _ (s4 a z)), t3.fr, t3.th⟩
          have nL4 : L ∉ f4.flatten := fun z => nL (s4 L z)
          -- back to the block's slots
          have back : ∀ {env5 : List D} {f5 : List (List Addr)} {G5 H5 : Hp}, Sat K msB env5 σ4 f5 G5 H5 → ∃ f6, Sat K (blkM ms own) env5 (wipe σ own) f6 G5 H5 ∧ (∀ a ∈ f6.flatten, a ∈ f5.flatten) := fun {env5 f5 G5 H5} S5 => by
            obtain ⟨f6, S6, _, sub⟩ := S5.weak hw
            refine ⟨f6, ⟨S6.sl.sig hlen4.symm fun j hj => ?_, S6.nd, S6.out, S6.sub⟩, sub⟩
            by_cases h : j ∈ own
            · by_cases hjn : j < ms.length
              · exact absurd (by rw [blkM_get, if_pos h, if_pos hjn]) hj
              · have h1 : (wipe σ own).length = ms.length := by rw [wipe_length]; exact S1.sl.len.2.1
                rw [List.getElem?_eq_none (by omega), List.getElem?_eq_none (by rw [hlen4]; omega)]
            · exact (agree j h).symm
          cases qt : gt e3 with
          | none => rw [qt] at el'; cases el'
          | some c5 =>
            obtain ⟨c, e5⟩ := c5
            rw [qt, Option.bind_some] at el'
            refine ht e3 σ4 f4 G3 H3 c e5 _ S4 qt fun f5 G5 H5 t5 p5 S5 => ?_
            have hv5 : H5 L = some (.lst vs) := t5.fr _ _ hv3 nL4
            have hL5 : H5 L ≠ none := by rw [hv5]; exact fun z => nomatch z
            have t5' : Tr f1.flatten G1 H1 (L :: f5.flatten) G5 H5 := t4.trans (t5.frame hL3)
            have gL5 : G5 L = none := by
              cases e : G5 L with
              | none => rfl
              | some o => rcases t5.gn L (by rw [e]; exact fun z => nomatch z) with z | z | z
                          · exact absurd gL3 z
                          · exact absurd z hL3
                          · exact absurd z nL4
            have nL5 : L ∉ f5.flatten := fun z => (t5.fp L z).elim nL4 hL3
            cases c with
            | false =>
              rw [if_neg Bool.false_ne_true] at el' ⊢
              obtain ⟨f6, S6, sub⟩ := back S5
              exact ⟨hlt, acc, vs, e5, f6, G5, by omega, ⟨t5'.gs, t5'.gn, fun a ha => by
                rcases List.mem_cons.mp ha with z | z
                · exact t5'.fp a (by rw [z]; exact List.mem_cons_self)
                · exact t5'.fp a (List.mem_cons_of_mem _ (sub a z)), t5'.fr, t5'.th⟩, (g2.trans a3.gs).trans t5.gs, fun hp => (p3 hp).trans (p5 (by
                  simp only [Bool.and_eq_true] at hp; exact hp.1)), S6, hv5, gL5, fun z => nL5 (sub L z), rr.same (a3.gs.trans t5.gs), r3, el', ea, eb⟩
            | true =>
              rw [if_pos rfl] at el' ⊢
              simp only at el'
              cases qe : fe e5 with
              | none => rw [qe] at el'; cases el'
              | some x7 =>
                obtain ⟨dx, e7⟩ := x7
                rw [qe, Option.bind_some] at el'
                simp only at el'
                cases ql : lcF b gt fe (items.drop (i + 1)) e7 with
                | none => rw [ql] at el'; cases el'
                | some r8 =>
                  rw [ql] at el'
                  cases el'
                  refine he e5 σ4 f5 G5 H5 dx e7 _ S5 qe fun y f7 G7 H7 t7 p7 S7 r7 => ?_
                  have r7' : Rep K G7 dx y := r7
                  have hv7 : H7 L = some (.lst vs) := t7.fr _ _ hv5 nL5
                  have hL7 : H7 L ≠ none := by rw [hv7]; exact fun z => nomatch z
                  have gL7 : G7 L = none := by
                    cases e : G7 L with
                    | none => rfl
                    | some o => rcases t7.gn L (by rw [e]; exact fun z => nomatch z) with z | z | z
                                · exact absurd gL5 z
                                · exact absurd z hL5
                                · exact absurd z nL5
                  have nL7 : L ∉ f7.flatten := fun z => (t7.fp L z).elim nL5 hL5
                  obtain ⟨f8, S8, sub⟩ := back S7
                  have t7' : Tr f1.flatten G1 H1 (L :: f7.flatten) G7 H7 := t5'.trans (t7.frame hL5)
                  have rr7 : Reps K G7 acc vs := rr.same ((a3.gs.trans t5.gs).trans t7.gs)
                  have hz : vs.length < sizeLine := by
                    rw [rr7.length]
                    have := ok.len
                    omega
                  refine ⟨vs, hv7, hz, hlt, acc ++ [dx], vs ++ [y], e7, f8, G7, by simp; omega, ?_, ((g2.trans a3.gs).trans t5.gs).trans t7.gs, fun hp => ?_, ?_, upd_same, gL7, fun z => nL7 (sub L z), rr7.append (.cons r7' .nil), r8, ql, by simpa using ea, eb⟩
                  · have t9 : Tr (L :: f7.flatten) G7 H7 (L :: f7.flatten) G7 (upd H7 L (.lst (vs ++ [y]))) := Tr.wr hL7 List.mem_cons_self
                    have t10 := t7'.trans t9
                    exact ⟨t10.gs, t10.gn, fun a ha => by
                      rcases List.mem_cons.mp ha with z | z
                      · exact t10.fp a (by rw [z]; exact List.mem_cons_self)
                      · exact t10.fp a (List.mem_cons_of_mem _ (sub a z)), t10.fr, t10.th⟩
                  · have hp' := hp
                    simp only [Bool.and_eq_true] at hp
                    intro a o ha
                    have hne : a ≠ L := fun z => by rw [z, hL] at ha; cases ha
                    rw [upd_ne hne]
                    exact p7 hp.2 _ _ (p5 hp.1 _ _ (p3 hp' _ _ ha))
                  · refine S8.keep (Same.refl _) (fun a o ha => ?_) S8.out fun a ha o e => ?_
                    · rw [upd_ne (fun z => by rw [z, gL7] at ha; cases ha)]; exact S8.sub _ _ ha
                    · rw [upd_ne (fun z => nL7 (sub L (by rw [← z]; exact ha)))]; exact e
      · have hz : i = items.length := by omega
        subst hz
        rw [List.drop_length] at el
        cases el
        simp only [List.append_nil] at ea
        refine .inl ⟨ok.stop _ G2 H2 g2 S2.sub (Nat.le_refl _), ?_⟩
        have S9 : Sat K ms (restD e1 e2 own) σ f2 G2 H2 := S1.unblock ho S2 g2
        rw [show e2 = r2.2 from eb] at S9
        have t9 : Tr fps.flatten G H (L :: f2.flatten) G2 H2 := t1.trans t2
        refine k (.ref L) f2 G2 H2 ⟨t9.gs, t9.gn, fun a ha => t9.fp a (List.mem_cons_of_mem _ ha), t9.fr, t9.th⟩ (fun hp => ?_) S9 ⟨[L], ⟨L, [], rfl, rfl, vs, hv, ?_⟩, by simp, fun a ha => ?_⟩
        · simp only [Bool.and_eq_true] at hp
          exact (p1 hp.1).trans (p2 (by simp only [Bool.and_eq_true]; exact hp.2))
        · rw [← ea]; exact Owns.of_reps rr
        · have : a = L := by simpa using ha
          subst this
          exact ⟨gL, nL, .inr (t1.back hL)⟩
end
end DL
/-! Calls of the text's own defs while no display is under way (guards = some []): what repr of nested data asks. -/
namespace DL
open PySem PySem.Spec PyProof.Rows L2

/-- a def keeps its promise where no display is under way -/
structure FnG (P : Program) (w : World) (K : PySem.W.Frag) (mg : Str → Option Value) (base : Heap) (CX : CXT) (k : Nat)
    (f : Addr) (fd : FuncData) (ps : List Str) (sp : Sp) : Prop where
  width : ∀ (xs : List V) (H : Hp) (Q : VK) (E : XK), sp xs H Q E → xs.length = ps.length
  go : ∀ (A : Around) (below : List Env) (s : Shared) (H : Hp) (args : Args) (us : List Value) (xs : List V) (Q : VK) (E : XK),
    A.guards = some [] → Room k A → Env0 P w K mg base A below s H → BindsTo s fd args (ps.zip us) → Vals xs us → sp xs H Q E →
      codeAny (model P w) A (.call (.ref f) args) (CR CX below P w H s Q E) s

section
variable {X : Cx} {CX : CXT} {k : Nat} {f : Addr} {fd : FuncData} {ps : List Str} {sp : Sp} {E : XK} {x : Str}
/-- the callee at work, its arguments bound as B says -/
theorem FnG.at_call {pins : List (Addr × Obj)} {σ : L2.St} {H : Hp} {s : Shared} {Q : VK} {args : Args} {us : List Value} {xs : List V}
    (D : FnG X.prog X.w X.K X.mg X.base CX k f fd ps sp) (gd : X.A.guards = some []) (room : Room k X.A) (out : Passes CX X E) (I : Inv X pins σ H s)
    (B : BindsTo s fd args (ps.zip us)) (r : Vals xs us) (h : sp xs H Q E) :
    codeAny (model X.prog X.w) X.A (.call (.ref f) args) (fun r s' => match r with
      | .ok (.ret u) => EP X pins σ Q u s'
      | .ok _ => False
      | .error e => X.xe e s') s := by
  refine codeAny_mono (D.go X.A X.stack s H args us xs Q E gd room I.env0 B r h) fun res s' q => ?_
  match res, q with
  | .error e, q => exact out pins σ H s e s' I q
  | .ok (.ret u), q => exact I.after q
  | .ok .next, q => exact q.elim
  | .ok .brk, q => exact q.elim
  | .ok .cont, q => exact q.elim
theorem FnG.call_pos {pins : List (Addr × Obj)} {σ : L2.St} {H : Hp} {s : Shared} {Q : VK} {us : List Value} {xs : List V}
    (D : FnG X.prog X.w X.K X.mg X.base CX k f fd ps sp) (gd : X.A.guards = some []) (room : Room k X.A) (B : Binds X.K fd ps []) (out : Passes CX X E) (I : Inv X pins σ H s)
    (r : Vals xs us) (h : sp xs H Q E) : wpAny (model X.prog X.w) X.A (call (.ref f) us) (EP X pins σ Q) X.xe s := by
  have n : (us ++ []).length = ps.length := by rw [List.append_nil, ← r.length]; exact D.width _ _ _ _ h
  have B' := B s us I.kIn n
  rw [List.append_nil] at B'
  refine wpAny_call (codeAny_mono (D.at_call gd room out I B' r h) fun res s' q => ?_)
  match res, q with
  | .error e, q => exact q
  | .ok (.ret u), q => exact q
  | .ok .next, q => exact q.elim
  | .ok .brk, q => exact q.elim
  | .ok .cont, q => exact q.elim
theorem FnG.call_kw {pins : List (Addr × Obj)} {σ : L2.St} {H : Hp} {s : Shared} {Q : VK} {us ws : List Value} {xs zs : List V} {ks : List Str} {g : List Value → List Value → List Value} {gV : List V → List V → List V}
    (D : FnG X.prog X.w X.K X.mg X.base CX k f fd ps sp) (gd : X.A.guards = some []) (room : Room k X.A) (B : KBinds X.K fd ps ks g gV) (out : Passes CX X E) (I : Inv X pins σ H s)
    (r : Vals xs us) (rz : Vals zs ws) (h : sp (gV xs zs) H Q E) : wpAny (model X.prog X.w) X.A (call (.ref f) us (ks.zip ws)) (EP X pins σ Q) X.xe s := by
  have both := B.rel r rz
  have n : (g us ws).length = ps.length := by rw [← both.length]; exact D.width _ _ _ _ h
  refine wpAny_call (codeAny_mono (D.at_call gd room out I (B.to s us ws I.kIn n) both h) fun res s' q => ?_)
  match res, q with
  | .error e, q => exact q
  | .ok (.ret u), q => exact q
  | .ok .next, q => exact q.elim
  | .ok .brk, q => exact q.elim
  | .ok .cont, q => exact q.elim
variable {p pos : Pos} {e : Expr} {es : List Expr} {t tk : TA} {kws : List Keyword}
theorem pe_callG (D : FnG X.prog X.w X.K X.mg X.base CX k f fd ps sp) (gd : X.A.guards = some []) (room : Room k X.A) (hg : Gl X x) (hm : X.mg x = some (.ref f)) (keep : PySem.W.keepIn X.K (.ref f) = true)
    (B : Binds X.K fd ps []) (out : Passes CX X E) (args : PA X (e :: es) t) (hdb : (x == ("__debug__" : Str)) = false)
    (he : starEach (e :: es) X.env = (false, eval e X.env) :: starEach es X.env) (hpl : (backTo pos (starEach es X.env)).any (·.1) = false) :
    PE X (.Call (.Name x p) (e :: es) [] pos) (tCall sp [] E t) :=
  ⟨fun pins s σ H Q I h => wpAny_Call_Name_kw (ld_glob I hg hm (PySem.W.callWith_K (h₀ := X.base) I.ok.mod.kin keep
    (thn (args.run pos pins s σ H _ I h) fun us s1 ⟨xs, H1, I1, r, q⟩ => ⟨I1.kIn, D.call_pos gd room B out I1 r (by
      have q' : sp (xs ++ []) H1 Q E := q
      rw [List.append_nil] at q'
      exact q')⟩) he hpl) hdb)⟩
theorem pe_callG0 (D : FnG X.prog X.w X.K X.mg X.base CX k f fd ps sp) (gd : X.A.guards = some []) (room : Room k X.A) (hg : Gl X x) (hm : X.mg x = some (.ref f)) (keep : PySem.W.keepIn X.K (.ref f) = true)
    (B : Binds X.K fd ps []) (out : Passes CX X E) (hdb : (x == ("__debug__" : Str)) = false) : PE X (.Call (.Name x p) [] [] pos) (tCall sp [] E tNil) :=
  ⟨fun pins s σ H Q I h => wpAny_Call_Name_kw (ld_glob I hg hm (PySem.W.callWith_K0 I.kIn keep (D.call_pos (us := []) (xs := []) gd room B out I .nil h)) hdb)⟩
/-- f(a, .., k = b, ..), at least one argument by place -/
theorem pe_callGK {ks : List Str} {g : List Value → List Value → List Value} {gV : List V → List V → List V} (D : FnG X.prog X.w X.K X.mg X.base CX k f fd ps sp) (gd : X.A.guards = some []) (room : Room k X.A) (hg : Gl X x) (hm : X.mg x = some (.ref f)) (keep : PySem.W.keepIn X.K (.ref f) = true)
    (B : KBinds X.K fd ps ks g gV) (out : Passes CX X E) (args : PA X (e :: es) t) (named : PK X kws tk) (hall : (backToKw pos (keywordEach kws X.env)).all (·.1.isSome) = true) (hks : (backToKw pos (keywordEach kws X.env)).filterMap (·.1) = ks)
    (hdb : (x == ("__debug__" : Str)) = false) (he : starEach (e :: es) X.env = (false, eval e X.env) :: starEach es X.env)
    (hpl : ((backTo pos (starEach (e :: es) X.env)).any (·.1) || (backToKw pos (keywordEach kws X.env)).any (·.1.isNone)) = false) :
    PE X (.Call (.Name x p) (e :: es) kws pos) (tCallK sp gV E t tk) :=
  ⟨fun pins s σ H Q I h => wpAny_Call_Name_kw (ld_glob I hg hm (PySem.W.callWith_KW (h₀ := X.base) I.ok.mod.kin keep hall
    (thn (args.run pos pins s σ H _ I h) fun us s1 ⟨xs, H1, I1, r, q⟩ => thn (named.run pos pins s1 σ H1 _ I1 q) fun ws s2 ⟨zs, H2, I2, rz, q2⟩ => ⟨I2.kIn, by
      rw [hks]
      exact D.call_kw gd room B out I2 r rz q2⟩) hpl he) hdb)⟩
end

/-! a def by its body -/
theorem deeper_guards (A : Around) (env : Env) : (A.deeper env).guards = A.guards := rfl
theorem FnG.of_body {P : Program} {w : World} {K : PySem.W.Frag} {mg : Str → Option Value} {base : Heap} {k : Nat} {x qual : Str} {st : Stmt} {f : Addr} {fd : FuncData} {N ps : List Str} {sp : Sp}
    (F : Fun K x qual st f fd) (S : FnScope N ps (defScope st)) (width : ∀ (xs : List V) (H : Hp) (Q : VK) (E : XK), sp xs H Q E → xs.length = ps.length)
    (body : ∀ (cdv : Value) (A : Around) (below : List Env) (s : Shared) (H : Hp) (xs : List V) (Q : VK) (E : XK), A.guards = some [] → Room k (A.deeper (envOfC qual (defScope st) s.heap.objs.size f cdv)) → sp xs H Q E →
      ∃ t, PSs (cxOf CX0 P w K mg base N qual (defScope st) f cdv A below s H E).nox (defBody st) t ∧ t { nx := fun _ H' => Q .non H', rt := Q } (L2.start N xs) H) :
    FnG P w K mg base CX0 (k + 1) f fd ps sp := by
  obtain ⟨oc, od, kV, doc, pm, an, cdv, ct, osl, rfl, look, code⟩ := F.ex
  refine ⟨width, fun A below s H args us xs Q E gd room e0 B r h => ?_⟩
  have n := width _ _ _ _ h
  have inS : K.In s.heap := e0.mod.kin.keeps fun b o z => (e0.bs b o z).1
  have free : s.heap.NoLimit := e0.mod.nolimit.keeps fun b o z => (e0.bs b o z).1
  have bound : ∀ y ∈ ps.zip us, (defScope st).names.lookup y.1 = some .local ∨ ((defScope st).names.lookup y.1 = some .cell ∧ ((cellsFrom (s.heap.objs.size + 1) (defScope st).names []).lookup y.1).isSome = true) := by
    rintro ⟨y, v⟩ hy
    exact (S.par y (List.of_mem_zip hy).1).imp id fun c => ⟨c, PySem.W.cellsFrom_some _ _ _ (.inl c)⟩
  refine codeAny_call_function room.depth (inS _ _ look) rfl S.co S.gen rfl (PySem.W.codeRec_of inS code) (B _ _ _ _ ?_)
  refine wpAny_newFunctionEnv_cells S.kind bound fun env same s1 made => ?_
  subst same
  refine ⟨free.keeps made.toInCall.keep, codeAny_func ?_⟩
  obtain ⟨t, ht, hq⟩ := body cdv A below s H xs Q E gd (room.deeper _) h
  have I : Inv (cxOf CX0 P w K mg base N qual (defScope st) f cdv A below s H E) [] (L2.start N xs) H s1 := inv_start S room.hd e0 n r made
  refine wpAny_mono (ht.nox.run [] s1 (L2.start N xs) H _ I hq) (fun fl s' q => ?_) fun e s' q => q
  match fl, q with
  | .ret u, ⟨v, σ', H', J, rv, q⟩ => exact ⟨v, H', J.os, J.bare, J.base, J.hok, rv, q⟩
  | .next, ⟨σ', H', J, q⟩ => exact ⟨V.non, H', J.os, J.bare, J.base, J.hok, rfl, q⟩
  | .brk, ⟨_, _, _, q⟩ => exact False.elim q
  | .cont, ⟨_, _, _, q⟩ => exact False.elim q
end DL
/-! From the law's promise (of FnG) to the row. -/
namespace DL
open PySem PySem.Spec PyProof.Rows L2

/-- an abstract heap that tracks the script at a, or nothing -/
def Lone (H : Hp) (a : Addr) (ob : Obj) (ns : List Int) : Prop :=
  (∀ b, b ≠ a → H b = none) ∧ (H a = none ∨ H a = some (.frz ob (.lst (ns.map V.int))))
section
variable {P : Program} {w : World} {K : PySem.W.Frag} {mg mb : Str → Option Value} {k : Nat} {fa a : Addr} {fd : FuncData} {x : Str} {sp : Sp} {s : Shared} {vs : List Value} {ns : List Int}
theorem Lone.at {H : Hp} {ob : Obj} {b : Addr} {u : HO} (l : Lone H a ob ns) (e : H b = some u) : b = a ∧ u = .frz ob (.lst (ns.map V.int)) := by
  by_cases z : b = a
  · subst z
    rcases l.2 with q | q
    · rw [q] at e; cases e
    · rw [q] at e; exact ⟨rfl, (Option.some.inj e).symm⟩
  · rw [l.1 b z] at e; cases e
/-- the call, from a heap in which at most the script is tracked -/
theorem lone_call {H : Hp} (l : Lone H a { cls := .type "list", data := .seq vs.toArray } ns) (hok : HOk P w H s.heap) (inK : K.In s.heap) (apart : H a ≠ none → K.lookup a = none)
    (top : s.heap.Ns mainGlobals mg) (blt : s.heap.Ns builtinsNs mb) (own : ∀ y : Str, y ≠ "__name__" → mb y = bootBuiltins y) (free : s.heap.NoLimit) (still : s.gens = #[])
    (there : s.heap.get? a = some { cls := .type "list", data := .seq vs.toArray }) (room : Room k callerA)
    (D : ∀ base : Heap, K.In base → base.Ns mainGlobals mg → FnG P w K mg base CX0 k fa fd [x] sp) (B : ∀ (s : Shared) (u : Value), BindsTo s fd ⟨[u], []⟩ [(x, u)])
    (h : sp [.ref a] H (fun v _ => v = .bl true) E0) :
    codeAny (model P w) callerA (.call (.ref fa) ⟨[.ref a], []⟩) (fun r s' => r = .ok (.ret (.bool true)) ∧ OldK s.heap s'.heap ∧ s'.os = s.os ∧ AllBare s'.gens) s := by
  have dictFree : ∀ {b : Addr} {o : Obj} {es : Array DictEntry} {ep : Nat}, s.heap.get? b = some o → o.data = .dict es ep → H b = none := by
    intro b o es ep e d
    cases q : H b with
    | none => rfl
    | some u =>
      obtain ⟨rfl, _⟩ := l.at q
      rw [there] at e
      cases e
      exact nomatch d
  have carry : ∀ {b : Addr} {m : Str → Option Value}, s.heap.Ns b m → (hidT s.heap H).Ns b m := by
    rintro b m ⟨o, es, ep, e, d, r⟩
    exact ⟨o, es, ep, hidT_get e (dictFree e d), d, r⟩
  have inB : K.In (hidT s.heap H) := by
    intro b o e
    refine hidT_get (inK b o e) ?_
    cases q : H b with
    | none => rfl
    | some u =>
      obtain ⟨rfl, _⟩ := l.at q
      rw [apart (by rw [q]; exact fun z => nomatch z)] at e
      cases e
  have md : Mod K mg (hidT s.heap H) := ⟨inB, carry top, ⟨mb, carry blt, own⟩, free.imp fun _ z => ⟨carry z.1, z.2⟩⟩
  have e0 : Env0 P w K mg (hidT s.heap H) callerA [] s H :=
    ⟨rfl, md, fun b o e => of_hidT e, Nat.le_of_eq (hidT_size _ _), trivial, fun b z => absurd (show b ∈ ([] : List Addr) from z) (by simp), hok, .of_eq still⟩
  refine codeAny_mono ((D _ inB (carry top)).go callerA [] s H ⟨[.ref a], []⟩ [.ref a] [.ref a] _ _ rfl room e0 (B s (.ref a)) (.cons rfl .nil) h) fun r s' q => ?_
  match r, q with
  | .error e, q => exact q.elim
  | .ok .next, q => exact q.elim
  | .ok .brk, q => exact q.elim
  | .ok .cont, q => exact q.elim
  | .ok (.ret u), ⟨v, H', os, bare, un, hok', r', q⟩ =>
    subst q
    obtain rfl : u = Value.bool true := r'
    refine ⟨rfl, OldK.of_keep fun b o e => ?_, os, bare⟩
    cases z : H b with
    | none => exact un.keep b o e z (fun y => absurd (show b ∈ ([] : List Addr) from y) (by simp)) (by simp)
    | some u =>
      obtain ⟨rfl, rfl⟩ := l.at z
      obtain ⟨now, _⟩ := hok' b _ (un.frzs b _ _ z)
      rw [there] at e
      cases e
      exact now
end
theorem walkG {l : PySem.W.OpenLaw} {n k : Nat} {q : Program} {loose : List Str} {XP : (Str → Option Value) → Heap → Prop} {YP : World → Heap → Prop} {d : DefRec} {K : Params → PySem.W.Frag} {sp : World → Sp} {x : Str}
    (most : l.most = some n) (few : n ≤ sizeLine) (bare : d.params.defaults = []) (room : Room k callerA) (hY : ∀ (w : World) (h : Heap), YP w h → (K w.params).In h)
    (F : ∀ (w : World) (mg : Str → Option Value) (fa : Addr) (h : Heap), (K w.params).In h → h.Ns mainGlobals mg → mg d.name = some (.ref fa) →
      ∃ fd : FuncData, (∀ (s : Shared) (u : Value), BindsTo s fd ⟨[u], []⟩ [(x, u)]) ∧ ∀ base : Heap, (K w.params).In base → base.Ns mainGlobals mg → FnG l.prog w (K w.params) mg base CX0 k fa fd [x] (sp w))
    (law : ∀ (w : World) (H : Hp) (a : Addr) (ns : List Int), ns.length ≤ n → SqL (K w.params) H a (ns.map V.int) → sp w [.ref a] H (fun v _ => v = .bl true) E0) :
    PySem.W.WalkO q loose XP YP l.row.toRowW d [] (fun f vs => PySem.call f vs) := by
  refine Att.attach_call most bare fun w s₀ s mg mb fa o pm cd doc a vs ns G Y ho hd hcd hmg there nums len still => ?_
  have inK := hY w _ Y
  obtain ⟨fd, B, D⟩ := F w mg fa _ inK G.T.g hmg
  have rel := vals_ints nums
  have size : ns.length ≤ sizeLine := Nat.le_trans len few
  have go := fun (H : Hp) (lo : Lone H a { cls := .type "list", data := .seq vs.toArray } ns) (ok : HOk l.prog w H s.heap) (ap : H a ≠ none → (K w.params).lookup a = none) (sq : SqL (K w.params) H a (ns.map V.int)) =>
    lone_call (mb := mb) lo ok inK ap G.T.g G.T.b G.T.builtins G.T.nolimit still there room D B (law w H a ns len sq)
  cases look : (K w.params).lookup a with
  | some ob =>
    have same := inK a ob look
    rw [there] at same
    cases same
    exact go (fun _ => none) ⟨fun _ _ => rfl, .inl rfl⟩ (fun _ _ z => nomatch z) (fun z => absurd rfl z) (.inr ⟨_, vs.toArray, _, look, rfl, rfl, rfl, by rw [List.size_toArray, nums.length]; exact size, by simpa using rel⟩)
  | none =>
    let H : Hp := fun b => if b = a then some (.frz { cls := .type "list", data := .seq vs.toArray } (.lst (ns.map V.int))) else none
    have Ha : H a = some (.frz { cls := .type "list", data := .seq vs.toArray } (.lst (ns.map V.int))) := if_pos rfl
    have lo : Lone H a { cls := .type "list", data := .seq vs.toArray } ns := ⟨fun b z => if_neg z, .inr Ha⟩
    refine go H lo (fun b u z => ?_) (fun _ => look) (.inl (.inr ⟨_, Ha⟩))
    obtain ⟨rfl, rfl⟩ := lo.at z
    exact ⟨there, by rw [List.length_map]; exact size, vs, _, rel, there⟩
end DL
namespace DL
open PySem PySem.Spec PyProof.Rows L2

/-! ### a def's promise -/
abbrev FD := List D → Option (D × List D)
def Prom (K : PySem.W.Frag) (pms : List M) (rm : M) (F : FD) : Sp := fun vs H Q _ =>
  ∃ ds fps G d ds', Sat K pms ds (vs.map some) fps G H ∧ F ds = some (d, ds') ∧
    ∀ v fps' G' H', Tr fps.flatten G H fps'.flatten G' H' → Sat K pms ds' (vs.map some) fps' G' H' → RR K fps.flatten H rm d v fps'.flatten G' H' → Q v H'
theorem prom_len {K : PySem.W.Frag} {pms : List M} {rm : M} {F : FD} : ∀ vs H Q E, Prom K pms rm F vs H Q E → vs.length = pms.length := by
  rintro vs H Q E ⟨ds, fps, G, d, ds', S, _⟩
  have := S.sl.len.2.1
  simpa using this
section
variable {K : PySem.W.Frag} {rm : M} {rms ms ms1 ms2 msL msB msC ms' pms : List M} {p pa pb pc : Bool} {m ma mb mc : M} {fa fb fc : FE} {ta tb tc : TE} {ga gb : FT} {ua ub : TT} {g1 g2 : FS} {t t1 t2 : TS}

/-- slots that are all shared -/
theorem slots_sh {G H : Hp} : ∀ {ms : List M} {ds : List D} {vs : List V}, ms.all (· == .sh) = true → ds.length = ms.length → Reps K G ds vs → Slots K G H ms ds (vs.map some) (ms.map fun _ => [])
  | [], [], vs, _, _, r => by rw [reps_nil.mp r]; trivial
  | m :: ms, d :: ds, vs, h, hl, r => by
    obtain ⟨v, q, rfl, r1, r2⟩ := reps_cons.mp r
    simp only [List.all_cons, Bool.and_eq_true, beq_iff_eq] at h
    obtain ⟨rfl, h⟩ := h
    exact ⟨⟨rfl, v, rfl, r1⟩, slots_sh h (by simpa using hl) r2⟩
  | [], _ :: _, _, _, hl, _ => by simp at hl
  | _ :: _, [], _, _, hl, _ => by simp at hl
theorem flat_nil {α β : Type} : ∀ (l : List α), (l.map fun _ => ([] : List β)).flatten = []
  | [] => rfl
  | a :: l => by simp
theorem slots_sh_fp {G H : Hp} : ∀ {ms : List M} {ds : List D} {σ : L2.St} {fps : List (List Addr)}, ms.all (· == .sh) = true → Slots K G H ms ds σ fps → fps.flatten = []
  | [], [], [], [], _, _ => rfl
  | m :: ms, d :: ds, o :: os, f :: fs, h, s => by
    simp only [List.all_cons, Bool.and_eq_true, beq_iff_eq] at h
    obtain ⟨rfl, h⟩ := h
    rw [List.flatten_cons, s.1.1, slots_sh_fp h s.2]; rfl
  | [], [], [], _ :: _, _, h => h.elim
  | [], [], _ :: _, _, _, h => h.elim
  | [], _ :: _, _, _, _, h => h.elim
  | _ :: _, [], _, _, _, h => h.elim
  | _ :: _, _ :: _, [], _, _, h => h.elim
  | _ :: _, _ :: _, _ :: _, [], _, h => h.elim
/-- f(..) of shared values -/
def ucallF (fs : FA) (F : FD) : FE := fun env => (fs env).bind fun q => (F q.1).map fun r => (r.1, q.2)
theorem ucallF_some {fs : FA} {F : FD} {env : List D} {d : D} {env' : List D} (e : ucallF fs F env = some (d, env')) : ∃ ds ds', fs env = some (ds, env') ∧ F ds = some (d, ds') := by
  unfold ucallF at e
  cases h1 : fs env with
  | none => rw [h1] at e; cases e
  | some q =>
    rw [h1, Option.bind_some] at e
    cases h3 : F q.1 with
    | none => rw [h3] at e; cases e
    | some z => rw [h3] at e; cases e; exact ⟨q.1, z.2, rfl, h3⟩
theorem sem_ucall {mds : List M} {fs : FA} {ts : TA} {F : FD} {E : XK} (hs : SemA K ms p mds fs ts) (hm : mds.all (· == .sh) = true) (hp : pms.all (· == .sh) = true) (hl : pms.length = mds.length) :
    SemE K ms p rm (ucallF fs F) (tCall (Prom K pms rm F) [] E ts) := by
  intro env σ fps G H d env' Q S e k
  obtain ⟨ds, ds', es, ed⟩ := ucallF_some e
  refine hs env σ fps G H ds env' _ S es fun vs f1 G1 H1 t1 p1 S1 r1 => ?_
  have rr := r1.shared hm
  have hds : ds.length = pms.length := by rw [hl]; exact r1.lens.1
  show Prom K pms rm F (vs ++ []) H1 Q E
  rw [List.append_nil]
  have fz : (pms.map fun _ => ([] : List Addr)).flatten = [] := flat_nil pms
  refine ⟨ds, pms.map fun _ => [], G1, d, ds', ⟨slots_sh hp hds rr, by rw [fz]; exact List.nodup_nil, fun a h => by rw [fz] at h; exact (nomatch h), S1.sub⟩, ed, fun v f2 G2 H2 t2 S2 r2 => ?_⟩
  rw [fz] at t2 r2
  have hs2 : Same H1 H2 := fun a o e => t2.fr a o e fun z => nomatch z
  have al : Al G1 H1 G2 H2 := ⟨t2.gs, hs2, fun a h => (t2.gn a h).imp id fun z => z.elim id fun q => (nomatch q), S2.sub⟩
  refine k v f1 G2 H2 (t1.trans (al.tr _)) (fun hp => (p1 hp).trans hs2) (al.sat S1) ?_
  have fz2 : f2.flatten = [] := slots_sh_fp hp S2.sl
  rw [fz2] at r2
  cases rm with
  | ow n =>
    obtain ⟨fp, o, nd, q⟩ := r2
    refine ⟨fp, o, nd, fun a ha => ⟨(q a ha).1, fun z => ?_, ?_⟩⟩
    · obtain ⟨u, hu⟩ := S1.there a z
      rcases (q a ha).2.2 with w | w
      · exact nomatch w
      · rw [hu] at w; cases w
    · rcases (q a ha).2.2 with w | w
      · exact nomatch w
      · exact .inr (t1.back w)
  | _ => exact r2
/-- f(..) of any values: what comes back may lie over them -/
theorem sem_ucallB {mds : List M} {fs : FA} {ts : TA} {F : FD} {E : XK} (hs : SemA K ms p mds fs ts) (hp : pms.all (· == .sh) = true) (hl : pms.length = mds.length) :
    SemE K ms p .bo (ucallF fs F) (tCall (Prom K pms rm F) [] E ts) := by
  intro env σ fps G H d env' Q S e k
  obtain ⟨ds, ds', es, ed⟩ := ucallF_some e
  refine hs env σ fps G H ds env' _ S es fun vs f1 G1 H1 t1 p1 S1 r1 => ?_
  have rr := r1.reps S1.sub
  have hds : ds.length = pms.length := by rw [hl]; exact r1.lens.1
  show Prom K pms rm F (vs ++ []) H1 Q E
  rw [List.append_nil]
  have fz : (pms.map fun _ => ([] : List Addr)).flatten = [] := flat_nil pms
  refine ⟨ds, pms.map fun _ => [], H1, d, ds', ⟨slots_sh hp hds rr, by rw [fz]; exact List.nodup_nil, fun a h => by rw [fz] at h; exact (nomatch h), Same.refl _⟩, ed, fun v f2 G2 H2 t2 S2 r2 => ?_⟩
  rw [fz] at t2
  have hs2 : Same H1 H2 := fun a o e => t2.fr a o e fun z => nomatch z
  have al : Al G1 H1 G1 H2 := ⟨Same.refl _, hs2, fun a h => .inl h, S1.sub.trans hs2⟩
  refine k v f1 G1 H2 (t1.trans (al.tr _)) (fun hp => (p1 hp).trans hs2) (al.sat S1) ?_
  cases rm with
  | ow n => obtain ⟨fp, o, _⟩ := r2; exact o.rep S2.sub fun _ _ _ e => e
  | un => exact r2.elim
  | lk => exact r2.elim
  | sh => exact RA.rep (m := .sh) r2 S2.sub
  | bo => exact r2
  | vw n => exact RA.rep (m := .vw n) r2 S2.sub
/-- f(x, ..), x an owned slot that f may change -/
def ucallIO (j : Nat) (fs : FA) (F : FD) : FE := fun env => (fs env).bind fun q => match q.2[j]? with
  | some dj => (F (dj :: q.1)).bind fun r => match r.2 with
    | d' :: _ => some (r.1, q.2.set j d')
    | [] => none
  | none => none
theorem ucallIO_some {j : Nat} {fs : FA} {F : FD} {env : List D} {d : D} {env' : List D} (e : ucallIO j fs F env = some (d, env')) :
    ∃ ds e1 dj d' r, fs env = some (ds, e1) ∧ e1[j]? = some dj ∧ F (dj :: ds) = some (d, d' :: r) ∧ env' = e1.set j d' := by
  unfold ucallIO at e
  cases h1 : fs env with
  | none => rw [h1] at e; cases e
  | some q =>
    rw [h1, Option.bind_some] at e
    cases h2 : q.2[j]? with
    | none => rw [h2] at e; cases e
    | some dj =>
      rw [h2] at e
      simp only at e
      cases h3 : F (dj :: q.1) with
      | none => rw [h3] at e; cases e
      | some z =>
        rw [h3, Option.bind_some] at e
        obtain ⟨z1, z2⟩ := z
        cases z2 with
        | nil => cases e
        | cons d' r => cases e; exact ⟨q.1, q.2, dj, d', r, rfl, h2, h3, rfl⟩
theorem nodup_at : ∀ {fps : List (List Addr)} {i : Nat} {f : List Addr}, fps[i]? = some f → fps.flatten.Nodup → f.Nodup ∧ ∀ a, a ∈ (fps.set i []).flatten → a ∉ f
  | [], i, f, e, _ => by simp at e
  | g :: fps, 0, f, e, nd => by
    rw [List.flatten_cons] at nd
    obtain ⟨h1, h2, h3⟩ := List.nodup_append.mp nd
    simp at e; subst e
    refine ⟨h1, fun a ha => ?_⟩
    rw [List.set_cons_zero, List.flatten_cons, List.nil_append] at ha
    exact fun z => h3 a z a ha rfl
  | g :: fps, i + 1, f, e, nd => by
    rw [List.flatten_cons] at nd
    obtain ⟨h1, h2, h3⟩ := List.nodup_append.mp nd
    have e' : fps[i]? = some f := by simpa using e
    obtain ⟨q1, q2⟩ := nodup_at e' h2
    refine ⟨q1, fun a ha => ?_⟩
    rw [List.set_cons_succ, List.flatten_cons] at ha
    rcases List.mem_append.mp ha with q | q
    · exact fun z => h3 a q a (mem_flatten_get e' z) rfl
    · exact q2 a q
theorem mem_set_split : ∀ {fps : List (List Addr)} {i : Nat} {f : List Addr} {a : Addr}, a ∈ (fps.set i f).flatten → a ∈ f ∨ a ∈ (fps.set i []).flatten
  | [], i, f, a, h => by simp at h
  | g :: fps, 0, f, a, h => by
    rw [List.set_cons_zero, List.flatten_cons] at h ⊢
    exact (List.mem_append.mp h).imp id fun z => by simpa using z
  | g :: fps, i + 1, f, a, h => by
    rw [List.set_cons_succ, List.flatten_cons] at h ⊢
    rcases List.mem_append.mp h with z | z
    · exact .inr (List.mem_append_left _ z)
    · exact (mem_set_split z).imp id fun q => List.mem_append_right _ q
theorem set_nil_sub {fps : List (List Addr)} {i : Nat} {a : Addr} (h : a ∈ (fps.set i []).flatten) : a ∈ fps.flatten := (mem_flatten_set h).elim (fun z => nomatch z) id
/-- the owned slot j is changed by a step over its own objects alone -/
theorem Sat.step1 {G H G2 H2 : Hp} {env : List D} {σ : L2.St} {fps : List (List Addr)} {j n : Nat} {v : V} {f f' : List Addr} {d' : D} (S : Sat K ms env σ fps G H) (hm : ms[j]? = some (.ow n)) (hf : fps[j]? = some f) (hv : σ[j]? = some (some v))
    (t : Tr f G H f' G2 H2) (s2 : Same G2 H2) (o' : Own K G2 H2 n d' v f') (nd' : f'.Nodup) (out' : ∀ a ∈ f', G2 a = none) :
    Sat K ms (env.set j d') σ (fps.set j f') G2 H2 ∧ Tr fps.flatten G H (fps.set j f').flatten G2 H2 ∧ ∀ a, a ∈ (fps.set j []).flatten → a ∉ f' := by
  obtain ⟨nf, apart⟩ := nodup_at hf S.nd
  have hsub : ∀ a ∈ f, a ∈ fps.flatten := fun a ha => mem_flatten_get hf ha
  have rest : ∀ a, a ∈ (fps.set j []).flatten → a ∉ f' := fun a ha z => by
    rcases t.fp a z with q | q
    · exact apart a ha q
    · obtain ⟨u, hu⟩ := S.there a (set_nil_sub ha)
      rw [hu] at q; cases q
  have slU : Slots K G H (ms.set j .un) env σ (fps.set j []) := by
    obtain ⟨d, o, f0, e1, e2, e3, _⟩ := S.sl.get hm
    have := S.sl.set (m := .un) (d := d) (o := o) (f := []) rfl j
    have ee : env.set j d = env := by
      obtain ⟨h1, h2⟩ := List.getElem?_eq_some_iff.mp e1
      rw [← h2]; exact List.set_getElem_self h1
    have es : σ.set j o = σ := by
      obtain ⟨h1, h2⟩ := List.getElem?_eq_some_iff.mp e2
      rw [← h2]; exact List.set_getElem_self h1
    rw [ee, es] at this
    exact this
  have slU2 : Slots K G2 H2 (ms.set j .un) env σ (fps.set j []) := slU.keep t.gs fun a ha o e => t.fr a o e (apart a ha)
  have sl2 := slU2.set (m := .ow n) (d := d') (o := some v) (f := f') ⟨v, rfl, o'⟩ j
  have em : (ms.set j .un).set j (.ow n) = ms := by
    rw [List.set_set]
    obtain ⟨h1, h2⟩ := List.getElem?_eq_some_iff.mp hm
    rw [← h2]; exact List.set_getElem_self h1
  have es : σ.set j (some v) = σ := by
    obtain ⟨h1, h2⟩ := List.getElem?_eq_some_iff.mp hv
    rw [← h2]; exact List.set_getElem_self h1
  rw [em, es, List.set_set] at sl2
  refine ⟨⟨sl2, nodup_flatten_set j S.nd nd' fun a ha hb => ?_, fun a ha => ?_, s2⟩, ⟨t.gs, fun a h => (t.gn a h).imp id fun z => z.imp id (hsub a), fun a ha => ?_, fun a o e hx => t.fr a o e fun z => hx (hsub a z), t.th⟩, rest⟩
  · rcases t.fp a ha with q | q
    · exact ⟨f, hf, q⟩
    · obtain ⟨u, hu⟩ := S.there a hb
      rw [hu] at q; cases q
  · rcases mem_set_split ha with q | q
    · exact out' a q
    · cases e : G2 a with
      | none => rfl
      | some o =>
        rcases t.gn a (by rw [e]; exact fun z => nomatch z) with z | z | z
        · exact absurd (S.out a (set_nil_sub q)) z
        · obtain ⟨u, hu⟩ := S.there a (set_nil_sub q)
          rw [hu] at z; cases z
        · exact absurd z (apart a q)
  · rcases mem_set_split ha with q | q
    · exact (t.fp a q).imp (hsub a) id
    · exact .inl (set_nil_sub q)
theorem sem_ucallIO {j n : Nat} {mds : List M} {fs : FA} {ts : TA} {F : FD} {E : XK} (hj : ms[j]? = some (.ow n)) (hs : SemA K ms p mds fs ts) (hm : mds.all (· == .sh) = true) (hp : pms.all (· == .sh) = true) (hl : pms.length = mds.length) :
    SemE K ms false rm (ucallIO j fs F) (tCall (Prom K (.ow n :: pms) rm F) [] E (tCons (tVar j) ts)) := by
  intro env σ fps G H d env' Q S e k
  obtain ⟨ds, e1, dj, d', r, es, ej, ed, rfl⟩ := ucallIO_some e
  obtain ⟨d0, o0, f0, h1, h2, h3, v, rfl, own0⟩ := S.sl.get hj
  refine ⟨v, h2, hs env σ fps G H ds e1 _ S es fun vs f1 G1 H1 t1 p1 S1 r1 => ?_⟩
  show Prom K (.ow n :: pms) rm F (v :: vs ++ []) H1 Q E
  rw [List.append_nil]
  obtain ⟨dj', o1, f, q1, q2, q3, v', rfl, own1⟩ := S1.sl.get hj
  rw [ej] at q1; cases q1
  rw [h2] at q2; cases q2
  have rr := r1.shared hm
  have hds : ds.length = pms.length := by rw [hl]; exact r1.lens.1
  have fz : (pms.map fun _ => ([] : List Addr)).flatten = [] := flat_nil pms
  obtain ⟨nf, apart⟩ := nodup_at q3 S1.nd
  have fl : (f :: pms.map fun _ => ([] : List Addr)).flatten = f := by rw [List.flatten_cons, fz, List.append_nil]
  refine ⟨dj :: ds, f :: pms.map fun _ => [], G1, d, d' :: r, ⟨⟨⟨v, rfl, own1⟩, slots_sh hp hds rr⟩, by rw [fl]; exact nf, fun a h => by rw [fl] at h; exact S1.out a (mem_flatten_get q3 h), S1.sub⟩, ed, fun w f2 G2 H2 t2 S2 r2 => ?_⟩
  rw [fl] at t2 r2
  cases f2 with
  | nil => exact S2.sl.elim
  | cons f' fr =>
    obtain ⟨⟨v2, ev, own2⟩, sl2⟩ := S2.sl
    cases ev
    have fz2 : fr.flatten = [] := slots_sh_fp hp sl2
    have fl2 : (f' :: fr).flatten = f' := by rw [List.flatten_cons, fz2, List.append_nil]
    have nd2 := S2.nd
    have out2 := S2.out
    rw [fl2] at t2 r2 nd2 out2
    obtain ⟨S3, t3, rest⟩ := S1.step1 hj q3 h2 t2 S2.sub own2 nd2 out2
    refine k w (f1.set j f') G2 H2 (t1.trans t3) (fun z => nomatch z) S3 ?_
    cases rm with
    | ow n =>
      obtain ⟨fp, o, nd, q⟩ := r2
      refine ⟨fp, o, nd, fun a ha => ⟨(q a ha).1, fun z => ?_, ?_⟩⟩
      · rcases mem_set_split z with y | y
        · exact (q a ha).2.1 y
        · rcases (q a ha).2.2 with x | x
          · exact apart a y x
          · obtain ⟨u, hu⟩ := S1.there a (set_nil_sub y)
            rw [hu] at x; cases x
      · rcases (q a ha).2.2 with x | x
        · exact t1.fp a (mem_flatten_get q3 x)
        · exact .inr (t1.back x)
    | _ => exact r2

/-! ### a def's body -/
def rmsOf : List M → Nat → List M
  | [], k => List.replicate k .un
  | .ow n :: ms, k => .ow n :: rmsOf ms k
  | _ :: ms, k => .un :: rmsOf ms k
def startM (pms : List M) (k : Nat) : List M := pms ++ List.replicate k .un
def backD : List M → List D → List D → List D
  | .ow _ :: ms, _ :: ds, e :: es => e :: backD ms ds es
  | _ :: ms, d :: ds, _ :: es => d :: backD ms ds es
  | _, _, _ => []
def defF (pms : List M) (k : Nat) (g : FS) : FD := fun ds => (g (ds ++ List.replicate k .non)).map fun o => match o with
  | .nx env => (.non, backD pms ds env)
  | .rt d env => (d, backD pms ds env)
theorem slots_start {G H : Hp} {k : Nat} : ∀ {pms : List M} {ds : List D} {σ : L2.St} {fps : List (List Addr)}, Slots K G H pms ds σ fps → Slots K G H (startM pms k) (ds ++ List.replicate k .non) (σ ++ List.replicate k none) (fps ++ List.replicate k [])
  | [], [], [], [], _ => by
    unfold startM
    simp only [List.nil_append]
    induction k with
    | zero => trivial
    | succ k ih => exact ⟨rfl, ih⟩
  | m :: ms, d :: ds, o :: os, f :: fs, h => ⟨h.1, slots_start h.2⟩
  | [], [], [], _ :: _, h => h.elim
  | [], [], _ :: _, _, h => h.elim
  | [], _ :: _, _, _, h => h.elim
  | _ :: _, [], _, _, h => h.elim
  | _ :: _, _ :: _, [], _, h => h.elim
  | _ :: _, _ :: _, _ :: _, [], h => h.elim
theorem flat_rep {β : Type} (k : Nat) (l : List (List β)) : (l ++ List.replicate k ([] : List β)).flatten = l.flatten := by
  rw [List.flatten_append]
  have : (List.replicate k ([] : List β)).flatten = [] := by
    induction k with
    | zero => rfl
    | succ k ih => rw [List.replicate_succ, List.flatten_cons, ih]; rfl
  rw [this, List.append_nil]
/-- behind a body: the owned parameters as they came out, the others as they came in -/
theorem slots_back {G H G' H' : Hp} {k : Nat} (s : Same G G') : ∀ {pms : List M} {ds : List D} {vs : List V} {fps : List (List Addr)} {env : List D} {σ' : L2.St} {fps' : List (List Addr)}, (∀ m ∈ pms, m = .sh ∨ ∃ n, m = .ow n) → Slots K G H pms ds (vs.map some) fps →
    Slots K G' H' (rmsOf pms k) env σ' fps' → (∀ (i n : Nat), (rmsOf pms k)[i]? = some (.ow n) → σ'[i]? = (vs.map some ++ List.replicate k none)[i]?) →
    ∃ fr, Slots K G' H' pms (backD pms ds env) (vs.map some) fr ∧ fr.flatten = fps'.flatten
  | [], [], [], [], env, σ', fps', _, _, h, _ => by
    refine ⟨[], trivial, ?_⟩
    have : ∀ (k : Nat) (env : List D) (σ' : L2.St) (fps' : List (List Addr)), Slots K G' H' (List.replicate k .un) env σ' fps' → fps'.flatten = [] := by
      intro k
      induction k with
      | zero =>
        intro env σ' fps' h
        cases env <;> cases σ' <;> cases fps' <;> first | rfl | exact h.elim
      | succ k ih =>
        intro env σ' fps' h
        rw [List.replicate_succ] at h
        cases env with
        | nil => exact h.elim
        | cons d env => cases σ' with
          | nil => exact h.elim
          | cons o σ' => cases fps' with
            | nil => exact h.elim
            | cons f fps' =>
              rw [List.flatten_cons, show f = [] from h.1, ih env σ' fps' h.2]; rfl
    exact (this k env σ' fps' h).symm
  | m :: pms, d :: ds, v :: vs, f :: fps, env, σ', fps', hm, h, h', hp => by
    have hm2 : ∀ m ∈ pms, m = .sh ∨ ∃ n, m = .ow n := fun x hx => hm x (List.mem_cons_of_mem _ hx)
    rcases hm m List.mem_cons_self with rfl | ⟨n, rfl⟩
    · cases env with
      | nil => exact h'.elim
      | cons e env => cases σ' with
        | nil => exact h'.elim
        | cons o σ' => cases fps' with
          | nil => exact h'.elim
          | cons f' fps' =>
            obtain ⟨fr, s1, s2⟩ := slots_back s hm2 h.2 h'.2 fun i n e => by simpa using hp (i + 1) n e
            obtain ⟨_, w, ew, r⟩ := h.1
            refine ⟨[] :: fr, ⟨⟨rfl, w, ew, r.same s⟩, s1⟩, ?_⟩
            rw [List.flatten_cons, List.flatten_cons, s2, show f' = [] from h'.1]
    · cases env with
      | nil => exact h'.elim
      | cons e env => cases σ' with
        | nil => exact h'.elim
        | cons o σ' => cases fps' with
          | nil => exact h'.elim
          | cons f' fps' =>
            obtain ⟨fr, s1, s2⟩ := slots_back s hm2 h.2 h'.2 fun i n e => by simpa using hp (i + 1) n e
            obtain ⟨w, ew, r⟩ := h'.1
            have e0 := hp 0 n rfl
            simp at e0
            subst e0
            exact ⟨f' :: fr, ⟨⟨w, ew, r⟩, s1⟩, by rw [List.flatten_cons, List.flatten_cons, s2]⟩
  | [], [], [], _ :: _, _, _, _, _, h, _, _ => h.elim
  | [], [], _ :: _, _, _, _, _, _, h, _, _ => h.elim
  | [], _ :: _, _, _, _, _, _, _, h, _, _ => h.elim
  | _ :: _, [], _, _, _, _, _, _, h, _, _ => h.elim
  | _ :: _, _ :: _, [], _, _, _, _, _, h, _, _ => h.elim
  | _ :: _, _ :: _, _ :: _, [], _, _, _, _, h, _, _ => h.elim
theorem rr_flat {F F' F2 : List Addr} {G H H0 : Hp} {d : D} {v : V} (h : RR K F H0 rm d v F2 G H) (e : F' = F2) : RR K F H0 rm d v F' G H := by rw [e]; exact h
/-- a body that does g keeps the promise -/
theorem body_ok {P : Program} {w : World} {mg : Str → Option Value} {base : Heap} {x qual : Str} {st : Stmt} {f : Addr} {fd : FuncData} {N ps : List Str} {lv : Nat} {pms : List M} {k : Nat} {g : FS} {ms' : List M}
    (F : Fun K x qual st f fd) (S : FnScope N ps (defScope st)) (hps : ps.length = pms.length) (hN : N.length = pms.length + k) (hpm : ∀ m ∈ pms, m = .sh ∨ ∃ n, m = .ow n) (hw : weakM ms' (rmsOf pms k) = true) (hrm : rm = .sh ∨ ∃ n, rm = .ow n) (hnx : rm = .sh ∨ ∀ env env', g env ≠ some (.nx env'))
    (body : ∀ (cdv : Value) (A : Around) (outer : List Env) (s : Shared) (H : Hp) (E : XK), A.guards = some [] → Room lv (A.deeper (envOfC qual (defScope st) s.heap.objs.size f cdv)) →
      ∃ t, PSs (cxOf CX0 P w K mg base N qual (defScope st) f cdv A outer s H E).nox (defBody st) t ∧ SemS K rm (rmsOf pms k) (startM pms k) ms' g t) :
    FnG P w K mg base CX0 (lv + 1) f fd ps (Prom K pms rm (defF pms k g)) := by
  refine FnG.of_body F S (fun vs H Q E h => by rw [hps]; exact prom_len vs H Q E h) fun cdv A outer s H vs Q E gd hr h => ?_
  obtain ⟨t, ht, sem⟩ := body cdv A outer s H E gd hr
  refine ⟨t, ht, ?_⟩
  have hvl := prom_len vs H Q E h
  obtain ⟨ds, fps, G, d, ds', S0, e, kk⟩ := h
  have est : L2.start N vs = vs.map some ++ List.replicate k none := by
    unfold L2.start
    rw [hN, hvl, Nat.add_sub_cancel_left]
  rw [est]
  have S1 : Sat K (startM pms k) (ds ++ List.replicate k .non) (vs.map some ++ List.replicate k none) (fps ++ List.replicate k []) G H :=
    ⟨slots_start S0.sl, by rw [flat_rep]; exact S0.nd, fun a h => by rw [flat_rep] at h; exact S0.out a h, S0.sub⟩
  unfold defF at e
  cases q : g (ds ++ List.replicate k .non) with
  | none => rw [q] at e; cases e
  | some o =>
    rw [q] at e
    refine sem _ _ _ G H o _ S1 q (fun env' σ' f' G' H' eo t1 p1 S2 => ?_) fun d1 env' v σ' f' G' H' eo t1 p1 S2 r2 => ?_
    · subst eo
      cases e
      rw [flat_rep] at t1
      obtain ⟨f3, S3, t3, sub⟩ := S2.weak hw
      obtain ⟨fr, sl, ef⟩ := slots_back t1.gs hpm S0.sl S3.sl fun i n e => p1 i n e
      refine kk .non fr G' H' ?_ ⟨sl, by rw [ef]; exact S3.nd, fun a h => by rw [ef] at h; exact S3.out a h, S3.sub⟩ ?_
      · rw [ef]; exact t1.trans t3
      · rcases hnx with rfl | z
        · show Rep K G' .non .non
          exact rep_non
        · exact absurd q (z _ _)
    · subst eo
      cases e
      rw [flat_rep] at t1 r2
      obtain ⟨fr, sl, ef⟩ := slots_back t1.gs hpm S0.sl S2.sl fun i n e => p1 i n e
      refine kk v fr G' H' ?_ ⟨sl, by rw [ef]; exact S2.nd, fun a h => by rw [ef] at h; exact S2.out a h, S2.sub⟩ ?_
      · rw [ef]; exact t1
      · rw [ef]; exact r2
end
end DL
namespace DL
open PySem PySem.Spec PyProof.Rows L2

/-- contexts of one text: a def's body, a comprehension's block within it -/
structure Fm (P : Program) (w : World) (K : PySem.W.Frag) (mg : Str → Option Value) (base : Heap) (N : List Str) (sc : Scope) (lv : Nat) (oc : Option (List Str)) where
  ι : Type
  X : ι → Cx
  hP : ∀ i, (X i).prog = P
  hw : ∀ i, (X i).w = w
  hK : ∀ i, (X i).K = K
  hmg : ∀ i, (X i).mg = mg
  hb : ∀ i, (X i).base = base
  hN : ∀ i, (X i).N = N
  hsc : ∀ i, (X i).env.scope = sc
  nd : N.Nodup
  calm : ∀ i, (X i).calm = true
  room : ∀ i, Room lv (X i).A
  gd : ∀ i, (X i).A.guards = some []
  fn : ∀ i x, (oc.all fun l => l.contains x) = true → (X i).fn x = true
  xe : ∀ i, (X i).xe = fun _ _ => False
section
variable {P : Program} {w : World} {K : PySem.W.Frag} {mg : Str → Option Value} {base : Heap} {N : List Str} {sc : Scope} {lv : Nat} {oc : Option (List Str)}
/-- a block's scope: captured names are cells of the def around -/
def relS (scope sc : Scope) : Scope := relabel scope { scope := sc, locals := 0, globals := 0, cells := [] }
theorem relS_env (scope : Scope) (env : Env) : relabel scope env = relS scope env.scope := rfl
def cellsOf (scope : Scope) : List Str := (scope.names.map (·.1)).filter fun x => scope.names.lookup x == some .cell
def Fm.blk (F : Fm P w K mg base N sc lv oc) (scope : Scope) : Fm P w K mg base N (relS scope sc) lv (some (cellsOf scope)) where
  ι := F.ι × Shared × Hp × Addr × List (Str × Addr) × List Addr
  X := fun j => (F.X j.1).blk j.2.1 j.2.2.1 scope (compEnvC scope j.2.2.2.2.1 j.2.2.2.1 (F.X j.1).env) j.2.2.2.2.2
  hP := fun j => F.hP j.1
  hw := fun j => F.hw j.1
  hK := fun j => F.hK j.1
  hmg := fun j => F.hmg j.1
  hb := fun j => F.hb j.1
  hN := fun j => F.hN j.1
  hsc := fun j => by
    show relabel scope (F.X j.1).env = relS scope sc
    rw [relS_env, F.hsc]
  nd := F.nd
  calm := fun j => F.calm j.1
  room := fun j => F.room j.1
  gd := fun j => F.gd j.1
  fn := fun j x h => by
    have h' : (cellsOf scope).contains x = true := h
    have hm : x ∈ cellsOf scope := List.contains_iff_mem.mp h'
    exact (List.mem_filter.mp hm).2
  xe := fun j => rfl
variable (F : Fm P w K mg base N sc lv oc)
def EV (ms : List M) (p : Bool) (e : Expr) (m : M) (f : FE) : Prop := ∃ t, (∀ i, PE (F.X i) e t) ∧ SemE K ms p m f t
def TV (ms : List M) (p : Bool) (e : Expr) (f : FT) : Prop := ∃ t, (∀ i, PT (F.X i) e t) ∧ SemT K ms p f t
/-- a chain of and, or -/
def WV (ms : List M) (p : Bool) (e : Expr) (f : FT) : Prop := ∃ t, (∀ i, PW (F.X i) e t) ∧ SemT K ms p f t
def AV (ms : List M) (p : Bool) (es : List Expr) (mds : List M) (f : FA) : Prop := ∃ t, (∀ i, PA (F.X i) es t) ∧ SemA K ms p mds f t
def SV (rm : M) (rms ms ms' : List M) (st : Stmt) (g : FS) : Prop := ∃ t, (∀ i, PS (F.X i) st t) ∧ SemS K rm rms ms ms' g t
def BV (rm : M) (rms ms ms' : List M) (sts : List Stmt) (g : FS) : Prop := ∃ t, (∀ i, PSs (F.X i) sts t) ∧ SemS K rm rms ms ms' g t
def GV (rms ms ms' : List M) (e : Expr) (b : FG) : Prop := ∃ t, (∀ i, PG (F.X i) e t) ∧ SemG K rms ms ms' b t
def GsV (rms ms ms' : List M) (es : List Expr) (b : FGs) : Prop := ∃ t, (∀ i, PGs (F.X i) es t) ∧ SemGs K rms ms ms' b t
def IV (ms : List M) (p : Bool) (tg iter : Expr) (f : FA) : Prop := ∃ t, (∀ i, PI (F.X i) tg iter t) ∧ SemI K ms p f t
variable {F} {ms ms1 ms2 ms' msL msB rms : List M} {rm m ma mb mc : M} {p pa pb pc : Bool} {e a b c : Expr} {es rest : List Expr} {fa fb fc f : FE} {fs : FA} {ga gb g : FT} {s1 s2 : FS} {pos pos' : Pos} {st : Stmt} {sts : List Stmt} {mds : List M} {x : Str}

def Vis' (sc : Scope) (x : Str) : Prop := Vis sc x
theorem ev_var (i : Nat) (hN : N[i]? = some x := by rfl) (hv : Vis sc x := by first | exact Or.inl rfl | exact Or.inr (Or.inl rfl) | exact Or.inr (Or.inr rfl)) (hm : ms[i]? = some .sh := by rfl)
    (hd : (x == ("__debug__" : Str)) = false := by decide) (hcd : (x == ("__classdict__" : Str)) = false := by decide) : EV F ms true (.Name x pos) .sh (varF i) :=
  ⟨tVar i, fun j => pe_var (by rw [F.hN]; exact hN) (by rw [F.hsc]; exact hv) hd hcd, sem_var hm⟩
theorem ev_varO (i : Nat) {n : Nat} (hm : ms[i]? = some (.ow n) := by rfl) (hN : N[i]? = some x := by rfl) (hv : Vis sc x := by first | exact Or.inl rfl | exact Or.inr (Or.inl rfl) | exact Or.inr (Or.inr rfl))
    (hd : (x == ("__debug__" : Str)) = false := by decide) (hcd : (x == ("__classdict__" : Str)) = false := by decide) : EV F ms true (.Name x pos) (.vw n) (varF i) :=
  ⟨tVar i, fun j => pe_var (by rw [F.hN]; exact hN) (by rw [F.hsc]; exact hv) hd hcd, sem_varO hm⟩
theorem ev_int {i : Int} {j} : EV F ms true (.Constant (.int i) j pos) .sh (conF (.int i)) := ⟨_, fun _ => pe_int, sem_con fun _ => rep_int⟩
theorem ev_str {z : Str} {j} : EV F ms true (.Constant (.str z) j pos) .sh (conF (.str z)) := ⟨_, fun _ => pe_str, sem_con fun _ => rep_str⟩
theorem ev_bl {z : Bool} {j} : EV F ms true (.Constant (.bool z) j pos) .sh (conF (.bl z)) := ⟨_, fun _ => pe_bl, sem_con fun _ => by unfold Rep; rfl⟩
theorem ev_non {j} : EV F ms true (.Constant .none j pos) .sh (conF .non) := ⟨_, fun _ => pe_non, sem_con fun _ => rep_non⟩
/-! modes -/
theorem ev_fz {n : Nat} (h : EV F ms p e (.ow n) f) : EV F ms p e .sh f := let ⟨t, a, b⟩ := h; ⟨t, a, sem_fz b⟩
theorem ev_vw {n : Nat} (h : EV F ms p e (.ow n) f) : EV F ms p e (.vw n) f := let ⟨t, a, b⟩ := h; ⟨t, a, sem_vw b⟩
theorem ev_bo (h : EV F ms p e m f) : EV F ms p e .bo f := let ⟨t, a, b⟩ := h; ⟨t, a, sem_bo b⟩
theorem ev_flat (h : EV F ms p e .bo f) : EV F ms p e .sh (flatF f) := let ⟨t, a, b⟩ := h; ⟨t, a, sem_flat b⟩
/-! operators -/
def noOw : M → Bool
  | .ow _ => false
  | _ => true
theorem noOw_ne {m : M} (h : noOw m = true) : ∀ n, m ≠ .ow n := fun n e => by subst e; cases h
theorem ev_op {op : Operator} {r : R2} {gd : D → D → Option D} (ho : ∀ i, OpR (F.X i) (binaryOp op) r) (sp : R2S K ma mb m gd r) (ha : EV F ms pa a ma fa) (hb : EV F ms pb b mb fb) (hm : (pb || ma == .sh) = true := by rfl)
    (h1 : noOw ma = true := by rfl) (h2 : noOw mb = true := by rfl) : EV F ms (pa && pb) (.BinOp a op b pos) m (bin2 fa fb gd) := by
  obtain ⟨ta, a1, a2⟩ := ha
  obtain ⟨tb, b1, b2⟩ := hb
  exact ⟨_, fun i => pe_op (ho i) (a1 i) (b1 i), sem_op a2 b2 sp hm (noOw_ne h1) (noOw_ne h2)⟩
theorem ev_cmp {op : CmpOp} {r : R2} {gd : D → D → Option D} (ho : ∀ i, OpR (F.X i) (compareOp op) r) (sp : R2S K ma mb m gd r) (hk : behindInMarks op b = false) (ha : EV F ms pa a ma fa) (hb : EV F ms pb b mb fb) (hm : (pb || ma == .sh) = true := by rfl)
    (h1 : noOw ma = true := by rfl) (h2 : noOw mb = true := by rfl) : EV F ms (pa && pb) (.Compare a [op] [b] pos) m (bin2 fa fb gd) := by
  obtain ⟨ta, a1, a2⟩ := ha
  obtain ⟨tb, b1, b2⟩ := hb
  exact ⟨_, fun i => pe_cmpR (ho i) (a1 i) (b1 i) hk, sem_op a2 b2 sp hm (noOw_ne h1) (noOw_ne h2)⟩
theorem tv_cmp {op : CmpOp} {r : R2} {gd : D → D → Option D} (ho : ∀ i, OpR (F.X i) (compareOp op) r) (sp : R2S K ma mb m gd r) (hk : behindInMarks op b = false) (ha : EV F ms pa a ma fa) (hb : EV F ms pb b mb fb) (hm : (pb || ma == .sh) = true := by rfl)
    (h1 : noOw ma = true := by rfl) (h2 : noOw mb = true := by rfl) : TV F ms (pa && pb) (.Compare a [op] [b] pos) (tstF (bin2 fa fb gd)) := by
  obtain ⟨ta, a1, a2⟩ := ha
  obtain ⟨tb, b1, b2⟩ := hb
  exact ⟨_, fun i => pt_cmpR (ho i) (a1 i) (b1 i) hk, sem_test (sem_op a2 b2 sp hm (noOw_ne h1) (noOw_ne h2))⟩
theorem ev_chain {op op' : CmpOp} {r r' : R2} {gd gd' : D → D → Option D} (ho : ∀ i, OpR (F.X i) (compareOp op) r) (ho' : ∀ i, OpR (F.X i) (compareOp op') r') (sp : R2S K .sh .sh .sh gd r) (sp' : R2S K .sh .sh .sh gd' r')
    (ha : EV F ms pa a .sh fa) (hb : EV F ms pb b .sh fb) (hc : EV F ms pc c .sh fc) (hm : lastMarks [op, op'] [b, c] = false := by with_unfolding_all rfl) : EV F ms (pa && (pb && pc)) (.Compare a [op, op'] [b, c] pos) .sh (chainF fa fb fc gd gd') := by
  obtain ⟨ta, a1, a2⟩ := ha
  obtain ⟨tb, b1, b2⟩ := hb
  obtain ⟨tc, c1, c2⟩ := hc
  exact ⟨_, fun i => pe_chain (ho i) (ho' i) (a1 i) (b1 i) (c1 i) hm, sem_chain a2 b2 c2 sp sp'⟩
theorem tv_chain {op op' : CmpOp} {r r' : R2} {gd gd' : D → D → Option D} (ho : ∀ i, OpR (F.X i) (compareOp op) r) (ho' : ∀ i, OpR (F.X i) (compareOp op') r') (sp : R2S K .sh .sh .sh gd r) (sp' : R2S K .sh .sh .sh gd' r')
    (ha : EV F ms pa a .sh fa) (hb : EV F ms pb b .sh fb) (hc : EV F ms pc c .sh fc) (hm : lastMarks [op, op'] [b, c] = false := by with_unfolding_all rfl) : TV F ms (pa && (pb && pc)) (.Compare a [op, op'] [b, c] pos) (tstF (chainF fa fb fc gd gd')) := by
  obtain ⟨ta, a1, a2⟩ := ha
  obtain ⟨tb, b1, b2⟩ := hb
  obtain ⟨tc, c1, c2⟩ := hc
  exact ⟨_, fun i => pt_chain (ho i) (ho' i) (a1 i) (b1 i) (c1 i) hm, sem_test (sem_chain a2 b2 c2 sp sp')⟩
/-! tests -/
theorem tv_val (h : EV F ms p e m f) (he : ∀ i whole, isTrue e (F.X i).env whole = (do let v ← whole; standAt e.pos; holding [v] (truthy v)) := by intro _ _; rfl) : TV F ms p e (tstF f) := by
  obtain ⟨t, a1, a2⟩ := h
  exact ⟨_, fun i => pt_val (a1 i) (he i), sem_tB a2⟩
theorem tv_not (h : TV F ms p e g) : TV F ms p (.UnaryOp .Not e pos) (notF g) := by
  obtain ⟨t, a1, a2⟩ := h
  exact ⟨_, fun i => pt_not (a1 i), sem_not a2⟩
theorem tv_w (h : WV F ms p e g) : TV F ms p e g := let ⟨t, a1, a2⟩ := h; ⟨t, fun i => (a1 i).pt, a2⟩
theorem wv_and1 (h : TV F ms p a g) : WV F ms p (.BoolOp .And [a] pos) g := let ⟨t, a1, a2⟩ := h; ⟨t, fun i => pw_and1 (a1 i), a2⟩
theorem wv_or1 (h : TV F ms p a g) : WV F ms p (.BoolOp .Or [a] pos) g := let ⟨t, a1, a2⟩ := h; ⟨t, fun i => pw_or1 (a1 i), a2⟩
theorem wv_and (ha : TV F ms pa a ga) (hb : WV F ms pb (.BoolOp .And (b :: rest) pos) gb) : WV F ms (pa && pb) (.BoolOp .And (a :: b :: rest) pos) (andF ga gb) := by
  obtain ⟨t, a1, a2⟩ := ha
  obtain ⟨u, b1, b2⟩ := hb
  exact ⟨_, fun i => pw_and (a1 i) (b1 i), sem_and a2 b2⟩
theorem wv_or (ha : TV F ms pa a ga) (hb : WV F ms pb (.BoolOp .Or (b :: rest) pos) gb) : WV F ms (pa && pb) (.BoolOp .Or (a :: b :: rest) pos) (orF ga gb) := by
  obtain ⟨t, a1, a2⟩ := ha
  obtain ⟨u, b1, b2⟩ := hb
  exact ⟨_, fun i => pw_or (a1 i) (b1 i), sem_or a2 b2⟩
/-! and, or, not as values (bools) -/
theorem ev_one {op} (h : EV F ms p a m f) : EV F ms p (.BoolOp op [a] pos) m f := let ⟨t, a1, a2⟩ := h; ⟨t, fun i => pe_one (a1 i), a2⟩
theorem ev_and (ha : EV F ms pa a ma fa) (hb : EV F ms pb (.BoolOp .And (b :: rest) pos) .sh fb) : EV F ms (pa && pb) (.BoolOp .And (a :: b :: rest) pos) .sh (andV fa fb) := by
  obtain ⟨t, a1, a2⟩ := ha
  obtain ⟨u, b1, b2⟩ := hb
  exact ⟨_, fun i => pe_and (a1 i) (b1 i), sem_andV a2 b2⟩
theorem ev_or (ha : EV F ms pa a ma fa) (hb : EV F ms pb (.BoolOp .Or (b :: rest) pos) .sh fb) : EV F ms (pa && pb) (.BoolOp .Or (a :: b :: rest) pos) .sh (orV fa fb) := by
  obtain ⟨t, a1, a2⟩ := ha
  obtain ⟨u, b1, b2⟩ := hb
  exact ⟨_, fun i => pe_or (a1 i) (b1 i), sem_orV a2 b2⟩
theorem ev_not (ha : EV F ms p a m f) : EV F ms p (.UnaryOp .Not a pos) .sh (notV f) := by
  obtain ⟨t, a1, a2⟩ := ha
  exact ⟨_, fun i => pe_not (a1 i), sem_notV a2⟩
theorem ev_if (hc : TV F ms pc c g) (ha : EV F ms pa a m fa) (hb : EV F ms pb b m fb) : EV F ms (pc && (pa && pb)) (.IfExp c a b pos) m (ifF g fa fb) := by
  obtain ⟨t, c1, c2⟩ := hc
  obtain ⟨u, a1, a2⟩ := ha
  obtain ⟨v, b1, b2⟩ := hb
  exact ⟨_, fun i => pe_ifExp (c1 i) (a1 i) (b1 i), sem_if c2 a2 b2⟩
/-! arguments -/
theorem av_nil : AV F ms true [] [] nilF := ⟨_, fun _ => pa_nil, sem_nil⟩
theorem av_cons (ha : EV F ms pa e ma fa) (hs : AV F ms pb es mds fs) (hm : (pb || ma == .sh) = true := by rfl) (h1 : noOw ma = true := by rfl)
    (hst : ∀ i, starEach (e :: es) (F.X i).env = (false, eval e (F.X i).env) :: starEach es (F.X i).env := by intro _; rfl) : AV F ms (pa && pb) (e :: es) (ma :: mds) (consF fa fs) := by
  obtain ⟨t, a1, a2⟩ := ha
  obtain ⟨u, s1, s2⟩ := hs
  exact ⟨_, fun i => pa_cons (a1 i) (s1 i) (hst i), sem_cons a2 s2 hm (noOw_ne h1)⟩
/-! displays -/
def tupD (ds : List D) : Option D := some (.tup ds)
def lstD (ds : List D) : Option D := some (.lst ds)
theorem sem_tup {t : TA} {fs : FA} (h : SemA K ms p mds fs t) (hm : mds.all (· == .sh) = true) (hl : mds.length ≤ sizeLine) : SemE K ms p .sh (callF fs tupD) (tTup t) := by
  intro env σ fps G H d env' Q S e k
  obtain ⟨ds, es, ed⟩ := callF_some e
  cases ed
  refine h env σ fps G H ds env' _ S es fun vs f1 G1 H1 t1 p1 S1 r1 => ⟨by rw [r1.lens.2]; exact hl, fun q hq => ?_⟩
  refine k _ f1 (upd G1 q (.tup vs)) _ (t1.trans (Tr.alloc S1.sub hq)) (fun hp => (p1 hp).trans (same_upd hq)) (S1.alloc hq) ?_
  exact rep_tup (r1.shared hm) (S1.sub.free hq)
theorem sem_tupB {t : TA} {fs : FA} (h : SemA K ms p mds fs t) (hl : mds.length ≤ sizeLine) : SemE K ms p .bo (callF fs tupD) (tTup t) := by
  intro env σ fps G H d env' Q S e k
  obtain ⟨ds, es, ed⟩ := callF_some e
  cases ed
  refine h env σ fps G H ds env' _ S es fun vs f1 G1 H1 t1 p1 S1 r1 => ⟨by rw [r1.lens.2]; exact hl, fun q hq => ?_⟩
  refine k _ f1 G1 _ (t1.trans (Tr.allocO hq)) (fun hp => (p1 hp).trans (same_upd hq)) (S1.allocO hq) ?_
  exact rep_tup (r1.reps S1.sub) hq
theorem sem_lst {t : TA} {fs : FA} (h : SemA K ms p mds fs t) (hm : mds.all (· == .sh) = true) (hl : mds.length ≤ sizeLine) : SemE K ms p (.ow 1) (callF fs lstD) (tLst t) := by
  intro env σ fps G H d env' Q S e k
  obtain ⟨ds, es, ed⟩ := callF_some e
  cases ed
  refine h env σ fps G H ds env' _ S es fun vs f1 G1 H1 t1 p1 S1 r1 => ⟨by rw [r1.lens.2]; exact hl, fun q hq => ?_⟩
  refine k _ f1 G1 _ (t1.trans (Tr.allocO hq)) (fun hp => (p1 hp).trans (same_upd hq)) (S1.allocO hq) ?_
  refine ⟨[q], ⟨q, [], rfl, rfl, vs, upd_same, Owns.of_reps (r1.shared hm)⟩, by simp, fun a ha => ?_⟩
  have ea : a = q := by simpa using ha
  subst ea
  refine ⟨S1.sub.free hq, fun z => ?_, .inr (t1.back hq)⟩
  obtain ⟨o, ho⟩ := S1.there a z
  rw [hq] at ho; cases ho
theorem sem_lstB {t : TA} {fs : FA} (h : SemA K ms p mds fs t) (hl : mds.length ≤ sizeLine) : SemE K ms p .bo (callF fs lstD) (tLst t) := by
  intro env σ fps G H d env' Q S e k
  obtain ⟨ds, es, ed⟩ := callF_some e
  cases ed
  refine h env σ fps G H ds env' _ S es fun vs f1 G1 H1 t1 p1 S1 r1 => ⟨by rw [r1.lens.2]; exact hl, fun q hq => ?_⟩
  refine k _ f1 G1 _ (t1.trans (Tr.allocO hq)) (fun hp => (p1 hp).trans (same_upd hq)) (S1.allocO hq) ?_
  show Rep K (upd H1 q (.lst vs)) (.lst ds) (.ref q)
  unfold Rep
  exact ⟨q, vs, rfl, upd_same, (r1.reps S1.sub).same (same_upd hq)⟩
theorem small_le {n : Nat} (h : (n ≤ 16777216) = true) : n ≤ sizeLine := by rw [sizeLine_eq]; exact of_eq_true (by simpa using h)
theorem ev_tup {x1} (h : AV F ms p es mds fs) (hm : mds.all (· == .sh) = true := by rfl) (hl : mds.length ≤ sizeLine := by (show _ ≤ sizeLine; decide)) : EV F ms p (.Tuple es x1 pos) .sh (callF fs tupD) := by
  obtain ⟨t, a1, a2⟩ := h
  exact ⟨_, fun i => pe_tup (a1 i), sem_tup a2 hm hl⟩
theorem ev_tupB {x1} (h : AV F ms p es mds fs) (hl : mds.length ≤ sizeLine := by (show _ ≤ sizeLine; decide)) : EV F ms p (.Tuple es x1 pos) .bo (callF fs tupD) := by
  obtain ⟨t, a1, a2⟩ := h
  exact ⟨_, fun i => pe_tup (a1 i), sem_tupB a2 hl⟩
theorem ev_lst (h : AV F ms p es mds fs) (hm : mds.all (· == .sh) = true := by rfl) (hl : mds.length ≤ sizeLine := by (show _ ≤ sizeLine; decide)) : EV F ms p (.List es pos) (.ow 1) (callF fs lstD) := by
  obtain ⟨t, a1, a2⟩ := h
  exact ⟨_, fun i => pe_lst (a1 i), sem_lst a2 hm hl⟩
theorem ev_lstB (h : AV F ms p es mds fs) (hl : mds.length ≤ sizeLine := by (show _ ≤ sizeLine; decide)) : EV F ms p (.List es pos) .bo (callF fs lstD) := by
  obtain ⟨t, a1, a2⟩ := h
  exact ⟨_, fun i => pe_lst (a1 i), sem_lstB a2 hl⟩
/-! calls of built-ins -/
theorem glob_of (h : sc.names.lookup x = some .globalImplicit ∨ True) : True := trivial
def GlS (sc : Scope) (x : Str) : Prop := ∀ env : Env, env.scope = sc → env.kindOf x = some .globalImplicit
theorem ev_callB {id : String} {r : List V → Hp → VK → Prop} {gd : List D → Option D} {pos1 : Pos} (hc : ∀ i, CallR (F.X i) (.builtin id) r) (sp : CallS K mds m gd r) (hm : mg x = none) (hv : bootBuiltins x = some (.builtin id)) (ha : AV F ms p (e :: es) mds fs)
    (hg : GlS sc x := by intro env h; unfold Env.kindOf; rw [h]; rfl) (hn : x ≠ "__name__" := by decide) (hdb : (x == ("__debug__" : Str)) = false := by decide)
    (he : ∀ i, starEach (e :: es) (F.X i).env = (false, eval e (F.X i).env) :: starEach es (F.X i).env := by intro _; rfl) (hpl : ∀ i, (backTo pos (starEach es (F.X i).env)).any (·.1) = false := by intro _; rfl) :
    EV F ms p (.Call (.Name x pos1) (e :: es) [] pos) m (callF fs gd) := by
  obtain ⟨t, a1, a2⟩ := ha
  exact ⟨_, fun i => pe_callB (hc i) (hg _ (F.hsc i)) (by rw [F.hmg]; exact hm) hv (a1 i) hn hdb (he i) (hpl i), sem_call a2 sp⟩
theorem ev_callTy {T : String} {r : List V → Hp → VK → Prop} {gd : List D → Option D} {pos1 : Pos} (hc : ∀ i, CallR (F.X i) (.type T) r) (sp : CallS K mds m gd r) (hm : mg x = none) (hv : bootBuiltins x = some (.type T)) (ha : AV F ms p (e :: es) mds fs)
    (hg : GlS sc x := by intro env h; unfold Env.kindOf; rw [h]; rfl) (hn : x ≠ "__name__" := by decide) (hdb : (x == ("__debug__" : Str)) = false := by decide)
    (he : ∀ i, starEach (e :: es) (F.X i).env = (false, eval e (F.X i).env) :: starEach es (F.X i).env := by intro _; rfl) (hpl : ∀ i, (backTo pos (starEach es (F.X i).env)).any (·.1) = false := by intro _; rfl) :
    EV F ms p (.Call (.Name x pos1) (e :: es) [] pos) m (callF fs gd) := by
  obtain ⟨t, a1, a2⟩ := ha
  exact ⟨_, fun i => pe_callTy (hc i) (hg _ (F.hsc i)) (by rw [F.hmg]; exact hm) hv (a1 i) hn hdb (he i) (hpl i), sem_call a2 sp⟩
end
end DL
namespace DL
open PySem PySem.Spec PyProof.Rows L2

section
variable {K : PySem.W.Frag} {rm : M} {rms ms ms1 ms2 msL msB msC ms' pms : List M} {p pa pb pc : Bool} {m ma mb mc : M} {fa fb fc : FE} {ta tb tc : TE} {ga gb : FT} {ua ub : TT} {g1 g2 : FS} {t t1 t2 : TS}
/-! ### several values, stored one by one -/
def RF (K : PySem.W.Frag) (F0 : List Addr) (H0 : Hp) (m : M) (d : D) (v : V) (F : List Addr) (G H : Hp) (fp : List Addr) : Prop := match m with
  | .ow n => Own K G H n d v fp ∧ Fresh F0 H0 F G fp
  | .sh => Rep K G d v ∧ fp = []
  | _ => False
theorem RR.rf {F0 F : List Addr} {H0 G H : Hp} {d : D} {v : V} (r : RR K F0 H0 m d v F G H) (hm : m = .sh ∨ ∃ n, m = .ow n) : ∃ fp, RF K F0 H0 m d v F G H fp := by
  rcases hm with rfl | ⟨n, rfl⟩
  · exact ⟨[], r, rfl⟩
  · obtain ⟨fp, o, f⟩ := r; exact ⟨fp, o, f⟩
theorem RF.step {F0 F1 F2 : List Addr} {H0 G1 H1 G2 H2 : Hp} {d : D} {v : V} {fp : List Addr} (r : RF K F0 H0 m d v F1 G1 H1 fp) (t : Tr F1 G1 H1 F2 G2 H2) : RF K F0 H0 m d v F2 G2 H2 fp ∧ ∀ a ∈ fp, a ∉ F1 ∧ H1 a ≠ none := by
  cases m with
  | sh => exact ⟨⟨Rep.same r.1 t.gs, r.2⟩, fun a ha => by rw [r.2] at ha; exact nomatch ha⟩
  | ow n =>
    obtain ⟨o, nd, q⟩ := r
    have th : ∀ a ∈ fp, H1 a ≠ none := fun a ha z => by
      obtain ⟨u, hu⟩ := o.there a ha
      rw [hu] at z; cases z
    refine ⟨⟨o.keep t.gs fun a ha u e => t.fr a u e (q a ha).2.1, nd, fun a ha => ⟨?_, fun z => ?_, (q a ha).2.2⟩⟩, fun a ha => ⟨(q a ha).2.1, th a ha⟩⟩
    · cases e : G2 a with
      | none => rfl
      | some o =>
        rcases t.gn a (by rw [e]; exact fun z => nomatch z) with z | z | z
        · exact absurd (q a ha).1 z
        · exact absurd z (th a ha)
        · exact absurd z (q a ha).2.1
    · rcases t.fp a z with y | y
      · exact (q a ha).2.1 y
      · exact th a ha y
  | un => exact r.elim
  | lk => exact r.elim
  | bo => exact r.elim
  | vw n => exact r.elim
def RFs (K : PySem.W.Frag) (F0 : List Addr) (H0 : Hp) (G H : Hp) : List M → List D → List V → List Addr → Prop
  | [], ds, vs, _ => ds = [] ∧ vs = []
  | m :: ms, ds, vs, F => ∃ d r v q fp, ds = d :: r ∧ vs = v :: q ∧ RF K F0 H0 m d v F G H fp ∧ RFs K F0 H0 G H ms r q (F ++ fp)
theorem RF.fewer {F0 F F' : List Addr} {H0 G H : Hp} {d : D} {v : V} {fp : List Addr} (h : RF K F0 H0 m d v F G H fp) (s : ∀ a ∈ F', a ∈ F) : RF K F0 H0 m d v F' G H fp := by
  cases m with
  | ow n => obtain ⟨o, nd, q⟩ := h; exact ⟨o, nd, fun a ha => ⟨(q a ha).1, fun z => (q a ha).2.1 (s a z), (q a ha).2.2⟩⟩
  | _ => exact h
theorem RFs.fewer {F0 : List Addr} {H0 G H : Hp} : ∀ {ms : List M} {ds : List D} {vs : List V} {F F' : List Addr}, RFs K F0 H0 G H ms ds vs F → (∀ a ∈ F', a ∈ F) → RFs K F0 H0 G H ms ds vs F'
  | [], _, _, _, _, h, _ => h
  | m :: ms, _, _, F, F', h, s => by
    obtain ⟨d, r, v, q, fp, e1, e2, h1, h2⟩ := h
    exact ⟨d, r, v, q, fp, e1, e2, h1.fewer s, RFs.fewer h2 fun a ha => (List.mem_append.mp ha).elim (fun z => List.mem_append_left _ (s a z)) fun z => List.mem_append_right _ z⟩
theorem RF.old {F0 F1 F : List Addr} {G0 H0 G1 H1 G H : Hp} {d : D} {v : V} {fp : List Addr} (h : RF K F1 H1 m d v F G H fp) (t : Tr F0 G0 H0 F1 G1 H1) : RF K F0 H0 m d v F G H fp := by
  cases m with
  | ow n => obtain ⟨o, nd, q⟩ := h; exact ⟨o, nd, fun a ha => ⟨(q a ha).1, (q a ha).2.1, (q a ha).2.2.elim (fun z => t.fp a z) fun z => .inr (t.back z)⟩⟩
  | _ => exact h
theorem RFs.old {F0 F1 : List Addr} {G0 H0 G1 H1 G H : Hp} (t : Tr F0 G0 H0 F1 G1 H1) : ∀ {ms : List M} {ds : List D} {vs : List V} {F : List Addr}, RFs K F1 H1 G H ms ds vs F → RFs K F0 H0 G H ms ds vs F
  | [], _, _, _, h => h
  | m :: ms, _, _, F, h => by
    obtain ⟨d, r, v, q, fp, e1, e2, h1, h2⟩ := h
    exact ⟨d, r, v, q, fp, e1, e2, h1.old t, RFs.old t h2⟩
/-- younger values lie apart from what stood already -/
theorem RFs.apart {F1 : List Addr} {H1 G H : Hp} {fp0 : List Addr} (h0 : ∀ a ∈ fp0, a ∉ F1 ∧ H1 a ≠ none) : ∀ {ms : List M} {ds : List D} {vs : List V} {F : List Addr}, RFs K F1 H1 G H ms ds vs F → RFs K F1 H1 G H ms ds vs (F ++ fp0)
  | [], _, _, _, h => h
  | m :: ms, _, _, F, h => by
    obtain ⟨d, r, v, q, fp, e1, e2, h1, h2⟩ := h
    refine ⟨d, r, v, q, fp, e1, e2, ?_, ?_⟩
    · cases m with
      | ow n =>
        obtain ⟨o, nd, k⟩ := h1
        refine ⟨o, nd, fun a ha => ⟨(k a ha).1, fun z => ?_, (k a ha).2.2⟩⟩
        rcases List.mem_append.mp z with y | y
        · exact (k a ha).2.1 y
        · rcases (k a ha).2.2 with x | x
          · exact (h0 a y).1 x
          · exact (h0 a y).2 x
      | _ => exact h1
    · exact (RFs.apart h0 h2).fewer fun a ha => by
        rcases List.mem_append.mp ha with z | z
        · rcases List.mem_append.mp z with y | y
          · exact List.mem_append_left _ (List.mem_append_left _ y)
          · exact List.mem_append_right _ y
        · exact List.mem_append_left _ (List.mem_append_right _ z)
def stM : M → Bool
  | .sh => true
  | .ow _ => true
  | _ => false
theorem stM_or {m : M} (h : stM m = true) : m = .sh ∨ ∃ n, m = .ow n := by
  cases m with
  | sh => exact .inl rfl
  | ow n => exact .inr ⟨n, rfl⟩
  | un => cases h
  | lk => cases h
  | bo => cases h
  | vw n => cases h
def SemP (K : PySem.W.Frag) (ms : List M) (mds : List M) (f : FA) (t : TA) : Prop :=
  ∀ env σ fps G H ds env' Q, Sat K ms env σ fps G H → f env = some (ds, env') →
    (∀ vs fps' G' H', Tr fps.flatten G H fps'.flatten G' H' → Sat K ms env' σ fps' G' H' → RFs K fps.flatten H G' H' mds ds vs fps'.flatten → Q vs H') → t σ H Q
theorem semP_nil : SemP K ms [] nilF tNil := by
  intro env σ fps G H ds env' Q S e k
  cases e
  exact k [] fps G H (Tr.refl _ _ _) S ⟨rfl, rfl⟩
theorem semP_cons {mds : List M} {fs : FA} {ts : TA} (ha : SemE K ms p ma fa ta) (hs : SemP K ms mds fs ts) (hm : stM ma = true) : SemP K ms (ma :: mds) (consF fa fs) (tCons ta ts) := by
  intro env σ fps G H ds env' Q S e k
  obtain ⟨x, e1, r, ex, er, rfl⟩ := consF_some e
  refine ha env σ fps G H x e1 _ S ex fun v f1 G1 H1 t1 p1 S1 r1 => ?_
  obtain ⟨fp, r1'⟩ := r1.rf (stM_or hm)
  refine hs e1 σ f1 G1 H1 r env' _ S1 er fun us f2 G2 H2 t2 S2 r2 => ?_
  obtain ⟨r1'', ap⟩ := r1'.step t2
  exact k (v :: us) f2 G2 H2 (t1.trans t2) S2 ⟨x, r, v, us, fp, rfl, rfl, r1'', (RFs.apart ap r2).old t1⟩
/-- stores of several values -/
def setsF : List Nat → List D → List D → List D
  | i :: is, d :: ds, env => setsF is ds (env.set i d)
  | _, _, env => env
def setsM : List Nat → List M → List M → List M
  | i :: is, m :: mds, ms => setsM is mds (ms.set i m)
  | _, _, ms => ms
def setsS : List Nat → List V → L2.St → L2.St
  | i :: is, v :: vs, σ => setsS is vs (σ.set i (some v))
  | _, _, σ => σ
theorem sets_ok {F0 : List Addr} {H0 G H : Hp} : ∀ {is : List Nat} {mds ms : List M} {ds env : List D} {vs : List V} {σ : L2.St} {fps : List (List Addr)}, is.length = mds.length → (∀ i ∈ is, rms[i]? = some .un) → mds.all stM = true → Sat K ms env σ fps G H → RFs K F0 H0 G H mds ds vs fps.flatten →
    ∃ fps', Sat K (setsM is mds ms) (setsF is ds env) (setsS is vs σ) fps' G H ∧ (∀ a ∈ fps'.flatten, a ∈ fps.flatten ∨ a ∈ F0 ∨ H0 a = none) ∧ Pins rms σ (setsS is vs σ)
  | [], [], ms, ds, env, vs, σ, fps, _, _, _, S, _ => ⟨fps, S, fun a h => .inl h, Pins.refl⟩
  | i :: is, m :: mds, ms, ds, env, vs, σ, fps, hl, hi, hm, S, h => by
    obtain ⟨d, r, v, q, fp, rfl, rfl, h1, h2⟩ := h
    simp only [List.all_cons, Bool.and_eq_true] at hm
    have rr : RR K F0 H0 m d v fps.flatten G H := by
      cases m with
      | sh => exact h1.1
      | ow n => exact ⟨fp, h1⟩
      | un => exact h1.elim
      | lk => exact h1.elim
      | bo => exact h1.elim
      | vw n => exact h1.elim
    have key : ∃ f2, Sat K (ms.set i m) (env.set i d) (σ.set i (some v)) f2 G H ∧ (∀ a ∈ f2.flatten, a ∈ fps.flatten ++ fp) ∧ ∀ a ∈ fp, a ∈ F0 ∨ H0 a = none := by
      cases m with
      | sh =>
        refine ⟨fps.set i [], S.set i (m := .sh) ⟨rfl, v, rfl, h1.1⟩ List.nodup_nil (fun _ z => nomatch z) (fun _ z => nomatch z), fun a ha => List.mem_append_left _ ((mem_flatten_set ha).elim (fun z => nomatch z) id), fun a ha => ?_⟩
        rw [h1.2] at ha; exact nomatch ha
      | ow n =>
        obtain ⟨o, nd, k⟩ := h1
        exact ⟨fps.set i fp, S.set i (m := .ow n) ⟨v, rfl, o⟩ nd (fun a ha => (k a ha).1) (fun a ha hz => absurd hz (k a ha).2.1), fun a ha => (mem_flatten_set ha).elim (fun z => List.mem_append_right _ z) fun z => List.mem_append_left _ z, fun a ha => (k a ha).2.2⟩
      | un => exact h1.elim
      | lk => exact h1.elim
      | bo => exact h1.elim
      | vw n => exact h1.elim
    obtain ⟨f2, S2, sub, old⟩ := key
    obtain ⟨f3, S3, sub3, p3⟩ := sets_ok (is := is) (by simpa using hl) (fun j hj => hi j (List.mem_cons_of_mem _ hj)) hm.2 S2 (h2.fewer sub)
    refine ⟨f3, S3, fun a ha => ?_, (pins_set (hi i List.mem_cons_self)).trans p3⟩
    rcases sub3 a ha with z | z
    · rcases List.mem_append.mp (sub a z) with y | y
      · exact .inl y
      · exact .inr (old a y)
    · exact .inr z
  | [], _ :: _, _, _, _, _, _, _, hl, _, _, _, _ => by simp at hl
  | _ :: _, [], _, _, _, _, _, _, hl, _, _, _, _ => by simp at hl
theorem RFs.lens {F0 : List Addr} {H0 G H : Hp} : ∀ {ms : List M} {ds : List D} {vs : List V} {F : List Addr}, RFs K F0 H0 G H ms ds vs F → ds.length = ms.length ∧ vs.length = ms.length
  | [], _, _, _, h => by obtain ⟨rfl, rfl⟩ := h; exact ⟨rfl, rfl⟩
  | m :: ms, _, _, _, h => by
    obtain ⟨d, r, v, q, fp, rfl, rfl, h1, h2⟩ := h
    obtain ⟨a, b⟩ := RFs.lens h2
    exact ⟨by simp [a], by simp [b]⟩
def parF (is : List Nat) (fs : FA) : FS := fun env => (fs env).map fun q => .nx (setsF is q.1 q.2)
theorem sem_par {i j : Nat} {fs : FA} {ts : TA} {m1 m2 : M} (h : SemP K ms [m1, m2] fs ts) (hm : [m1, m2].all stM = true) (hi : rms[i]? = some .un) (hj : rms[j]? = some .un) : SemS K rm rms ms (setsM [i, j] [m1, m2] ms) (parF [i, j] fs) (tPar i j ts) := by
  intro env σ fps G H o De S e kn kr
  unfold parF at e
  cases q : fs env with
  | none => rw [q] at e; cases e
  | some r =>
    rw [q] at e
    cases e
    refine h env σ fps G H r.1 r.2 _ S q fun vs f1 G1 H1 t1 S1 r1 => ?_
    have hv := r1.lens.2
    match vs, hv with
    | [v, w], _ =>
      obtain ⟨f2, S2, sub, pp⟩ := sets_ok (rms := rms) (is := [i, j]) rfl (fun x hx => by
        rcases List.mem_cons.mp hx with z | z
        · rw [z]; exact hi
        · have : x = j := by simpa using z
          rw [this]; exact hj) hm S1 r1
      exact ⟨v, w, rfl, kn _ _ f2 G1 H1 rfl (tr_set t1 sub) pp S2⟩
theorem sem_par3 {i j l : Nat} {fs : FA} {ts : TA} {m1 m2 m3 : M} (h : SemP K ms [m1, m2, m3] fs ts) (hm : [m1, m2, m3].all stM = true) (hi : rms[i]? = some .un) (hj : rms[j]? = some .un) (hl : rms[l]? = some .un) :
    SemS K rm rms ms (setsM [i, j, l] [m1, m2, m3] ms) (parF [i, j, l] fs) (tPar3 i j l ts) := by
  intro env σ fps G H o De S e kn kr
  unfold parF at e
  cases q : fs env with
  | none => rw [q] at e; cases e
  | some r =>
    rw [q] at e
    cases e
    refine h env σ fps G H r.1 r.2 _ S q fun vs f1 G1 H1 t1 S1 r1 => ?_
    have hv := r1.lens.2
    match vs, hv with
    | [v, w, u], _ =>
      obtain ⟨f2, S2, sub, pp⟩ := sets_ok (rms := rms) (is := [i, j, l]) rfl (fun x hx => by
        rcases List.mem_cons.mp hx with z | z
        · rw [z]; exact hi
        · rcases List.mem_cons.mp z with y | y
          · rw [y]; exact hj
          · have : x = l := by simpa using y
            rw [this]; exact hl) hm S1 r1
      exact ⟨v, w, u, rfl, kn _ _ f2 G1 H1 rfl (tr_set t1 sub) pp S2⟩
/-- x, y, .. = a, b, .. by a tuple -/
def gNames : List Nat → TGs
  | [] => gNil
  | i :: is => gCons (gName i) (gNames is)
theorem gNames_ok {H : Hp} : ∀ (is : List Nat) (vs : List V) (σ : L2.St) (Q : L2.St → Hp → Prop), is.length = vs.length → Q (setsS is vs σ) H → gNames is vs σ H Q
  | [], [], σ, Q, _, h => ⟨rfl, h⟩
  | i :: is, v :: vs, σ, Q, hl, h => ⟨v, vs, rfl, gNames_ok is vs _ Q (by simpa using hl) h⟩
  | [], _ :: _, _, _, hl, _ => by simp at hl
  | _ :: _, [], _, _, hl, _ => by simp at hl
theorem sem_parT {is : List Nat} {mds : List M} {fs : FA} {ts : TA} (h : SemP K ms mds fs ts) (hm : mds.all stM = true) (hl : is.length = mds.length) (hz : mds.length ≤ sizeLine) (hi : ∀ i ∈ is, rms[i]? = some .un) {n : Nat} (hn : is.length = n) :
    SemS K rm rms ms (setsM is mds ms) (parF is fs) (tAsg (tTup ts) (gTup K n (gNames is))) := by
  intro env σ fps G H o De S e kn kr
  unfold parF at e
  cases q : fs env with
  | none => rw [q] at e; cases e
  | some r =>
    rw [q] at e
    cases e
    refine h env σ fps G H r.1 r.2 _ S q fun vs f1 G1 H1 t1 S1 r1 => ⟨by rw [r1.lens.2]; exact hz, fun a ha => ?_⟩
    have S1' := S1.allocO (o := .tup vs) ha
    have t1' : Tr fps.flatten G H f1.flatten G1 (upd H1 a (.tup vs)) := t1.trans (Tr.allocO ha)
    have r1' : RFs K fps.flatten H G1 (upd H1 a (.tup vs)) mds r.1 vs f1.flatten := by
      have : ∀ {ms : List M} {ds : List D} {vs' : List V} {F : List Addr}, RFs K fps.flatten H G1 H1 ms ds vs' F → RFs K fps.flatten H G1 (upd H1 a (.tup vs)) ms ds vs' F := by
        intro ms
        induction ms with
        | nil => intro ds vs' F h; exact h
        | cons m ms ih =>
          rintro _ _ F ⟨d, r, v, q, fp, rfl, rfl, h1, h2⟩
          refine ⟨d, r, v, q, fp, rfl, rfl, ?_, ih h2⟩
          cases m with
          | ow n => exact ⟨h1.1.keep (Same.refl _) fun b _ u e => same_upd ha _ _ e, h1.2⟩
          | _ => exact h1
      exact this r1
    obtain ⟨f2, S2, sub, pp⟩ := sets_ok (rms := rms) hl hi hm S1' r1'
    refine ⟨a, vs, rfl, SqT.of upd_same, by rw [r1.lens.2, ← hl, hn], gNames_ok is vs σ _ (by rw [hl, r1.lens.2]) ?_⟩
    exact kn _ _ f2 G1 _ rfl (tr_set t1' sub) pp S2
end

/-! ### statements over families -/
section
variable {P : Program} {w : World} {K : PySem.W.Frag} {mg : Str → Option Value} {base : Heap} {N : List Str} {sc : Scope} {lv : Nat} {oc : Option (List Str)} {F : Fm P w K mg base N sc lv oc}
variable {ms ms1 ms2 ms' msL msB rms : List M} {rm m ma mb mc : M} {p pa pb pc : Bool} {e a b c : Expr} {es rest : List Expr} {fa fb fc f : FE} {fs : FA} {ga gb g : FT} {s1 s2 gs : FS} {pos pos' : Pos} {st : Stmt} {sts : List Stmt} {mds : List M} {x : Str}
theorem bv_nil : BV F rm rms ms ms [] skipF := ⟨_, fun _ => pss_nil, sem_skip⟩
theorem bv_cons (h1 : SV F rm rms ms ms1 st s1) (h2 : BV F rm rms ms1 ms2 sts s2) : BV F rm rms ms ms2 (st :: sts) (seqF s1 s2) := by
  obtain ⟨t, a1, a2⟩ := h1
  obtain ⟨u, b1, b2⟩ := h2
  exact ⟨_, fun i => pss_cons (a1 i) (b1 i), sem_seq a2 b2⟩
theorem bv_one (h1 : SV F rm rms ms ms1 st s1) : BV F rm rms ms ms1 [st] s1 := let ⟨t, a1, a2⟩ := h1; ⟨t, fun i => pss_one (a1 i), a2⟩
theorem bv_freeze (i : Nat) {n : Nat} (h : BV F rm rms (ms.set i .sh) ms' sts gs) (hi : ms[i]? = some (.ow n) := by rfl) : BV F rm rms ms ms' sts gs := let ⟨t, a1, a2⟩ := h; ⟨t, a1, sem_freeze i hi a2⟩
theorem bv_freezeEnd (i : Nat) {n : Nat} (h : BV F rm rms ms ms1 sts gs) (hi : ms1[i]? = some (.ow n) := by rfl) : BV F rm rms ms (ms1.set i .sh) sts gs := let ⟨t, a1, a2⟩ := h; ⟨t, a1, sem_freezeEnd i hi a2⟩
theorem bv_post (h : BV F rm rms ms ms1 sts gs) (w : weakM ms1 ms2 = true := by rfl) : BV F rm rms ms ms2 sts gs := let ⟨t, a1, a2⟩ := h; ⟨t, a1, sem_post a2 w⟩
theorem bv_pre (h : BV F rm rms ms1 ms2 sts gs) (w : weakM ms ms1 = true := by rfl) : BV F rm rms ms ms2 sts gs := let ⟨t, a1, a2⟩ := h; ⟨t, a1, sem_pre a2 w⟩
theorem sv_freeze (i : Nat) {n : Nat} (h : SV F rm rms (ms.set i .sh) ms' st gs) (hi : ms[i]? = some (.ow n) := by rfl) : SV F rm rms ms ms' st gs := let ⟨t, a1, a2⟩ := h; ⟨t, a1, sem_freeze i hi a2⟩
theorem sv_post (h : SV F rm rms ms ms1 st gs) (w : weakM ms1 ms2 = true := by rfl) : SV F rm rms ms ms2 st gs := let ⟨t, a1, a2⟩ := h; ⟨t, a1, sem_post a2 w⟩
theorem sv_never : SV F rm rms ms ms' st (fun _ => none) := ⟨_, fun _ => ps_never, sem_never⟩
theorem bv_never : BV F rm rms ms ms' sts (fun _ => none) := ⟨_, fun _ => pss_never, sem_never⟩
theorem sv_expr (h : EV F ms p e m f) (hs : ∀ i, swapsWith e none pos.line (F.X i).env = pure false := by intro _; rfl) : SV F rm rms ms ms (.Expr e pos) (dropF f) := by
  obtain ⟨t, a1, a2⟩ := h
  exact ⟨_, fun i => ps_expr (a1 i) (hs i), sem_drop a2⟩
theorem sv_ret (h : EV F ms p e rm f) (hw : weakM ms rms = true := by rfl) : SV F rm rms ms ms' (.Return (some e) pos) (retF f) := by
  obtain ⟨t, a1, a2⟩ := h
  exact ⟨_, fun i => ps_ret (a1 i), sem_ret a2 hw⟩
theorem sv_retN (hw : weakM ms rms = true := by rfl) : SV F .sh rms ms ms' (.Return none pos) retNF := ⟨_, fun i => ps_retN, sem_retN hw⟩
theorem sv_retO (i : Nat) {n : Nat} (h : ms[i]? = some (.ow n) := by rfl) (hw : weakM (ms.set i .un) rms = true := by rfl) (hN : N[i]? = some x := by rfl) (hv : Vis sc x := by first | exact Or.inl rfl | exact Or.inr (Or.inl rfl) | exact Or.inr (Or.inr rfl))
    (hd : (x == ("__debug__" : Str)) = false := by decide) (hcd : (x == ("__classdict__" : Str)) = false := by decide) : SV F (.ow n) rms ms ms' (.Return (some (.Name x pos')) pos) (retF (varF i)) :=
  ⟨_, fun j => ps_ret (pe_var (by rw [F.hN]; exact hN) (by rw [F.hsc]; exact hv) hd hcd), sem_retO i h hw⟩
theorem sv_if (hc : TV F ms p c g) (h1 : BV F rm rms ms ms' sts s1) {sts2 : List Stmt} (h2 : BV F rm rms ms ms' sts2 s2) : SV F rm rms ms ms' (.If c sts sts2 pos) (iteF' g s1 s2) := by
  obtain ⟨t, c1, c2⟩ := hc
  obtain ⟨u, a1, a2⟩ := h1
  obtain ⟨v, b1, b2⟩ := h2
  exact ⟨_, fun i => ps_if (c1 i) (a1 i) (b1 i), sem_ifS c2 a2 b2⟩
/-! stores -/
def StoreOk (sc : Scope) (oc : Option (List Str)) (x : Str) : Prop := Loc sc x ∧ (sc.names.lookup x = some .local ∨ (oc.all fun l => l.contains x) = true)
theorem StoreOk.loc (h : StoreOk sc oc x) (i : F.ι) : Loc (F.X i).env.scope x := by rw [F.hsc]; exact h.1
theorem StoreOk.fn (h : StoreOk sc oc x) (i : F.ι) : (F.X i).fn x = true ∨ (F.X i).env.scope.names.lookup x = some .local := by
  rw [F.hsc]
  exact h.2.elim .inr fun z => .inl (F.fn i x z)
theorem sv_set (i : Nat) (h : EV F ms p e m f) (hm : stM m = true := by rfl) (hi : rms[i]? = some .un := by rfl) (hN : N[i]? = some x := by rfl)
    (hs : StoreOk sc oc x := by first | exact ⟨Or.inl rfl, Or.inl rfl⟩ | exact ⟨Or.inr rfl, Or.inr rfl⟩) (hsw : ∀ i, swapsWith e (some (.Name x pos')) pos.line (F.X i).env = pure false := by intro _; rfl) :
    SV F rm rms ms (ms.set i m) (.Assign [.Name x pos'] e pos) (setF i f) := by
  obtain ⟨t, a1, a2⟩ := h
  exact ⟨_, fun j => ps_set (by rw [F.hN]; exact F.nd) (by rw [F.hN]; exact hN) (hs.loc j) (a1 j) (hsw j) (hs.fn j), sem_set i a2 (stM_or hm) hi⟩
theorem gv_name (i : Nat) (hi : rms[i]? = some .un := by rfl) (hN : N[i]? = some x := by rfl) (hs : StoreOk sc oc x := by first | exact ⟨Or.inl rfl, Or.inl rfl⟩ | exact ⟨Or.inr rfl, Or.inr rfl⟩) :
    GV F rms ms (ms.set i .sh) (.Name x pos) (nameG i) :=
  ⟨_, fun j => pg_name (by rw [F.hN]; exact F.nd) (by rw [F.hN]; exact hN) (hs.loc j) (hs.fn j), sem_gName i hi⟩
theorem gsv_nil : GsV F rms ms ms [] nilG := ⟨_, fun _ => pgs_nil, sem_gNil⟩
theorem gsv_cons {bb : FG} {cc : FGs} (h1 : GV F rms ms ms1 e bb) (h2 : GsV F rms ms1 ms2 es cc) (hs : ∀ i, (assignEach (e :: es) (F.X i).env).map (·.2) = assign e (F.X i).env :: (assignEach es (F.X i).env).map (·.2) := by intro _; rfl) :
    GsV F rms ms ms2 (e :: es) (consG bb cc) := by
  obtain ⟨t, a1, a2⟩ := h1
  obtain ⟨u, b1, b2⟩ := h2
  exact ⟨_, fun i => pgs_cons (a1 i) (b1 i) (hs i), sem_gCons a2 b2⟩
theorem gv_tup {cc : FGs} {n : Nat} {k : Nat} (h : GsV F rms ms ms' es cc) (hn : ∀ i, (assignEach es (F.X i).env).length = n := by intro _; rfl) (hst : ∀ i, (assignEach es (F.X i).env).findIdx? (·.1) = none := by intro _; rfl) :
    GV F rms ms ms' (.Tuple es k pos) (tupG n cc) := by
  obtain ⟨t, a1, a2⟩ := h
  refine ⟨_, fun i => ?_, sem_gTup a2⟩
  have := pg_tup (k := k) (pos := pos) (F.calm i) (a1 i) (hn i) (hst i)
  rw [F.hK] at this
  exact this
theorem sv_asg {tg : Expr} {bb : FG} (h : EV F ms p e .sh f) (hg : GV F rms ms ms' tg bb) (hs : ∀ i, swapsWithSole [tg] e pos.line (F.X i).env = pure false := by intro _; rfl) (hw : ∀ i, swappedStores [tg] e (F.X i).env = pure none := by intro _; rfl)
    (h1 : ∀ i, (assignEach [tg] (F.X i).env).map (·.2) = [assign tg (F.X i).env] := by intro _; rfl) : SV F rm rms ms ms' (.Assign [tg] e pos) (asgF f bb) := by
  obtain ⟨t, a1, a2⟩ := h
  obtain ⟨u, b1, b2⟩ := hg
  exact ⟨_, fun i => ps_asg (a1 i) (b1 i) (hs i) (hw i) (h1 i), sem_asg a2 b2⟩
/-! several values -/
def PV (F : Fm P w K mg base N sc lv oc) (ms : List M) (es : List Expr) (mds : List M) (f : FA) : Prop := ∃ t, (∀ i, PA (F.X i) es t) ∧ SemP K ms mds f t
theorem pv_nil : PV F ms [] [] nilF := ⟨_, fun _ => pa_nil, semP_nil⟩
theorem pv_cons (ha : EV F ms pa e ma fa) (hs : PV F ms es mds fs) (hm : stM ma = true := by rfl) (hst : ∀ i, starEach (e :: es) (F.X i).env = (false, eval e (F.X i).env) :: starEach es (F.X i).env := by intro _; rfl) : PV F ms (e :: es) (ma :: mds) (consF fa fs) := by
  obtain ⟨t, a1, a2⟩ := ha
  obtain ⟨u, s1, s2⟩ := hs
  exact ⟨_, fun i => pa_cons (a1 i) (s1 i) (hst i), semP_cons a2 s2 hm⟩
theorem sv_par (i j : Nat) {y : Str} {px py pt : Pos} {kt k2 pt2} {m1 m2 : M} (h : PV F ms [a, b] [m1, m2] fs) (hm : [m1, m2].all stM = true := by rfl) (hi : rms[i]? = some .un := by rfl) (hj : rms[j]? = some .un := by rfl) (hij : i ≠ j := by decide)
    (hNi : N[i]? = some x := by rfl) (hNj : N[j]? = some y := by rfl) (hx : sc.names.lookup x = some .local := by rfl) (hy : sc.names.lookup y = some .local := by rfl)
    (hw : ∀ i, swappedStores [.Tuple [.Name x px, .Name y py] kt pt] (.Tuple [a, b] k2 pt2) (F.X i).env = pure (some [x, y]))
    (hs : ∀ i, swapsWithSole [.Tuple [.Name x px, .Name y py] kt pt] (.Tuple [a, b] k2 pt2) pos.line (F.X i).env = pure false := by intro _; rfl) :
    SV F rm rms ms (setsM [i, j] [m1, m2] ms) (.Assign [.Tuple [.Name x px, .Name y py] kt pt] (.Tuple [a, b] k2 pt2) pos) (parF [i, j] fs) := by
  obtain ⟨t, a1, a2⟩ := h
  exact ⟨_, fun q => ps_par (F.calm q) (by rw [F.hN]; exact F.nd) (by rw [F.hN]; exact hNi) (by rw [F.hN]; exact hNj) hij (by rw [F.hsc]; exact hx) (by rw [F.hsc]; exact hy) (a1 q) (hw q) (hs q), sem_par a2 hm hi hj⟩
end
end DL
namespace DL
open PySem PySem.Spec PyProof.Rows L2

/-- a scope alone, as an environment -/
def envS (sc : Scope) : Env := { scope := sc, locals := 0, globals := 0, cells := [] }
theorem swaps_env (e : Expr) (t : Option Expr) (l : Nat) (env : Env) : swapsWith e t l env = swapsWith e t l (envS env.scope) := rfl
theorem sole_env (ts : List Expr) (e : Expr) (l : Nat) (env : Env) : swapsWithSole ts e l env = swapsWithSole ts e l (envS env.scope) := by
  cases ts with
  | nil => rfl
  | cons t ts => cases ts with
    | nil => exact swaps_env _ _ _ _
    | cons _ _ => rfl
theorem swapped_env (ts : List Expr) (e : Expr) (env : Env) : swappedStores ts e env = swappedStores ts e (envS env.scope) := rfl

section
variable {P : Program} {w : World} {K : PySem.W.Frag} {mg : Str → Option Value} {base : Heap} {N : List Str} {sc : Scope} {lv : Nat} {oc : Option (List Str)} {F : Fm P w K mg base N sc lv oc}
variable {ms ms1 ms2 ms' msL msB rms pms : List M} {rm m ma mb mc : M} {p pa pb pc pi pt pe : Bool} {e a b c tg iter elt : Expr} {es rest ifs : List Expr} {fa fb fc f fe : FE} {fs fi : FA} {ga gb g gt : FT} {s1 s2 gs : FS} {pos pos' : Pos} {st : Stmt} {sts : List Stmt} {mds : List M} {x : Str} {bb : FG}
/-- x = e, e a comprehension too -/
theorem sv_set' (i : Nat) (h : EV F ms p e m f) (hm : stM m = true := by rfl) (hi : rms[i]? = some .un := by rfl) (hN : N[i]? = some x := by rfl)
    (hs : StoreOk sc oc x := by first | exact ⟨Or.inl rfl, Or.inl rfl⟩ | exact ⟨Or.inr rfl, Or.inr rfl⟩) (hsw : swapsWith e (some (.Name x pos')) pos.line (envS sc) = pure false := by rfl) :
    SV F rm rms ms (ms.set i m) (.Assign [.Name x pos'] e pos) (setF i f) :=
  sv_set i h hm hi hN hs fun j => by rw [swaps_env, F.hsc]; exact hsw
theorem sv_parS (i j : Nat) {y : Str} {px py pt' : Pos} {kt k2 pt2} {m1 m2 : M} (h : PV F ms [a, b] [m1, m2] fs) (hw : swappedStores [.Tuple [.Name x px, .Name y py] kt pt'] (.Tuple [a, b] k2 pt2) (envS sc) = pure (some [x, y]) := by rfl)
    (hm : [m1, m2].all stM = true := by rfl) (hi : rms[i]? = some .un := by rfl) (hj : rms[j]? = some .un := by rfl) (hij : i ≠ j := by decide)
    (hNi : N[i]? = some x := by rfl) (hNj : N[j]? = some y := by rfl) (hx : sc.names.lookup x = some .local := by rfl) (hy : sc.names.lookup y = some .local := by rfl) :
    SV F rm rms ms (setsM [i, j] [m1, m2] ms) (.Assign [.Tuple [.Name x px, .Name y py] kt pt'] (.Tuple [a, b] k2 pt2) pos) (parF [i, j] fs) :=
  sv_par i j h hm hi hj hij hNi hNj hx hy (fun q => by rw [swapped_env, F.hsc]; exact hw)
theorem sv_par3S (i j l : Nat) {y z : Str} {px py pz pt' : Pos} {kt k2 pt2} {m1 m2 m3 : M} (h : PV F ms [a, b, c] [m1, m2, m3] fs) (hw : swappedStores [.Tuple [.Name x px, .Name y py, .Name z pz] kt pt'] (.Tuple [a, b, c] k2 pt2) (envS sc) = pure (some [x, y, z]) := by rfl)
    (hm : [m1, m2, m3].all stM = true := by rfl) (hi : rms[i]? = some .un := by rfl) (hj : rms[j]? = some .un := by rfl) (hl : rms[l]? = some .un := by rfl) (hij : i ≠ j := by decide) (hil : i ≠ l := by decide) (hjl : j ≠ l := by decide)
    (hNi : N[i]? = some x := by rfl) (hNj : N[j]? = some y := by rfl) (hNl : N[l]? = some z := by rfl) (hx : sc.names.lookup x = some .local := by rfl) (hy : sc.names.lookup y = some .local := by rfl) (hz : sc.names.lookup z = some .local := by rfl) :
    SV F rm rms ms (setsM [i, j, l] [m1, m2, m3] ms) (.Assign [.Tuple [.Name x px, .Name y py, .Name z pz] kt pt'] (.Tuple [a, b, c] k2 pt2) pos) (parF [i, j, l] fs) := by
  obtain ⟨t, a1, a2⟩ := h
  exact ⟨_, fun q => ps_par3 (F.calm q) (by rw [F.hN]; exact F.nd) (by rw [F.hN]; exact hNi) (by rw [F.hN]; exact hNj) (by rw [F.hN]; exact hNl) hij hil hjl (by rw [F.hsc]; exact hx) (by rw [F.hsc]; exact hy) (by rw [F.hsc]; exact hz) (a1 q)
    (by rw [swapped_env, F.hsc]; exact hw) (by rw [sole_env]; rfl), sem_par3 a2 hm hi hj hl⟩
/-- targets that are plain names -/
def NmV (F : Fm P w K mg base N sc lv oc) (es : List Expr) (is : List Nat) : Prop := ∀ i, PGs (F.X i) es (gNames is)
theorem nm_nil : NmV F [] [] := fun _ => pgs_nil
theorem nm_cons (i : Nat) {is : List Nat} (h : NmV F es is) (hN : N[i]? = some x := by rfl) (hs : StoreOk sc oc x := by first | exact ⟨Or.inl rfl, Or.inl rfl⟩ | exact ⟨Or.inr rfl, Or.inr rfl⟩)
    (hh : ∀ i, (assignEach (.Name x pos :: es) (F.X i).env).map (·.2) = assign (.Name x pos) (F.X i).env :: (assignEach es (F.X i).env).map (·.2) := by intro _; rfl) : NmV F (.Name x pos :: es) (i :: is) :=
  fun j => pgs_cons (pg_name (by rw [F.hN]; exact F.nd) (by rw [F.hN]; exact hN) (hs.loc j) (hs.fn j)) (h j) (hh j)
/-- x, y = a, b where a name is captured: by a tuple -/
theorem sv_parT {is : List Nat} {ts vs : List Expr} {kt k2} {pt' pt2 : Pos} (h : PV F ms vs mds fs) (hg : NmV F ts is) (hw : swappedStores [.Tuple ts kt pt'] (.Tuple vs k2 pt2) (envS sc) = pure none := by rfl)
    (hm : mds.all stM = true := by rfl) (hl : is.length = mds.length := by rfl) (hz : mds.length ≤ sizeLine := by (show _ ≤ sizeLine; decide)) (hi : ∀ i ∈ is, rms[i]? = some .un := by decide)
    (hn : ∀ i, (assignEach ts (F.X i).env).length = is.length := by intro _; rfl) (hst : ∀ i, (assignEach ts (F.X i).env).findIdx? (·.1) = none := by intro _; rfl) :
    SV F rm rms ms (setsM is mds ms) (.Assign [.Tuple ts kt pt'] (.Tuple vs k2 pt2) pos) (parF is fs) := by
  obtain ⟨t, a1, a2⟩ := h
  refine ⟨tAsg (tTup t) (gTup K is.length (gNames is)), fun i => ?_, sem_parT a2 hm hl hz hi rfl⟩
  have hg' : PG (F.X i) (.Tuple ts kt pt') (gTup K is.length (gNames is)) := by
    have := pg_tup (k := kt) (pos := pt') (F.calm i) (hg i) (hn i) (hst i)
    rw [F.hK] at this
    exact this
  exact ps_asg (pe_tup (a1 i)) hg' (by rw [sole_env]; rfl) (by rw [swapped_env, F.hsc]; exact hw) rfl
/-! what is walked -/
theorem iv_list (h : EV F ms p e .sh f) : IV F ms p tg e (lstF f) := by
  obtain ⟨t, a1, a2⟩ := h
  refine ⟨_, fun i => ?_, sem_iList a2⟩
  have := pi_know (pi_list (tg := tg) (a1 i))
  rw [F.hK] at this
  exact this
theorem iv_tup (h : EV F ms p e .sh f) : IV F ms p tg e (tupF f) := by
  obtain ⟨t, a1, a2⟩ := h
  refine ⟨_, fun i => ?_, sem_iTup a2⟩
  have := pi_know (pi_tup (tg := tg) (a1 i))
  rw [F.hK] at this
  exact this
theorem iv_str (h : EV F ms p e m f) (hm : m = .sh ∨ m = .bo := by first | exact Or.inl rfl | exact Or.inr rfl) : IV F ms p tg e (strF f) := by
  obtain ⟨t, a1, a2⟩ := h
  exact ⟨_, fun i => pi_str (a1 i), sem_iStr a2 hm⟩
theorem iv_range1 {p1 : Pos} (hm : mg "range" = none) (h : AV F ms p [a] [.sh] fs) (hg : GlS sc "range" := by intro env h; unfold Env.kindOf; rw [h]; rfl) (hs : ∀ i, starEach [a] (F.X i).env = [(false, eval a (F.X i).env)] := by intro _; rfl) :
    IV F ms p tg (.Call (.Name "range" p1) [a] [] pos) (rng1F fs) := by
  obtain ⟨t, a1, a2⟩ := h
  exact ⟨_, fun i => pi_range1 (hg _ (F.hsc i)) (by rw [F.hmg]; exact hm) (a1 i) (hs i), sem_iRng1 a2⟩
theorem iv_range2 {p1 : Pos} (hm : mg "range" = none) (h : AV F ms p [a, b] [.sh, .sh] fs) (hg : GlS sc "range" := by intro env h; unfold Env.kindOf; rw [h]; rfl) (hs : ∀ i, starEach [a, b] (F.X i).env = [(false, eval a (F.X i).env), (false, eval b (F.X i).env)] := by intro _; rfl)
    (hs2 : ∀ i, starEach [b] (F.X i).env = [(false, eval b (F.X i).env)] := by intro _; rfl) : IV F ms p tg (.Call (.Name "range" p1) [a, b] [] pos) (rng2F fs) := by
  obtain ⟨t, a1, a2⟩ := h
  exact ⟨_, fun i => pi_range2 (hg _ (F.hsc i)) (by rw [F.hmg]; exact hm) (a1 i) (hs i) (hs2 i), sem_iRng2 a2⟩
theorem iv_enum {p1 tpos : Pos} {elts : List Expr} {kk : Nat} (hm : mg "enumerate" = none) (h : AV F ms p [e] [.sh] fs) (hg : GlS sc "enumerate" := by intro env h; unfold Env.kindOf; rw [h]; rfl) (hs : ∀ i, starEach [e] (F.X i).env = [(false, eval e (F.X i).env)] := by intro _; rfl) :
    IV F ms p (.Tuple elts kk tpos) (.Call (.Name "enumerate" p1) [e] [] pos) (enumF fs) := by
  obtain ⟨t, a1, a2⟩ := h
  refine ⟨_, fun i => ?_, sem_iEnum a2⟩
  have := pi_know (pi_enum (kk := kk) (tpos := tpos) (elts := elts) (p := p1) (pos := pos) (hg _ (F.hsc i)) (by rw [F.hmg]; exact hm) (a1 i) (hs i))
  rw [F.hK] at this
  exact this
theorem iv_zip {p1 tpos : Pos} {elts : List Expr} {kk : Nat} (hm : mg "zip" = none) (h : AV F ms p [a, b] [.sh, .sh] fs) (hg : GlS sc "zip" := by intro env h; unfold Env.kindOf; rw [h]; rfl)
    (hs : ∀ i, starEach [a, b] (F.X i).env = (false, eval a (F.X i).env) :: starEach [b] (F.X i).env := by intro _; rfl) (hpl : ∀ i, (backTo pos (starEach [b] (F.X i).env)).any (·.1) = false := by intro _; rfl) :
    IV F ms p (.Tuple elts kk tpos) (.Call (.Name "zip" p1) [a, b] [] pos) (zipF fs) := by
  obtain ⟨t, a1, a2⟩ := h
  refine ⟨_, fun i => ?_, sem_iZip a2⟩
  have := pi_know (pi_zip (kk := kk) (tpos := tpos) (elts := elts) (p := p1) (pos := pos) (hg _ (F.hsc i)) (by rw [F.hmg]; exact hm) (a1 i) (hs i) (hpl i))
  rw [F.hK] at this
  exact this
/-! loops -/
theorem sv_for {body : List Stmt} (hi : IV F msL p tg iter fi) (hg : GV F rms msL msB tg bb) (hb : BV F rm rms msB msL body gs) (hs : ∀ i x, foldedSetIterable iter (F.X i).env x = pure x := by intro _ _; rfl) :
    SV F rm rms msL msL (.For tg iter body [] pos) (forF fi bb gs) := by
  obtain ⟨t, i1, i2⟩ := hi
  obtain ⟨u, g1, g2⟩ := hg
  obtain ⟨v, b1, b2⟩ := hb
  exact ⟨_, fun i => ps_for (by rw [F.xe]; exact PassesOwn.never) (F.calm i) (i1 i) (g1 i) (b1 i) (hs i), sem_for i2 g2 b2⟩
theorem sv_while {body : List Stmt} (n : Nat) (hc : TV F msL p c g) (hb : BV F rm rms msL msL body gs) : SV F rm rms msL msL (.While c body [] pos) (whileF g gs n) := by
  obtain ⟨t, c1, c2⟩ := hc
  obtain ⟨v, b1, b2⟩ := hb
  exact ⟨_, fun i => ps_while (by rw [F.xe]; exact PassesOwn.never) (c1 i) (b1 i), sem_while n c2 b2⟩
/-! comprehensions -/
def CV (F : Fm P w K mg base N sc lv oc) (ms : List M) (p : Bool) (ifs : List Expr) (g : FT) : Prop := ∃ t, (∀ i, PTs (F.X i) ifs t) ∧ SemT K ms p g t
def yesF : FT := fun env => some (true, env)
theorem cv_nil : CV F ms true [] yesF := ⟨_, fun _ => pts_nil, fun env σ fps G H b env' Q S e k => by cases e; exact k fps G H (Tr.refl _ _ _) (fun _ => Same.refl _) S⟩
theorem cv_one (h : TV F ms p c g) : CV F ms p [c] g := let ⟨t, a1, a2⟩ := h; ⟨_, fun i => pts_one (a1 i), a2⟩
theorem ev_lc {scope : Scope} {own : List (Str × Nat)} (hi : IV F ms pi tg iter fi) (hg : GV (F.blk scope) (outM N.length (own.map (·.2))) (blkM ms (own.map (·.2))) msB tg bb) (ht : CV (F.blk scope) msB pt ifs gt) (he : EV (F.blk scope) msB pe elt .sh fe)
    (ok : blkC N sc scope own = true := by decide +kernel) (ho : ownOk ms (own.map (·.2)) = true := by rfl) (hn : ms.length = N.length := by rfl) (hw : weakM msB (blkM ms (own.map (·.2))) = true := by rfl)
    (hs : ∀ i x, foldedSetIterable iter (F.X i).env x = pure x := by intro _ _; rfl) :
    EV F ms (pi && (pt && pe)) (.ListComp elt [⟨tg, iter, ifs, 0⟩] scope pos) (.ow 1) (compF fi (own.map (·.2)) bb gt fe) := by
  obtain ⟨wi, i1, i2⟩ := hi
  obtain ⟨g0, g1, g2⟩ := hg
  obtain ⟨tt, t1, t2⟩ := ht
  obtain ⟨te, e1, e2⟩ := he
  refine ⟨_, fun i => pe_lc (own := own) (F.calm i) (by rw [F.hN]; exact F.nd) (i1 i) (by rw [F.hN, F.hsc]; exact blkOk_by ok) (fun s H C cl fp => g1 (i, s, H, C, cl, fp)) (fun s H C cl fp => t1 (i, s, H, C, cl, fp)) (fun s H C cl fp => e1 (i, s, H, C, cl, fp)) (hs i), sem_lc i2 g2 t2 e2 ho hn hw⟩
/-- y = [..] on one line, y a local -/
theorem sv_setL (j : Nat) {scope : Scope} {own : List (Str × Nat)} {spos : Pos} (hi : IV F ms pi tg iter fi) (hg : GV (F.blk scope) (outM N.length (own.map (·.2))) (blkM ms (own.map (·.2))) msB tg bb) (ht : CV (F.blk scope) msB pt ifs gt) (he : EV (F.blk scope) msB pe elt .sh fe)
    (ok : blkC N sc scope own = true := by decide +kernel) (ho : ownOk ms (own.map (·.2)) = true := by rfl) (hn : ms.length = N.length := by rfl) (hw : weakM msB (blkM ms (own.map (·.2))) = true := by rfl)
    (hj : rms[j]? = some .un := by rfl) (hN : N[j]? = some x := by rfl) (hx : sc.names.lookup x = some .local := by rfl) (hsw : swapsWith (.ListComp elt [⟨tg, iter, ifs, 0⟩] scope pos) (some (.Name x pos')) spos.line (envS sc) = pure true := by rfl)
    (hs : ∀ i x, foldedSetIterable iter (F.X i).env x = pure x := by intro _ _; rfl) :
    SV F rm rms ms (ms.set j (.ow 1)) (.Assign [.Name x pos'] (.ListComp elt [⟨tg, iter, ifs, 0⟩] scope pos) spos) (setF j (compF fi (own.map (·.2)) bb gt fe)) := by
  obtain ⟨wi, i1, i2⟩ := hi
  obtain ⟨g0, g1, g2⟩ := hg
  obtain ⟨tt, t1, t2⟩ := ht
  obtain ⟨te, e1, e2⟩ := he
  exact ⟨_, fun i => ps_setLc (own := own) (F.calm i) (by rw [F.hN]; exact F.nd) (by rw [F.hN]; exact hN) (by rw [F.hsc]; exact hx) (by rw [swaps_env, F.hsc]; exact hsw) (i1 i) (by rw [F.hN, F.hsc]; exact blkOk_by ok) (fun s H C cl fp => g1 (i, s, H, C, cl, fp)) (fun s H C cl fp => t1 (i, s, H, C, cl, fp)) (fun s H C cl fp => e1 (i, s, H, C, cl, fp)) (hs i),
    sem_set j (sem_lc i2 g2 t2 e2 ho hn hw) (.inr ⟨1, rfl⟩) hj⟩
/-! calls of the text's own defs -/
/-- what a caller knows of a def: where it stands, its promise, its parameters -/
structure Def (P : Program) (w : World) (K : PySem.W.Frag) (mg : Str → Option Value) (base : Heap) (x : Str) (k : Nat) (ps : List Str) (pms : List M) (rm : M) (fd : FD) : Prop where
  ok : ∃ (f : Addr) (d : FuncData), mg x = some (.ref f) ∧ PySem.W.keepIn K (.ref f) = true ∧ FnG P w K mg base CX0 k f d ps (Prom K pms rm fd) ∧ Binds K d ps []
theorem Def.run {k : Nat} {ps : List Str} {fd : FD} {p1 : Pos} {t : TA} (D : Def P w K mg base x k ps pms rm fd) (hk : k ≤ lv) (ha : ∀ i, PA (F.X i) (e :: es) t)
    (hg : GlS sc x) (hdb : (x == ("__debug__" : Str)) = false) (he : ∀ i, starEach (e :: es) (F.X i).env = (false, eval e (F.X i).env) :: starEach es (F.X i).env) (hpl : ∀ i, (backTo pos (starEach es (F.X i).env)).any (·.1) = false) :
    ∀ i, PE (F.X i) (.Call (.Name x p1) (e :: es) [] pos) (tCall (Prom K pms rm fd) [] E0 t) := fun i => by
  obtain ⟨f, d, h1, h2, h3, h4⟩ := D.ok
  refine pe_callG (CX := CX0) (k := k) (f := f) (fd := d) (ps := ps) ?_ (F.gd i) ((F.room i).mono hk) (hg _ (F.hsc i)) (by rw [F.hmg]; exact h1) (by rw [F.hK]; exact h2) (by rw [F.hK]; exact h4) pass0 (ha i) hdb (he i) (hpl i)
  rw [F.hP, F.hw, F.hK, F.hmg, F.hb]
  exact h3
theorem ev_call {k : Nat} {ps : List Str} {fd : FD} {p1 : Pos} (D : Def P w K mg base x k ps pms rm fd) (ha : AV F ms p (e :: es) mds fs) (hk : k ≤ lv := by first | decide | omega) (hm : mds.all (· == .sh) = true := by rfl) (hp : pms.all (· == .sh) = true := by rfl) (hl : pms.length = mds.length := by rfl)
    (hg : GlS sc x := by intro env h; unfold Env.kindOf; rw [h]; rfl) (hdb : (x == ("__debug__" : Str)) = false := by decide)
    (he : ∀ i, starEach (e :: es) (F.X i).env = (false, eval e (F.X i).env) :: starEach es (F.X i).env := by intro _; rfl) (hpl : ∀ i, (backTo pos (starEach es (F.X i).env)).any (·.1) = false := by intro _; rfl) :
    EV F ms p (.Call (.Name x p1) (e :: es) [] pos) rm (ucallF fs fd) := by
  obtain ⟨t, a1, a2⟩ := ha
  exact ⟨_, D.run hk a1 hg hdb he hpl, sem_ucall a2 hm hp hl⟩
theorem ev_callBo {k : Nat} {ps : List Str} {fd : FD} {p1 : Pos} (D : Def P w K mg base x k ps pms rm fd) (ha : AV F ms p (e :: es) mds fs) (hk : k ≤ lv := by first | decide | omega) (hp : pms.all (· == .sh) = true := by rfl) (hl : pms.length = mds.length := by rfl)
    (hg : GlS sc x := by intro env h; unfold Env.kindOf; rw [h]; rfl) (hdb : (x == ("__debug__" : Str)) = false := by decide)
    (he : ∀ i, starEach (e :: es) (F.X i).env = (false, eval e (F.X i).env) :: starEach es (F.X i).env := by intro _; rfl) (hpl : ∀ i, (backTo pos (starEach es (F.X i).env)).any (·.1) = false := by intro _; rfl) :
    EV F ms p (.Call (.Name x p1) (e :: es) [] pos) .bo (ucallF fs fd) := by
  obtain ⟨t, a1, a2⟩ := ha
  exact ⟨_, D.run hk a1 hg hdb he hpl, sem_ucallB a2 hp hl⟩
/-- f(x, ..) where f may change the owned x -/
theorem ev_callIO (j : Nat) {n : Nat} {y : Str} {k : Nat} {ps : List Str} {fd : FD} {p1 p2 : Pos} (D : Def P w K mg base x k ps (.ow n :: pms) rm fd) (ha : AV F ms p es mds fs) (hj : ms[j]? = some (.ow n) := by rfl) (hk : k ≤ lv := by first | decide | omega) (hm : mds.all (· == .sh) = true := by rfl) (hp : pms.all (· == .sh) = true := by rfl) (hl : pms.length = mds.length := by rfl)
    (hN : N[j]? = some y := by rfl) (hv : Vis sc y := by first | exact Or.inl rfl | exact Or.inr (Or.inl rfl) | exact Or.inr (Or.inr rfl)) (hd : (y == ("__debug__" : Str)) = false := by decide) (hcd : (y == ("__classdict__" : Str)) = false := by decide)
    (hg : GlS sc x := by intro env h; unfold Env.kindOf; rw [h]; rfl) (hdb : (x == ("__debug__" : Str)) = false := by decide)
    (he : ∀ i, starEach (.Name y p2 :: es) (F.X i).env = (false, eval (.Name y p2) (F.X i).env) :: starEach es (F.X i).env := by intro _; rfl) (hpl : ∀ i, (backTo pos (starEach es (F.X i).env)).any (·.1) = false := by intro _; rfl) :
    EV F ms false (.Call (.Name x p1) (.Name y p2 :: es) [] pos) rm (ucallIO j fs fd) := by
  obtain ⟨t, a1, a2⟩ := ha
  exact ⟨_, D.run hk (fun i => pa_cons (pe_var (by rw [F.hN]; exact hN) (by rw [F.hsc]; exact hv) hd hcd) (a1 i) (he i)) hg hdb he hpl, sem_ucallIO hj a2 hm hp hl⟩
end
end DL
namespace DL
open PySem PySem.Spec PyProof.Rows L2

section
variable {K : PySem.W.Frag} {G H : Hp} {m ma mb : M} {F : List Addr}
/-! ### what a used value is, by its data -/
theorem Rep.int_ {i : Int} {v : V} (h : Rep K H (.int i) v) : v = .int i := by unfold Rep at h; exact h
theorem Rep.str_ {i : Str} {v : V} (h : Rep K H (.str i) v) : v = .str i := by unfold Rep at h; exact h
theorem Rep.bl_ {i : Bool} {v : V} (h : Rep K H (.bl i) v) : v = .bl i := by unfold Rep at h; exact h
theorem Rep.non_ {v : V} (h : Rep K H .non v) : v = .non := by unfold Rep at h; exact h
theorem Rep.lst_ {ds : List D} {v : V} (h : Rep K H (.lst ds) v) : ∃ a vs, v = .ref a ∧ H a = some (.lst vs) ∧ Reps K H ds vs := by unfold Rep at h; exact h
theorem Rep.tup_ {ds : List D} {v : V} (h : Rep K H (.tup ds) v) : ∃ a vs, v = .ref a ∧ H a = some (.tup vs) ∧ Reps K H ds vs := by unfold Rep at h; exact h
theorem Rep.dK_ {ks : List Key} {ds : List D} {v : V} (h : Rep K H (.dK ks ds) v) : ∃ a vs, v = .ref a ∧ Rd H a (.dK (ks.zip vs)) ∧ ks.length = ds.length ∧ Reps K H ds vs := by unfold Rep at h; exact h
theorem Rep.dT_ {ks : List (List Key)} {ds : List D} {v : V} (h : Rep K H (.dT ks ds) v) : ∃ a vs, v = .ref a ∧ Rd H a (.dT (ks.zip vs)) ∧ ks.length = ds.length ∧ Reps K H ds vs := by unfold Rep at h; exact h
theorem Rep.scr_ {ns : List Int} {v : V} (h : Rep K H (.scr ns) v) : ∃ a, v = .ref a ∧ SqL K H a (ns.map V.int) := by unfold Rep at h; exact h
theorem RA.int {i : Int} {v : V} (h : RA K m (.int i) v G H) (s : Same G H) : v = .int i := (h.rep s).int_
theorem RA.str {i : Str} {v : V} (h : RA K m (.str i) v G H) (s : Same G H) : v = .str i := (h.rep s).str_
theorem RA.bl {i : Bool} {v : V} (h : RA K m (.bl i) v G H) (s : Same G H) : v = .bl i := (h.rep s).bl_
theorem RA.non {v : V} (h : RA K m .non v G H) (s : Same G H) : v = .non := (h.rep s).non_
/-- modes whose items are shared -/
def itM : M → Bool
  | .sh => true
  | .vw n => n == 1
  | _ => false
theorem itM_or (h : itM m = true) : m = .sh ∨ m = .vw 1 := by
  cases m with
  | sh => exact .inl rfl
  | vw n => right; have : n = 1 := by simpa [itM] using h
            rw [this]
  | _ => cases h
theorem RA.lst {ds : List D} {v : V} (h : RA K m (.lst ds) v G H) (s : Same G H) (hm : itM m = true) : ∃ a vs, v = .ref a ∧ H a = some (.lst vs) ∧ Reps K G ds vs := by
  rcases itM_or hm with rfl | rfl
  · have h' : Rep K G (.lst ds) v := h
    obtain ⟨a, vs, e, q, r⟩ := h'.lst_
    exact ⟨a, vs, e, s _ _ q, r⟩
  · obtain ⟨fp, a, fr, e, _, vs, q, o⟩ := h
    exact ⟨a, vs, e, q, (Owns.to_reps o).1⟩
theorem RA.tup {ds : List D} {v : V} (h : RA K m (.tup ds) v G H) (s : Same G H) (hm : itM m = true) : ∃ a vs, v = .ref a ∧ H a = some (.tup vs) ∧ Reps K G ds vs := by
  rcases itM_or hm with rfl | rfl
  · have h' : Rep K G (.tup ds) v := h
    obtain ⟨a, vs, e, q, r⟩ := h'.tup_
    exact ⟨a, vs, e, s _ _ q, r⟩
  · obtain ⟨fp, a, fr, _, _, q⟩ := h
    exact q.elim
theorem RA.dK {ks : List Key} {ds : List D} {v : V} (h : RA K m (.dK ks ds) v G H) (s : Same G H) (hm : itM m = true) : ∃ a vs, v = .ref a ∧ Rd H a (.dK (ks.zip vs)) ∧ ks.length = ds.length ∧ Reps K G ds vs := by
  rcases itM_or hm with rfl | rfl
  · have h' : Rep K G (.dK ks ds) v := h
    obtain ⟨a, vs, e, q, z, r⟩ := h'.dK_
    exact ⟨a, vs, e, (Le.of s).rd _ _ trivial q, z, r⟩
  · obtain ⟨fp, a, fr, e, _, vs, q, z, o⟩ := h
    exact ⟨a, vs, e, .inl q, z, (Owns.to_reps o).1⟩
theorem RA.dT {ks : List (List Key)} {ds : List D} {v : V} (h : RA K m (.dT ks ds) v G H) (s : Same G H) (hm : itM m = true) : ∃ a vs, v = .ref a ∧ Rd H a (.dT (ks.zip vs)) ∧ ks.length = ds.length ∧ Reps K G ds vs := by
  rcases itM_or hm with rfl | rfl
  · have h' : Rep K G (.dT ks ds) v := h
    obtain ⟨a, vs, e, q, z, r⟩ := h'.dT_
    exact ⟨a, vs, e, (Le.of s).rd _ _ trivial q, z, r⟩
  · obtain ⟨fp, a, fr, e, _, vs, q, z, o⟩ := h
    exact ⟨a, vs, e, .inl q, z, (Owns.to_reps o).1⟩
theorem rr_sh {F0 : List Addr} {H0 : Hp} {d : D} {v : V} (h : Rep K G d v) : RR K F0 H0 .sh d v F G H := h
theorem rep_bl {b : Bool} : Rep K H (.bl b) (.bl b) := by unfold Rep; rfl

/-! ### keys -/
def keyD : D → Option Key
  | .int i => some (.inl i)
  | .str x => some (.inr x)
  | _ => none
theorem keyD_v {d : D} {k : Key} {v : V} (e : keyD d = some k) (h : Rep K H d v) : v = kV k := by
  cases d with
  | int i => cases e; exact h.int_
  | str x => cases e; exact h.str_
  | _ => cases e
def keysD : List D → Option (List Key)
  | [] => some []
  | d :: ds => (keyD d).bind fun k => (keysD ds).map fun r => k :: r
theorem keysD_v : ∀ {ds : List D} {ks : List Key} {vs : List V}, keysD ds = some ks → Reps K H ds vs → vs = ks.map kV
  | [], ks, vs, e, h => by cases e; rw [reps_nil.mp h]; rfl
  | d :: ds, ks, vs, e, h => by
    obtain ⟨v, r, rfl, h1, h2⟩ := reps_cons.mp h
    unfold keysD at e
    cases q : keyD d with
    | none => rw [q] at e; cases e
    | some k =>
      rw [q, Option.bind_some] at e
      cases q2 : keysD ds with
      | none => rw [q2] at e; cases e
      | some r' => rw [q2] at e; cases e; rw [keyD_v q h1, keysD_v q2 h2]; rfl
def lookK {κ : Type} [DecidableEq κ] : List κ → List D → κ → Option D
  | k :: ks, d :: ds, x => if k = x then some d else lookK ks ds x
  | _, _, _ => none
theorem lookK_v {κ : Type} [DecidableEq κ] (x : κ) : ∀ {ks : List κ} {ds : List D} {vs : List V}, Reps K H ds vs → (∀ d, lookK ks ds x = some d → ∃ v, valV (ks.zip vs) x = some v ∧ Rep K H d v) ∧ (ks.length = ds.length → lookK ks ds x = none → valV (ks.zip vs) x = none)
  | [], ds, vs, _ => ⟨fun d e => (by cases ds <;> cases e), fun _ _ => (by simp [valV])⟩
  | k :: ks, [], vs, _ => ⟨fun d e => (by cases e), fun h => (by simp at h)⟩
  | k :: ks, d :: ds, vs, h => by
    obtain ⟨v, r, rfl, h1, h2⟩ := reps_cons.mp h
    obtain ⟨i1, i2⟩ := lookK_v x (ks := ks) h2
    rw [List.zip_cons_cons]
    by_cases z : k = x
    · refine ⟨fun d' e => ?_, fun _ e => ?_⟩
      · unfold lookK at e
        rw [if_pos z] at e
        cases e
        exact ⟨v, valV_pos z, h1⟩
      · unfold lookK at e
        rw [if_pos z] at e; cases e
    · refine ⟨fun d' e => ?_, fun hl e => ?_⟩
      · unfold lookK at e
        rw [if_neg z] at e
        rw [valV_neg z]; exact i1 d' e
      · unfold lookK at e
        rw [if_neg z] at e
        rw [valV_neg z]; exact i2 (by simpa using hl) e

/-! ### subscripts -/
theorem ix_dict {X : Cx} (hu : X.A.units + 1 < cLine) : IxR X (fun x y H Q => ∃ a v, x = .ref a ∧ DGet H a y (some v) ∧ Q v H) := by
  intro value slice pins s σ H x y v u Q I rx ry q hs
  obtain ⟨a, z, rfl, g, q⟩ := q
  obtain rfl : v = Value.ref a := rx
  exact tail_any (dict_typeIs I g) PySem.F.slot_dict_getitem.lookup (d_getItem hu I g ry fun w' s' I' r' => ⟨z, H, I', r', q⟩) hs
def rIxA (K : PySem.W.Frag) : R2 := fun x y H Q => rIx K x y H Q ∨ ∃ a v, x = .ref a ∧ DGet H a y (some v) ∧ Q v H
theorem ix_any {X : Cx} (hu : X.A.units + 1 < cLine) : IxR X (rIxA X.K) := ix_seq.or (ix_dict hu)
def ixD : D → D → Option D
  | .lst ds, .int i => atI ds i
  | .tup ds, .int i => atI ds i
  | .str z, .int i => if z.length ≤ 16777216 then (atI z.cps.toList i).map fun c => .str ⟨#[c]⟩ else none
  | .dK ks ds, d => (keyD d).bind fun k => lookK ks ds k
  | .dT ks ds, .tup kd => (keysD kd).bind fun k => lookK ks ds k
  | _, _ => none
theorem Reps.atI {ds : List D} {vs : List V} {i : Int} {d : D} (h : Reps K H ds vs) (e : L2.atI ds i = some d) : ∃ v, L2.atI vs i = some v ∧ Rep K H d v := by
  unfold L2.atI at *
  rw [h.length]
  cases q : L2.ixN ds.length i with
  | none => rw [q] at e; cases e
  | some j =>
    rw [q, Option.bind_some] at e
    obtain ⟨v, hv, r⟩ := h.get e
    exact ⟨v, by rw [Option.bind_some]; exact hv, r⟩
theorem s_ix (hm : itM ma = true) : R2S K ma mb .sh ixD (rIxA K) := by
  intro F G H dx dy x y d Q s th rx ry e k
  cases dx with
  | lst ds =>
    cases dy with
    | int i =>
      obtain ⟨a, vs, rfl, ha, rr⟩ := rx.lst s hm
      obtain rfl := ry.int s
      obtain ⟨v, hv, r⟩ := rr.atI (show L2.atI ds i = some d from e)
      exact .inl (.inl ⟨a, vs, i, v, rfl, rfl, SqL.of ha, hv, k v G H (Al.refl s) r⟩)
    | _ => cases e
  | tup ds =>
    cases dy with
    | int i =>
      obtain ⟨a, vs, rfl, ha, rr⟩ := rx.tup s hm
      obtain rfl := ry.int s
      obtain ⟨v, hv, r⟩ := rr.atI (show L2.atI ds i = some d from e)
      exact .inl (.inr (.inl ⟨a, vs, i, v, rfl, rfl, SqT.of ha, hv, k v G H (Al.refl s) r⟩))
    | _ => cases e
  | str z =>
    cases dy with
    | int i =>
      obtain rfl := rx.str s
      obtain rfl := ry.int s
      have e' : (if z.length ≤ 16777216 then (L2.atI z.cps.toList i).map fun c => D.str ⟨#[c]⟩ else none) = some d := e
      split at e'
      · rename_i hz
        cases q : L2.atI z.cps.toList i with
        | none => rw [q] at e'; cases e'
        | some c =>
          rw [q] at e'
          cases e'
          exact .inl (.inr (.inr ⟨z, i, c, rfl, rfl, by rw [sizeLine_eq]; exact hz, q, k _ G H (Al.refl s) (show Rep K G (.str ⟨#[c]⟩) (.str ⟨#[c]⟩) from rep_str)⟩))
      · cases e'
    | _ => cases e
  | dK ks ds =>
    obtain ⟨a, vs, rfl, ha, hl, rr⟩ := rx.dK s hm
    have e' : ((keyD dy).bind fun k => lookK ks ds k) = some d := e
    cases q : keyD dy with
    | none => rw [q] at e'; cases e'
    | some key =>
      rw [q, Option.bind_some] at e'
      obtain ⟨v, hv, r⟩ := (lookK_v key rr).1 d e'
      exact .inr ⟨a, v, rfl, .inl ⟨_, key, ha, keyD_v q (ry.rep s), hv.symm⟩, k v G H (Al.refl s) r⟩
  | dT ks ds =>
    cases dy with
    | tup kd =>
      obtain ⟨a, vs, rfl, ha, hl, rr⟩ := rx.dT s hm
      have e' : ((keysD kd).bind fun k => lookK ks ds k) = some d := e
      cases q : keysD kd with
      | none => rw [q] at e'; cases e'
      | some key =>
        rw [q, Option.bind_some] at e'
        obtain ⟨v, hv, r⟩ := (lookK_v key rr).1 d e'
        obtain ⟨b, us, rfl, hb, ru⟩ := (ry.rep s).tup_
        rw [keysD_v q ru] at hb
        exact .inr ⟨a, v, rfl, .inr ⟨_, key, b, ha, rfl, hb, hv.symm⟩, k v G H (Al.refl s) r⟩
    | _ => cases e
  | non => cases e
  | bl b => cases e
  | int b => cases e
  | scr b => cases e
/-- of any value: the item lies over it -/
theorem s_ixB : R2S K .bo mb .bo ixD (rIxA K) := by
  intro F G H dx dy x y d Q s th rx ry e k
  have rx' : RA K .sh dx x H H := rx
  have ry' : RA K .bo dy y H H := ry.rep s
  refine s_ix (ma := .sh) rfl F H H dx dy x y d Q (Same.refl _) th rx' ry' e fun v G' H' al r => ?_
  exact k v G H' ⟨Same.refl _, al.hs, fun a h => .inl h, s.trans al.hs⟩ (Rep.same r al.sub)
end

section
variable {P : Program} {w : World} {K : PySem.W.Frag} {mg : Str → Option Value} {base : Heap} {N : List Str} {sc : Scope} {lv : Nat} {oc : Option (List Str)} {F : Fm P w K mg base N sc lv oc}
variable {ms ms1 ms2 ms' msL msB rms pms : List M} {rm m ma mb mc : M} {p pa pb pc pi pt pe : Bool} {e a b c tg iter elt : Expr} {es rest ifs : List Expr} {fa fb fc f fe : FE} {fs fi : FA} {ga gb g gt : FT} {s1 s2 gs : FS} {pos pos' : Pos} {st : Stmt} {sts : List Stmt} {mds : List M} {x : Str} {bb : FG}
theorem Fm.hu (F : Fm P w K mg base N sc lv oc) (i : F.ι) : (F.X i).A.units + 1 < cLine := hu_of (F.room i)
theorem ev_ix (ha : EV F ms pa a ma fa) (hb : EV F ms pb b mb fb) (hm : itM ma = true := by rfl) (hs : PlainIx b := by exact fun _ _ => rfl) (ho : (pb || ma == .sh) = true := by rfl) (h2 : noOw mb = true := by rfl) :
    EV F ms (pa && pb) (.Subscript a b pos) .sh (bin2 fa fb ixD) := by
  obtain ⟨ta, a1, a2⟩ := ha
  obtain ⟨tb, b1, b2⟩ := hb
  refine ⟨_, fun i => ?_, sem_op a2 b2 (s_ix hm) ho (fun n z => by subst z; cases hm) (noOw_ne h2)⟩
  have := pe_ix (pos := pos) (ix_any (X := F.X i) (F.hu i)) (a1 i) (b1 i) hs
  rw [F.hK] at this
  exact this
theorem ev_ixB (ha : EV F ms pa a .bo fa) (hb : EV F ms pb b mb fb) (hs : PlainIx b := by exact fun _ _ => rfl) (ho : pb = true := by rfl) (h2 : noOw mb = true := by rfl) :
    EV F ms (pa && pb) (.Subscript a b pos) .bo (bin2 fa fb ixD) := by
  obtain ⟨ta, a1, a2⟩ := ha
  obtain ⟨tb, b1, b2⟩ := hb
  refine ⟨_, fun i => ?_, sem_op a2 b2 s_ixB (by rw [ho]; rfl) (fun n z => nomatch z) (noOw_ne h2)⟩
  have := pe_ix (pos := pos) (ix_any (X := F.X i) (F.hu i)) (a1 i) (b1 i) hs
  rw [F.hK] at this
  exact this
end
end DL
namespace DL
open PySem PySem.Spec PyProof.Rows L2

section
variable {K : PySem.W.Frag} {G H : Hp} {m ma mb : M} {F : List Addr}
/-! ### numbers -/
def intOp (C : Int → Int → Bool) (h : Int → Int → Int) : D → D → Option D
  | .int i, .int j => if C i j = true then some (.int (h i j)) else none
  | _, _ => none
theorem s_int {C : Int → Int → Bool} {C' : Int → Int → Prop} {h : Int → Int → Int} (hc : ∀ i j, C i j = true → C' i j) : R2S K ma mb .sh (intOp C h) (rI C' fun i j => .int (h i j)) := by
  intro F G H dx dy x y d Q s th rx ry e k
  cases dx with
  | int i =>
    cases dy with
    | int j =>
      have e' : (if C i j = true then some (D.int (h i j)) else none) = some d := e
      split at e'
      · rename_i c
        cases e'
        exact ⟨i, j, rx.int s, ry.int s, hc i j c, k _ G H (Al.refl s) (show Rep K G (.int _) (.int _) from rep_int)⟩
      · cases e'
    | _ => cases e
  | _ => cases e
def intOp0 (h : Int → Int → Int) : D → D → Option D
  | .int i, .int j => some (.int (h i j))
  | _, _ => none
theorem s_int0 {h : Int → Int → Int} : R2S K ma mb .sh (intOp0 h) (rI0 fun i j => .int (h i j)) := by
  intro F G H dx dy x y d Q s th rx ry e k
  cases dx with
  | int i =>
    cases dy with
    | int j =>
      cases e
      exact ⟨i, j, rx.int s, ry.int s, k _ G H (Al.refl s) (show Rep K G (.int _) (.int _) from rep_int)⟩
    | _ => cases e
  | _ => cases e
def intCmp (h : Int → Int → Bool) : D → D → Option D
  | .int i, .int j => some (.bl (h i j))
  | _, _ => none
theorem s_cmp0 {h : Int → Int → Bool} : R2S K ma mb .sh (intCmp h) (rI0 fun i j => .bl (h i j)) := by
  intro F G H dx dy x y d Q s th rx ry e k
  cases dx with
  | int i =>
    cases dy with
    | int j =>
      cases e
      exact ⟨i, j, rx.int s, ry.int s, k _ G H (Al.refl s) (show Rep K G (.bl _) (.bl _) from rep_bl)⟩
    | _ => cases e
  | _ => cases e
/-- n ** k in sizes that the machine takes -/
def powOk (i j : Int) : Bool := decide (0 ≤ j) && decide ((Builtin.Int.intBits i : Int) * j ≤ 2 ^ 27)
theorem op_powW {X : Cx} : OpR X (binaryOp .Pow) (rI (fun i j => 0 ≤ j ∧ (Builtin.Int.intBits i : Int) * j ≤ 2 ^ 27) fun i j => .int (i ^ j.toNat)) := opI fun _ _ _ _ _ _ _ hc q => pow_int hc.1 hc.2 q
/-! ### + : numbers, texts, lists, tuples -/
def rAddA (K : PySem.W.Frag) : R2 := fun x y H Q => (∃ i j, x = .int i ∧ y = .int j ∧ Q (.int (i + j)) H) ∨ (∃ i j : Str, x = .str i ∧ y = .str j ∧ i.length + j.length ≤ sizeLine ∧ Q (.str (i ++ j)) H) ∨ rCat x y H Q ∨ rCatA K x y H Q
theorem op_addA {X : Cx} : OpR X (binaryOp .Add) (rAddA X.K) := op_add.or (op_add_str.or (op_cat.or op_catA))
def addD : D → D → Option D
  | .int i, .int j => some (.int (i + j))
  | .str x, .str y => if x.length + y.length ≤ 16777216 then some (.str (x ++ y)) else none
  | .lst a, .lst b => if a.length + b.length ≤ 16777216 then some (.lst (a ++ b)) else none
  | .tup a, .tup b => if a.length + b.length ≤ 16777216 then some (.tup (a ++ b)) else none
  | _, _ => none
theorem s_add (hm : itM ma = true) (hm2 : itM mb = true) : R2S K ma mb .sh addD (rAddA K) := by
  intro F G H dx dy x y d Q s th rx ry e k
  cases dx with
  | int i =>
    cases dy with
    | int j => cases e; exact .inl ⟨i, j, rx.int s, ry.int s, k _ G H (Al.refl s) (show Rep K G (.int _) (.int _) from rep_int)⟩
    | _ => cases e
  | str i =>
    cases dy with
    | str j =>
      have e' : (if i.length + j.length ≤ 16777216 then some (D.str (i ++ j)) else none) = some d := e
      split at e'
      · rename_i hz
        cases e'
        exact .inr (.inl ⟨i, j, rx.str s, ry.str s, by rw [sizeLine_eq]; exact hz, k _ G H (Al.refl s) (show Rep K G (.str _) (.str _) from rep_str)⟩)
      · cases e'
    | _ => cases e
  | lst a =>
    cases dy with
    | lst b =>
      have e' : (if a.length + b.length ≤ 16777216 then some (D.lst (a ++ b)) else none) = some d := e
      split at e'
      · rename_i hz
        cases e'
        obtain ⟨l, vs, rfl, hl, rr⟩ := rx.lst s hm
        obtain ⟨l2, us, rfl, hl2, rr2⟩ := ry.lst s hm2
        refine .inr (.inr (.inl ⟨l, l2, vs, us, rfl, rfl, hl, hl2, by rw [rr.length, rr2.length, sizeLine_eq]; exact hz, fun p hp => ?_⟩))
        refine k _ (upd G p (.lst (vs ++ us))) _ (Al.sh s hp) ?_
        show Rep K (upd G p (.lst (vs ++ us))) (.lst (a ++ b)) (.ref p)
        unfold Rep
        exact ⟨p, _, rfl, upd_same, (rr.append rr2).same (same_upd (s.free hp))⟩
      · cases e'
    | _ => cases e
  | tup a =>
    cases dy with
    | tup b =>
      have e' : (if a.length + b.length ≤ 16777216 then some (D.tup (a ++ b)) else none) = some d := e
      split at e'
      · rename_i hz
        cases e'
        obtain ⟨l, vs, rfl, hl, rr⟩ := rx.tup s hm
        obtain ⟨l2, us, rfl, hl2, rr2⟩ := ry.tup s hm2
        -- the tuples as they lie in the shared part
        have gx : Rep K H (.tup a) (.ref l) := rx.rep s
        refine .inr (.inr (.inr ⟨l, l2, vs, us, rfl, rfl, SqT.of hl, SqT.of hl2, by rw [rr.length, rr2.length, sizeLine_eq]; exact hz, fun z => ?_, fun _ z => ?_, fun _ _ p hp => ?_⟩))
        · subst z
          have ha : a = [] := by cases a with
            | nil => rfl
            | cons _ _ => have := rr.length; simp at this
          subst ha
          refine k _ G H (Al.refl s) ?_
          rcases itM_or hm2 with rfl | rfl
          · exact ry
          · obtain ⟨fp, q⟩ := ry; obtain ⟨_, _, _, _, q⟩ := q; exact q.elim
        · subst z
          have hb : b = [] := by cases b with
            | nil => rfl
            | cons _ _ => have := rr2.length; simp at this
          subst hb
          refine k _ G H (Al.refl s) ?_
          rw [List.append_nil]
          rcases itM_or hm with rfl | rfl
          · exact rx
          · obtain ⟨fp, q⟩ := rx; obtain ⟨_, _, _, _, q⟩ := q; exact q.elim
        · exact k _ _ _ (Al.sh s hp) (rep_tup (rr.append rr2) (s.free hp))
      · cases e'
    | _ => cases e
  | _ => cases e
/-! ### ==, != of data -/
mutual
def toPy : D → Option PyData
  | .non => some .none
  | .bl b => some (.bool b)
  | .int i => some (.int i)
  | .str x => some (.str x)
  | .lst ds => (toPys ds).map .list
  | .tup ds => (toPys ds).map .tuple
  | .scr _ => none
  | .dK _ _ => none
  | .dT _ _ => none
def toPys : List D → Option (List PyData)
  | [] => some []
  | d :: ds => (toPy d).bind fun x => (toPys ds).map fun r => x :: r
end
mutual
theorem toPy_dp : ∀ (d : D) (v : V) (x : PyData), toPy d = some x → Rep K H d v → Dp K H v x
  | .non, v, x, e, h => by rw [toPy] at e; cases e; rw [h.non_]; exact .non
  | .bl b, v, x, e, h => by rw [toPy] at e; cases e; rw [h.bl_]; exact .bl b
  | .int b, v, x, e, h => by rw [toPy] at e; cases e; rw [h.int_]; exact .int b
  | .str b, v, x, e, h => by rw [toPy] at e; cases e; rw [h.str_]; exact .str b
  | .lst ds, v, x, e, h => by
    rw [toPy] at e
    obtain ⟨a, vs, rfl, q, r⟩ := h.lst_
    cases z : toPys ds with
    | none => rw [z] at e; cases e
    | some xs => rw [z] at e; cases e; exact .lst (SqL.of q) (toPys_dp ds vs xs z r)
  | .tup ds, v, x, e, h => by
    rw [toPy] at e
    obtain ⟨a, vs, rfl, q, r⟩ := h.tup_
    cases z : toPys ds with
    | none => rw [z] at e; cases e
    | some xs => rw [z] at e; cases e; exact .tup (SqT.of q) (toPys_dp ds vs xs z r)
  | .scr _, v, x, e, h => by rw [toPy] at e; cases e
  | .dK _ _, v, x, e, h => by rw [toPy] at e; cases e
  | .dT _ _, v, x, e, h => by rw [toPy] at e; cases e
theorem toPys_dp : ∀ (ds : List D) (vs : List V) (xs : List PyData), toPys ds = some xs → Reps K H ds vs → DpAll K H vs xs
  | [], vs, xs, e, h => by rw [toPys] at e; cases e; rw [reps_nil.mp h]; exact .nil
  | d :: ds, vs, xs, e, h => by
    rw [toPys] at e
    obtain ⟨v, r, rfl, h1, h2⟩ := reps_cons.mp h
    cases z : toPy d with
    | none => rw [z] at e; cases e
    | some x =>
      rw [z, Option.bind_some] at e
      cases z2 : toPys ds with
      | none => rw [z2] at e; cases e
      | some r' => rw [z2] at e; cases e; exact .cons (toPy_dp d v x z h1) (toPys_dp ds r r' z2 h2)
end
def eqDD (x y : D) : Option D := (toPy x).bind fun a => (toPy y).bind fun b => if (SeqAt.shaped a && SeqAt.shaped b) = true then some (.bl (PyData.eqv a b)) else none
def neDD (x y : D) : Option D := (toPy x).bind fun a => (toPy y).bind fun b => if (SeqAt.shaped a && SeqAt.shaped b) = true then some (.bl (!PyData.eqv a b)) else none
theorem s_eqDD : R2S K ma mb .sh eqDD (rEqD K) := by
  intro F G H dx dy x y d Q s th rx ry e k
  unfold eqDD at e
  cases q : toPy dx with
  | none => rw [q] at e; cases e
  | some a =>
    cases q2 : toPy dy with
    | none => rw [q, Option.bind_some, q2] at e; cases e
    | some b =>
      rw [q, Option.bind_some, q2, Option.bind_some] at e
      split at e
      · rename_i hs
        cases e
        rw [Bool.and_eq_true] at hs
        exact ⟨a, b, toPy_dp dx x a q (rx.rep s), toPy_dp dy y b q2 (ry.rep s), hs.1, hs.2, k _ G H (Al.refl s) (show Rep K G (.bl _) (.bl _) from rep_bl)⟩
      · cases e
theorem s_neDD : R2S K ma mb .sh neDD (rNeD K) := by
  intro F G H dx dy x y d Q s th rx ry e k
  unfold neDD at e
  cases q : toPy dx with
  | none => rw [q] at e; cases e
  | some a =>
    cases q2 : toPy dy with
    | none => rw [q, Option.bind_some, q2] at e; cases e
    | some b =>
      rw [q, Option.bind_some, q2, Option.bind_some] at e
      split at e
      · rename_i hs
        cases e
        rw [Bool.and_eq_true] at hs
        exact ⟨a, b, toPy_dp dx x a q (rx.rep s), toPy_dp dy y b q2 (ry.rep s), hs.1, hs.2, k _ G H (Al.refl s) (show Rep K G (.bl _) (.bl _) from rep_bl)⟩
      · cases e
def eqD (x y : D) : Option D := match x, y with
  | .str i, .str j => some (.bl (i == j))
  | x, y => eqDD x y
def neD (x y : D) : Option D := match x, y with
  | .str i, .str j => some (.bl (!(i == j)))
  | x, y => neDD x y
def rEqA (K : PySem.W.Frag) : R2 := fun x y H Q => rEq x y H Q ∨ rEqD K x y H Q
def rNeA (K : PySem.W.Frag) : R2 := fun x y H Q => rNe x y H Q ∨ rNeD K x y H Q
theorem op_eqA {X : Cx} (hu : X.A.units + 64 < cLine) : OpR X (compareOp .Eq) (rEqA X.K) := op_eq.or (op_eqD hu)
theorem op_neA {X : Cx} (hu : X.A.units + 64 < cLine) : OpR X (compareOp .NotEq) (rNeA X.K) := op_ne.or (op_neD hu)
theorem s_eq : R2S K ma mb .sh eqD (rEqA K) := by
  intro F G H dx dy x y d Q s th rx ry e k
  unfold eqD at e
  split at e
  · cases e
    have h1 := rx.str s
    have h2 := ry.str s
    subst h1 h2
    refine .inl ⟨rfl, ?_⟩
    rw [dec_str]
    exact k _ G H (Al.refl s) (show Rep K G (.bl _) (.bl _) from rep_bl)
  · exact .inr (s_eqDD F G H _ _ x y d Q s th rx ry e k)
theorem s_ne : R2S K ma mb .sh neD (rNeA K) := by
  intro F G H dx dy x y d Q s th rx ry e k
  unfold neD at e
  split at e
  · cases e
    have h1 := rx.str s
    have h2 := ry.str s
    subst h1 h2
    refine .inl ⟨rfl, ?_⟩
    rw [dec_str]
    exact k _ G H (Al.refl s) (show Rep K G (.bl _) (.bl _) from rep_bl)
  · exact .inr (s_neDD F G H _ _ x y d Q s th rx ry e k)
/-! ### < of texts, of tuples -/
def rLtD (K : PySem.W.Frag) : R2 := fun x y H Q => ∃ a b, Dp K H x a ∧ Dp K H y b ∧ PySem.W.alike a b = true ∧ a ≠ .none ∧ a.depth ≤ 60 ∧ Q (.bl (PySem.W.dataLt a b)) H
theorem op_ltD {X : Cx} (hu : X.A.units + 64 < cLine) : OpR X (compareOp .Lt) (rLtD X.K) := by
  intro pins s σ H x y v u Q I rx ry h
  obtain ⟨a, b, ha, hb, al, nn, dp, q⟩ := h
  obtain ⟨as, r1⟩ := Dp.reads I a x v ha rx
  obtain ⟨bs, r2⟩ := Dp.reads I b y u hb ry
  exact PySem.W.rcLt_alike a b X.A s v u as bs r1 r2 al nn (by have : min a.depth b.depth ≤ a.depth := Nat.min_le_left _ _; omega) X.prog X.w X.xe _ ⟨.bl _, H, I, rfl, q⟩
def ltD (x y : D) : Option D := match x, y with
  | .int i, .int j => some (.bl (decide (i < j)))
  | .str i, .str j => some (.bl (decide (i.cps.toList < j.cps.toList)))
  | x, y => (toPy x).bind fun a => (toPy y).bind fun b => if (PySem.W.alike a b && (decide (a.depth ≤ 60) && flatP a)) = true then some (.bl (PySem.W.dataLt a b)) else none
where flatP : PyData → Bool
  | .none => false
  | _ => true
def rLtA (K : PySem.W.Frag) : R2 := fun x y H Q => (∃ i j, x = .int i ∧ y = .int j ∧ Q (.bl (decide (i < j))) H) ∨ (∃ i j : Str, x = .str i ∧ y = .str j ∧ Q (.bl (decide (i.cps.toList < j.cps.toList))) H) ∨ rLtD K x y H Q
theorem op_ltA {X : Cx} (hu : X.A.units + 64 < cLine) : OpR X (compareOp .Lt) (rLtA X.K) := op_lt.or (op_lt_str.or (op_ltD hu))
theorem s_lt : R2S K ma mb .sh ltD (rLtA K) := by
  intro F G H dx dy x y d Q s th rx ry e k
  have gen : ∀ {d'}, (toPy dx).bind (fun a => (toPy dy).bind fun b => if (PySem.W.alike a b && (decide (a.depth ≤ 60) && ltD.flatP a)) = true then some (D.bl (PySem.W.dataLt a b)) else none) = some d' → (∀ v G' H', Al G H G' H' → RR K [] H .sh d' v F G' H' → Q v H') → rLtA K x y H Q := by
    intro d' e k
    cases q : toPy dx with
    | none => rw [q] at e; cases e
    | some a =>
      cases q2 : toPy dy with
      | none => rw [q, Option.bind_some, q2] at e; cases e
      | some b =>
        rw [q, Option.bind_some, q2, Option.bind_some] at e
        split at e
        · rename_i hs
          cases e
          simp only [Bool.and_eq_true, decide_eq_true_eq] at hs
          exact .inr (.inr ⟨a, b, toPy_dp dx x a q (rx.rep s), toPy_dp dy y b q2 (ry.rep s), hs.1, (fun z => by subst z; exact absurd hs.2.2 (by simp [ltD.flatP])), hs.2.1, k _ G H (Al.refl s) (show Rep K G (.bl _) (.bl _) from rep_bl)⟩)
        · cases e
  unfold ltD at e
  split at e
  · cases e
    exact .inl ⟨_, _, rx.int s, ry.int s, k _ G H (Al.refl s) (show Rep K G (.bl _) (.bl _) from rep_bl)⟩
  · cases e
    exact .inr (.inl ⟨_, _, rx.str s, ry.str s, k _ G H (Al.refl s) (show Rep K G (.bl _) (.bl _) from rep_bl)⟩)
  · exact gen e k
def cmpD (f : Int → Int → Bool) (g : List Nat → List Nat → Bool) (x y : D) : Option D := match x, y with
  | .int i, .int j => some (.bl (f i j))
  | .str i, .str j => some (.bl (g i.cps.toList j.cps.toList))
  | _, _ => none
theorem s_cmp {f : Int → Int → Bool} {g : List Nat → List Nat → Bool} : R2S K ma mb .sh (cmpD f g) (fun x y H Q => (∃ i j, x = .int i ∧ y = .int j ∧ Q (.bl (f i j)) H) ∨ ∃ i j : Str, x = .str i ∧ y = .str j ∧ Q (.bl (g i.cps.toList j.cps.toList)) H) := by
  intro F G H dx dy x y d Q s th rx ry e k
  unfold cmpD at e
  split at e
  · cases e
    exact .inl ⟨_, _, rx.int s, ry.int s, k _ G H (Al.refl s) (show Rep K G (.bl _) (.bl _) from rep_bl)⟩
  · cases e
    exact .inr ⟨_, _, rx.str s, ry.str s, k _ G H (Al.refl s) (show Rep K G (.bl _) (.bl _) from rep_bl)⟩
  · cases e
/-! ### is None, is True -/
def isN : D → Bool
  | .non => true
  | _ => false
def isNoneD (x y : D) : Option D := match y with
  | .non => some (.bl (isN x))
  | .bl b => match x with
    | .bl a => some (.bl (decide (a = b)))
    | _ => none
  | _ => none
def isNotD (x y : D) : Option D := match y with
  | .non => some (.bl (!isN x))
  | .bl b => match x with
    | .bl a => some (.bl (!decide (a = b)))
    | _ => none
  | _ => none
theorem rep_non_iff {d : D} {v : V} (h : Rep K H d v) : (v = V.non) ↔ d = .non := by
  cases d with
  | non => exact ⟨fun _ => rfl, fun _ => h.non_⟩
  | bl b => rw [h.bl_]; exact ⟨fun z => (by cases z), fun z => (by cases z)⟩
  | int b => rw [h.int_]; exact ⟨fun z => (by cases z), fun z => (by cases z)⟩
  | str b => rw [h.str_]; exact ⟨fun z => (by cases z), fun z => (by cases z)⟩
  | lst b => obtain ⟨a, _, rfl, _⟩ := h.lst_; exact ⟨fun z => (by cases z), fun z => (by cases z)⟩
  | tup b => obtain ⟨a, _, rfl, _⟩ := h.tup_; exact ⟨fun z => (by cases z), fun z => (by cases z)⟩
  | scr b => obtain ⟨a, rfl, _⟩ := h.scr_; exact ⟨fun z => (by cases z), fun z => (by cases z)⟩
  | dK ks b => obtain ⟨a, _, rfl, _⟩ := h.dK_; exact ⟨fun z => (by cases z), fun z => (by cases z)⟩
  | dT ks b => obtain ⟨a, _, rfl, _⟩ := h.dT_; exact ⟨fun z => (by cases z), fun z => (by cases z)⟩
def rIsA : R2 := fun x y H Q => (y = .non ∧ Q (.bl (decide (x = .non))) H) ∨ rIsB x y H Q
def rNotA : R2 := fun x y H Q => (y = .non ∧ Q (.bl (!decide (x = .non))) H) ∨ rNotB x y H Q
theorem op_isA {X : Cx} : OpR X (compareOp .Is) rIsA := op_isN.or op_isBl
theorem op_notA {X : Cx} : OpR X (compareOp .IsNot) rNotA := op_notN.or op_notBl
theorem s_is : R2S K ma mb .sh isNoneD rIsA := by
  intro F G H dx dy x y d Q s th rx ry e k
  unfold isNoneD at e
  split at e
  · cases e
    refine .inl ⟨ry.non s, k _ G H (Al.refl s) ?_⟩
    have hx := rep_non_iff (rx.rep s)
    have : (decide (x = V.non)) = isN dx := by
      cases dx <;> simp [hx, isN]
    rw [this]
    exact (show Rep K G (.bl _) (.bl _) from rep_bl)
  · split at e
    · cases e
      exact .inr ⟨_, _, rx.bl s, ry.bl s, k _ G H (Al.refl s) (show Rep K G (.bl _) (.bl _) from rep_bl)⟩
    · cases e
  · cases e
theorem s_isnot : R2S K ma mb .sh isNotD rNotA := by
  intro F G H dx dy x y d Q s th rx ry e k
  unfold isNotD at e
  split at e
  · cases e
    refine .inl ⟨ry.non s, k _ G H (Al.refl s) ?_⟩
    have hx := rep_non_iff (rx.rep s)
    have : (!decide (x = V.non)) = !isN dx := by
      cases dx <;> simp [hx, isN]
    rw [this]
    exact (show Rep K G (.bl _) (.bl _) from rep_bl)
  · split at e
    · cases e
      exact .inr ⟨_, _, rx.bl s, ry.bl s, k _ G H (Al.refl s) (show Rep K G (.bl _) (.bl _) from rep_bl)⟩
    · cases e
  · cases e
/-! ### in -/
theorem op_inK {X : Cx} (hu : X.A.units + 1 < cLine) : OpR X (compareOp .In) (fun x y H Q => ∃ a o, y = .ref a ∧ DGet H a x o ∧ Q (.bl o.isSome) H) := by
  intro pins s σ H x y v u Q I rx ry h
  obtain ⟨a, o, rfl, g, q⟩ := h
  obtain rfl : u = Value.ref a := ry
  exact d_in hu I g rx fun s3 I3 => ⟨.bl o.isSome, H, I3, rfl, q⟩
theorem op_notInK {X : Cx} (hu : X.A.units + 1 < cLine) : OpR X (compareOp .NotIn) (fun x y H Q => ∃ a o, y = .ref a ∧ DGet H a x o ∧ Q (.bl (!o.isSome)) H) := by
  intro pins s σ H x y v u Q I rx ry h
  obtain ⟨a, o, rfl, g, q⟩ := h
  obtain rfl : u = Value.ref a := ry
  exact d_notIn hu I g rx fun s3 I3 => ⟨.bl (!o.isSome), H, I3, rfl, q⟩
def rInA (K : PySem.W.Frag) : R2 := fun x y H Q => rIn K false x y H Q ∨ rInD K x y H Q ∨ ∃ a o, y = .ref a ∧ DGet H a x o ∧ Q (.bl o.isSome) H
def rNotInA (K : PySem.W.Frag) : R2 := fun x y H Q => rIn K true x y H Q ∨ ∃ a o, y = .ref a ∧ DGet H a x o ∧ Q (.bl (!o.isSome)) H
theorem op_inA {X : Cx} (hu : X.A.units + 65 < cLine) : OpR X (compareOp .In) (rInA X.K) := op_in_seq.or ((op_inD hu).or (op_inK (by omega)))
theorem op_notInA {X : Cx} (hu : X.A.units + 65 < cLine) : OpR X (compareOp .NotIn) (rNotInA X.K) := op_notIn_seq.or (op_notInK (by omega))
/-- flat data as it is compared -/
def flatEq : D → D → Bool
  | .non, .non => true
  | .bl a, .bl b => a == b
  | .bl a, .int j => (if a then 1 else 0) == j
  | .int i, .bl b => i == (if b then 1 else 0)
  | .int i, .int j => i == j
  | .str x, .str y => x == y
  | _, _ => false
theorem flat_v {d : D} {v : V} (h : Rep K H d v) (f : flatD d = true) : flatV v = true := by
  cases d with
  | non => rw [h.non_]; rfl
  | bl b => rw [h.bl_]; rfl
  | int b => rw [h.int_]; rfl
  | str b => rw [h.str_]; rfl
  | _ => cases f
theorem flat_eq {d e : D} {v u : V} (h : Rep K H d v) (f : flatD d = true) (h2 : Rep K H e u) (f2 : flatD e = true) : eqV v u = flatEq d e := by
  cases d with
  | non => rw [h.non_]; cases e with
    | non => rw [h2.non_]; rfl
    | bl b => rw [h2.bl_]; rfl
    | int b => rw [h2.int_]; rfl
    | str b => rw [h2.str_]; rfl
    | _ => cases f2
  | bl a => rw [h.bl_]; cases e with
    | non => rw [h2.non_]; rfl
    | bl b => rw [h2.bl_]; rfl
    | int b => rw [h2.int_]; rfl
    | str b => rw [h2.str_]; rfl
    | _ => cases f2
  | int a => rw [h.int_]; cases e with
    | non => rw [h2.non_]; rfl
    | bl b => rw [h2.bl_]; rfl
    | int b => rw [h2.int_]; rfl
    | str b => rw [h2.str_]; rfl
    | _ => cases f2
  | str a => rw [h.str_]; cases e with
    | non => rw [h2.non_]; rfl
    | bl b => rw [h2.bl_]; rfl
    | int b => rw [h2.int_]; rfl
    | str b => rw [h2.str_]; rfl
    | _ => cases f2
  | _ => cases f
theorem flats_v : ∀ {ds : List D} {vs : List V}, Reps K H ds vs → ds.all flatD = true → vs.all flatV = true
  | [], vs, h, _ => by rw [reps_nil.mp h]; rfl
  | d :: ds, vs, h, f => by
    obtain ⟨v, r, rfl, h1, h2⟩ := reps_cons.mp h
    simp only [List.all_cons, Bool.and_eq_true] at f ⊢
    exact ⟨flat_v h1 f.1, flats_v h2 f.2⟩
theorem flats_in {e : D} {u : V} (h2 : Rep K H e u) (f2 : flatD e = true) : ∀ {ds : List D} {vs : List V}, Reps K H ds vs → ds.all flatD = true → inV u vs = ds.any fun z => flatEq z e
  | [], vs, h, _ => by rw [reps_nil.mp h]; rfl
  | d :: ds, vs, h, f => by
    obtain ⟨v, r, rfl, h1, h3⟩ := reps_cons.mp h
    simp only [List.all_cons, Bool.and_eq_true] at f
    have ih := flats_in h2 f2 h3 f.2
    unfold inV at ih ⊢
    rw [List.any_cons, List.any_cons, ih, flat_eq h1 f.1 h2 f2]
def inD (x y : D) : Option Bool := match y with
  | .lst ds => if (flatD x && ds.all flatD) = true then some (ds.any fun z => flatEq z x) else none
  | .tup ds => if (flatD x && ds.all flatD) = true then some (ds.any fun z => flatEq z x) else none
  | .dK ks ds => (keyD x).map fun k => (lookK ks ds k).isSome
  | .dT ks ds => match x with
    | .tup kd => (keysD kd).map fun k => (lookK ks ds k).isSome
    | _ => none
  | _ => none
def inD1 (x y : D) : Option D := (inD x y).map .bl
def notInD1 (x y : D) : Option D := (inD x y).map fun b => .bl (!b)
theorem look_isSome {κ : Type} [DecidableEq κ] {x : κ} {ks : List κ} {ds : List D} {vs : List V} (h : Reps K H ds vs) (hl : ks.length = ds.length) : (valV (ks.zip vs) x).isSome = (lookK ks ds x).isSome := by
  obtain ⟨a, b⟩ := lookK_v x (ks := ks) h
  cases q : lookK ks ds x with
  | none => rw [b hl q]; rfl
  | some d => obtain ⟨v, hv, _⟩ := a d q; rw [hv]; rfl
theorem in_core {dx dy : D} {x y : V} {r : Bool} (rx : Rep K H dx x) (ry : Rep K H dy y) (e : inD dx dy = some r) (neg : Bool) :
    (∃ p xs, y = .ref p ∧ (SqL K H p xs ∨ SqT K H p xs) ∧ flatV x = true ∧ xs.all flatV = true ∧ (if neg then !inV x xs else inV x xs) = (if neg then !r else r)) ∨ ∃ a o, y = .ref a ∧ DGet H a x o ∧ o.isSome = r := by
  unfold inD at e
  split at e
  · split at e
    · rename_i c
      cases e
      rw [Bool.and_eq_true] at c
      obtain ⟨a, vs, rfl, q, rr⟩ := ry.lst_
      exact .inl ⟨a, vs, rfl, .inl (SqL.of q), flat_v rx c.1, flats_v rr c.2, by rw [flats_in rx c.1 rr c.2]⟩
    · cases e
  · split at e
    · rename_i c
      cases e
      rw [Bool.and_eq_true] at c
      obtain ⟨a, vs, rfl, q, rr⟩ := ry.tup_
      exact .inl ⟨a, vs, rfl, .inr (SqT.of q), flat_v rx c.1, flats_v rr c.2, by rw [flats_in rx c.1 rr c.2]⟩
    · cases e
  · obtain ⟨a, vs, rfl, q, hl, rr⟩ := ry.dK_
    cases z : keyD dx with
    | none => rw [z] at e; cases e
    | some k =>
      rw [z] at e
      cases e
      exact .inr ⟨a, _, rfl, .inl ⟨_, k, q, keyD_v z rx, rfl⟩, look_isSome rr hl⟩
  · rename_i ks ds
    split at e
    · rename_i kd
      obtain ⟨a, vs, rfl, q, hl, rr⟩ := ry.dT_
      obtain ⟨b, us, rfl, hb, ru⟩ := rx.tup_
      cases z : keysD kd with
      | none => rw [z] at e; cases e
      | some k =>
        rw [z] at e
        cases e
        rw [keysD_v z ru] at hb
        exact .inr ⟨a, _, rfl, .inr ⟨_, k, b, q, rfl, hb, rfl⟩, look_isSome rr hl⟩
    · cases e
  · cases e
theorem s_in : R2S K ma mb .sh inD1 (rInA K) := by
  intro F G H dx dy x y d Q s th rx ry e k
  unfold inD1 at e
  cases q : inD dx dy with
  | none => rw [q] at e; cases e
  | some r =>
    rw [q] at e
    cases e
    have kk := k (.bl r) G H (Al.refl s) (show Rep K G (.bl r) (.bl r) from rep_bl)
    rcases in_core (rx.rep s) (ry.rep s) q false with ⟨p, xs, e1, e2, e3, e4, e5⟩ | ⟨a, o, e1, e2, e3⟩
    · refine .inl ⟨p, xs, e1, e2, e3, e4, ?_⟩
      simp only [Bool.false_eq_true, if_false] at e5 ⊢
      rw [e5]; exact kk
    · exact .inr (.inr ⟨a, o, e1, e2, by rw [e3]; exact kk⟩)
theorem s_notIn : R2S K ma mb .sh notInD1 (rNotInA K) := by
  intro F G H dx dy x y d Q s th rx ry e k
  unfold notInD1 at e
  cases q : inD dx dy with
  | none => rw [q] at e; cases e
  | some r =>
    rw [q] at e
    cases e
    have kk := k (.bl (!r)) G H (Al.refl s) (show Rep K G (.bl (!r)) (.bl (!r)) from rep_bl)
    rcases in_core (rx.rep s) (ry.rep s) q true with ⟨p, xs, e1, e2, e3, e4, e5⟩ | ⟨a, o, e1, e2, e3⟩
    · refine .inl ⟨p, xs, e1, e2, e3, e4, ?_⟩
      simp only [if_true] at e5 ⊢
      rw [e5]; exact kk
    · exact .inr ⟨a, o, e1, e2, by rw [e3]; exact kk⟩
end
end DL
namespace DL
open PySem PySem.Spec PyProof.Rows L2

section
variable {K : PySem.W.Frag} {G H : Hp} {m ma mb : M} {F : List Addr} {mds : List M}
/-! ### built-ins of one or two values -/
def one (g : D → Option D) : List D → Option D
  | [d] => g d
  | _ => none
def two (g : D → D → Option D) : List D → Option D
  | [d, e] => g d e
  | _ => none
theorem RAs.len1 {ds : List D} {vs : List V} (h : RAs K G H [m] ds vs) : ∃ d v, ds = [d] ∧ vs = [v] ∧ RA K m d v G H := by
  obtain ⟨d, r, v, q, rfl, rfl, h1, h2⟩ := h
  obtain ⟨rfl, rfl⟩ := h2
  exact ⟨d, v, rfl, rfl, h1⟩
theorem RAs.len2 {ds : List D} {vs : List V} (h : RAs K G H [ma, mb] ds vs) : ∃ d e v u, ds = [d, e] ∧ vs = [v, u] ∧ RA K ma d v G H ∧ RA K mb e u G H := by
  obtain ⟨d, r, v, q, rfl, rfl, h1, h2⟩ := h
  obtain ⟨e, u, rfl, rfl, h3⟩ := RAs.len1 h2
  exact ⟨d, e, v, u, rfl, rfl, h1, h3⟩
/-- C1: a one-place built-in -/
def C1 (K : PySem.W.Frag) (m mr : M) (g : D → Option D) (r : List V → Hp → VK → Prop) : Prop :=
  ∀ (F : List Addr) (G H : Hp) (d : D) (v : V) (d' : D) (Q : VK), Same G H → (∀ a ∈ F, ∃ o, H a = some o) → RA K m d v G H → g d = some d' →
    (∀ v G' H', Al G H G' H' → RR K [] H mr d' v F G' H' → Q v H') → r [v] H Q
theorem C1.s {mr : M} {g : D → Option D} {r : List V → Hp → VK → Prop} (h : C1 K m mr g r) : CallS K [m] mr (one g) r := by
  intro F G H ds vs d Q s th ra e k
  obtain ⟨x, v, rfl, rfl, rx⟩ := ra.len1
  exact h F G H x v d Q s th rx e k
def C2 (K : PySem.W.Frag) (m m2 mr : M) (g : D → D → Option D) (r : List V → Hp → VK → Prop) : Prop :=
  ∀ (F : List Addr) (G H : Hp) (d e : D) (v u : V) (d' : D) (Q : VK), Same G H → (∀ a ∈ F, ∃ o, H a = some o) → RA K m d v G H → RA K m2 e u G H → g d e = some d' →
    (∀ v G' H', Al G H G' H' → RR K [] H mr d' v F G' H' → Q v H') → r [v, u] H Q
theorem C2.s {m2 mr : M} {g : D → D → Option D} {r : List V → Hp → VK → Prop} (h : C2 K m m2 mr g r) : CallS K [m, m2] mr (two g) r := by
  intro F G H ds vs d Q s th ra e k
  obtain ⟨x, y, v, u, rfl, rfl, rx, ry⟩ := ra.len2
  exact h F G H x y v u d Q s th rx ry e k
/-- a new owned list -/
theorem new_list {p : Addr} {ds : List D} {vs : List V} {Q : VK} (s : Same G H) (th : ∀ a ∈ F, ∃ o, H a = some o) (hp : H p = none) (r : Reps K G ds vs) (k : ∀ v G' H', Al G H G' H' → RR K [] H (.ow 1) (.lst ds) v F G' H' → Q v H') : Q (.ref p) (upd H p (.lst vs)) := by
  refine k _ G _ (Al.ow s hp) ⟨[p], ⟨p, [], rfl, rfl, vs, upd_same, Owns.of_reps r⟩, by simp, fun a ha => ?_⟩
  have ea : a = p := by simpa using ha
  subst ea
  refine ⟨s.free hp, fun z => ?_, .inr hp⟩
  obtain ⟨o, ho⟩ := th a z
  rw [hp] at ho; cases ho
theorem new_dict {p : Addr} {ks : List Key} {ds : List D} {vs : List V} {Q : VK} (s : Same G H) (th : ∀ a ∈ F, ∃ o, H a = some o) (hp : H p = none) (r : Reps K G ds vs) (hl : ks.length = ds.length) (k : ∀ v G' H', Al G H G' H' → RR K [] H (.ow 1) (.dK ks ds) v F G' H' → Q v H') : Q (.ref p) (upd H p (.dK (ks.zip vs))) := by
  refine k _ G _ (Al.ow s hp) ⟨[p], ⟨p, [], rfl, rfl, vs, upd_same, hl, Owns.of_reps r⟩, by simp, fun a ha => ?_⟩
  have ea : a = p := by simpa using ha
  subst ea
  refine ⟨s.free hp, fun z => ?_, .inr hp⟩
  obtain ⟨o, ho⟩ := th a z
  rw [hp] at ho; cases ho
/-- what a list or tuple holds, as values of one kind -/
def intsD : List D → Option (List Int)
  | [] => some []
  | .int i :: r => (intsD r).map fun l => i :: l
  | _ => none
def bolsD : List D → Option (List Bool)
  | [] => some []
  | .bl i :: r => (bolsD r).map fun l => i :: l
  | _ => none
theorem intsD_v : ∀ {ds : List D} {ns : List Int} {vs : List V}, intsD ds = some ns → Reps K H ds vs → vs = ns.map V.int
  | [], ns, vs, e, h => by cases e; rw [reps_nil.mp h]; rfl
  | d :: ds, ns, vs, e, h => by
    obtain ⟨v, r, rfl, h1, h2⟩ := reps_cons.mp h
    cases d with
    | int i =>
      have e' : ((intsD ds).map fun l => i :: l) = some ns := e
      cases q : intsD ds with
      | none => rw [q] at e'; cases e'
      | some l => rw [q] at e'; cases e'; rw [h1.int_, intsD_v q h2]; rfl
    | _ => cases e
theorem bolsD_v : ∀ {ds : List D} {ns : List Bool} {vs : List V}, bolsD ds = some ns → Reps K H ds vs → vs = ns.map V.bl
  | [], ns, vs, e, h => by cases e; rw [reps_nil.mp h]; rfl
  | d :: ds, ns, vs, e, h => by
    obtain ⟨v, r, rfl, h1, h2⟩ := reps_cons.mp h
    cases d with
    | bl i =>
      have e' : ((bolsD ds).map fun l => i :: l) = some ns := e
      cases q : bolsD ds with
      | none => rw [q] at e'; cases e'
      | some l => rw [q] at e'; cases e'; rw [h1.bl_, bolsD_v q h2]; rfl
    | _ => cases e
theorem RA.lstA {ds : List D} {v : V} (h : RA K m (.lst ds) v G H) (s : Same G H) : ∃ a vs, v = .ref a ∧ H a = some (.lst vs) ∧ Reps K H ds vs := (h.rep s).lst_
/-! len -/
def rLenA (K : PySem.W.Frag) : List V → Hp → VK → Prop := fun xs H Q => (∃ x n, xs = [x] ∧ LenV K x H n ∧ Q (.int n) H) ∨ (∃ a kvs, xs = [.ref a] ∧ Rd H a (.dK kvs) ∧ Q (.int (kvs.length : Nat)) H)
theorem call_lenA {X : Cx} : CallR X (.builtin "len") (rLenA X.K) := by
  intro pins s σ H xs us Q I r h
  rcases h with h | ⟨a, kvs, rfl, e, q⟩
  · exact call_len pins s σ H xs us Q I r h
  · obtain ⟨u, rfl, ru⟩ := r.one
    obtain rfl : u = Value.ref a := ru
    exact d_len I e fun t s' I' => ⟨.int _, H, I', ⟨t, rfl⟩, q⟩
def lenD : D → Option D
  | .lst ds => some (.int ds.length)
  | .tup ds => some (.int ds.length)
  | .scr ns => some (.int ns.length)
  | .dK _ ds => some (.int ds.length)
  | .str x => if x.length ≤ 16777216 then some (.int x.length) else none
  | _ => none
theorem c_len : C1 K m .sh lenD (rLenA K) := by
  intro F G H d v d' Q s th rx e k
  have r := rx.rep s
  cases d with
  | lst ds =>
    cases e
    obtain ⟨a, vs, rfl, q, rr⟩ := r.lst_
    exact .inl ⟨_, vs.length, rfl, .inl ⟨vs, SqL.of q, rfl⟩, by rw [rr.length]; exact k _ G H (Al.refl s) (show Rep K G (.int _) (.int _) from rep_int)⟩
  | tup ds =>
    cases e
    obtain ⟨a, vs, rfl, q, rr⟩ := r.tup_
    exact .inl ⟨_, vs.length, rfl, .inr ⟨vs, SqT.of q, rfl⟩, by rw [rr.length]; exact k _ G H (Al.refl s) (show Rep K G (.int _) (.int _) from rep_int)⟩
  | scr ns =>
    cases e
    obtain ⟨a, rfl, q⟩ := r.scr_
    exact .inl ⟨_, ns.length, rfl, .inl ⟨_, q, by rw [List.length_map]⟩, k _ G H (Al.refl s) (show Rep K G (.int _) (.int _) from rep_int)⟩
  | dK ks ds =>
    cases e
    obtain ⟨a, vs, rfl, q, hl, rr⟩ := r.dK_
    refine .inr ⟨a, _, rfl, q, ?_⟩
    rw [List.length_zip, rr.length, hl, Nat.min_self]
    exact k _ G H (Al.refl s) (show Rep K G (.int _) (.int _) from rep_int)
  | str x =>
    have e' : (if x.length ≤ 16777216 then some (D.int x.length) else none) = some d' := e
    split at e'
    · rename_i hz
      cases e'
      rw [r.str_]
      exact .inl ⟨_, x.length, rfl, ⟨by rw [sizeLine_eq]; exact hz, rfl⟩, k _ G H (Al.refl s) (show Rep K G (.int _) (.int _) from rep_int)⟩
    · cases e'
  | _ => cases e
/-! int -/
def intD : D → Option D
  | .int i => some (.int i)
  | .bl b => some (.int (if b then 1 else 0))
  | _ => none
theorem c_int : C1 K m .sh intD (fun xs H Q => (∃ i, xs = [.int i] ∧ Q (.int i) H) ∨ ∃ k, xs = [.bl k] ∧ Q (.int (if k then 1 else 0)) H) := by
  intro F G H d v d' Q s th rx e k
  cases d with
  | int i => cases e; exact .inl ⟨i, by rw [rx.int s], k _ G H (Al.refl s) (show Rep K G (.int _) (.int _) from rep_int)⟩
  | bl b => cases e; exact .inr ⟨b, by rw [rx.bl s], k _ G H (Al.refl s) (show Rep K G (.int _) (.int _) from rep_int)⟩
  | _ => cases e
/-! sum, max, min, all, any -/
def sumD : D → Option D
  | .lst ds => (intsD ds).map fun ns => .int ns.sum
  | _ => none
theorem c_sum : C1 K m .sh sumD (rSum K) := by
  intro F G H d v d' Q s th rx e k
  cases d with
  | lst ds =>
    obtain ⟨a, vs, rfl, q, rr⟩ := rx.lstA s
    have e' : ((intsD ds).map fun ns => D.int ns.sum) = some d' := e
    cases z : intsD ds with
    | none => rw [z] at e'; cases e'
    | some ns =>
      rw [z] at e'
      cases e'
      rw [intsD_v z rr] at q
      exact ⟨a, ns, rfl, SqL.of q, k _ G H (Al.refl s) (show Rep K G (.int _) (.int _) from rep_int)⟩
  | _ => cases e
def maxI : Int → List Int → Int
  | m, [] => m
  | m, n :: ns => maxI (if n > m then n else m) ns
def minI : Int → List Int → Int
  | m, [] => m
  | m, n :: ns => minI (if n < m then n else m) ns
theorem maxI_is : ∀ (ns : List Int) (m : Int), (maxI m ns = m ∨ maxI m ns ∈ ns) ∧ m ≤ maxI m ns ∧ ∀ y ∈ ns, y ≤ maxI m ns
  | [], m => ⟨.inl rfl, Int.le_refl _, fun _ h => nomatch h⟩
  | n :: ns, m => by
    obtain ⟨a, b, c⟩ := maxI_is ns (if n > m then n else m)
    have e : maxI m (n :: ns) = maxI (if n > m then n else m) ns := rfl
    rw [e]
    by_cases h : n > m
    · rw [if_pos h] at a b c ⊢
      refine ⟨.inr (a.elim (fun z => by rw [z]; exact List.mem_cons_self) fun z => List.mem_cons_of_mem _ z), by omega, fun y hy => ?_⟩
      rcases List.mem_cons.mp hy with z | z
      · rw [z]; exact b
      · exact c y z
    · rw [if_neg h] at a b c ⊢
      refine ⟨a.imp id fun z => List.mem_cons_of_mem _ z, b, fun y hy => ?_⟩
      rcases List.mem_cons.mp hy with z | z
      · rw [z]; omega
      · exact c y z
theorem minI_is : ∀ (ns : List Int) (m : Int), (minI m ns = m ∨ minI m ns ∈ ns) ∧ minI m ns ≤ m ∧ ∀ y ∈ ns, minI m ns ≤ y
  | [], m => ⟨.inl rfl, Int.le_refl _, fun _ h => nomatch h⟩
  | n :: ns, m => by
    obtain ⟨a, b, c⟩ := minI_is ns (if n < m then n else m)
    have e : minI m (n :: ns) = minI (if n < m then n else m) ns := rfl
    rw [e]
    by_cases h : n < m
    · rw [if_pos h] at a b c ⊢
      refine ⟨.inr (a.elim (fun z => by rw [z]; exact List.mem_cons_self) fun z => List.mem_cons_of_mem _ z), by omega, fun y hy => ?_⟩
      rcases List.mem_cons.mp hy with z | z
      · rw [z]; exact b
      · exact c y z
    · rw [if_neg h] at a b c ⊢
      refine ⟨a.imp id fun z => List.mem_cons_of_mem _ z, b, fun y hy => ?_⟩
      rcases List.mem_cons.mp hy with z | z
      · rw [z]; omega
      · exact c y z
def maxD1 : D → Option D
  | .lst ds => (intsD ds).bind fun ns => match ns with
    | n :: ns => some (.int (maxI n ns))
    | [] => none
  | _ => none
def minD1 : D → Option D
  | .lst ds => (intsD ds).bind fun ns => match ns with
    | n :: ns => some (.int (minI n ns))
    | [] => none
  | _ => none
theorem c_max1 : C1 K m .sh maxD1 (rMax K) := by
  intro F G H d v d' Q s th rx e k
  cases d with
  | lst ds =>
    obtain ⟨a, vs, rfl, q, rr⟩ := rx.lstA s
    have e' : ((intsD ds).bind fun ns => match ns with | n :: ns => some (D.int (maxI n ns)) | [] => none) = some d' := e
    cases z : intsD ds with
    | none => rw [z] at e'; cases e'
    | some l =>
      rw [z, Option.bind_some] at e'
      cases l with
      | nil => cases e'
      | cons n ns =>
        cases e'
        rw [intsD_v z rr] at q
        refine ⟨a, n :: ns, rfl, SqL.of q, by simp, fun m hm hle => ?_⟩
        obtain ⟨h1, h2, h3⟩ := maxI_is ns n
        have hmem : maxI n ns ∈ n :: ns := h1.elim (fun z => by rw [z]; exact List.mem_cons_self) fun z => List.mem_cons_of_mem _ z
        have hm' : m = maxI n ns := by
          have a1 := hle _ hmem
          have a2 : m ≤ maxI n ns := (List.mem_cons.mp hm).elim (fun z => by rw [z]; exact h2) fun z => h3 m z
          omega
        rw [hm']
        exact k _ G H (Al.refl s) (show Rep K G (.int _) (.int _) from rep_int)
  | _ => cases e
theorem c_min1 : C1 K m .sh minD1 (rMin K) := by
  intro F G H d v d' Q s th rx e k
  cases d with
  | lst ds =>
    obtain ⟨a, vs, rfl, q, rr⟩ := rx.lstA s
    have e' : ((intsD ds).bind fun ns => match ns with | n :: ns => some (D.int (minI n ns)) | [] => none) = some d' := e
    cases z : intsD ds with
    | none => rw [z] at e'; cases e'
    | some l =>
      rw [z, Option.bind_some] at e'
      cases l with
      | nil => cases e'
      | cons n ns =>
        cases e'
        rw [intsD_v z rr] at q
        refine ⟨a, n :: ns, rfl, SqL.of q, by simp, fun m hm hle => ?_⟩
        obtain ⟨h1, h2, h3⟩ := minI_is ns n
        have hmem : minI n ns ∈ n :: ns := h1.elim (fun z => by rw [z]; exact List.mem_cons_self) fun z => List.mem_cons_of_mem _ z
        have hm' : m = minI n ns := by
          have a1 := hle _ hmem
          have a2 : minI n ns ≤ m := (List.mem_cons.mp hm).elim (fun z => by rw [z]; exact h2) fun z => h3 m z
          omega
        rw [hm']
        exact k _ G H (Al.refl s) (show Rep K G (.int _) (.int _) from rep_int)
  | _ => cases e
def maxD2 : D → D → Option D
  | .int i, .int j => some (.int (if j > i then j else i))
  | _, _ => none
def minD2 : D → D → Option D
  | .int i, .int j => some (.int (if j < i then j else i))
  | _, _ => none
theorem c_max2 : C2 K ma mb .sh maxD2 (fun xs H Q => ∃ i j, xs = [.int i, .int j] ∧ Q (.int (if j > i then j else i)) H) := by
  intro F G H d e v u d' Q s th rx ry eq k
  cases d with
  | int i => cases e with
    | int j => cases eq; exact ⟨i, j, by rw [rx.int s, ry.int s], k _ G H (Al.refl s) (show Rep K G (.int _) (.int _) from rep_int)⟩
    | _ => cases eq
  | _ => cases eq
theorem c_min2 : C2 K ma mb .sh minD2 (fun xs H Q => ∃ i j, xs = [.int i, .int j] ∧ Q (.int (if j < i then j else i)) H) := by
  intro F G H d e v u d' Q s th rx ry eq k
  cases d with
  | int i => cases e with
    | int j => cases eq; exact ⟨i, j, by rw [rx.int s, ry.int s], k _ G H (Al.refl s) (show Rep K G (.int _) (.int _) from rep_int)⟩
    | _ => cases eq
  | _ => cases eq
def allD : D → Option D
  | .lst ds => (bolsD ds).map fun bs => .bl (bs.all id)
  | _ => none
def anyD : D → Option D
  | .lst ds => (bolsD ds).map fun bs => .bl (bs.any id)
  | _ => none
theorem c_all : C1 K m .sh allD (rAll K) := by
  intro F G H d v d' Q s th rx e k
  cases d with
  | lst ds =>
    obtain ⟨a, vs, rfl, q, rr⟩ := rx.lstA s
    have e' : ((bolsD ds).map fun ns => D.bl (ns.all id)) = some d' := e
    cases z : bolsD ds with
    | none => rw [z] at e'; cases e'
    | some ns =>
      rw [z] at e'
      cases e'
      rw [bolsD_v z rr] at q
      exact ⟨a, ns, rfl, SqL.of q, k _ G H (Al.refl s) (show Rep K G (.bl _) (.bl _) from rep_bl)⟩
  | _ => cases e
theorem c_any : C1 K m .sh anyD (rAny K) := by
  intro F G H d v d' Q s th rx e k
  cases d with
  | lst ds =>
    obtain ⟨a, vs, rfl, q, rr⟩ := rx.lstA s
    have e' : ((bolsD ds).map fun ns => D.bl (ns.any id)) = some d' := e
    cases z : bolsD ds with
    | none => rw [z] at e'; cases e'
    | some ns =>
      rw [z] at e'
      cases e'
      rw [bolsD_v z rr] at q
      exact ⟨a, ns, rfl, SqL.of q, k _ G H (Al.refl s) (show Rep K G (.bl _) (.bl _) from rep_bl)⟩
  | _ => cases e
end
end DL
namespace DL
open PySem PySem.Spec PyProof.Rows L2

section
variable {K : PySem.W.Frag} {G H : Hp} {m ma mb : M} {F : List Addr} {mds : List M}
/-! ### tables of pairs -/
def putG {κ α : Type} [DecidableEq κ] (kvs : List (κ × α)) (k : κ) (v : α) : List (κ × α) :=
  if (kvs.any fun kv => decide (kv.1 = k)) = true then kvs.map (fun kv => if kv.1 = k then (kv.1, v) else kv) else kvs ++ [(k, v)]
def KR {κ : Type} (K : PySem.W.Frag) (H : Hp) (kds : List (κ × D)) (kvs : List (κ × V)) : Prop := kds.map (·.1) = kvs.map (·.1) ∧ Reps K H (kds.map (·.2)) (kvs.map (·.2))
theorem KR.nil {κ : Type} : KR (κ := κ) K H [] [] := ⟨rfl, .nil⟩
theorem KR.cons {κ : Type} {k : κ} {d : D} {v : V} {kds : List (κ × D)} {kvs : List (κ × V)} (h : Rep K H d v) (r : KR K H kds kvs) : KR K H ((k, d) :: kds) ((k, v) :: kvs) :=
  ⟨by simp [r.1], .cons h r.2⟩
theorem KR.inv {κ : Type} {p : κ × D} {kds : List (κ × D)} {kvs : List (κ × V)} (h : KR K H (p :: kds) kvs) : ∃ v r, kvs = (p.1, v) :: r ∧ Rep K H p.2 v ∧ KR K H kds r := by
  cases kvs with
  | nil => have := h.1; simp at this
  | cons q r =>
    have e := h.1
    simp only [List.map_cons, List.cons.injEq] at e
    obtain ⟨v, r', e2, h1, h2⟩ := reps_cons.mp h.2
    simp only [List.map_cons, List.cons.injEq] at e2
    obtain ⟨rfl, rfl⟩ := e2
    refine ⟨q.2, r, ?_, h1, e.2, h2⟩
    rw [e.1]
theorem KR.of {κ : Type} {ks : List κ} {ds : List D} {vs : List V} (hl : ks.length = ds.length) (h : Reps K H ds vs) : KR K H (ks.zip ds) (ks.zip vs) := by
  have hv := h.length
  unfold KR
  rw [List.map_fst_zip (by omega), List.map_fst_zip (by omega), List.map_snd_zip (by omega), List.map_snd_zip (by omega)]
  exact ⟨rfl, h⟩
theorem zip_self {κ α : Type} : ∀ l : List (κ × α), (l.map (·.1)).zip (l.map (·.2)) = l
  | [] => rfl
  | p :: l => by simp [zip_self l]
theorem KR.back {κ : Type} {kds : List (κ × D)} {kvs : List (κ × V)} (h : KR K H kds kvs) : (kds.map (·.1)).zip (kvs.map (·.2)) = kvs := by rw [h.1]; exact zip_self kvs
theorem KR.same {κ : Type} {H' : Hp} {kds : List (κ × D)} {kvs : List (κ × V)} (h : KR K H kds kvs) (s : Same H H') : KR K H' kds kvs := ⟨h.1, h.2.same s⟩
theorem KR.any {κ : Type} [DecidableEq κ] (k : κ) : ∀ {kds : List (κ × D)} {kvs : List (κ × V)}, KR K H kds kvs → (kds.any fun kv => decide (kv.1 = k)) = (kvs.any fun kv => decide (kv.1 = k))
  | [], kvs, h => by
    have : kvs = [] := by have := h.1; simpa using this.symm
    rw [this]; rfl
  | p :: kds, kvs, h => by
    obtain ⟨v, r, rfl, h1, h2⟩ := h.inv
    rw [List.any_cons, List.any_cons, h2.any k]
theorem KR.map {κ : Type} [DecidableEq κ] {k : κ} {d : D} {v : V} (hd : Rep K H d v) : ∀ {kds : List (κ × D)} {kvs : List (κ × V)}, KR K H kds kvs → KR K H (kds.map fun kv => if kv.1 = k then (kv.1, d) else kv) (kvs.map fun kv => if kv.1 = k then (kv.1, v) else kv)
  | [], kvs, h => by
    have : kvs = [] := by have := h.1; simpa using this.symm
    rw [this]; exact .nil
  | p :: kds, kvs, h => by
    obtain ⟨u, r, rfl, h1, h2⟩ := h.inv
    rw [List.map_cons, List.map_cons]
    by_cases z : p.1 = k
    · rw [if_pos z, if_pos z]; exact .cons hd (h2.map hd)
    · rw [if_neg z, if_neg z]; exact .cons h1 (h2.map hd)
theorem KR.app {κ : Type} {k : κ} {d : D} {v : V} {kds : List (κ × D)} {kvs : List (κ × V)} (h : KR K H kds kvs) (hd : Rep K H d v) : KR K H (kds ++ [(k, d)]) (kvs ++ [(k, v)]) := by
  unfold KR
  rw [List.map_append, List.map_append, List.map_append, List.map_append]
  exact ⟨by rw [h.1]; rfl, h.2.append (.cons hd .nil)⟩
theorem KR.put {κ : Type} [DecidableEq κ] {k : κ} {d : D} {v : V} {kds : List (κ × D)} {kvs : List (κ × V)} (h : KR K H kds kvs) (hd : Rep K H d v) : KR K H (putG kds k d) (putK kvs k v) := by
  unfold putG putK
  rw [h.any k]
  split
  · exact h.map hd
  · exact h.app hd
def mergeG {α : Type} (kvs more : List (Key × α)) : List (Key × α) := more.foldl (fun acc kv => putG acc kv.1 kv.2) kvs
theorem KR.merge : ∀ {more : List (Key × D)} {moreV : List (Key × V)} {kds : List (Key × D)} {kvs : List (Key × V)}, KR K H more moreV → KR K H kds kvs → KR K H (mergeG kds more) (mergeK kvs moreV)
  | [], moreV, kds, kvs, h, h2 => by
    have : moreV = [] := by have := h.1; simpa using this.symm
    rw [this]; exact h2
  | p :: more, moreV, kds, kvs, h, h2 => by
    obtain ⟨v, r, rfl, h3, h4⟩ := h.inv
    exact KR.merge (more := more) (moreV := r) (kds := putG kds p.1 p.2) (kvs := putK kvs p.1 v) h4 (h2.put h3)
/-- a new owned dict of pairs -/
theorem new_dictG {p : Addr} {kds : List (Key × D)} {kvs : List (Key × V)} {Q : VK} (s : Same G H) (th : ∀ a ∈ F, ∃ o, H a = some o) (hp : H p = none) (r : KR K G kds kvs) (k : ∀ v G' H', Al G H G' H' → RR K [] H (.ow 1) (.dK (kds.map (·.1)) (kds.map (·.2))) v F G' H' → Q v H') : Q (.ref p) (upd H p (.dK kvs)) := by
  have := new_dict (ks := kds.map (·.1)) (Q := Q) s th hp r.2 (by simp) k
  rw [r.back] at this
  exact this

/-! ### list(x) -/
def kD : Key → D
  | .inl i => .int i
  | .inr x => .str x
theorem kD_rep {k : Key} : Rep K H (kD k) (kV k) := by
  cases k with
  | inl i => exact (show Rep K H (.int i) (.int i) from rep_int)
  | inr x => exact (show Rep K H (.str x) (.str x) from rep_str)
theorem kDs_rep : ∀ ks : List Key, Reps K H (ks.map kD) (ks.map kV)
  | [] => .nil
  | k :: ks => .cons kD_rep (kDs_rep ks)
def rListA (K : PySem.W.Frag) : List V → Hp → VK → Prop := fun xs H Q => (∃ p ys, xs = [.ref p] ∧ (SqL K H p ys ∨ SqT K H p ys) ∧ ∀ l, H l = none → Q (.ref l) (upd H l (.lst ys))) ∨
  (∃ (a : Addr) (kvs : List (Key × V)), xs = [.ref a] ∧ Rd H a (.dK kvs) ∧ ∀ p, H p = none → Q (.ref p) (upd H p (.lst (kvs.map fun kv => kV kv.1)))) ∨
  (∃ x : Str, xs = [.str x] ∧ x.cps.size ≤ sizeLine ∧ ∀ p, H p = none → Q (.ref p) (upd H p (.lst (x.cps.toList.map fun c => V.str ⟨#[c]⟩))))
theorem vals_signs {x : Str} : ∀ {l : List Value} (cs : List Nat), l.length = cs.length → (∀ (j : Nat) (v : Value), l[j]? = some v → ∃ c u, cs[j]? = some c ∧ v = Value.str ⟨#[c]⟩ u) → Vals (cs.map fun c => V.str ⟨#[c]⟩) l
  | [], [], _, _ => .nil
  | v :: l, c :: cs, hl, h => by
    obtain ⟨c', u, e, rfl⟩ := h 0 v rfl
    simp at e; subst e
    exact .cons ⟨u, rfl⟩ (vals_signs (x := x) cs (by simpa using hl) fun j v e => by simpa using h (j + 1) v (by simpa using e))
  | [], _ :: _, hl, _ => by simp at hl
  | _ :: _, [], hl, _ => by simp at hl
theorem call_listS {X : Cx} (hc : X.calm = true) : CallR X (.type "list") (fun xs H Q => ∃ x : Str, xs = [.str x] ∧ x.cps.size ≤ sizeLine ∧ ∀ p, H p = none → Q (.ref p) (upd H p (.lst (x.cps.toList.map fun c => V.str ⟨#[c]⟩)))) := by
  intro pins s σ H xs us Q I r h
  obtain ⟨x, rfl, hz, q⟩ := h
  obtain ⟨u, rfl, t, rfl⟩ := vals1 r
  refine PySem.call_list_str (I.ok.hd hc) x t (fun h' tk acc c k e it => ?_) hz
  have hv : Vals (x.cps.toList.map fun c => V.str ⟨#[c]⟩) acc.toList := vals_signs (x := x) _ (by rw [Array.length_toList, Array.length_toList]; exact it.1) fun j v ev => by
    obtain ⟨c, u, e1, e2⟩ := it.2 j v (by rw [← Array.getElem?_toList]; exact ev)
    exact ⟨c, u, by rw [Array.getElem?_toList]; exact e1, e2⟩
  exact ⟨.ref s.heap.objs.size, upd H s.heap.objs.size (.lst (x.cps.toList.map fun c => V.str ⟨#[c]⟩)), I.laid (t' := tk) k (Nat.le_refl _)
    (show ObjOk X.prog X.w _ _ _ (.lst _) from ⟨by rw [List.length_map, Array.length_toList]; exact hz, acc.toList, c, hv, by rw [Array.toArray_toList]; exact e⟩), rfl, q _ (I.hok.fresh (Nat.le_refl _))⟩
theorem call_listA {X : Cx} (hc : X.calm = true) : CallR X (.type "list") (rListA X.K) := call_list_of.or ((call_listD hc).or (call_listS hc))
def listD : D → Option D
  | .lst ds => some (.lst ds)
  | .tup ds => some (.lst ds)
  | .dK ks _ => some (.lst (ks.map kD))
  | .str x => if x.cps.size ≤ 16777216 then some (.lst (signsD x)) else none
  | _ => none
theorem signs_rep {x : Str} : Reps K H (signsD x) (x.cps.toList.map fun c => V.str ⟨#[c]⟩) := by
  unfold signsD
  generalize x.cps.toList = l
  induction l with
  | nil => exact .nil
  | cons c l ih => exact .cons (show Rep K H (.str _) (.str _) from rep_str) ih
theorem c_list (hm : itM m = true) : C1 K m (.ow 1) listD (rListA K) := by
  intro F G H d v d' Q s th rx e k
  cases d with
  | lst ds =>
    cases e
    obtain ⟨a, vs, rfl, ha, rr⟩ := rx.lst s hm
    exact .inl ⟨a, vs, rfl, .inl (SqL.of ha), fun l hl => new_list s th hl rr k⟩
  | tup ds =>
    cases e
    obtain ⟨a, vs, rfl, ha, rr⟩ := rx.tup s hm
    exact .inl ⟨a, vs, rfl, .inr (SqT.of ha), fun l hl => new_list s th hl rr k⟩
  | dK ks ds =>
    cases e
    obtain ⟨a, vs, rfl, ha, hl, rr⟩ := rx.dK s hm
    refine .inr (.inl ⟨a, _, rfl, ha, fun l hl' => ?_⟩)
    have : (ks.zip vs).map (fun kv => kV kv.1) = ks.map kV := by
      show (ks.zip vs).map (kV ∘ Prod.fst) = _
      rw [← List.map_map, List.map_fst_zip (by rw [rr.length]; omega)]
    rw [this]
    exact new_list s th hl' (kDs_rep ks) k
  | str x =>
    have e' : (if x.cps.size ≤ 16777216 then some (D.lst (signsD x)) else none) = some d' := e
    split at e'
    · rename_i hz
      cases e'
      rw [rx.str s]
      exact .inr (.inr ⟨x, rfl, by rw [sizeLine_eq]; exact hz, fun l hl => new_list s th hl signs_rep k⟩)
    · cases e'
  | _ => cases e
/-! ### tuple(x) -/
def tupleD : D → Option D
  | .lst ds => some (.tup ds)
  | .tup ds => some (.tup ds)
  | _ => none
theorem c_tuple (hm : itM m = true) : C1 K m .sh tupleD (fun xs H Q => ∃ p ys, xs = [.ref p] ∧ ((SqL K H p ys ∧ ∀ l, H l = none → Q (.ref l) (upd H l (.tup ys))) ∨ (SqT K H p ys ∧ Q (.ref p) H))) := by
  intro F G H d v d' Q s th rx e k
  cases d with
  | lst ds =>
    cases e
    obtain ⟨a, vs, rfl, ha, rr⟩ := rx.lst s hm
    exact ⟨a, vs, rfl, .inl ⟨SqL.of ha, fun l hl => k _ _ _ (Al.sh s hl) (rep_tup rr (s.free hl))⟩⟩
  | tup ds =>
    cases e
    obtain ⟨a, vs, rfl, ha, rr⟩ := rx.tup s hm
    refine ⟨a, vs, rfl, .inr ⟨SqT.of ha, k _ G H (Al.refl s) ?_⟩⟩
    rcases itM_or hm with rfl | rfl
    · exact rx
    · obtain ⟨fp, b, fr, _, _, q⟩ := rx
      exact q.elim
  | _ => cases e
/-! ### dict(x) -/
def pairsD : List D → Option (List (Key × D))
  | [] => some []
  | .tup [a, d] :: r => (keyD a).bind fun k => (pairsD r).map fun l => (k, d) :: l
  | _ => none
theorem pairsD_v : ∀ {ds : List D} {kds : List (Key × D)} {vs : List V}, pairsD ds = some kds → Reps K G ds vs → Same G H → ∃ (ps : List Addr) (kvs : List (Key × V)), vs = ps.map V.ref ∧ Paired (fun p kv => SqT K H p [kV kv.1, kv.2]) ps kvs ∧ KR K G kds kvs
  | [], kds, vs, e, h, s => by cases e; rw [reps_nil.mp h]; exact ⟨[], [], rfl, .nil, .nil⟩
  | d :: ds, kds, vs, e, h, s => by
    obtain ⟨v, r, rfl, h1, h2⟩ := reps_cons.mp h
    unfold pairsD at e
    split at e
    · rename_i heq
      cases heq
    · rename_i a d' r' heq
      cases heq
      cases q : keyD a with
      | none => rw [q] at e; cases e
      | some key =>
        rw [q, Option.bind_some] at e
        cases q2 : pairsD ds with
        | none => rw [q2] at e; cases e
        | some l =>
          rw [q2] at e
          cases e
          obtain ⟨ps, kvs, rfl, p1, p2⟩ := pairsD_v q2 h2 s
          obtain ⟨t, us, rfl, ht, ru⟩ := h1.tup_
          obtain ⟨va, us1, rfl, ra, ru1⟩ := reps_cons.mp ru
          obtain ⟨vd, us2, rfl, rd, ru2⟩ := reps_cons.mp ru1
          rw [reps_nil.mp ru2] at ht
          rw [keyD_v q ra] at ht
          exact ⟨t :: ps, (key, vd) :: kvs, rfl, .cons (SqT.of (s _ _ ht)) p1, .cons rd p2⟩
    · cases e
def rDictA (K : PySem.W.Frag) : List V → Hp → VK → Prop := fun xs H Q => (∃ (a : Addr) (ps : List Addr) (kvs : List (Key × V)), xs = [.ref a] ∧ SqL K H a (ps.map V.ref) ∧ Paired (fun p kv => SqT K H p [kV kv.1, kv.2]) ps kvs ∧
    ∀ p, H p = none → Q (.ref p) (upd H p (.dK (mergeK [] kvs)))) ∨ ∃ (a : Addr) (kvs : List (Key × V)), xs = [.ref a] ∧ Rd H a (.dK kvs) ∧ ∀ p, H p = none → Q (.ref p) (upd H p (.dK kvs))
theorem call_dictA {X : Cx} (hc : X.calm = true) : CallR X (.type "dict") (rDictA X.K) := (call_dictP hc).or call_dictD
def dictD : D → Option D
  | .lst ds => (pairsD ds).map fun kds => .dK ((mergeG [] kds).map (·.1)) ((mergeG [] kds).map (·.2))
  | .dK ks ds => some (.dK ks ds)
  | _ => none
theorem c_dict (hm : itM m = true) : C1 K m (.ow 1) dictD (rDictA K) := by
  intro F G H d v d' Q s th rx e k
  cases d with
  | lst ds =>
    have e' : ((pairsD ds).map fun kds => D.dK ((mergeG [] kds).map (·.1)) ((mergeG [] kds).map (·.2))) = some d' := e
    cases q : pairsD ds with
    | none => rw [q] at e'; cases e'
    | some kds =>
      rw [q] at e'
      cases e'
      obtain ⟨a, vs, rfl, ha, rr⟩ := rx.lst s hm
      obtain ⟨ps, kvs, rfl, p1, p2⟩ := pairsD_v q rr s
      exact .inl ⟨a, ps, kvs, rfl, SqL.of ha, p1, fun p hp => new_dictG s th hp (p2.merge .nil) k⟩
  | dK ks ds =>
    cases e
    obtain ⟨a, vs, rfl, ha, hl, rr⟩ := rx.dK s hm
    exact .inr ⟨a, _, rfl, ha, fun p hp => new_dict s th hp rr hl k⟩
  | _ => cases e

/-! ### sorted(x), data of one kind -/
def rSortD (K : PySem.W.Frag) : List V → Hp → VK → Prop := fun xs H Q => ∃ (a : Addr) (vs : List V) (ps : List PyData), xs = [.ref a] ∧ SqL K H a vs ∧ DpAll K H vs ps ∧ PySem.W.AllAlike ps ∧ PySem.W.Sortable ps ∧ (∀ b ∈ ps, b.depth ≤ 60) ∧
  ∀ p, H p = none → Q (.ref p) (upd H p (.lst (((vs.zip ps).mergeSort (PySem.W.dataLe false Prod.snd)).map Prod.fst)))
theorem DpAll.length {vs : List V} {ps : List PyData} (h : DpAll K H vs ps) : vs.length = ps.length := by
  induction vs generalizing ps with
  | nil => cases h; rfl
  | cons v vs ih => cases h with
    | cons h1 h2 => simp [ih h2]
theorem each_zip {X : Cx} {pins : List (Addr × Obj)} {σ : L2.St} {s : Shared} (I : Inv X pins σ H s) : ∀ {vs : List V} {us : List Value} {ps : List PyData}, Vals vs us → DpAll X.K H vs ps →
    PySem.W.EachIs (fun u (b : V × PyData) => RelV b.1 u) us (vs.zip ps) ∧ PySem.W.EachIs (fun u (b : V × PyData) => ∃ as, Reads s.heap u b.2 as) us (vs.zip ps)
  | _, _, _, .nil, h => by cases h; exact ⟨.nil, .nil⟩
  | _, _, _, .cons r t, h => by
    cases h with
    | cons h1 h2 =>
      obtain ⟨a, b⟩ := each_zip I t h2
      exact ⟨.cons r a, .cons (Dp.reads I _ _ _ h1 r) b⟩
theorem each_vals : ∀ {us : List Value} {bs : List (V × PyData)}, PySem.W.EachIs (fun u (b : V × PyData) => RelV b.1 u) us bs → Vals (bs.map Prod.fst) us
  | _, _, .nil => .nil
  | _, _, .cons r t => .cons r (each_vals t)
theorem call_sortedData {X : Cx} (hu : X.A.units + 64 < cLine) : CallR X (.builtin "sorted") (rSortD X.K) := by
  intro pins s σ H xs us Q I r h
  obtain ⟨a, vs, ps, rfl, hs, dp, al, so, hd, q⟩ := h
  obtain ⟨u, rfl, rx⟩ := vals1 r
  cases rx
  obtain ⟨its, rv, hl, hz⟩ := I.list hs
  obtain ⟨e1, e2⟩ := each_zip I rv dp
  have hlen := DpAll.length dp
  have em : (vs.zip ps).map Prod.snd = ps := List.map_snd_zip (by omega)
  refine PySem.W.sorted_data hl.isList e1 e2 (by rw [em]; exact al) (by rw [em]; exact so) (by rw [List.length_zip]; omega) (fun b hb => ?_) fun out ho eo => ?_
  · have := hd b.2 (by rw [← em]; exact List.mem_map_of_mem hb)
    omega
  · obtain ⟨ep, he'⟩ := PyProof.Rows.sortedAll_at s.heap its out.toArray
    have hv := each_vals eo
    have hlen2 : (((vs.zip ps).mergeSort (PySem.W.dataLe false Prod.snd)).map Prod.fst).length ≤ sizeLine := by
      rw [hv.length, ho, List.length_zip]; omega
    exact ⟨.ref _, upd H (s.heap.objs.size + 1) (.lst _), I.laid (t' := s.toks) (fun _ _ => PyProof.Rows.sortedAll_old) (Nat.le_succ _) ⟨hlen2, out, ep, hv, he'⟩, rfl, q _ (I.hok.fresh (Nat.le_succ _))⟩
def alikeB (ps : List PyData) : Bool := ps.all fun a => ps.all fun b => PySem.W.alike a b
def isTupB : PyData → Bool
  | .tuple (_ :: _) => true
  | _ => false
def noTupB : PyData → Bool
  | .none => false
  | .tuple _ => false
  | _ => true
def sortB (ps : List PyData) : Bool := alikeB ps && ((ps.all isTupB || ps.all noTupB) && ps.all fun b => decide (b.depth ≤ 60))
theorem sortB_ok {ps : List PyData} (h : sortB ps = true) : PySem.W.AllAlike ps ∧ PySem.W.Sortable ps ∧ ∀ b ∈ ps, b.depth ≤ 60 := by
  unfold sortB at h
  rw [Bool.and_eq_true, Bool.and_eq_true, Bool.or_eq_true] at h
  obtain ⟨h1, h2, h3⟩ := h
  refine ⟨fun d hd d' hd' => List.all_eq_true.mp (List.all_eq_true.mp h1 d hd) d' hd', ?_, fun b hb => by simpa using List.all_eq_true.mp h3 b hb⟩
  rcases h2 with z | z
  · refine .inl fun d hd => ?_
    have := List.all_eq_true.mp z d hd
    unfold isTupB at this
    split at this
    · exact ⟨_, _, rfl⟩
    · cases this
  · refine .inr fun d hd => ?_
    have := List.all_eq_true.mp z d hd
    unfold noTupB at this
    split at this
    · cases this
    · cases this
    · rename_i h1 h2
      exact ⟨h1, h2⟩
def sortD : D → Option D
  | .lst ds => (toPys ds).bind fun ps => if sortB ps = true then some (.lst (((ds.zip ps).mergeSort (PySem.W.dataLe false Prod.snd)).map Prod.fst)) else none
  | _ => none
theorem toPys_length : ∀ {ds : List D} {ps : List PyData}, toPys ds = some ps → ps.length = ds.length
  | [], ps, e => by rw [toPys] at e; cases e; rfl
  | d :: ds, ps, e => by
    rw [toPys] at e
    cases z : toPy d with
    | none => rw [z] at e; cases e
    | some x =>
      rw [z, Option.bind_some] at e
      cases z2 : toPys ds with
      | none => rw [z2] at e; cases e
      | some r => rw [z2] at e; cases e; simp [toPys_length z2]
theorem reps_of {α : Type} {f : α → D} {g : α → V} : ∀ {l : List α}, (∀ x ∈ l, Rep K G (f x) (g x)) → Reps K G (l.map f) (l.map g)
  | [], _ => .nil
  | x :: l, h => .cons (h x List.mem_cons_self) (reps_of fun y hy => h y (List.mem_cons_of_mem _ hy))
theorem trip : ∀ {ds : List D} {vs : List V} {ps : List PyData}, Reps K G ds vs → ps.length = ds.length → ∃ l : List ((D × V) × PyData), l.map (fun x => (x.1.1, x.2)) = ds.zip ps ∧ l.map (fun x => (x.1.2, x.2)) = vs.zip ps ∧ ∀ x ∈ l, Rep K G x.1.1 x.1.2
  | [], vs, ps, h, hl => by rw [reps_nil.mp h]; exact ⟨[], by simp, by simp, fun _ h => nomatch h⟩
  | d :: ds, vs, [], h, hl => by simp at hl
  | d :: ds, vs, p :: ps, h, hl => by
    obtain ⟨v, r, rfl, h1, h2⟩ := reps_cons.mp h
    obtain ⟨l, a, b, c⟩ := trip h2 (by simpa using hl)
    exact ⟨((d, v), p) :: l, by simp [a], by simp [b], fun x hx => by
      rcases List.mem_cons.mp hx with z | z
      · rw [z]; exact h1
      · exact c x z⟩
theorem sort_rep {ds : List D} {vs : List V} {ps : List PyData} (h : Reps K G ds vs) (hl : ps.length = ds.length) :
    Reps K G (((ds.zip ps).mergeSort (PySem.W.dataLe false Prod.snd)).map Prod.fst) (((vs.zip ps).mergeSort (PySem.W.dataLe false Prod.snd)).map Prod.fst) := by
  obtain ⟨l, a, b, c⟩ := trip h hl
  rw [← a, ← b]
  rw [← List.map_mergeSort (r := PySem.W.dataLe false (fun x : (D × V) × PyData => x.2)) (s := PySem.W.dataLe false Prod.snd) (f := fun x : (D × V) × PyData => (x.1.1, x.2)) (fun x _ y _ => rfl),
    ← List.map_mergeSort (r := PySem.W.dataLe false (fun x : (D × V) × PyData => x.2)) (s := PySem.W.dataLe false Prod.snd) (f := fun x : (D × V) × PyData => (x.1.2, x.2)) (fun x _ y _ => rfl), List.map_map, List.map_map]
  exact reps_of (f := fun x => x.1.1) (g := fun x => x.1.2) fun x hx => c x (List.mem_mergeSort.mp hx)
theorem c_sorted (hm : itM m = true) : C1 K m (.ow 1) sortD (rSortD K) := by
  intro F G H d v d' Q s th rx e k
  cases d with
  | lst ds =>
    have e' : ((toPys ds).bind fun ps => if sortB ps = true then some (D.lst (((ds.zip ps).mergeSort (PySem.W.dataLe false Prod.snd)).map Prod.fst)) else none) = some d' := e
    cases q : toPys ds with
    | none => rw [q] at e'; cases e'
    | some ps =>
      rw [q, Option.bind_some] at e'
      split at e'
      · rename_i hb
        cases e'
        obtain ⟨a, vs, rfl, ha, rr⟩ := rx.lst s hm
        obtain ⟨h1, h2, h3⟩ := sortB_ok hb
        exact ⟨a, vs, ps, rfl, SqL.of ha, toPys_dp ds vs ps q (rr.same s), h1, h2, h3, fun p hp => new_list s th hp (sort_rep rr (toPys_length q)) k⟩
      · cases e'
  | _ => cases e
end
end DL
namespace DL
open PySem PySem.Spec PyProof.Rows L2

section
variable {K : PySem.W.Frag} {G H : Hp} {m ma mb : M} {F : List Addr} {mds : List M}
/-! ### repr -/
mutual
def noLst : PyData → Bool
  | .none | .bool _ | .int _ | .str _ => true
  | .list _ => false
  | .tuple xs => noLstAll xs
  | .dict _ => false
def noLstAll : List PyData → Bool
  | [] => true
  | x :: xs => noLst x && noLstAll xs
end
mutual
theorem noLst_as {h : Heap} : ∀ (d : PyData) (v : Value) (as : List Addr), noLst d = true → Reads h v d as → as = []
  | .none, _, _, _, r => by cases r; rfl
  | .bool _, _, _, _, r => by cases r; rfl
  | .int _, _, _, _, r => by cases r; rfl
  | .str _, _, _, _, r => by cases r; rfl
  | .list _, _, _, e, _ => by simp [noLst] at e
  | .tuple xs, _, _, e, r => by
    cases r with
    | tuple _ _ _ r => exact noLstAll_as xs _ _ (by simpa [noLst] using e) r
  | .dict _, _, _, e, _ => by simp [noLst] at e
theorem noLstAll_as {h : Heap} : ∀ (ds : List PyData) (vs : List Value) (as : List Addr), noLstAll ds = true → ReadsAll h vs ds as → as = []
  | [], _, _, _, r => by cases r; rfl
  | d :: ds, _, _, e, r => by
    cases r with
    | cons r1 r2 =>
      have e' : noLst d = true ∧ noLstAll ds = true := by simpa [noLstAll] using e
      rw [noLst_as d _ _ e'.1 r1, noLstAll_as ds _ _ e'.2 r2]; rfl
end
def kPy : Key → PyData
  | .inl i => .int i
  | .inr x => .str x
def rReprD (K : PySem.W.Frag) : List V → Hp → VK → Prop := fun xs H Q => ∃ (a : Addr) (d : PyData), xs = [.ref a] ∧ d.showable = true ∧ d.shown.length ≤ sizeLine ∧ d.depth ≤ 60 ∧
  ((Dp K H (.ref a) d ∧ d.hasDict = false) ∨ ∃ (kvs : List (Key × V)) (ps : List PyData), Rd H a (.dK kvs) ∧ DpAll K H (kvs.map (·.2)) ps ∧ noLstAll ps = true ∧ d = .dict ((kvs.map fun kv => kPy kv.1).zip ps)) ∧ Q (.str d.shown) H
theorem pairs_vals {P : Program} {w : World} : ∀ {es : List DictEntry} {kvs : List (Key × V)} {vs : List (Key × Value)}, PySem.Pairs (mixKind P w) es vs → KV kvs vs → Vals (kvs.map (·.2)) (es.map (·.val))
  | _, _, _, .nil, .nil => .nil
  | _, _, _, .cons h1 h2 t, .cons r t2 => by
    rw [List.map_cons, List.map_cons]
    refine .cons ?_ (pairs_vals t t2)
    have := r.2
    rw [← h2] at this
    exact this
theorem pairs_keys {P : Program} {w : World} {h : Heap} : ∀ {es : List DictEntry} {kvs : List (Key × V)} {vs : List (Key × Value)}, PySem.Pairs (mixKind P w) es vs → KV kvs vs → ∃ as, as = [] ∧ ReadsAll h (es.map (·.key)) (kvs.map fun kv => kPy kv.1) as
  | _, _, _, .nil, .nil => ⟨[], rfl, .nil⟩
  | _, _, _, .cons (e := e) (kv := kv) h1 h2 t, .cons (a := p) r t2 => by
    obtain ⟨as, rfl, q⟩ := pairs_keys (h := h) t t2
    rw [List.map_cons, List.map_cons]
    have h1' : keyIs kv.1 e.key = true := h1
    have hk : p.1 = kv.1 := r.1
    rcases keyIs_shape h1' with ⟨i, t, e1, e2⟩ | ⟨x, t, e1, e2⟩
    · refine ⟨[] ++ [], rfl, .cons ?_ q⟩
      rw [hk, e1, e2]; exact Reads.int i t
    · refine ⟨[] ++ [], rfl, .cons ?_ q⟩
      rw [hk, e1, e2]; exact Reads.str x t
theorem call_reprD {X : Cx} (hu : X.A.units + 64 < cLine) (hg : X.A.guards = some []) : CallR X (.builtin "repr") (rReprD X.K) := by
  intro pins s σ H xs us Q I r h
  obtain ⟨a, d, rfl, hs, hz, hd, c, q⟩ := h
  obtain ⟨u, rfl, rx⟩ := vals1 r
  cases rx
  have fin : ∀ h' t tk, (∀ b o, s.heap.get? b = some o → h'.get? b = some o) → EP X pins σ Q (.str d.shown t) { s with heap := h', toks := tk } := fun h' t tk k => ⟨.str d.shown, H, I.kept (t' := tk) k, ⟨t, rfl⟩, q⟩
  rcases c with ⟨dp, hn⟩ | ⟨kvs, ps, e, dp, hn, rfl⟩
  · obtain ⟨as, rd⟩ := Dp.reads I d _ _ dp rfl
    exact repr_of_reads' rd hs (PyData.noDict_hsm hn) hg (by omega) (fun _ _ e => e) fin hz
  · obtain ⟨z, lo, vs, rel, o, es, ep, h1, h2, h3, h4, h5, h6⟩ := dk_rd I.hok e
    have rv := pairs_vals h5 rel
    obtain ⟨as, rfl, rk⟩ := pairs_keys (h := s.heap) h5 rel
    obtain ⟨bs, rb⟩ := Dp.readsAll I ps _ _ dp rv
    have hb := noLstAll_as ps _ _ hn rb
    subst hb
    have hl : (kvs.map fun kv => kPy kv.1).length = ps.length := by
      rw [List.length_map, ← DpAll.length dp, List.length_map]
    have rd : Reads s.heap (.ref a) (.dict ((kvs.map fun kv => kPy kv.1).zip ps)) (a :: [] ++ []) := .dict h1 h2.1 h3 (by rw [List.map_fst_zip (by omega)]; exact rk) (by rw [List.map_snd_zip (by omega)]; exact rb)
    exact repr_of_reads' rd hs (fun _ hm => by
      have : sysModules = a := by simpa using hm
      rw [this] at lo
      simp at lo) hg (by omega) (fun _ _ e => e) fin hz
def toPyR : D → Option PyData
  | .dK ks ds => (toPys ds).bind fun ps => if noLstAll ps = true then some (.dict ((ks.map kPy).zip ps)) else none
  | .lst ds => (toPy (.lst ds)).bind fun x => if x.hasDict = false then some x else none
  | .tup ds => (toPy (.tup ds)).bind fun x => if x.hasDict = false then some x else none
  | _ => none
def reprD (d : D) : Option D := (toPyR d).bind fun x => if (x.showable && (decide (x.shown.length ≤ 16777216) && decide (x.depth ≤ 60))) = true then some (.str x.shown) else none
theorem c_repr : C1 K m .sh reprD (rReprD K) := by
  intro F G H d v d' Q s th rx e k
  unfold reprD at e
  cases q : toPyR d with
  | none => rw [q] at e; cases e
  | some x =>
    rw [q, Option.bind_some] at e
    split at e
    · rename_i hb
      cases e
      simp only [Bool.and_eq_true, decide_eq_true_eq] at hb
      obtain ⟨h1, h2, h3⟩ := hb
      have kk := k (.str x.shown) G H (Al.refl s) (show Rep K G (.str x.shown) (.str x.shown) from rep_str)
      have r := rx.rep s
      have plain : ∀ (hp : toPy d = some x) (hx : x.hasDict = false), (∃ a, v = .ref a) → rReprD K [v] H Q := fun hp hx ⟨a, ea⟩ => by
        subst ea
        exact ⟨a, x, rfl, h1, by rw [sizeLine_eq]; exact h2, h3, .inl ⟨toPy_dp d _ x hp r, hx⟩, kk⟩
      cases d with
      | lst ds =>
        have q' : ((toPy (.lst ds)).bind fun x => if x.hasDict = false then some x else none) = some x := q
        cases z : toPy (.lst ds) with
        | none => rw [z] at q'; cases q'
        | some y =>
          rw [z, Option.bind_some] at q'
          split at q'
          · rename_i hy
            cases q'
            obtain ⟨a, vs, ea, _⟩ := r.lst_
            exact plain z hy ⟨a, ea⟩
          · cases q'
      | tup ds =>
        have q' : ((toPy (.tup ds)).bind fun x => if x.hasDict = false then some x else none) = some x := q
        cases z : toPy (.tup ds) with
        | none => rw [z] at q'; cases q'
        | some y =>
          rw [z, Option.bind_some] at q'
          split at q'
          · rename_i hy
            cases q'
            obtain ⟨a, vs, ea, _⟩ := r.tup_
            exact plain z hy ⟨a, ea⟩
          · cases q'
      | dK ks ds =>
        have q' : ((toPys ds).bind fun ps => if noLstAll ps = true then some (PyData.dict ((ks.map kPy).zip ps)) else none) = some x := q
        cases z : toPys ds with
        | none => rw [z] at q'; cases q'
        | some ps =>
          rw [z, Option.bind_some] at q'
          split at q'
          · rename_i hn
            cases q'
            obtain ⟨a, vs, rfl, ha, hl, rr⟩ := r.dK_
            have hv := rr.length
            refine ⟨a, _, rfl, h1, by rw [sizeLine_eq]; exact h2, h3, .inr ⟨ks.zip vs, ps, ha, ?_, hn, ?_⟩, kk⟩
            · rw [List.map_snd_zip (by omega)]; exact toPys_dp ds vs ps z rr
            · have : (ks.zip vs).map (fun kv => kPy kv.1) = ks.map kPy := by
                show (ks.zip vs).map (kPy ∘ Prod.fst) = _
                rw [← List.map_map, List.map_fst_zip (by omega)]
              rw [this]
          · cases q'
      | _ => cases q
    · cases e
/-! ### isinstance -/
def tyD : D → String
  | .non => "NoneType"
  | .bl _ => "bool"
  | .int _ => "int"
  | .str _ => "str"
  | .lst _ => "list"
  | .tup _ => "tuple"
  | .scr _ => "list"
  | .dK _ _ => "dict"
  | .dT _ _ => "dict"
def isB (t n : String) : Bool := t == n || (t == "bool" && n == "int")
def isiD (n : String) : D → Option D
  | .scr _ => none
  | .dT _ _ => none
  | d => some (.bl (isB (tyD d) n))
def isiTD (ns : List String) : D → Option D
  | .scr _ => none
  | .dT _ _ => none
  | d => some (.bl (ns.any fun n => isB (tyD d) n))
theorem rd_tyX {a : Addr} {kvs : List (Key × V)} (h : Rd H a (.dK kvs)) : TyX K H (.ref a) (.type "dict") := h.elim (fun e => .base (.dK e)) fun ⟨o, e⟩ => .fDict e
theorem tyD_v {d : D} {v : V} (h : Rep K H d v) (h1 : ∀ ns, d ≠ .scr ns) (h2 : ∀ ks ds, d ≠ .dT ks ds) : TyX K H v (.type (tyD d)) := by
  cases d with
  | non => rw [h.non_]; exact .base .non
  | bl b => rw [h.bl_]; exact .base (.bl b)
  | int b => rw [h.int_]; exact .base (.int b)
  | str b => rw [h.str_]; exact .base (.str b)
  | lst ds => obtain ⟨a, vs, rfl, e, _⟩ := h.lst_; exact .base (.lst e)
  | tup ds => obtain ⟨a, vs, rfl, e, _⟩ := h.tup_; exact .base (.tup e)
  | scr ns => exact absurd rfl (h1 ns)
  | dK ks ds => obtain ⟨a, vs, rfl, e, _⟩ := h.dK_; exact rd_tyX e
  | dT ks ds => exact absurd rfl (h2 ks ds)
/-- the nine kinds against one name -/
def kitAll (n : String) : Bool := ["NoneType", "bool", "int", "str", "list", "tuple", "dict"].all fun t => kitB t n == some (isB t n)
theorem kit_at {n : String} (h : kitAll n = true) {d : D} : PySem.W.kitOne K (.type (tyD d)) (.type n) = some (isB (tyD d) n) := by
  refine kit_ty ?_
  have h' : ∀ t ∈ ["NoneType", "bool", "int", "str", "list", "tuple", "dict"], kitB t n = some (isB t n) := fun t ht => by
    have := List.all_eq_true.mp h t ht
    simpa using this
  cases d <;> exact h' _ (by simp [tyD])
theorem isiD_some {n : String} {d d' : D} (e : isiD n d = some d') : (∀ ns, d ≠ .scr ns) ∧ (∀ ks ds, d ≠ .dT ks ds) ∧ d' = .bl (isB (tyD d) n) := by
  cases d <;> first | (cases e; exact ⟨fun _ h => (nomatch h), fun _ _ h => (nomatch h), rfl⟩) | cases e
theorem isiTD_some {ns : List String} {d d' : D} (e : isiTD ns d = some d') : (∀ ns, d ≠ .scr ns) ∧ (∀ ks ds, d ≠ .dT ks ds) ∧ d' = .bl (ns.any fun n => isB (tyD d) n) := by
  cases d <;> first | (cases e; exact ⟨fun _ h => (nomatch h), fun _ _ h => (nomatch h), rfl⟩) | cases e
/-- f(x, T) -/
def un1 (f : FE) (g : D → Option D) : FE := fun env => (f env).bind fun q => (g q.1).map fun d => (d, q.2)
theorem un1_some {fa : FE} {g : D → Option D} {env : List D} {d : D} {env' : List D} (e : un1 fa g env = some (d, env')) : ∃ x, fa env = some (x, env') ∧ g x = some d := by
  unfold un1 at e
  cases h1 : fa env with
  | none => rw [h1] at e; cases e
  | some q =>
    rw [h1, Option.bind_some] at e
    cases h3 : g q.1 with
    | none => rw [h3] at e; cases e
    | some z => rw [h3] at e; cases e; exact ⟨q.1, rfl, h3⟩
theorem rr_ra {G' H' H0 : Hp} {F0 F1 : List Addr} {d : D} {v : V} (r : RR K F0 H0 m d v F1 G' H') (h1 : ∀ n, m ≠ .ow n) : RA K m d v G' H' := by
  cases m with
  | ow n => exact absurd rfl (h1 n)
  | _ => exact r
theorem sem_isi {n : String} (hn : kitAll n = true) {ms : List M} {p : Bool} {fa : FE} {ta : TE} (ha : SemE K ms p m fa ta) (h1 : ∀ n, m ≠ .ow n) : SemE K ms p .sh (un1 fa (isiD n)) (tCB (rIsi K) (tCons ta (tCons (tC (.ty n)) tNil))) := by
  intro env σ fps G H d env' Q S e k
  obtain ⟨x, ex, ed⟩ := un1_some e
  refine ha env σ fps G H x env' _ S ex fun v f1 G1 H1 t1 p1 S1 r1 => ?_
  obtain ⟨a1, a2, rfl⟩ := isiD_some ed
  refine ⟨v, .ty n, .type (tyD x), .type n, isB (tyD x) n, rfl, .ty n, tyD_v ((rr_ra r1 h1).rep S1.sub) a1 a2, kit_at hn, ?_⟩
  exact k _ f1 G1 H1 t1 p1 S1 (show Rep K G1 (.bl _) (.bl _) from rep_bl)
def tTys : List String → TA
  | [] => tNil
  | n :: ns => tCons (tC (.ty n)) (tTys ns)
theorem tTys_run {ns : List String} {σ : L2.St} {H : Hp} {Q : List V → Hp → Prop} (h : Q (ns.map V.ty) H) : tTys ns σ H Q := by
  induction ns generalizing Q with
  | nil => exact h
  | cons n ns ih => exact ih (Q := fun vs H' => Q (V.ty n :: vs) H') h
theorem kitAny_at {d : D} : ∀ {ns : List String}, ns.all kitAll = true → PySem.W.kitAny K (.type (tyD d)) (ns.map Value.type) = some (ns.any fun n => isB (tyD d) n)
  | [], _ => kitAny_nil
  | n :: ns, h => by
    rw [List.all_cons, Bool.and_eq_true] at h
    rw [List.map_cons, List.any_cons]
    refine kitAny_cons (kit_at h.1) (fun hb => ?_) fun hb => ?_
    · rw [hb, Bool.false_or]; exact kitAny_at h.2
    · rw [hb, Bool.true_or]
theorem clsV_tys : ∀ ns : List String, Paired ClsV (ns.map V.ty) (ns.map Value.type)
  | [] => .nil
  | n :: ns => .cons (.ty n) (clsV_tys ns)
theorem sem_isiT {ns : List String} (hn : ns.all kitAll = true) (hz : ns.length ≤ sizeLine) {ms : List M} {p : Bool} {fa : FE} {ta : TE} (ha : SemE K ms p m fa ta) (h1 : ∀ n, m ≠ .ow n) : SemE K ms p .sh (un1 fa (isiTD ns)) (tCB (rIsiT K) (tCons ta (tCons (tTup (tTys ns)) tNil))) := by
  intro env σ fps G H d env' Q S e k
  obtain ⟨x, ex, ed⟩ := un1_some e
  refine ha env σ fps G H x env' _ S ex fun v f1 G1 H1 t1 p1 S1 r1 => ?_
  obtain ⟨a1, a2, rfl⟩ := isiTD_some ed
  refine tTys_run ⟨by rw [List.length_map]; exact hz, fun q hq => ?_⟩
  refine ⟨v, q, ns.map V.ty, .type (tyD x), ns.map Value.type, _, rfl, upd_same, clsV_tys ns, tyD_v (((rr_ra r1 h1).rep S1.sub).same (same_upd hq)) a1 a2, kitAny_at hn, ?_⟩
  exact k _ f1 G1 _ (t1.trans (Tr.allocO hq)) (fun hp => (p1 hp).trans (same_upd hq)) (S1.allocO hq) (show Rep K G1 (.bl _) (.bl _) from rep_bl)
end
theorem kit_int : kitAll "int" = true := by decide +kernel
theorem kit_bool : kitAll "bool" = true := by decide +kernel
theorem kit_str : kitAll "str" = true := by decide +kernel
theorem kit_list : kitAll "list" = true := by decide +kernel
theorem kit_tuple : kitAll "tuple" = true := by decide +kernel
theorem kit_dict : kitAll "dict" = true := by decide +kernel
end DL
namespace DL
open PySem PySem.Spec PyProof.Rows L2

section
variable {K : PySem.W.Frag} {G H : Hp} {m ma mb : M} {F : List Addr} {mds ms : List M} {p pa pb pc : Bool}
/-! ### slices -/
abbrev FO := List D → Option (Option Int × List D)
def SemO (K : PySem.W.Frag) (ms : List M) (p : Bool) (f : FO) (t : TO) : Prop :=
  ∀ env σ fps G H o env' (Q : Option Int → Hp → Prop), Sat K ms env σ fps G H → f env = some (o, env') →
    (∀ fps' G' H', Tr fps.flatten G H fps'.flatten G' H' → (p = true → Same H H') → Sat K ms env' σ fps' G' H' → Q o H') → t σ H Q
def nopF : FO := fun env => some (none, env)
def partF (f : FE) : FO := fun env => (f env).bind fun q => match q.1 with
  | .int i => some (some i, q.2)
  | _ => none
theorem sem_nop : SemO K ms true nopF tNoPart := by
  intro env σ fps G H o env' Q S e k
  cases e
  exact k fps G H (Tr.refl _ _ _) (fun _ => Same.refl _) S
theorem sem_part {fa : FE} {ta : TE} (h : SemE K ms p m fa ta) (h1 : ∀ n, m ≠ .ow n) : SemO K ms p (partF fa) (tPart ta) := by
  intro env σ fps G H o env' Q S e k
  unfold partF at e
  cases q : fa env with
  | none => rw [q] at e; cases e
  | some r =>
    obtain ⟨d, e1⟩ := r
    rw [q, Option.bind_some] at e
    cases d with
    | int i =>
      cases e
      refine h env σ fps G H _ _ _ S q fun v f1 G1 H1 t1 p1 S1 r1 => ⟨i, (rr_ra r1 h1).int S1.sub, k f1 G1 H1 t1 p1 S1⟩
    | _ => cases e
def cutD {α : Type} (xs : List α) (lo hi : Option Int) : List α := (xs.drop (HT.sIx xs.length 0 lo)).take (HT.sIx xs.length xs.length hi - HT.sIx xs.length 0 lo)
theorem Reps.cut {ds : List D} {vs : List V} (h : Reps K G ds vs) (lo hi : Option Int) : Reps K G (cutD ds lo hi) (cutV vs lo hi) := by
  unfold cutD cutV
  rw [h.length]
  exact (h.drop _).take _
def rSlAny (K : PySem.W.Frag) : V → Option Int → Option Int → Hp → VK → Prop := fun x lo hi H Q => rSlL K x lo hi H Q ∨ rSlA K x lo hi H Q ∨ rSlS x lo hi H Q
theorem sl_any {X : Cx} : SlR X (rSlAny X.K) := sl_list.or (sl_tupA.or sl_str)
def sliceD (lo hi : Option Int) : D → Option D
  | .lst ds => some (.lst (cutD ds lo hi))
  | .scr ns => some (.lst ((cutD ns lo hi).map D.int))
  | .tup ds => some (.tup (cutD ds lo hi))
  | .str z => if z.length ≤ 16777216 then some (.str (cutS z lo hi)) else none
  | _ => none
def sliceF (fa : FE) (fl fh : FO) (g : Option Int → Option Int → D → Option D) : FE := fun env => (fa env).bind fun x => (fl x.2).bind fun l => (fh l.2).bind fun h => (g l.1 h.1 x.1).map fun d => (d, h.2)
theorem ints_rep : ∀ ns : List Int, Reps K G (ns.map D.int) (ns.map V.int)
  | [] => .nil
  | n :: ns => .cons (show Rep K G (.int n) (.int n) from rep_int) (ints_rep ns)
theorem cut_map (ns : List Int) (lo hi : Option Int) : cutV (ns.map V.int) lo hi = (cutD ns lo hi).map V.int := by
  unfold cutV cutD
  rw [List.length_map, ← List.map_drop, ← List.map_take]
/-- what slicing does, by values; lists come out new -/
def S3 (K : PySem.W.Frag) (ma m : M) (g : Option Int → Option Int → D → Option D) (r : V → Option Int → Option Int → Hp → VK → Prop) : Prop :=
  ∀ (F : List Addr) (G H : Hp) (dx : D) (x : V) (lo hi : Option Int) (d : D) (Q : VK), Same G H → (∀ a ∈ F, ∃ o, H a = some o) → RA K ma dx x G H → g lo hi dx = some d →
    (∀ v G' H', Al G H G' H' → RR K [] H m d v F G' H' → Q v H') → r x lo hi H Q
theorem s_slice (hm : itM ma = true) : S3 K ma .sh sliceD (rSlAny K) := by
  intro F G H dx x lo hi d Q s th rx e k
  cases dx with
  | lst ds =>
    cases e
    obtain ⟨a, vs, rfl, ha, rr⟩ := rx.lst s hm
    refine .inl ⟨a, vs, rfl, SqL.of ha, fun p hp => k _ (upd G p (.lst (cutV vs lo hi))) _ (Al.sh s hp) ?_⟩
    show Rep K _ (.lst _) (.ref p)
    unfold Rep
    exact ⟨p, _, rfl, upd_same, (rr.cut lo hi).same (same_upd (s.free hp))⟩
  | scr ns =>
    cases e
    obtain ⟨a, rfl, q⟩ := (rx.rep s).scr_
    refine .inl ⟨a, _, rfl, q, fun p hp => k _ (upd G p (.lst (cutV (ns.map V.int) lo hi))) _ (Al.sh s hp) ?_⟩
    show Rep K _ (.lst _) (.ref p)
    unfold Rep
    exact ⟨p, _, rfl, upd_same, by rw [cut_map]; exact ints_rep _⟩
  | tup ds =>
    cases e
    obtain ⟨a, vs, rfl, ha, rr⟩ := rx.tup s hm
    refine .inr (.inl ⟨a, vs, rfl, SqT.of ha, fun ⟨w1, w2⟩ => ?_, fun _ p hp => k _ _ _ (Al.sh s hp) (rep_tup (rr.cut lo hi) (s.free hp))⟩)
    have e2 : cutD ds lo hi = ds := by
      unfold cutD
      rw [rr.length] at w1 w2
      rw [w1, w2]
      simp
    rw [e2] at k
    refine k _ G H (Al.refl s) ?_
    rcases itM_or hm with rfl | rfl
    · exact rx
    · obtain ⟨fp, b, fr, _, _, q⟩ := rx
      exact q.elim
  | str z =>
    have e' : (if z.length ≤ 16777216 then some (D.str (cutS z lo hi)) else none) = some d := e
    split at e'
    · rename_i hz
      cases e'
      exact .inr (.inr ⟨z, rx.str s, by rw [sizeLine_eq]; exact hz, k _ G H (Al.refl s) (show Rep K G (.str _) (.str _) from rep_str)⟩)
    · cases e'
  | _ => cases e
def sliceLD (lo hi : Option Int) : D → Option D
  | .lst ds => some (.lst (cutD ds lo hi))
  | .scr ns => some (.lst ((cutD ns lo hi).map D.int))
  | _ => none
theorem s_sliceL (hm : itM ma = true) : S3 K ma (.ow 1) sliceLD (rSlAny K) := by
  intro F G H dx x lo hi d Q s th rx e k
  cases dx with
  | lst ds =>
    cases e
    obtain ⟨a, vs, rfl, ha, rr⟩ := rx.lst s hm
    exact .inl ⟨a, vs, rfl, SqL.of ha, fun p hp => new_list s th hp (rr.cut lo hi) k⟩
  | scr ns =>
    cases e
    obtain ⟨a, rfl, q⟩ := (rx.rep s).scr_
    exact .inl ⟨a, _, rfl, q, fun p hp => new_list s th hp (by rw [cut_map]; exact ints_rep _) k⟩
  | _ => cases e
theorem sem_slice {fa : FE} {ta : TE} {fl fh : FO} {tl th : TO} {g : Option Int → Option Int → D → Option D} {r : V → Option Int → Option Int → Hp → VK → Prop} (ha : SemE K ms pa ma fa ta) (hl : SemO K ms pb fl tl) (hh : SemO K ms pc fh th) (sp : S3 K ma m g r)
    (hm : ((pb && pc) || ma == .sh) = true) (h1 : ∀ n, ma ≠ .ow n) : SemE K ms (pa && (pb && pc)) m (sliceF fa fl fh g) (tSl r ta tl th) := by
  intro env σ fps G H d env' Q S e k
  unfold sliceF at e
  cases q1 : fa env with
  | none => rw [q1] at e; cases e
  | some x =>
    obtain ⟨dx, e1⟩ := x
    rw [q1, Option.bind_some] at e
    cases q2 : fl e1 with
    | none => rw [q2] at e; cases e
    | some l =>
      obtain ⟨lo, e2⟩ := l
      rw [q2, Option.bind_some] at e
      cases q3 : fh e2 with
      | none => rw [q3] at e; cases e
      | some h =>
        obtain ⟨hi, e3⟩ := h
        rw [q3, Option.bind_some] at e
        cases q4 : g lo hi dx with
        | none => rw [q4] at e; cases e
        | some d' =>
          rw [q4] at e
          cases e
          refine ha env σ fps G H dx e1 _ S q1 fun v f1 G1 H1 t1 p1 S1 r1 => hl e1 σ f1 G1 H1 lo e2 _ S1 q2 fun f2 G2 H2 t2 p2 S2 => hh e2 σ f2 G2 H2 hi _ _ S2 q3 fun f3 G3 H3 t3 p3 S3 => ?_
          have rx : RA K ma dx v G3 H3 := (rr_ra r1 h1).step (p := pb && pc) (t2.trans t3) (fun hp => by
            simp only [Bool.and_eq_true] at hp
            exact (p2 hp.1).trans (p3 hp.2)) hm
          refine sp f3.flatten G3 H3 dx v lo hi d Q S3.sub S3.there rx q4 fun z G4 H4 a rz => ?_
          refine k z f3 G4 H4 (((t1.trans t2).trans t3).trans (a.tr _)) (fun hp => ?_) (a.sat S3) ((rz.new _).old ((t1.trans t2).trans t3))
          simp only [Bool.and_eq_true] at hp
          exact (((p1 hp.1).trans (p2 hp.2.1)).trans (p3 hp.2.2)).trans a.hs

/-! ### bit_length -/
def bitsD : D → Option D
  | .int i => some (.int (Builtin.Int.intBits i))
  | _ => none
theorem sem_bits {fa : FE} {ta : TE} (ha : SemE K ms p m fa ta) (h1 : ∀ n, m ≠ .ow n) : SemE K ms p .sh (un1 fa bitsD) (tBits ta) := by
  intro env σ fps G H d env' Q S e k
  obtain ⟨x, ex, ed⟩ := un1_some e
  refine ha env σ fps G H x env' _ S ex fun v f1 G1 H1 t1 p1 S1 r1 => ?_
  cases x with
  | int i =>
    cases ed
    exact ⟨i, (rr_ra r1 h1).int S1.sub, k _ f1 G1 H1 t1 p1 S1 (show Rep K G1 (.int _) (.int _) from rep_int)⟩
  | _ => cases ed
/-! ### -x -/
def negD : D → Option D
  | .int i => some (.int (-i))
  | _ => none

/-! ### a list that is changed -/
def MutL (K : PySem.W.Frag) (mds : List M) (g : List D → List D → Option (List D × D)) (r : V → List V → Hp → VK → Prop) : Prop :=
  ∀ (G H : Hp) (a : Addr) (ds : List D) (xs : List V) (es : List D) (vs : List V) (ds' : List D) (res : D) (Q : VK), Same G H → H a = some (.lst xs) → Reps K G ds xs → RAs K G H mds es vs → g ds es = some (ds', res) →
    (∀ u xs', Reps K G ds' xs' → Rep K G res u → Q u (upd H a (.lst xs'))) → r (.ref a) vs H Q
def mutF (j : Nat) (fs : FA) (g : List D → List D → Option (List D × D)) : FE := fun env => (fs env).bind fun q => match q.2[j]? with
  | some (.lst ds) => (g ds q.1).map fun r => (r.2, q.2.set j (.lst r.1))
  | _ => none
theorem mutF_some {j : Nat} {fs : FA} {g : List D → List D → Option (List D × D)} {env : List D} {d : D} {env' : List D} (e : mutF j fs g env = some (d, env')) : ∃ es e1 ds ds', fs env = some (es, e1) ∧ e1[j]? = some (.lst ds) ∧ g ds es = some (ds', d) ∧ env' = e1.set j (.lst ds') := by
  unfold mutF at e
  cases q : fs env with
  | none => rw [q] at e; cases e
  | some r =>
    obtain ⟨es, e1⟩ := r
    rw [q, Option.bind_some] at e
    simp only at e
    split at e
    · rename_i ds hj
      cases q2 : g ds es with
      | none => rw [q2] at e; cases e
      | some z => rw [q2] at e; cases e; exact ⟨es, e1, ds, z.1, rfl, hj, q2, rfl⟩
    · cases e
/-- an owned list's place is written -/
theorem Sat.wrL {G H : Hp} {env : List D} {σ : L2.St} {fps : List (List Addr)} {j : Nat} {v : V} {f : List Addr} {ds ds' : List D} {a : Addr} {xs' : List V} (S : Sat K ms env σ fps G H) (hm : ms[j]? = some (.ow 1)) (hf : fps[j]? = some f) (hv : σ[j]? = some (some v))
    (ef : f = [a]) (ev : v = .ref a) (ha : H a ≠ none) (r : Reps K G ds' xs') :
    Sat K ms (env.set j (.lst ds')) σ (fps.set j f) G (upd H a (.lst xs')) ∧ Tr fps.flatten G H (fps.set j f).flatten G (upd H a (.lst xs')) := by
  subst ef ev
  have t : Tr [a] G H [a] G (upd H a (.lst xs')) := Tr.wr ha (by simp)
  have ga : G a = none := S.out a (mem_flatten_get hf (by simp))
  obtain ⟨h1, h2, _⟩ := S.step1 (d' := .lst ds') hm hf hv t (fun b o e => by
    by_cases z : b = a
    · rw [z, ga] at e; cases e
    · rw [upd_ne z]; exact S.sub b o e) ⟨a, [], rfl, rfl, xs', upd_same, Owns.of_reps r⟩ (by simp) (fun b hb => by
      have : b = a := by simpa using hb
      rw [this]; exact ga)
  exact ⟨h1, h2⟩
theorem own_lst1 {G H : Hp} {ds : List D} {v : V} {f : List Addr} (o : Own K G H 1 (.lst ds) v f) : ∃ a xs, v = .ref a ∧ f = [a] ∧ H a = some (.lst xs) ∧ Reps K G ds xs := by
  obtain ⟨a, fr, rfl, rfl, xs, e, q⟩ := o
  obtain ⟨r, rfl⟩ := Owns.to_reps q
  exact ⟨a, xs, rfl, rfl, e, r⟩
theorem own_list {G H : Hp} {n : Nat} {ds : List D} {v : V} {f : List Addr} (o : Own K G H (n + 1) (.lst ds) v f) : ∃ a xs, v = .ref a ∧ H a = some (.lst xs) := by
  obtain ⟨a, fr, rfl, _, xs, e, _⟩ := o
  exact ⟨a, xs, rfl, e⟩
/-- the slot's data before the arguments: a list as well -/
def isLst : D → Bool
  | .lst _ => true
  | _ => false
theorem sem_mutL {j : Nat} {fs : FA} {ts : TA} {g : List D → List D → Option (List D × D)} {r : V → List V → Hp → VK → Prop} (hj : ms[j]? = some (.ow 1)) (hs : SemA K ms p mds fs ts) (sp : MutL K mds g r) :
    SemE K ms false .sh (fun env => if ((env[j]?).elim false isLst) = true then mutF j fs g env else none) (tBM K "list" r (tVar j) ts) := by
  intro env σ fps G H d env' Q S e k
  have e' : (if ((env[j]?).elim false isLst) = true then mutF j fs g env else none) = some (d, env') := e
  split at e'
  · rename_i h0
    obtain ⟨es, e1, ds, ds', q1, q2, q3, rfl⟩ := mutF_some e'
    obtain ⟨d0, o0, f0, z1, z2, z3, v, rfl, own0⟩ := S.sl.get hj
    refine ⟨v, z2, ?_⟩
    have hty : tyV K "list" v H := by
      rw [z1] at h0
      cases d0 with
      | lst l0 =>
        obtain ⟨a, xs, rfl, ea⟩ := own_list own0
        exact .inl ⟨rfl, xs, SqL.of ea⟩
      | _ => cases h0
    refine ⟨hty, hs env σ fps G H es e1 _ S q1 fun vs f1 G1 H1 t1 p1 S1 r1 => ?_⟩
    obtain ⟨dj, o1, f, y1, y2, y3, v', rfl, own1⟩ := S1.sl.get hj
    rw [z2] at y2; cases y2
    rw [q2] at y1; cases y1
    obtain ⟨a, xs, rfl, rfl, ea, rr⟩ := own_lst1 own1
    refine sp G1 H1 a ds xs es vs ds' d Q S1.sub ea rr r1 q3 fun u xs' r' ru => ?_
    obtain ⟨S2, t2⟩ := S1.wrL (ds := ds) (ds' := ds') (xs' := xs') hj y3 z2 rfl rfl (by rw [ea]; exact fun z => (nomatch z)) r'
    exact k u _ G1 _ (t1.trans t2) (fun z => (nomatch z)) S2 ru
  · cases e'
def appD (ds : List D) : List D → Option (List D × D)
  | [d] => if ds.length < 16777216 then some (ds ++ [d], .non) else none
  | _ => none
theorem mu_append : MutL K [.sh] appD rAppend := by
  intro G H a ds xs es vs ds' res Q s ha rr r1 e k
  obtain ⟨d, v, rfl, rfl, rd⟩ := r1.len1
  have e' : (if ds.length < 16777216 then some (ds ++ [d], D.non) else none) = some (ds', res) := e
  split at e'
  · rename_i hz
    cases e'
    exact ⟨a, xs, v, rfl, rfl, ha, by rw [rr.length, sizeLine_eq]; exact hz, k _ _ (rr.append (.cons rd .nil)) rep_non⟩
  · cases e'
def extD (ds : List D) : List D → Option (List D × D)
  | [.lst es] => if ds.length + es.length ≤ 16777216 then some (ds ++ es, .non) else none
  | _ => none
theorem mu_extend (hm : itM m = true) : MutL K [m] extD rExtend := by
  intro G H a ds xs es vs ds' res Q s ha rr r1 e k
  obtain ⟨d, v, rfl, rfl, rd⟩ := r1.len1
  cases d with
  | lst l =>
    have e' : (if ds.length + l.length ≤ 16777216 then some (ds ++ l, D.non) else none) = some (ds', res) := e
    split at e'
    · rename_i hz
      cases e'
      obtain ⟨b, zs, rfl, hb, rz⟩ := rd.lst s hm
      exact ⟨a, b, xs, zs, rfl, rfl, ha, hb, by rw [rr.length, rz.length, sizeLine_eq]; exact hz, k _ _ (rr.append rz) rep_non⟩
    · cases e'
  | _ => cases e
def insD (ds : List D) : List D → Option (List D × D)
  | [.int i, d] => if ds.length < 16777216 ∧ 0 ≤ i ∧ i.natAbs < 2 ^ 63 then some (ds.take i.toNat ++ [d] ++ ds.drop i.toNat, .non) else none
  | _ => none
theorem mu_insert : MutL K [ma, .sh] insD (fun x vs H Q => ∃ (l : Addr) (xs : List V) (i : Int) (y : V), x = .ref l ∧ vs = [.int i, y] ∧ H l = some (.lst xs) ∧ xs.length < sizeLine ∧ 0 ≤ i ∧ i < 2 ^ 63 ∧ Q .non (upd H l (.lst (xs.take i.toNat ++ [y] ++ xs.drop i.toNat)))) := by
  intro G H a ds xs es vs ds' res Q s ha rr r1 e k
  obtain ⟨d, d2, v, u, rfl, rfl, rd, ru⟩ := r1.len2
  cases d with
  | int i =>
    have e' : (if ds.length < 16777216 ∧ 0 ≤ i ∧ i.natAbs < 2 ^ 63 then some (ds.take i.toNat ++ [d2] ++ ds.drop i.toNat, D.non) else none) = some (ds', res) := e
    split at e'
    · rename_i hz
      cases e'
      exact ⟨a, xs, i, u, rfl, by rw [rd.int s], ha, by rw [rr.length, sizeLine_eq]; exact hz.1, hz.2.1, by omega, k _ _ (((rr.take _).append (.cons ru .nil)).append (rr.drop _)) rep_non⟩
    · cases e'
  | _ => cases e
def popAtD (ds : List D) : List D → Option (List D × D)
  | [.int i] => if i.natAbs < 2 ^ 63 then (seqIndex? i ds.length).bind fun k => (ds[k]?).map fun d => (ds.eraseIdx k, d) else none
  | _ => none
theorem mu_popAt : MutL K [m] popAtD rPopAt := by
  intro G H a ds xs es vs ds' res Q s ha rr r1 e k
  obtain ⟨d, v, rfl, rfl, rd⟩ := r1.len1
  cases d with
  | int i =>
    have e' : (if i.natAbs < 2 ^ 63 then (seqIndex? i ds.length).bind fun k => (ds[k]?).map fun d => (ds.eraseIdx k, d) else none) = some (ds', res) := e
    split at e'
    · rename_i hz
      cases q : seqIndex? i ds.length with
      | none => rw [q] at e'; cases e'
      | some j =>
        rw [q, Option.bind_some] at e'
        cases q2 : ds[j]? with
        | none => rw [q2] at e'; cases e'
        | some d2 =>
          rw [q2] at e'
          cases e'
          obtain ⟨w, hw, rw'⟩ := rr.get q2
          exact ⟨a, xs, i, j, w, rfl, by rw [rd.int s], ha, by omega, by omega, by rw [rr.length]; exact q, hw, k w _ (rr.eraseIdx j) rw'⟩
    · cases e'
  | _ => cases e
def popD (ds : List D) : List D → Option (List D × D)
  | [] => (ds[ds.length - 1]?).map fun d => (ds.dropLast, d)
  | _ => none
theorem Reps.dropLast {ds : List D} {vs : List V} (h : Reps K G ds vs) : Reps K G ds.dropLast vs.dropLast := by
  rw [List.dropLast_eq_take, List.dropLast_eq_take, h.length]
  exact h.take _
/-- x[i] = v -/
def setItF (j : Nat) (fi fv : FE) : FS := fun env => (fv env).bind fun v => (fi v.2).bind fun i => match i.2[j]?, i.1 with
  | some (.lst ds), .int k => (L2.ixN ds.length k).map fun n => .nx (i.2.set j (.lst (ds.set n v.1)))
  | _, _ => none
theorem setItF_some {j : Nat} {fi fv : FE} {env : List D} {o : Out} (e : setItF j fi fv env = some o) : ∃ v e1 k e2 ds n, fv env = some (v, e1) ∧ fi e1 = some (.int k, e2) ∧ e2[j]? = some (.lst ds) ∧ L2.ixN ds.length k = some n ∧ o = .nx (e2.set j (.lst (ds.set n v))) := by
  unfold setItF at e
  cases q : fv env with
  | none => rw [q] at e; cases e
  | some r =>
    obtain ⟨v, e1⟩ := r
    rw [q, Option.bind_some] at e
    cases q2 : fi e1 with
    | none => rw [q2] at e; cases e
    | some r2 =>
      obtain ⟨i, e2⟩ := r2
      rw [q2, Option.bind_some] at e
      simp only at e
      split at e
      · rename_i ds k hj
        rename_i hi
        cases q3 : L2.ixN ds.length k with
        | none => rw [q3] at e; cases e
        | some n => rw [q3] at e; cases e; exact ⟨v, e1, k, e2, ds, n, rfl, q2, hj, q3, rfl⟩
      · cases e
theorem sem_setIt {rm : M} {rms : List M} {j : Nat} {fi fv : FE} {ti tv : TE} (hj : ms[j]? = some (.ow 1)) (hv : SemE K ms pa .sh fv tv) (hi : SemE K ms pb mb fi ti) (h1 : ∀ n, mb ≠ .ow n) :
    SemS K rm rms ms ms (setItF j fi fv) (tAsg tv (gSub (tVar j) ti rSetL)) := by
  intro env σ fps G H o De S e kn kr
  obtain ⟨v, e1, k, e2, ds, n, q1, q2, q3, q4, rfl⟩ := setItF_some e
  refine hv env σ fps G H v e1 _ S q1 fun vv f1 G1 H1 t1 p1 S1 r1 => ?_
  obtain ⟨d0, o0, f0, z1, z2, z3, u, rfl, own0⟩ := S1.sl.get hj
  refine ⟨u, z2, hi e1 σ f1 G1 H1 (.int k) e2 _ S1 q2 fun iv f2 G2 H2 t2 p2 S2 r2 => ?_⟩
  obtain ⟨dj, o1, f, y1, y2, y3, v', rfl, own1⟩ := S2.sl.get hj
  rw [z2] at y2; cases y2
  rw [q3] at y1; cases y1
  obtain ⟨a, xs, rfl, rfl, ea, rr⟩ := own_lst1 own1
  have rv : Rep K G2 v vv := Rep.same r1 t2.gs
  obtain ⟨S3, t3⟩ := S2.wrL (ds := ds) (ds' := ds.set n v) (xs' := xs.set n vv) hj y3 z2 rfl rfl (by rw [ea]; exact fun z => (nomatch z)) (rr.set rv n)
  refine ⟨a, xs, k, n, rfl, (rr_ra r2 h1).int S2.sub, ea, by rw [rr.length]; exact q4, ?_⟩
  exact kn _ σ _ G2 _ rfl ((t1.trans t2).trans t3) Pins.refl S3

/-! ### an owned table that is changed -/
theorem Sat.wr1 {G H : Hp} {env : List D} {σ : L2.St} {fps : List (List Addr)} {j : Nat} {v : V} {f : List Addr} {d' : D} {a : Addr} {o : HO} (S : Sat K ms env σ fps G H) (hm : ms[j]? = some (.ow 1)) (hf : fps[j]? = some f) (hv : σ[j]? = some (some v))
    (ef : f = [a]) (ev : v = .ref a) (ha : H a ≠ none) (r : Own K G (upd H a o) 1 d' (.ref a) [a]) :
    Sat K ms (env.set j d') σ (fps.set j f) G (upd H a o) ∧ Tr fps.flatten G H (fps.set j f).flatten G (upd H a o) := by
  subst ef ev
  have t : Tr [a] G H [a] G (upd H a o) := Tr.wr ha (by simp)
  have ga : G a = none := S.out a (mem_flatten_get hf (by simp))
  obtain ⟨h1, h2, _⟩ := S.step1 (d' := d') hm hf hv t (fun b o e => by
    by_cases z : b = a
    · rw [z, ga] at e; cases e
    · rw [upd_ne z]; exact S.sub b o e) r (by simp) (fun b hb => by
      have : b = a := by simpa using hb
      rw [this]; exact ga)
  exact ⟨h1, h2⟩
theorem own_dK1 {G H : Hp} {ks : List Key} {ds : List D} {v : V} {f : List Addr} (o : Own K G H 1 (.dK ks ds) v f) : ∃ a kvs, v = .ref a ∧ f = [a] ∧ H a = some (.dK kvs) ∧ KR K G (ks.zip ds) kvs ∧ ks.length = ds.length := by
  obtain ⟨a, fr, rfl, rfl, xs, e, hl, q⟩ := o
  obtain ⟨r, rfl⟩ := Owns.to_reps q
  exact ⟨a, ks.zip xs, rfl, rfl, e, KR.of hl r, hl⟩
theorem own_dT1 {G H : Hp} {ks : List (List Key)} {ds : List D} {v : V} {f : List Addr} (o : Own K G H 1 (.dT ks ds) v f) : ∃ a kvs, v = .ref a ∧ f = [a] ∧ H a = some (.dT kvs) ∧ KR K G (ks.zip ds) kvs ∧ ks.length = ds.length := by
  obtain ⟨a, fr, rfl, rfl, xs, e, hl, q⟩ := o
  obtain ⟨r, rfl⟩ := Owns.to_reps q
  exact ⟨a, ks.zip xs, rfl, rfl, e, KR.of hl r, hl⟩
theorem own_dK1' {G H : Hp} {a : Addr} {kds : List (Key × D)} {kvs : List (Key × V)} (r : KR K G kds kvs) : Own K G (upd H a (.dK kvs)) 1 (.dK (kds.map (·.1)) (kds.map (·.2))) (.ref a) [a] :=
  ⟨a, [], rfl, rfl, kvs.map (·.2), by rw [upd_same, r.back], by simp, Owns.of_reps r.2⟩
theorem own_dT1' {G H : Hp} {a : Addr} {kds : List (List Key × D)} {kvs : List (List Key × V)} (r : KR K G kds kvs) : Own K G (upd H a (.dT kvs)) 1 (.dT (kds.map (·.1)) (kds.map (·.2))) (.ref a) [a] :=
  ⟨a, [], rfl, rfl, kvs.map (·.2), by rw [upd_same, r.back], by simp, Owns.of_reps r.2⟩
theorem KR.len {κ : Type} {kds : List (κ × D)} {kvs : List (κ × V)} (h : KR K G kds kvs) : kvs.length = kds.length := by
  have := congrArg List.length h.1
  simpa using this.symm
/-- d[k] = v -/
def putDD (d : D) (key v : D) : Option D := match d with
  | .dK ks ds => if ks.length < 16777216 then (keyD key).map fun k => .dK ((putG (ks.zip ds) k v).map (·.1)) ((putG (ks.zip ds) k v).map (·.2)) else none
  | .dT ks ds => if ks.length < 16777216 then match key with
    | .tup kd => (keysD kd).map fun k => .dT ((putG (ks.zip ds) k v).map (·.1)) ((putG (ks.zip ds) k v).map (·.2))
    | _ => none
    else none
  | _ => none
theorem putDD_own {G H : Hp} {d key v d' : D} {vv kv : V} {f : List Addr} {u : V} (e : putDD d key v = some d') (own : Own K G H 1 d u f) (s : Same G H) (rv : Rep K G v vv) (rk : Rep K H key kv) :
    ∃ a o, u = .ref a ∧ f = [a] ∧ H a ≠ none ∧ DPut H a kv vv (upd H a o) ∧ Own K G (upd H a o) 1 d' (.ref a) [a] := by
  cases d with
  | dK ks ds =>
    have e' : (if ks.length < 16777216 then (keyD key).map fun k => D.dK ((putG (ks.zip ds) k v).map (·.1)) ((putG (ks.zip ds) k v).map (·.2)) else none) = some d' := e
    split at e'
    · rename_i hz
      cases q : keyD key with
      | none => rw [q] at e'; cases e'
      | some k =>
        rw [q] at e'
        cases e'
        obtain ⟨a, kvs, rfl, rfl, ea, kr, hl⟩ := own_dK1 own
        have hn : kvs.length < sizeLine := by rw [kr.len, List.length_zip, sizeLine_eq]; omega
        exact ⟨a, .dK (putK kvs k vv), rfl, rfl, by rw [ea]; exact fun z => (nomatch z), .inl ⟨kvs, k, ea, keyD_v q rk, hn, rfl⟩, own_dK1' (kr.put rv)⟩
    · cases e'
  | dT ks ds =>
    have e' : (if ks.length < 16777216 then (match key with
      | .tup kd => (keysD kd).map fun k => D.dT ((putG (ks.zip ds) k v).map (·.1)) ((putG (ks.zip ds) k v).map (·.2))
      | _ => none) else none) = some d' := e
    split at e'
    · rename_i hz
      cases key with
      | tup kd =>
        simp only at e'
        cases q : keysD kd with
        | none => rw [q] at e'; cases e'
        | some k =>
          rw [q] at e'
          cases e'
          obtain ⟨a, kvs, rfl, rfl, ea, kr, hl⟩ := own_dT1 own
          obtain ⟨b, us, rfl, hb, ru⟩ := rk.tup_
          rw [keysD_v q ru] at hb
          have hn : kvs.length < sizeLine := by rw [kr.len, List.length_zip, sizeLine_eq]; omega
          exact ⟨a, .dT (putK kvs k vv), rfl, rfl, by rw [ea]; exact fun z => (nomatch z), .inr ⟨kvs, k, b, ea, rfl, hb, hn, rfl⟩, own_dT1' (kr.put rv)⟩
      | _ => cases e'
    · cases e'
  | _ => cases e
def dputF (j : Nat) (fk fv : FE) : FS := fun env => (fv env).bind fun v => (fk v.2).bind fun k => (k.2[j]?).bind fun d => (putDD d k.1 v.1).map fun d' => .nx (k.2.set j d')
theorem dputF_some {j : Nat} {fk fv : FE} {env : List D} {o : Out} (e : dputF j fk fv env = some o) : ∃ v e1 k e2 d d', fv env = some (v, e1) ∧ fk e1 = some (k, e2) ∧ e2[j]? = some d ∧ putDD d k v = some d' ∧ o = .nx (e2.set j d') := by
  unfold dputF at e
  cases q : fv env with
  | none => rw [q] at e; cases e
  | some r =>
    obtain ⟨v, e1⟩ := r
    rw [q, Option.bind_some] at e
    cases q2 : fk e1 with
    | none => rw [q2] at e; cases e
    | some r2 =>
      obtain ⟨k, e2⟩ := r2
      rw [q2, Option.bind_some] at e
      cases q3 : e2[j]? with
      | none => rw [q3] at e; cases e
      | some d =>
        rw [q3, Option.bind_some] at e
        cases q4 : putDD d k v with
        | none => rw [q4] at e; cases e
        | some d' => rw [q4] at e; cases e; exact ⟨v, e1, k, e2, d, d', rfl, q2, q3, q4, rfl⟩
theorem sem_dput {rm : M} {rms : List M} {j : Nat} {fk fv : FE} {tk tv : TE} (hj : ms[j]? = some (.ow 1)) (hv : SemE K ms pa .sh fv tv) (hk : SemE K ms pb mb fk tk) (h1 : ∀ n, mb ≠ .ow n) :
    SemS K rm rms ms ms (dputF j fk fv) (sDPut (tVar j) tk tv) := by
  intro env σ fps G H o De S e kn kr
  obtain ⟨v, e1, k, e2, d, d', q1, q2, q3, q4, rfl⟩ := dputF_some e
  refine hv env σ fps G H v e1 _ S q1 fun vv f1 G1 H1 t1 p1 S1 r1 => ?_
  obtain ⟨d0, o0, f0, z1, z2, z3, u, rfl, own0⟩ := S1.sl.get hj
  refine ⟨u, z2, hk e1 σ f1 G1 H1 k e2 _ S1 q2 fun kv f2 G2 H2 t2 p2 S2 r2 => ?_⟩
  obtain ⟨dj, o1, f, y1, y2, y3, v', rfl, own1⟩ := S2.sl.get hj
  rw [z2] at y2; cases y2
  rw [q3] at y1; cases y1
  have rv : Rep K G2 v vv := Rep.same r1 t2.gs
  obtain ⟨a, ob, rfl, rfl, ha, dp, own'⟩ := putDD_own q4 own1 S2.sub rv ((rr_ra r2 h1).rep S2.sub)
  obtain ⟨S3, t3⟩ := S2.wr1 (d' := d') hj y3 z2 rfl rfl ha own'
  exact ⟨a, _, rfl, dp, kn _ σ _ G2 _ rfl ((t1.trans t2).trans t3) Pins.refl S3⟩
/-! ### {}, d.get, list(d.items()) -/
theorem sem_dnewK : SemE K ms true (.ow 1) (conF (.dK [] [])) tDNewK := by
  intro env σ fps G H d env' Q S e k
  cases e
  intro p hp
  have hn : Q (.ref p) (upd H p (.dK [])) := new_dict (ks := []) (vs := []) (F := fps.flatten) (Q := Q) S.sub S.there hp .nil rfl fun v G' H' al r => k v fps G' H' (al.tr _) (fun _ => al.hs) (al.sat S) (r.new _)
  exact hn
theorem sem_dnewT : SemE K ms true (.ow 1) (conF (.dT [] [])) tDNewT := by
  intro env σ fps G H d env' Q S e k
  cases e
  intro p hp
  refine k _ fps G _ ((Al.ow S.sub hp).tr _) (fun _ => same_upd hp) ((Al.ow S.sub hp).sat S) ⟨[p], ⟨p, [], rfl, rfl, [], upd_same, rfl, ⟨rfl, rfl⟩⟩, by simp, fun a ha => ?_⟩
  have ea : a = p := by simpa using ha
  subst ea
  refine ⟨S.sub.free hp, fun z => ?_, .inr hp⟩
  obtain ⟨o, ho⟩ := S.there a z
  rw [hp] at ho; cases ho
def getD (d key : D) : Option (Option D) := match d with
  | .dK ks ds => (keyD key).map fun k => lookK ks ds k
  | .dT ks ds => match key with
    | .tup kd => (keysD kd).map fun k => lookK ks ds k
    | _ => none
  | _ => none
def isDict : D → Bool
  | .dK _ _ => true
  | .dT _ _ => true
  | _ => false
theorem isDict_isD {d : D} {v : V} (h : Rep K H d v) (hd : isDict d = true) : ∃ a, v = .ref a ∧ IsD H a := by
  cases d with
  | dK ks ds => obtain ⟨a, vs, rfl, e, _⟩ := h.dK_; exact ⟨a, rfl, .inl ⟨_, e⟩⟩
  | dT ks ds => obtain ⟨a, vs, rfl, e, _⟩ := h.dT_; exact ⟨a, rfl, .inr ⟨_, e⟩⟩
  | _ => cases hd
theorem getD_v {d key : D} {v kv : V} {o : Option D} (e : getD d key = some o) (rx : RA K m d v G H) (s : Same G H) (hm : itM m = true) (rk : Rep K H key kv) : ∃ a ov, v = .ref a ∧ DGet H a kv ov ∧ (∀ x, o = some x → ∃ y, ov = some y ∧ Rep K G x y) ∧ (o = none → ov = none) := by
  cases d with
  | dK ks ds =>
    obtain ⟨a, vs, rfl, ha, hl, rr⟩ := rx.dK s hm
    have e' : ((keyD key).map fun k => lookK ks ds k) = some o := e
    cases q : keyD key with
    | none => rw [q] at e'; cases e'
    | some k =>
      rw [q] at e'
      cases e'
      obtain ⟨l1, l2⟩ := lookK_v k rr (ks := ks)
      exact ⟨a, _, rfl, .inl ⟨_, k, ha, keyD_v q rk, rfl⟩, l1, l2 hl⟩
  | dT ks ds =>
    cases key with
    | tup kd =>
      obtain ⟨a, vs, rfl, ha, hl, rr⟩ := rx.dT s hm
      have e' : ((keysD kd).map fun k => lookK ks ds k) = some o := e
      cases q : keysD kd with
      | none => rw [q] at e'; cases e'
      | some k =>
        rw [q] at e'
        cases e'
        obtain ⟨b, us, rfl, hb, ru⟩ := rk.tup_
        rw [keysD_v q ru] at hb
        obtain ⟨l1, l2⟩ := lookK_v k rr (ks := ks)
        exact ⟨a, _, rfl, .inr ⟨_, k, b, ha, rfl, hb, rfl⟩, l1, l2 hl⟩
    | _ => cases e
  | _ => cases e
/-- d.get(k), d.get(k, x) -/
def get1F (fa fk : FE) : FE := fun env => (fa env).bind fun d => if isDict d.1 = true then (fk d.2).bind fun k => (getD d.1 k.1).map fun o => (o.getD .non, k.2) else none
def get2F (fa fk fx : FE) : FE := fun env => (fa env).bind fun d => if isDict d.1 = true then (fk d.2).bind fun k => (fx k.2).bind fun x => (getD d.1 k.1).map fun o => (o.getD x.1, x.2) else none
theorem sem_get1 {fa fk : FE} {ta tk : TE} (ha : SemE K ms pa ma fa ta) (hk : SemE K ms pb mb fk tk) (hm : itM ma = true) (ho : (pb || ma == .sh) = true) (h2 : ∀ n, mb ≠ .ow n) : SemE K ms (pa && pb) .sh (get1F fa fk) (tDGet1 ta tk) := by
  intro env σ fps G H d env' Q S e k
  unfold get1F at e
  cases q1 : fa env with
  | none => rw [q1] at e; cases e
  | some x =>
    obtain ⟨dx, e1⟩ := x
    rw [q1, Option.bind_some] at e
    split at e
    · rename_i hd
      cases q2 : fk e1 with
      | none => simp only at e; rw [q2] at e; cases e
      | some y =>
        obtain ⟨dy, e2⟩ := y
        simp only at e
        rw [q2, Option.bind_some] at e
        cases q3 : getD dx dy with
        | none => rw [q3] at e; cases e
        | some o =>
          rw [q3] at e
          cases e
          have hma : ∀ n, ma ≠ .ow n := fun n z => by subst z; cases hm
          refine ha env σ fps G H dx e1 _ S q1 fun v f1 G1 H1 t1 p1 S1 r1 => ?_
          obtain ⟨a, rfl, isd⟩ := isDict_isD ((rr_ra r1 hma).rep S1.sub) hd
          refine ⟨a, rfl, isd, hk e1 σ f1 G1 H1 dy _ _ S1 q2 fun u f2 G2 H2 t2 p2 S2 r2 => ?_⟩
          obtain ⟨a', ov, ea, dg, g1, g2⟩ := getD_v q3 ((rr_ra r1 hma).step t2 p2 ho) S2.sub hm ((rr_ra r2 h2).rep S2.sub)
          cases ea
          refine ⟨ov, dg, k _ f2 G2 H2 (t1.trans t2) (fun hp => ?_) S2 ?_⟩
          · simp only [Bool.and_eq_true] at hp
            exact (p1 hp.1).trans (p2 hp.2)
          · cases o with
            | none => rw [g2 rfl]; exact (show Rep K G2 .non .non from rep_non)
            | some x => obtain ⟨y, rfl, r⟩ := g1 x rfl; exact r
    · cases e
theorem sem_get2 {fa fk fx : FE} {ta tk tx : TE} (ha : SemE K ms pa ma fa ta) (hk : SemE K ms pb mb fk tk) (hx : SemE K ms pc .sh fx tx) (hm : itM ma = true) (ho : (pb && pc || ma == .sh) = true) (hb : (pc || mb == .sh) = true) (h2 : ∀ n, mb ≠ .ow n) : SemE K ms (pa && (pb && pc)) .sh (get2F fa fk fx) (tDGet2 ta tk tx) := by
  intro env σ fps G H d env' Q S e k
  unfold get2F at e
  cases q1 : fa env with
  | none => rw [q1] at e; cases e
  | some x =>
    obtain ⟨dx, e1⟩ := x
    rw [q1, Option.bind_some] at e
    split at e
    · rename_i hd
      cases q2 : fk e1 with
      | none => simp only at e; rw [q2] at e; cases e
      | some y =>
        obtain ⟨dy, e2⟩ := y
        simp only at e
        rw [q2, Option.bind_some] at e
        cases q4 : fx e2 with
        | none => simp only at e; rw [q4] at e; cases e
        | some w =>
          obtain ⟨dw, e3⟩ := w
          simp only at e
          rw [q4, Option.bind_some] at e
          cases q3 : getD dx dy with
          | none => rw [q3] at e; cases e
          | some o =>
            rw [q3] at e
            cases e
            have hma : ∀ n, ma ≠ .ow n := fun n z => by subst z; cases hm
            refine ha env σ fps G H dx e1 _ S q1 fun v f1 G1 H1 t1 p1 S1 r1 => ?_
            obtain ⟨a, rfl, isd⟩ := isDict_isD ((rr_ra r1 hma).rep S1.sub) hd
            refine ⟨a, rfl, isd, hk e1 σ f1 G1 H1 dy _ _ S1 q2 fun u f2 G2 H2 t2 p2 S2 r2 => hx e2 σ f2 G2 H2 dw _ _ S2 q4 fun z f3 G3 H3 t3 p3 S3 r3 => ?_⟩
            have rk := ((rr_ra r2 h2).step t3 p3 hb).rep S3.sub
            obtain ⟨a', ov, ea, dg, g1, g2⟩ := getD_v q3 ((rr_ra r1 hma).step (p := pb && pc) (t2.trans t3) (fun hp => by
              simp only [Bool.and_eq_true] at hp
              exact (p2 hp.1).trans (p3 hp.2)) ho) S3.sub hm rk
            cases ea
            refine ⟨ov, dg, k _ f3 G3 H3 ((t1.trans t2).trans t3) (fun hp => ?_) S3 ?_⟩
            · simp only [Bool.and_eq_true] at hp
              exact ((p1 hp.1).trans (p2 hp.2.1)).trans (p3 hp.2.2)
            · cases o with
              | none => rw [g2 rfl]; exact r3
              | some x => obtain ⟨y, rfl, r⟩ := g1 x rfl; exact r
    · cases e
end
end DL
namespace DL
open PySem PySem.Spec PyProof.Rows L2

section
variable {K : PySem.W.Frag} {rm : M} {rms ms ms1 ms2 msL msB msC ms' : List M} {p pa pb pc : Bool} {m ma mb mc : M} {fa fb fc : FE} {ta tb tc : TE} {ga gb : FT} {ua ub : TT} {g1 g2 : FS} {t t1 t2 : TS}
/-! ### dict comprehensions -/
def dcF (b : FG) (gt : FT) (fk fe : FE) : List D → List (Key × D) → List D → Option (List (Key × D) × List D)
  | [], acc, env => some (acc, env)
  | d :: ds, acc, env => (b d env).bind fun e1 => (gt e1).bind fun q => if q.1 = true then (fk q.2).bind fun x => (keyD x.1).bind fun kk => (fe x.2).bind fun y => dcF b gt fk fe ds (putG acc kk y.1) y.2
      else dcF b gt fk fe ds acc q.2
def dcompF (f : FA) (own : List Nat) (b : FG) (gt : FT) (fk fe : FE) : FE := fun env => (f env).bind fun q => (dcF b gt fk fe q.1 [] q.2).map fun r => (.dK (r.1.map (·.1)) (r.1.map (·.2)), restD q.2 r.2 own)
theorem putG_len {κ α : Type} [DecidableEq κ] (kvs : List (κ × α)) (k : κ) (v : α) : (putG kvs k v).length ≤ kvs.length + 1 := by
  unfold putG
  split
  · rw [List.length_map]; omega
  · rw [List.length_append, List.length_singleton]; omega
theorem sem_dc {f : FA} {wi : TI} {own : List Nat} {b : FG} {g : TG} {gt : FT} {tt : TT} {fk fe : FE} {tk te : TE} {n : Nat} {pi pt pk pe : Bool} (hi : SemI K ms pi f wi) (hg : SemG K (outM n own) (blkM ms own) msB b g)
    (ht : SemT K msB pt gt tt) (hkey : SemE K msB pk .sh fk tk) (he : SemE K msB pe .sh fe te) (ho : ownOk ms own = true) (hn : ms.length = n) (hw : weakM msB (blkM ms own) = true) :
    SemE K ms (pi && (pt && (pk && pe))) (.ow 1) (dcompF f own b gt fk fe) (L2.tDc wi g tt tk te own) := by
  intro env σ fps G H d env' Q S e k
  unfold dcompF at e
  cases q : f env with
  | none => rw [q] at e; cases e
  | some r =>
    obtain ⟨items, e1⟩ := r
    rw [q, Option.bind_some] at e
    cases q2 : dcF b gt fk fe items [] e1 with
    | none => rw [q2] at e; cases e
    | some r2 =>
      rw [q2] at e
      cases e
      refine hi env σ fps G H items e1 _ S q fun J f1 G1 H1 t1 p1 S1 ok => ?_
      intro L hL
      have SB := S1.block ho
      have g1L : G1 L = none := S1.sub.free hL
      have tL : Tr f1.flatten G1 H1 (L :: f1.flatten) G1 (upd H1 L (.dK [])) := ⟨Same.refl _, fun _ z => .inl z, fun a h => by
        rcases List.mem_cons.mp h with z | z
        · rw [z]; exact .inr hL
        · exact .inl z, fun a o e _ => by rw [upd_ne (ne_of_none e hL)]; exact e, fun a h => upd_some h⟩
      refine ⟨fun i m H' => m = items.length - i ∧ i ≤ items.length ∧ ∃ acc vs env' fps' G', acc.length ≤ i ∧ Tr f1.flatten G1 H1 (L :: fps'.flatten) G' H' ∧ Same G1 G' ∧ ((pt && (pk && pe)) = true → Same H1 H') ∧
          Sat K (blkM ms own) env' (wipe σ own) fps' G' H' ∧ H' L = some (.dK vs) ∧ G' L = none ∧ L ∉ fps'.flatten ∧ KR K G' acc vs ∧ dcF b gt fk fe (items.drop i) acc env' = some r2,
        ⟨items.length, by simp, Nat.zero_le _, [], [], e1, f1, G1, Nat.le_refl _, tL, Same.refl _, fun _ => same_upd hL, SB.allocO hL, upd_same, g1L, fun z => ?_, .nil, by simpa using q2⟩, ?_⟩
      · obtain ⟨o, ho⟩ := S1.there L z
        rw [hL] at ho; cases ho
      rintro i m H2 ⟨rfl, hle, acc, vs, e2, f2, G2, hacc, t2, g2, p2, S2, hv, gL, nL, rr, el⟩
      have hLs : H2 L ≠ none := by rw [hv]; exact fun z => nomatch z
      by_cases hlt : i < items.length
      · have hd : items[i]? = some items[i] := by simp [hlt]
        refine .inr ⟨ok.go i G2 H2 _ g2 S2.sub hd, fun H' => i + 1 ≤ items.length ∧ ∃ acc vs env' fps' G', acc.length ≤ i + 1 ∧ Tr f1.flatten G1 H1 (L :: fps'.flatten) G' H' ∧ Same G1 G' ∧ ((pt && (pk && pe)) = true → Same H1 H') ∧
            Sat K (blkM ms own) env' (wipe σ own) fps' G' H' ∧ H' L = some (.dK vs) ∧ G' L = none ∧ L ∉ fps'.flatten ∧ KR K G' acc vs ∧ dcF b gt fk fe (items.drop (i + 1)) acc env' = some r2,
          fun H' z => ⟨items.length - (i + 1), by omega, rfl, z.1, z.2⟩, fun x H3 y => ?_⟩
        obtain ⟨G3, a3, rx⟩ := ok.yld i G2 H2 _ x H3 g2 S2.sub hd y
        have S3 := a3.sat S2
        have t3 : Tr f1.flatten G1 H1 (L :: f2.flatten) G3 H3 := t2.trans ((a3.tr f2.flatten).frame hLs)
        have hv3 : H3 L = some (.dK vs) := a3.hs _ _ hv
        have hL3 : H3 L ≠ none := by rw [hv3]; exact fun z => nomatch z
        have gL3 : G3 L = none := by
          cases e : G3 L with
          | none => rfl
          | some o => rcases a3.gn L (by rw [e]; exact fun z => nomatch z) with z | z
                      · exact absurd gL z
                      · exact absurd z hLs
        have p3 : (pt && (pk && pe)) = true → Same H1 H3 := fun hp => (p2 hp).trans a3.hs
        rw [List.drop_eq_getElem_cons hlt] at el
        have el' : ((b items[i] e2).bind fun e1 => (gt e1).bind fun q => if q.1 = true then (fk q.2).bind fun x => (keyD x.1).bind fun kk => (fe x.2).bind fun y => dcF b gt fk fe (items.drop (i + 1)) (putG acc kk y.1) y.2
            else dcF b gt fk fe (items.drop (i + 1)) acc q.2) = some r2 := el
        cases qb : b items[i] e2 with
        | none => rw [qb] at el'; cases el'
        | some e3 =>
          rw [qb, Option.bind_some] at el'
          refine hg e2 (wipe σ own) f2 G3 H3 _ x e3 _ S3 rx qb fun σ4 f4 s4 p4 S4 => ?_
          have hlen4 : σ4.length = (wipe σ own).length := by
            have h1 := S4.sl.len.2.1
            have h2 := S3.sl.len.2.1
            have h3 : msB.length = (blkM ms own).length := by
              have : ∀ (a b : List M), weakM a b = true → a.length = b.length := by
                intro a
                induction a with
                | nil => intro b h; cases b with
                  | nil => rfl
                  | cons _ _ => simp [weakM] at h
                | cons x a ih => intro b h; cases b with
                  | nil => simp [weakM] at h
                  | cons y b => simp only [weakM, Bool.and_eq_true] at h; simp [ih b h.2]
              exact this _ _ hw
            rw [h1, h2, h3]
          have agree : ∀ (j : Nat), j ∉ own → σ4[j]? = (wipe σ own)[j]? := fun j hj => by
            by_cases hjn : j < n
            · refine p4 j 0 ?_
              unfold outM
              rw [List.getElem?_map, List.getElem?_range hjn]
              simp [hj]
            · have h1 : σ4.length = n := by rw [hlen4, wipe_length, ← hn]; exact S1.sl.len.2.1
              rw [List.getElem?_eq_none (by omega), List.getElem?_eq_none (by rw [← hlen4]; omega)]
          have weq : wipe σ4 own = wipe σ own := by
            have h1 : wipe σ4 own = wipe (wipe σ own) own := wipe_eq hlen4 agree
            rw [h1]
            exact wipe_eq (wipe_length _ _) fun j hj => by rw [wipe_get, if_neg hj]
          refine ⟨weq, ?_⟩
          have t4 : Tr f1.flatten G1 H1 (L :: f4.flatten) G3 H3 := ⟨t3.gs, t3.gn, fun a ha => by
            rcases List.mem_cons.mp ha with z | z
            · exact t3.fp a (by rw [z]; exact List.mem_cons_self)
            · exact t3.fp a (List.mem_cons_of_mem _ (s4 a z)), t3.fr, t3.th⟩
          have nL4 : L ∉ f4.flatten := fun z => nL (s4 L z)
          -- back to the block's slots
          have back : ∀ {env5 : List D} {f5 : List (List Addr)} {G5 H5 : Hp}, Sat K msB env5 σ4 f5 G5 H5 → ∃ f6, Sat K (blkM ms own) env5 (wipe σ own) f6 G5 H5 ∧ (∀ a ∈ f6.flatten, a ∈ f5.flatten) := fun {env5 f5 G5 H5} S5 => by
            obtain ⟨f6, S6, _, sub⟩ := S5.weak hw
            refine ⟨f6, ⟨S6.sl.sig hlen4.symm fun j hj => ?_, S6.nd, S6.out, S6.sub⟩, sub⟩
            by_cases h : j ∈ own
            · by_cases hjn : j < ms.length
              · exact absurd (by rw [blkM_get, if_pos h, if_pos hjn]) hj
              · have h1 : (wipe σ own).length = ms.length := by rw [wipe_length]; exact S1.sl.len.2.1
                rw [List.getElem?_eq_none (by omega), List.getElem?_eq_none (by rw [hlen4]; omega)]
            · exact (agree j h).symm
          cases qt : gt e3 with
          | none => rw [qt] at el'; cases el'
          | some c5 =>
            obtain ⟨c, e5⟩ := c5
            rw [qt, Option.bind_some] at el'
            refine ht e3 σ4 f4 G3 H3 c e5 _ S4 qt fun f5 G5 H5 t5 p5 S5 => ?_
            have hv5 : H5 L = some (.dK vs) := t5.fr _ _ hv3 nL4
            have hL5 : H5 L ≠ none := by rw [hv5]; exact fun z => nomatch z
            have t5' : Tr f1.flatten G1 H1 (L :: f5.flatten) G5 H5 := t4.trans (t5.frame hL3)
            have gL5 : G5 L = none := by
              cases e : G5 L with
              | none => rfl
              | some o => rcases t5.gn L (by rw [e]; exact fun z => nomatch z) with z | z | z
                          · exact absurd gL3 z
                          · exact absurd z hL3
                          · exact absurd z nL4
            have nL5 : L ∉ f5.flatten := fun z => (t5.fp L z).elim nL4 hL3
            cases c with
            | false =>
              rw [if_neg Bool.false_ne_true] at el' ⊢
              obtain ⟨f6, S6, sub⟩ := back S5
              exact ⟨hlt, acc, vs, e5, f6, G5, by omega, ⟨t5'.gs, t5'.gn, fun a ha => by
                rcases List.mem_cons.mp ha with z | z
                · exact t5'.fp a (by rw [z]; exact List.mem_cons_self)
                · exact t5'.fp a (List.mem_cons_of_mem _ (sub a z)), t5'.fr, t5'.th⟩, (g2.trans a3.gs).trans t5.gs, fun hp => (p3 hp).trans (p5 (by
                  simp only [Bool.and_eq_true] at hp; exact hp.1)), S6, hv5, gL5, fun z => nL5 (sub L z), rr.same (a3.gs.trans t5.gs), el'⟩
            | true =>
              rw [if_pos rfl] at el' ⊢
              simp only at el'
              cases qk : fk e5 with
              | none => rw [qk] at el'; cases el'
              | some x6 =>
                obtain ⟨dk, e6⟩ := x6
                rw [qk, Option.bind_some] at el'
                cases qkk : keyD dk with
                | none => simp only at el'; rw [qkk] at el'; cases el'
                | some key =>
                  simp only at el'
                  rw [qkk, Option.bind_some] at el'
                  cases qe : fe e6 with
                  | none => rw [qe] at el'; cases el'
                  | some x7 =>
                    obtain ⟨dx, e7⟩ := x7
                    rw [qe, Option.bind_some] at el'
                    refine hkey e5 σ4 f5 G5 H5 dk e6 _ S5 qk fun yk f6 G6 H6 t6 p6 S6 r6 => ?_
                    have hk6 : yk = kV key := keyD_v qkk (show Rep K G6 dk yk from r6)
                    refine he e6 σ4 f6 G6 H6 dx e7 _ S6 qe fun y f7 G7 H7 t7 p7 S7 r7 => ?_
                    have r7' : Rep K G7 dx y := r7
                    have t57 := t6.trans t7
                    have hv7 : H7 L = some (.dK vs) := t57.fr _ _ hv5 nL5
                    have hL7 : H7 L ≠ none := by rw [hv7]; exact fun z => nomatch z
                    have gL7 : G7 L = none := by
                      cases e : G7 L with
                      | none => rfl
                      | some o => rcases t57.gn L (by rw [e]; exact fun z => nomatch z) with z | z | z
                                  · exact absurd gL5 z
                                  · exact absurd z hL5
                                  · exact absurd z nL5
                    have nL7 : L ∉ f7.flatten := fun z => (t57.fp L z).elim nL5 hL5
                    obtain ⟨f8, S8, sub⟩ := back S7
                    have t7' : Tr f1.flatten G1 H1 (L :: f7.flatten) G7 H7 := t5'.trans (t57.frame hL5)
                    have rr7 : KR K G7 acc vs := rr.same ((a3.gs.trans t5.gs).trans t57.gs)
                    have hz : vs.length < sizeLine := by
                      rw [rr7.len]
                      have := ok.len
                      omega
                    refine ⟨vs, key, hk6, hv7, hz, hlt, putG acc key dx, putK vs key y, e7, f8, G7, ?_, ?_, ((g2.trans a3.gs).trans t5.gs).trans t57.gs, fun hp => ?_, ?_, upd_same, gL7, fun z => nL7 (sub L z), rr7.put r7', el'⟩
                    · have := putG_len acc key dx
                      omega
                    · have t9 : Tr (L :: f7.flatten) G7 H7 (L :: f7.flatten) G7 (upd H7 L (.dK (putK vs key y))) := Tr.wr hL7 List.mem_cons_self
                      have t10 := t7'.trans t9
                      exact ⟨t10.gs, t10.gn, fun a ha => by
                        rcases List.mem_cons.mp ha with z | z
                        · exact t10.fp a (by rw [z]; exact List.mem_cons_self)
                        · exact t10.fp a (List.mem_cons_of_mem _ (sub a z)), t10.fr, t10.th⟩
                    · have hp' := hp
                      simp only [Bool.and_eq_true] at hp
                      intro a o ha
                      have hne : a ≠ L := fun z => by rw [z, hL] at ha; cases ha
                      rw [upd_ne hne]
                      exact p7 hp.2.2 _ _ (p6 hp.2.1 _ _ (p5 hp.1 _ _ (p3 hp' _ _ ha)))
                    · refine S8.keep (Same.refl _) (fun a o ha => ?_) S8.out fun a ha o e => ?_
                      · rw [upd_ne (fun z => by rw [z, gL7] at ha; cases ha)]; exact S8.sub _ _ ha
                      · rw [upd_ne (fun z => nL7 (sub L (by rw [← z]; exact ha)))]; exact e
      · have hz : i = items.length := by omega
        subst hz
        rw [List.drop_length] at el
        cases el
        refine .inl ⟨ok.stop _ G2 H2 g2 S2.sub (Nat.le_refl _), ?_⟩
        have S9 : Sat K ms (restD e1 e2 own) σ f2 G2 H2 := S1.unblock ho S2 g2
        have t9 : Tr fps.flatten G H (L :: f2.flatten) G2 H2 := t1.trans t2
        refine k (.ref L) f2 G2 H2 ⟨t9.gs, t9.gn, fun a ha => t9.fp a (List.mem_cons_of_mem _ ha), t9.fr, t9.th⟩ (fun hp => ?_) S9 ⟨[L], ⟨L, [], rfl, rfl, vs.map (·.2), by rw [rr.back]; exact hv, by simp, ?_⟩, by simp, fun a ha => ?_⟩
        · simp only [Bool.and_eq_true] at hp
          exact (p1 hp.1).trans (p2 (by simp only [Bool.and_eq_true]; exact hp.2))
        · exact Owns.of_reps rr.2
        · have : a = L := by simpa using ha
          subst this
          exact ⟨gL, nL, .inr (t1.back hL)⟩
end
end DL
/-! list(zip(xs, ys)), two lists -/
namespace DZ
open PySem PySem.Spec PyProof.Rows L2 PySem.W PySem.Calls

theorem zip_no_len : typeLookup (.type "zip") "__len__" = pure none := am_miss_of_fast (by decide +kernel)
theorem zip_no_hint : typeLookup (.type "zip") "__length_hint__" = pure none := am_miss_of_fast (by decide +kernel)
structure ZSt (h : Heap) (z TI TO i1 i2 l1 l2 S : Addr) (i : Nat) (xs ys : Array Value) : Prop where
  st : (i = 0 ∧ IsZip h z TI TO .none ∧ ∃ a b, IsPair h TO a b) ∨ ∃ T f oT, IsZipHeld h z TI TO T f ∧ h.get? T = some oT ∧ T ≠ z ∧ T ≠ i1 ∧ T ≠ i2 ∧ T ≠ S
  ti : IsPair h TI (.ref i1) (.ref i2)
  it1 : h.IsListIter i1 l1 i
  it2 : h.IsListIter i2 l2 i
  ls1 : h.IsList l1 xs
  ls2 : h.IsList l2 ys
structure Off (S z TI TO i1 i2 l1 l2 : Addr) : Prop where
  z : S ≠ z
  TI : S ≠ TI
  TO : S ≠ TO
  i1 : S ≠ i1
  i2 : S ≠ i2
  l1 : S ≠ l1
  l2 : S ≠ l2
section
variable {prog : Program} {w : World} {A : Around} {E : Value → Shared → Prop} {s : Shared} {z TI TO i1 i2 l1 l2 S : Addr} {i : Nat} {xs ys : Array Value}
theorem ZSt.keep {h h' : Heap} (x : ZSt h z TI TO i1 i2 l1 l2 S i xs ys) (o : Off S z TI TO i1 i2 l1 l2) (k : ∀ b u, b ≠ S → h.get? b = some u → h'.get? b = some u) : ZSt h' z TI TO i1 i2 l1 l2 S i xs ys where
  st := by
    rcases x.st with ⟨e, a, p, q, b⟩ | ⟨T, f, oT, a, b, c⟩
    · exact .inl ⟨e, k _ _ o.z.symm a, p, q, k _ _ o.TO.symm b⟩
    · exact .inr ⟨T, f, oT, k _ _ o.z.symm a, k _ _ c.2.2.2 b, c⟩
  ti := k _ _ o.TI.symm x.ti
  it1 := x.it1.at fun u e => k _ u o.i1.symm e
  it2 := x.it2.at fun u e => k _ u o.i2.symm e
  ls1 := x.ls1.at fun u e => k _ u o.l1.symm e
  ls2 := x.ls2.at fun u e => k _ u o.l2.symm e
theorem zst_item {x y : Value} {Q : Option Value → Shared → Prop} (D : ZipApart z TI TO i1 i2 l1 l2) (Z : ZSt s.heap z TI TO i1 i2 l1 l2 S i xs ys) (hS : S < s.heap.objs.size) (hx : xs[i]? = some x) (hy : ys[i]? = some y)
    (hQ : ∀ h', ZSt h' z TI TO i1 i2 l1 l2 S (i + 1) xs ys → IsPair h' s.heap.objs.size x y → h'.objs.size = s.heap.objs.size + 1 → (∀ c o, c ≠ z → c ≠ TO → c ≠ i1 → c ≠ i2 → s.heap.get? c = some o → h'.get? c = some o) → Q (some (.ref s.heap.objs.size)) { s with heap := h' }) :
    wpAny (model prog w) A (pyNext (.ref z)) Q E s := by
  have lt : ∀ {c o}, s.heap.get? c = some o → s.heap.objs.size ≠ c := fun e => Nat.ne_of_gt (Heap.lt_size e)
  have e1 : s.heap.objs.size ≠ i1 := let ⟨_, e, _⟩ := Z.it1; lt e
  have e2 : s.heap.objs.size ≠ i2 := let ⟨_, e, _⟩ := Z.it2; lt e
  rcases Z.st with ⟨e, a, p, q, b⟩ | ⟨T, f, oT, a, b, c1, c2, c3, c4⟩
  · subst e
    refine wpAny_pyNext_zip_item D a Z.ti b Z.it1 Z.it2 Z.ls1 Z.ls2 hx hy fun h' a1 a2 a3 a4 a5 a6 hk => ?_
    refine hQ h' ⟨.inr ⟨s.heap.objs.size, false, _, a1, a5, lt a, e1, e2, Nat.ne_of_gt hS⟩, hk _ _ D.TIz D.TITO D.TIi1 D.TIi2 Z.ti, a3, a4, Z.ls1.at fun o e => hk _ o D.l1z D.l1TO D.l1i1 D.l1i2 e, Z.ls2.at fun o e => hk _ o D.l2z D.l2TO D.l2i1 D.l2i2 e⟩ a5 a6 hk
  · refine wpAny_pyNext_zip_item_held D a b Z.ti Z.it1 Z.it2 Z.ls1 Z.ls2 hx hy fun h' a1 a3 a4 a5 a6 hk => ?_
    exact hQ h' ⟨.inr ⟨T, true, oT, a1, hk _ _ c1 c2 c3 b, c1, c2, c3, c4⟩, hk _ _ D.TIz D.TIi1 D.TIi2 Z.ti, a3, a4, Z.ls1.at fun o e => hk _ o D.l1z D.l1i1 D.l1i2 e, Z.ls2.at fun o e => hk _ o D.l2z D.l2i1 D.l2i2 e⟩ a5 a6 fun c o x1 _ x3 x4 e => hk c o x1 x3 x4 e
theorem zst_done {Q : Option Value → Shared → Prop} (hh : A.handled = none) (D : ZipApart z TI TO i1 i2 l1 l2) (Z : ZSt s.heap z TI TO i1 i2 l1 l2 S i xs ys) (he : xs[i]? = none ∨ ys[i]? = none)
    (hQ : ∀ h', (∀ c o, c ≠ z → c ≠ TO → c ≠ i1 → c ≠ i2 → s.heap.get? c = some o → h'.get? c = some o) → Q none { s with heap := h' }) :
    wpAny (model prog w) A (pyNext (.ref z)) Q E s := by
  rcases Z.st with ⟨e, a, p, q, b⟩ | ⟨T, f, oT, a, b, _⟩
  · subst e
    exact wpAny_pyNext_zip_end hh D a Z.ti b Z.it1 Z.it2 Z.ls1 Z.ls2 he hQ
  · exact wpAny_pyNext_zip_end_held hh D a b Z.ti Z.it1 Z.it2 Z.ls1 Z.ls2 he fun h' hk => hQ h' fun c o x1 _ x3 x4 e => hk c o x1 x3 x4 e
structure ZG (xs ys : Array Value) (lo : Addr) (h : Heap) (as : List Addr) : Prop where
  rise : as.Pairwise (· < ·)
  above : ∀ a ∈ as, lo < a
  pairs : ∀ (j : Nat) (a : Addr), as[j]? = some a → ∃ x y, xs[j]? = some x ∧ ys[j]? = some y ∧ IsPair h a x y
theorem ZG.there {lo : Addr} {h : Heap} {as : List Addr} (g : ZG xs ys lo h as) {a : Addr} (ha : a ∈ as) : a < h.objs.size := by
  obtain ⟨j, hj⟩ := List.mem_iff_getElem?.mp ha
  obtain ⟨_, _, _, _, e⟩ := g.pairs j a hj
  exact Heap.lt_size e
end
section
variable {prog : Program} {w : World} {A : Around} {s : Shared} {R : Result → Shared → Prop} {z TI TO i1 i2 l1 l2 S : Addr} {xs ys : Array Value}
theorem zip_loop (hh : A.handled = none) (D : ZipApart z TI TO i1 i2 l1 l2) (o : Off S z TI TO i1 i2 l1 l2) (hzS : z < S) (hTS : TO < S) (h1S : i1 < S) (h2S : i2 < S) (n : Nat) (en : n = min xs.size ys.size) (hn : n ≤ sizeLine) (res : Value) {h₁ : Heap}
    (hR : ∀ h' tk acc c as, (∀ b o, b ≠ S → b ≠ z → b ≠ TO → b ≠ i1 → b ≠ i2 → h₁.get? b = some o → h'.get? b = some o) → h'.get? S = some { cls := .type "list", dict := none, data := .seq acc c, slots := #[] } → as.length = n → ZG xs ys S h' as →
      acc.toList = as.map Value.ref → R (.ok (.ret res)) { s with heap := h', toks := tk }) :
    ∀ (k i : Nat) (h : Heap) (tk c : Nat) (acc : Array Value) (as : List Addr), n - i = k → i ≤ n → ZSt h z TI TO i1 i2 l1 l2 S i xs ys → (∀ b o, b ≠ S → b ≠ z → b ≠ TO → b ≠ i1 → b ≠ i2 → h₁.get? b = some o → h.get? b = some o) →
      h.get? S = some { cls := .type "list", dict := none, data := .seq acc c, slots := #[] } → acc.toList = as.map Value.ref → as.length = i → ZG xs ys S h as →
      codeAny (model prog w) A (.builtin "list.extend.loop" ⟨[.ref S, .ref z, res], []⟩) R { s with heap := h, toks := tk } := by
  intro k
  induction k with
  | zero =>
    intro i h tk c acc as hk hi hst hkeep hS hacc hal hG
    have hin : i = n := by omega
    refine codeAny_builtin PySem.F.entry_extend_loop ?_
    rw [Around.under_plainId PySem.F.plain_extend_loop _]
    show wpAny _ A.in1 (pyNext (.ref z) >>= _) _ _ _
    have hend : xs[i]? = none ∨ ys[i]? = none := by
      rcases Nat.le_total xs.size ys.size with q | q
      · left; exact Array.getElem?_eq_none (by omega)
      · right; exact Array.getElem?_eq_none (by omega)
    refine wpAny_bind (zst_done (s := { s with heap := h, toks := tk }) (A := A.in1) hh D hst hend fun h' he => ?_)
    have up : ∀ a, S < a → ∀ u, h.get? a = some u → h'.get? a = some u := fun a ha u e => he a u (Nat.ne_of_gt (Nat.lt_trans hzS ha)) (Nat.ne_of_gt (Nat.lt_trans hTS ha)) (Nat.ne_of_gt (Nat.lt_trans h1S ha)) (Nat.ne_of_gt (Nat.lt_trans h2S ha)) e
    refine wpAny_pure (hR h' tk acc c as (fun b o x0 x1 x2 x3 x4 e => he b o x1 x2 x3 x4 (hkeep b o x0 x1 x2 x3 x4 e)) (he S _ o.z o.TO o.i1 o.i2 hS) (by omega) ⟨hG.rise, hG.above, fun j a hj => ?_⟩ hacc)
    obtain ⟨x, y, e1, e2, e3⟩ := hG.pairs j a hj
    exact ⟨x, y, e1, e2, up a (hG.above a (List.mem_of_getElem? hj)) _ e3⟩
  | succ k ih =>
    intro i h tk c acc as hk hi hst hkeep hS hacc hal hG
    have hlt : i < n := by omega
    have hx : xs[i]? = some xs[i] := Array.getElem?_eq_getElem (by omega)
    have hy : ys[i]? = some ys[i] := Array.getElem?_eq_getElem (by omega)
    have hsz : acc.size = i := by rw [← Array.length_toList, hacc, List.length_map, hal]
    refine codeAny_builtin PySem.F.entry_extend_loop ?_
    rw [Around.under_plainId PySem.F.plain_extend_loop _]
    show wpAny _ A.in1 (pyNext (.ref z) >>= _) _ _ _
    refine wpAny_bind (zst_item (s := { s with heap := h, toks := tk }) D hst (Heap.lt_size hS) hx hy fun h' hst' ht hz hkp => ?_)
    dsimp only at ht hz hkp ⊢
    have hS' := hkp S _ o.z o.TO o.i1 o.i2 hS
    have up : ∀ b o, b ≠ S → h'.get? b = some o → (h'.update S (Obj.mapSeq (·.push (Value.ref h.objs.size)))).get? b = some o := fun b o hb e => (Heap.get?_update_other _ _ (Ne.symm hb)).trans e
    have hSl : S < h.objs.size := Heap.lt_size hS
    show wpAny _ A.in1 (updateSeq S (·.push (Value.ref h.objs.size)) >>= _) _ _ _
    refine wpAny_bind ?_
    refine wpAny_updateSeq hS' rfl (wpAny_pure ⟨plainId_quiet PySem.F.plain_extend_loop _, ih (i + 1) _ tk _ (acc.push (Value.ref h.objs.size)) (as ++ [h.objs.size]) (by omega) hlt (hst'.keep o up)
      (fun b u x0 x1 x2 x3 x4 e => up b u x0 (hkp b u x1 x2 x3 x4 (hkeep b u x0 x1 x2 x3 x4 e))) (Heap.get?_update_self _ hS' rfl) (by rw [Array.toList_push, hacc, List.map_append]; rfl) (by rw [List.length_append, hal]; rfl) ⟨?_, ?_, ?_⟩⟩) (by rw [hsz]; omega) (by show (acc.push (Value.ref h.objs.size)).size ≤ sizeLine + 1; rw [Array.size_push, hsz]; omega)
    · refine List.pairwise_append.mpr ⟨hG.rise, List.pairwise_singleton _ _, fun a ha b hb => ?_⟩
      rw [List.mem_singleton.mp hb]
      exact hG.there ha
    · intro a ha
      rcases List.mem_append.mp ha with ha | ha
      · exact hG.above a ha
      · rw [List.mem_singleton.mp ha]; exact hSl
    · intro j b hj
      rcases Nat.lt_trichotomy j as.length with h1 | h1 | h1
      · rw [List.getElem?_append_left h1] at hj
        obtain ⟨x', y', e1, e2, e3⟩ := hG.pairs j b hj
        have hb := hG.above b (List.mem_of_getElem? hj)
        exact ⟨x', y', e1, e2, up b _ (Nat.ne_of_gt hb) (hkp b _ (Nat.ne_of_gt (Nat.lt_trans hzS hb)) (Nat.ne_of_gt (Nat.lt_trans hTS hb)) (Nat.ne_of_gt (Nat.lt_trans h1S hb)) (Nat.ne_of_gt (Nat.lt_trans h2S hb)) e3)⟩
      · subst h1
        have hb : h.objs.size = b := by simpa using hj
        subst hb
        exact ⟨_, _, by rw [hal]; exact hx, by rw [hal]; exact hy, up _ _ (Nat.ne_of_gt hSl) ht⟩
      · have hnone : (as ++ [h.objs.size])[j]? = none := List.getElem?_eq_none (by rw [List.length_append, List.length_singleton]; omega)
        rw [hnone] at hj; cases hj
theorem zip_extend (hh : A.handled = none) (D : ZipApart z TI TO i1 i2 l1 l2) (o : Off S z TI TO i1 i2 l1 l2) (hzS : z < S) (hTS : TO < S) (h1S : i1 < S) (h2S : i2 < S) (hz : IsZip s.heap z TI TO .none) (Z : ZSt s.heap z TI TO i1 i2 l1 l2 S 0 xs ys)
    (hn : min xs.size ys.size ≤ sizeLine) (res : Value) (c₀ : Nat) (hS : s.heap.get? S = some { cls := .type "list", data := .seq #[] c₀ })
    (hR : ∀ h' tk acc c as, (∀ b o, b ≠ S → b ≠ z → b ≠ TO → b ≠ i1 → b ≠ i2 → s.heap.get? b = some o → h'.get? b = some o) → h'.get? S = some { cls := .type "list", dict := none, data := .seq acc c, slots := #[] } → as.length = min xs.size ys.size → ZG xs ys S h' as →
      acc.toList = as.map Value.ref → R (.ok (.ret res)) { s with heap := h', toks := tk }) :
    wpAny (model prog w) A.in1 (Builtin.List.listExtendWith (.ref S) (.ref z) res)
      (fun fin s' => match fin with | .done f => R (.ok f) s' | .again c' => c'.quiet = true ∧ codeAny (model prog w) A c' R s') (fun e s' => R (.error e) s') s := by
  have hT : s.TypeIs (.ref z) "zip" := ⟨_, hz, rfl⟩
  unfold Builtin.List.listExtendWith
  refine wpAny_bind (wpAny_typeOf hT ?_)
  have h1 : Builtin.List.listSameRef (.ref S) (.ref z) = false := by simp [Builtin.List.listSameRef, o.z]
  have h2 : (Value.type "zip" == Value.type "list") = false := by decide
  have h3 : (Value.type "zip" == Value.type "tuple") = false := by decide
  simp only [h1, h2, h3, Bool.or_false, Bool.false_eq_true, if_false]
  refine wpAny_bind (wpAny_pyIter_zip hz ?_)
  refine wpAny_bind (wpAny_holding ?_)
  unfold Builtin.List.listLengthHint
  refine wpAny_bind (wpAny_specialOf hT zip_no_len ?_)
  show wpAny _ A.in1 (specialOf (Value.ref z) (Str.ofString "__length_hint__") >>= _) _ _ _
  refine wpAny_bind (wpAny_specialOf hT zip_no_hint ?_)
  refine wpAny_pure ?_
  show wpAny _ A.in1 (rule "list.extend.makes-room" >>= fun _ => Builtin.List.listTouch (.ref S) >>= fun _ =>
    again (.builtin "list.extend.loop" ⟨[.ref S, .ref z, res], []⟩)) _ _ _
  refine wpAny_bind (wpAny_rule ?_)
  refine wpAny_bind ?_
  show wpAny _ A.in1 (updateSeq S (·.push .none) >>= fun _ => updateSeq S (·.pop)) _ _ _
  refine wpAny_bind (wpAny_updateSeq hS rfl ?_)
  have hS₂ := Heap.get?_update_self (Obj.mapSeq (·.push Value.none)) hS rfl
  refine wpAny_updateSeq (hz := by seq_fits) hS₂ rfl ?_
  have hS₃ := Heap.get?_update_self (Obj.mapSeq (·.pop)) hS₂ rfl
  have oth : ∀ b o, b ≠ S → s.heap.get? b = some o → ((s.heap.update S (Obj.mapSeq (·.push Value.none))).update S (Obj.mapSeq (·.pop))).get? b = some o :=
    fun b o hb e => (Heap.get?_update_other _ _ (Ne.symm hb)).trans ((Heap.get?_update_other _ _ (Ne.symm hb)).trans e)
  exact wpAny_pure ⟨plainId_quiet F.plain_extend_loop _, zip_loop hh D o hzS hTS h1S h2S (min xs.size ys.size) rfl hn res (h₁ := s.heap) hR _ 0 _ s.toks _ _ [] rfl (Nat.zero_le _) (Z.keep o oth) (fun b u x0 _ _ _ _ e => oth b u x0 e) hS₃ rfl rfl
    ⟨List.Pairwise.nil, fun _ h => (nomatch h), fun j a hj => by simp at hj⟩⟩
theorem zip_init (hh : A.handled = none) (D : ZipApart z TI TO i1 i2 l1 l2) (o : Off S z TI TO i1 i2 l1 l2) (hzS : z < S) (hTS : TO < S) (h1S : i1 < S) (h2S : i2 < S) (hz : IsZip s.heap z TI TO .none) (Z : ZSt s.heap z TI TO i1 i2 l1 l2 S 0 xs ys)
    (hn : min xs.size ys.size ≤ sizeLine) (hS : s.heap.get? S = some { cls := .type "list", data := .seq #[] })
    (hR : ∀ h' tk acc c as, (∀ b o, b ≠ S → b ≠ z → b ≠ TO → b ≠ i1 → b ≠ i2 → s.heap.get? b = some o → h'.get? b = some o) → h'.get? S = some { cls := .type "list", dict := none, data := .seq acc c, slots := #[] } → as.length = min xs.size ys.size → ZG xs ys S h' as →
      acc.toList = as.map Value.ref → R (.ok (.ret .none)) { s with heap := h', toks := tk }) :
    wpAny (model prog w) A.in1 (Builtin.«list.__init__» ⟨[.ref S, .ref z], []⟩)
      (fun fin s' => match fin with | .done f => R (.ok f) s' | .again c' => c'.quiet = true ∧ codeAny (model prog w) A c' R s') (fun e s' => R (.error e) s') s := by
  show wpAny _ _ (do let old ← Builtin.List.listItems (.ref S); Builtin.List.listUpdate (.ref S) (fun _ => #[]); letGo old.toList.reverse; Builtin.List.listExtendWith (.ref S) (.ref z) .none) _ _ s
  refine wpAny_bind ?_
  unfold Builtin.List.listItems
  refine wpAny_bind (wpAny_seqItems hS rfl (wpAny_pure ?_))
  show wpAny _ _ (updateSeq S (fun _ => #[]) >>= fun _ => letGo (#[] : Array Value).toList.reverse >>= fun _ => Builtin.List.listExtendWith (.ref S) (.ref z) .none) _ _ s
  refine wpAny_bind (wpAny_updateSeq hS rfl ?_)
  have hS₂ := Heap.get?_update_self (Obj.mapSeq (fun _ => (#[] : Array Value))) hS rfl
  have oth : ∀ b o, b ≠ S → s.heap.get? b = some o → (s.heap.update S (Obj.mapSeq (fun _ => (#[] : Array Value)))).get? b = some o :=
    fun b o hb e => (Heap.get?_update_other _ _ (Ne.symm hb)).trans e
  refine wpAny_bind (wpAny_letGo ?_)
  refine zip_extend hh D o hzS hTS h1S h2S (oth _ _ o.z.symm hz) (Z.keep o oth) hn .none _ hS₂ fun h' tk acc c as hk hS' hl hG hacc => ?_
  exact hR h' tk acc c as (fun b u x0 x1 x2 x3 x4 e => hk b u x0 x1 x2 x3 x4 (oth b u x0 e)) hS' hl hG hacc
end
section
variable {prog : Program} {w : World} {A : Around} {E : Value → Shared → Prop} {s : Shared} {z TI TO i1 i2 l1 l2 : Addr} {xs ys : Array Value}
theorem call_list_zip {Q : Value → Shared → Prop} (hh : A.handled = none) (D : ZipApart z TI TO i1 i2 l1 l2) (hz : IsZip s.heap z TI TO .none) (hTI : IsPair s.heap TI (.ref i1) (.ref i2)) (hTO : ∃ a b, IsPair s.heap TO a b) (h1 : s.heap.IsListIter i1 l1 0) (h2 : s.heap.IsListIter i2 l2 0)
    (hl1 : s.heap.IsList l1 xs) (hl2 : s.heap.IsList l2 ys) (hn : min xs.size ys.size ≤ sizeLine)
    (hQ : ∀ h' tk acc c as, (∀ b o, b ≠ z → b ≠ TO → b ≠ i1 → b ≠ i2 → s.heap.get? b = some o → h'.get? b = some o) → h'.get? s.heap.objs.size = some { cls := .type "list", dict := none, data := .seq acc c, slots := #[] } → as.length = min xs.size ys.size →
      ZG xs ys s.heap.objs.size h' as → acc.toList = as.map Value.ref → Q (.ref s.heap.objs.size) { s with heap := h', toks := tk }) :
    wpAny (model prog w) A (call (.type "list") [.ref z]) Q E s := by
  refine callType_codes (Q₁ := fun obj s₁ => obj = .ref s.heap.objs.size ∧ s₁ = { s with heap := s.heap.push { cls := .type "list", data := .seq #[] } }) PySem.F.called_list (PySem.F.typeCall_list_1 _) PySem.F.entry_list_init
    (code_list_new _ ⟨rfl, rfl⟩) fun obj s₁ h₁ => ?_
  obtain ⟨rfl, rfl⟩ := h₁
  have hS : (s.heap.push { cls := .type "list", data := .seq #[] }).get? s.heap.objs.size = some { cls := .type "list", data := .seq #[] } := Heap.get?_push_size _ rfl
  have up : ∀ b o, s.heap.get? b = some o → (s.heap.push { cls := .type "list", data := .seq #[] }).get? b = some o := fun b o e => Heap.get?_push_of_some _ e
  have lt : ∀ {c o}, s.heap.get? c = some o → c < s.heap.objs.size := fun e => Heap.lt_size e
  have b1 : i1 < s.heap.objs.size := let ⟨_, e, _⟩ := h1; lt e
  have b2 : i2 < s.heap.objs.size := let ⟨_, e, _⟩ := h2; lt e
  have b3 : l1 < s.heap.objs.size := let ⟨_, e, _⟩ := hl1; lt e
  have b4 : l2 < s.heap.objs.size := let ⟨_, e, _⟩ := hl2; lt e
  have bz := lt hz
  have bT := lt hTI
  obtain ⟨a, b, hTO⟩ := hTO
  have bO := lt hTO
  refine ⟨⟨_, hS, rfl⟩, PySem.F.args_list_init_2 _ _, zip_init (A := A.in1) hh D ⟨Nat.ne_of_gt bz, Nat.ne_of_gt bT, Nat.ne_of_gt bO, Nat.ne_of_gt b1, Nat.ne_of_gt b2, Nat.ne_of_gt b3, Nat.ne_of_gt b4⟩ bz bO b1 b2 (up _ _ hz)
    ⟨.inl ⟨rfl, up _ _ hz, a, b, up _ _ hTO⟩, up _ _ hTI, h1.at fun o e => up _ o e, h2.at fun o e => up _ o e, hl1.at fun o e => up _ o e, hl2.at fun o e => up _ o e⟩ hn hS fun h' tk acc c as hk hS' hl hG hacc => ?_⟩
  exact ⟨rfl, hQ h' tk acc c as (fun b o x1 x2 x3 x4 e => hk b o (Nat.ne_of_lt (lt e)) x1 x2 x3 x4 (up b o e)) hS' hl hG hacc⟩
end
end DZ
namespace DZ
open PySem PySem.Spec PyProof.Rows L2
def putP : Hp → List Addr → List (V × V) → Hp
  | H, a :: as, p :: ps => putP (upd H a (.tup [p.1, p.2])) as ps
  | H, _, _ => H
theorem putP_off {b : Addr} : ∀ (as : List Addr) (ps : List (V × V)) (H : Hp), b ∉ as → putP H as ps b = H b
  | [], _, _, _ => rfl
  | _ :: _, [], _, _ => rfl
  | a :: as, p :: ps, H, h => by
    show putP (upd H a (.tup [p.1, p.2])) as ps b = H b
    rw [putP_off as ps _ (fun z => h (List.mem_cons_of_mem _ z)), upd_ne (fun z => h (by rw [z]; exact List.mem_cons_self))]
theorem putP_at : ∀ (as : List Addr) (ps : List (V × V)) (H : Hp), as.length = ps.length → as.Nodup → Paired (fun (t : Addr) (p : V × V) => putP H as ps t = some (.tup [p.1, p.2])) as ps
  | [], [], _, _, _ => .nil
  | [], _ :: _, _, h, _ => by cases h
  | _ :: _, [], _, h, _ => by cases h
  | a :: as, p :: ps, H, h, hn => by
    have hn' := List.nodup_cons.mp hn
    refine .cons ?_ (putP_at as ps (upd H a (.tup [p.1, p.2])) (Nat.succ.inj h) hn'.2)
    show putP (upd H a (.tup [p.1, p.2])) as ps a = some (.tup [p.1, p.2])
    rw [putP_off as ps _ hn'.1, upd_same]
theorem zip_vals : ∀ {xs ys : List V} {us ws : List Value}, Vals xs us → Vals ys ws → Paired (fun (p : V × V) (q : Value × Value) => RelV p.1 q.1 ∧ RelV p.2 q.2) (xs.zip ys) (us.zip ws)
  | _, _, _, _, .nil, _ => by simp; exact .nil
  | _, _, _, _, .cons r t, .nil => by simp; exact .nil
  | _, _, _, _, .cons r t, .cons r2 t2 => .cons ⟨r, r2⟩ (zip_vals t t2)
section
variable {X : Cx} {e e2 : Expr} {ta : TA} {p p2 cpos pos : Pos}
theorem zip_laid {pins : List (Addr × Obj)} {σ : L2.St} {H : Hp} {s : Shared} {h' : Heap} {tk : Nat} {xs ys : List V} {us ws : List Value} {acc : Array Value} {c : Nat} {as : List Addr} {S : Addr} (I : Inv X pins σ H s) (hSs : s.heap.objs.size ≤ S) (hz : xs.length ≤ sizeLine) (r1 : Vals xs us) (r2 : Vals ys ws)
    (hk : ∀ b o, s.heap.get? b = some o → h'.get? b = some o) (hS : h'.get? S = some { cls := .type "list", dict := none, data := .seq acc c, slots := #[] }) (hl : as.length = min us.length ws.length) (hG : ZG us.toArray ws.toArray S h' as) (hacc : acc.toList = as.map Value.ref) :
    ∃ H' : Hp, (∀ b o, H b = some o → H' b = some o) ∧ H S = none ∧ (∀ t ∈ as, H t = none) ∧ S ∉ as ∧ H' S = some (.lst (as.map V.ref)) ∧ Paired (fun (t : Addr) (q : V × V) => H' t = some (.tup [q.1, q.2])) as (xs.zip ys) ∧ Inv X pins σ H' { s with heap := h', toks := tk } := by
  have lk : as.length = (xs.zip ys).length := by rw [List.length_zip, hl, r1.length, r2.length]
  have hSn : S ∉ as := fun z => Nat.lt_irrefl _ (hG.above _ z)
  have nd : as.Nodup := List.Pairwise.imp (fun {a b} (h : a < b) => Nat.ne_of_lt h) hG.rise
  have new : ∀ t ∈ as, H t = none := fun t ht => I.hok.fresh (Nat.le_trans hSs (Nat.le_of_lt (hG.above t ht)))
  have newS : H S = none := I.hok.fresh hSs
  have atP := putP_at as (xs.zip ys) (upd H S (.lst (as.map V.ref))) lk nd
  have off : ∀ b, b ∉ as → b ≠ S → putP (upd H S (.lst (as.map V.ref))) as (xs.zip ys) b = H b := fun b h1 h2 => by rw [putP_off as _ _ h1, upd_ne h2]
  have low : ∀ b o, s.heap.get? b = some o → b ∉ as ∧ b ≠ S := fun b o e => ⟨fun z => absurd (Heap.lt_size e) (Nat.not_lt.mpr (Nat.le_trans hSs (Nat.le_of_lt (hG.above b z)))), Nat.ne_of_lt (Nat.lt_of_lt_of_le (Heap.lt_size e) hSs)⟩
  have kp : ∀ b u, H b = some u → (putP (upd H S (.lst (as.map V.ref))) as (xs.zip ys)) b = some u := fun b u e => by
    rw [off b (fun z => by rw [new b z] at e; cases e) (fun z => by rw [z, newS] at e; cases e)]
    exact e
  have eS : putP (upd H S (.lst (as.map V.ref))) as (xs.zip ys) S = some (.lst (as.map V.ref)) := by rw [putP_off as _ _ hSn, upd_same]
  refine ⟨putP (upd H S (.lst (as.map V.ref))) as (xs.zip ys), kp, newS, new, hSn, eS, atP, ?_⟩
  refine I.call' (ch := []) rfl ⟨fun b o q _ _ _ => hk b o q, fun b o q _ _ _ => ⟨o.slots, hk b o q⟩, fun b o q n _ => ?_, fun b o q _ => ⟨o, hk b o q⟩, fun b xs q => kp b _ q, fun b o u q => kp b _ q, fun b ps q => ⟨#[], by rw [kp b _ q]; simp⟩⟩ (fun b u q => ?_) I.bare fun b z => by simp at z
  · obtain ⟨z1, z2⟩ := low b o q
    rw [off b z1 z2]
    exact n
  · by_cases hb : b ∈ as
    · obtain ⟨j, pk, e1, e2, e3⟩ := LiI.paired_ix atP hb
      rw [e3] at q
      cases q
      obtain ⟨x, y, f1, f2, f3⟩ := hG.pairs j b e1
      obtain ⟨qv, g1, g2, g3⟩ := LiI.paired_get (zip_vals r1 r2) e2
      rw [List.getElem?_toArray] at f1 f2
      have : (us.zip ws)[j]? = some (x, y) := by rw [List.getElem?_zip_eq_some]; exact ⟨f1, f2⟩
      rw [this] at g1
      cases g1
      exact ⟨by show 2 ≤ sizeLine; decide, [x, y], .cons g2 (.cons g3 .nil), ⟨_, f3, rfl, _, rfl⟩⟩
    · by_cases hb2 : b = S
      · rw [hb2] at q ⊢
        rw [eS] at q
        cases q
        refine ⟨by rw [List.length_map, hl, ← r1.length]; omega, acc.toList, c, by rw [hacc]; exact LiI.vals_refs as, ?_⟩
        rw [Array.toArray_toList]
        exact hS
      · rw [off b hb hb2] at q
        exact (I.hok b u q).stay (fun d v _ y => hk d v y) (fun d y => kp d _ y) fun d xs y => kp d _ y
def rListZip (K : PySem.W.Frag) : List V → Hp → VK → Prop := fun vs H Q => ∃ (a b : Addr) (xs ys : List V), vs = [.ref a, .ref b] ∧ SqL K H a xs ∧ SqL K H b ys ∧
  ∀ (H' : Hp) (p : Addr) (ts : List Addr), (∀ b o, H b = some o → H' b = some o) → H p = none → (∀ t ∈ ts, H t = none) → p ∉ ts → H' p = some (.lst (ts.map V.ref)) → Paired (fun (t : Addr) (q : V × V) => H' t = some (.tup [q.1, q.2])) ts (xs.zip ys) → Q (.ref p) H'
/-- list(zip(e, e2)) -/
theorem pe_listZip (hc : X.calm = true) (ha : PA X [e, e2] ta) (hg : Gl X "list") (hm : X.mg "list" = none) (hg2 : Gl X "zip") (hm2 : X.mg "zip" = none)
    (hs2 : starEach [e, e2] X.env = (false, eval e X.env) :: starEach [e2] X.env := by rfl) (hpl2 : (backTo cpos (starEach [e2] X.env)).any (·.1) = false := by rfl)
    (hs : starEach [.Call (.Name "zip" p2) [e, e2] [] cpos] X.env = (false, eval (.Call (.Name "zip" p2) [e, e2] [] cpos) X.env) :: starEach [] X.env := by rfl) :
    PE X (.Call (.Name "list" p) [.Call (.Name "zip" p2) [e, e2] [] cpos] [] pos) (tCB (rListZip X.K) ta) := by
  refine ⟨fun pins s σ H Q I hq => ?_⟩
  refine wpAny_Call_Name_kw (ld_blt I hg hm PyProof.Rows.boot_list ?_)
  refine PyProof.Rows.callWith_type1 ?_ hs rfl
  rw [hs]
  show wpAny _ _ (spliced ((false, eval (.Call (.Name "zip" p2) [e, e2] [] cpos) X.env) :: backTo pos (starEach [] X.env))) _ _ s
  refine Calls.spliced_cons ?_
  refine Call_ (ld_blt I hg2 hm2 PyProof.Rows.boot_zip (PyProof.Rows.callWith_type1 (thn (ha.run cpos pins s σ H _ I hq) fun us s1 ⟨vs, H1, I1, r1, q1⟩ => ?_) hs2 hpl2))
  obtain ⟨a, b, xs, ys, rfl, hqx, hqy, q⟩ := q1
  obtain ⟨u1, u2, rfl, ra, rb⟩ := r1.two
  cases ra
  cases rb
  obtain ⟨its, rv, pl1, hz1⟩ := I1.list hqx
  obtain ⟨its2, rv2, pl2, hz2⟩ := I1.list hqy
  have la : a < s1.heap.objs.size := pl1.lt
  have lb : b < s1.heap.objs.size := pl2.lt
  refine call_zip_2 pl1.isList pl2.isList fun h' hz hTI hTO h1 h2 hsz hk => ?_
  have I2 : Inv X pins σ H1 { s1 with heap := h' } := I1.kept (t' := s1.toks) hk
  refine Calls.spliced_nil ?_
  refine call_list_zip (I1.ok.hd hc) (PySem.W.ktu_apart s1.heap.objs.size a b la lb) hz hTI ⟨_, _, hTO⟩ h1 h2 (pl1.isList.at fun o e => hk _ o e) (pl2.isList.at fun o e => hk _ o e) (by rw [List.size_toArray, ← rv.length]; omega) fun h9 tk acc c as hk2 hS hl hG hacc => ?_
  have big : ∀ b o, s1.heap.get? b = some o → b < s1.heap.objs.size := fun b o e => Heap.lt_size e
  have hk9 : ∀ b o, s1.heap.get? b = some o → h9.get? b = some o := fun b o e => by
    have hb := big b o e
    have ne : ∀ k : Nat, b ≠ s1.heap.objs.size + k := fun k z => by
      rw [z] at hb
      exact absurd hb (Nat.not_lt.mpr (Nat.le_add_right _ _))
    exact hk2 b o (ne 4) (ne 3) (Nat.ne_of_lt hb) (ne 1) (hk b o e)
  obtain ⟨H', k1, k2, k3, k4, k5, k6, J⟩ := zip_laid (tk := tk) (S := h'.objs.size) I1 (by rw [hsz]; exact Nat.le_add_right _ _) hz1 rv rv2 hk9 hS (by simpa using hl) hG hacc
  exact ⟨.ref _, H', J, rfl, q H' _ as k1 k2 k3 k4 k5 k6⟩
end
end DZ
namespace DL
open PySem PySem.Spec PyProof.Rows L2

section
variable {K : PySem.W.Frag} {G H : Hp} {m ma mb : M} {F : List Addr} {mds ms : List M} {p pa pb pc : Bool}
/-- a new list of new pairs -/
theorem new_pairs {H' : Hp} {p : Addr} {ts : List Addr} {qs : List (V × V)} {eds : List (D × D)} {Q : VK} (s : Same G H) (th : ∀ a ∈ F, ∃ o, H a = some o) (hk : Same H H') (hp : H p = none) (ht : ∀ t ∈ ts, H t = none) (hn : p ∉ ts)
    (h1 : H' p = some (.lst (ts.map V.ref))) (h2 : Paired (fun (t : Addr) (q : V × V) => H' t = some (.tup [q.1, q.2])) ts qs) (r1 : Reps K G (eds.map (·.1)) (qs.map (·.1))) (r2 : Reps K G (eds.map (·.2)) (qs.map (·.2)))
    (k : ∀ v G' H', Al G H G' H' → RR K [] H (.ow 1) (.lst (eds.map fun e => .tup [e.1, e.2])) v F G' H' → Q v H') : Q (.ref p) H' := by
  let G2 : Hp := fun a => if a ∈ ts then H' a else G a
  have g1 : Same G G2 := fun a u z => by
    show (if a ∈ ts then H' a else G a) = _
    rw [if_neg fun y => by
      have := s.free (ht a y)
      rw [this] at z; cases z]
    exact z
  have g2 : Same G2 H' := fun a u z => by
    have z' : (if a ∈ ts then H' a else G a) = some u := z
    split at z'
    · exact z'
    · exact hk _ _ (s _ _ z')
  have rep : ∀ {ts' : List Addr} {qs : List (V × V)} {eds : List (D × D)}, (∀ t ∈ ts', t ∈ ts) → Paired (fun (t : Addr) (q : V × V) => H' t = some (.tup [q.1, q.2])) ts' qs → Reps K G (eds.map (·.1)) (qs.map (·.1)) → Reps K G (eds.map (·.2)) (qs.map (·.2)) →
      Reps K G2 (eds.map fun e => .tup [e.1, e.2]) (ts'.map V.ref) := by
    intro ts' qs eds hs hpr
    induction hpr generalizing eds with
    | nil =>
      intro r1 _
      cases eds with
      | nil => exact .nil
      | cons e es => have := r1.length; simp at this
    | @cons t q ts' qs h hr ih =>
      intro r1 r2
      cases eds with
      | nil => have := r1.length; simp at this
      | cons e es =>
        obtain ⟨v1, w1, e1, x1, y1⟩ := reps_cons.mp r1
        obtain ⟨v2, w2, e2, x2, y2⟩ := reps_cons.mp r2
        simp only [List.map_cons, List.cons.injEq] at e1 e2
        obtain ⟨rfl, rfl⟩ := e1
        obtain ⟨rfl, rfl⟩ := e2
        refine .cons ?_ (ih (fun t ht => hs t (List.mem_cons_of_mem _ ht)) y1 y2)
        unfold Rep
        refine ⟨t, [q.1, q.2], rfl, ?_, .cons (x1.same g1) (.cons (x2.same g1) .nil)⟩
        show (if t ∈ ts then H' t else G t) = _
        rw [if_pos (hs t List.mem_cons_self)]
        exact h
  refine k (.ref p) G2 H' ⟨g1, hk, fun a z => ?_, g2⟩ ⟨[p], ⟨p, [], rfl, rfl, ts.map V.ref, h1, Owns.of_reps (rep (fun _ h => h) h2 r1 r2)⟩, by simp, fun a ha => ?_⟩
  · by_cases y : a ∈ ts
    · exact .inr (ht a y)
    · have z' : (if a ∈ ts then H' a else G a) ≠ none := z
      rw [if_neg y] at z'
      exact .inl z'
  · have ea : a = p := by simpa using ha
    subst ea
    refine ⟨?_, fun z => ?_, .inr hp⟩
    · show (if a ∈ ts then H' a else G a) = none
      rw [if_neg hn]; exact s.free hp
    · obtain ⟨o, ho⟩ := th a z
      rw [hp] at ho; cases ho
/-! ### list(d.items()) -/
def rItemsR : V → Hp → VK → Prop := fun x H Q => ∃ (d : Addr) (kvs : List (Key × V)), x = .ref d ∧ Rd H d (.dK kvs) ∧
  ∀ (H' : Hp) (p : Addr) (ts : List Addr), (∀ b o, H b = some o → H' b = some o) → H p = none → (∀ t ∈ ts, H t = none) → p ∉ ts → H' p = some (.lst (ts.map V.ref)) → Paired (fun (t : Addr) (q : Key × V) => H' t = some (.tup [kV q.1, q.2])) ts kvs → Q (.ref p) H'
def tListItemsR (te : TE) : TE := fun σ H Q => te σ H fun x H1 => rItemsR x H1 Q
theorem pe_listItemsR {X : Cx} {e : Expr} {te : TE} {p apos cpos pos : Pos} (hc : X.calm = true) (he : PE X e te) (hg : Gl X "list") (hm : X.mg "list" = none) (hbase : attributeBase e "items" X.env (eval e X.env) = eval e X.env := by rfl) (hline : (apos.endLine == cpos.line) = true := by rfl)
    (hs : starEach [.Call (.Attribute e "items" apos) [] [] cpos] X.env = (false, eval (.Call (.Attribute e "items" apos) [] [] cpos) X.env) :: starEach [] X.env := by rfl) :
    PE X (.Call (.Name "list" p) [.Call (.Attribute e "items" apos) [] [] cpos] [] pos) (tListItemsR te) := by
  refine ⟨fun pins s σ H Q I hq => ?_⟩
  refine wpAny_Call_Name_kw (ld_blt I hg hm PyProof.Rows.boot_list ?_)
  refine PyProof.Rows.callWith_type1 ?_ hs rfl
  rw [hs]
  show wpAny _ _ (spliced ((false, eval (.Call (.Attribute e "items" apos) [] [] cpos) X.env) :: backTo pos (starEach [] X.env))) _ _ s
  refine Calls.spliced_cons ?_
  refine wpAny_Call_method (T := "dict") (id := "dict.items") hbase rfl hline F.plainAttrs_dict F.slot_dict_items F.type_dict_items (thn (he.run pins s σ H _ I hq) fun u s1 ⟨x, H1, I1, rx, d, kvs, ex, hd, q⟩ => ?_)
  subst ex
  obtain rfl : u = Value.ref d := rx
  obtain ⟨hz, hs0, vs, kv, hdo⟩ := dk_rd I1.hok hd
  obtain ⟨ep, hat⟩ := hdo.dictAt
  have lk : kvs.length = vs.length := Paired.length kv
  have I2 : Inv X pins σ H1 { s1 with heap := s1.heap.push { cls := .type "dict_items", data := .fields #[.ref d] } } := I1.kept (t' := s1.toks) fun b ob q => Heap.get?_push_of_some _ q
  refine ⟨hdo.typeIs, hdo.mapOf.noDict, ?_⟩
  show wpAny _ _ (callWith cpos (.builtin "dict.items") [.ref d] [] []) _ X.xe s1
  refine method_meetsIn F.slot_dict_items F.entry_dict_items rfl (PySem.evalArgs_none ⟨rfl, hdo.typeIs, F.args_dict_items_1 _, _, meets_dict_items (mixKind X.prog X.w) d hs0, ⟨vs, hdo⟩, ?_⟩)
  refine Calls.spliced_nil ?_
  refine PySem.W.kdx_call (knd := mixKind X.prog X.w) (kvs := vs) (ep := ep) (I1.ok.hd hc) ⟨_, Heap.get?_push_size _ rfl, rfl, rfl⟩ (hat.push _) (by omega) fun h' tk acc c as hk hS hl hG hacc => ?_
  obtain ⟨H', k1, k2, k3, k4, k5, k6, J⟩ := LiI.items_laid (tk := tk) I2 hz kv hk hS hl hG hacc
  exact ⟨.ref _, H', J, rfl, q H' _ as k1 k2 k3 k4 k5 k6⟩
def itemsD : D → Option D
  | .dK ks ds => some (.lst ((ks.zip ds).map fun e => .tup [kD e.1, e.2]))
  | _ => none
theorem paired_kv {H' : Hp} : ∀ {ts : List Addr} {kvs : List (Key × V)}, Paired (fun (t : Addr) (q : Key × V) => H' t = some (.tup [kV q.1, q.2])) ts kvs → Paired (fun (t : Addr) (q : V × V) => H' t = some (.tup [q.1, q.2])) ts (kvs.map fun q => (kV q.1, q.2))
  | _, _, .nil => .nil
  | _, _, .cons h t => .cons h (paired_kv t)
theorem sem_items {fa : FE} {ta : TE} (ha : SemE K ms p m fa ta) (hm : itM m = true) : SemE K ms p (.ow 1) (un1 fa itemsD) (tListItemsR ta) := by
  intro env σ fps G H d env' Q S e k
  obtain ⟨x, ex, ed⟩ := un1_some e
  refine ha env σ fps G H x env' _ S ex fun v f1 G1 H1 t1 p1 S1 r1 => ?_
  have hma : ∀ n, m ≠ .ow n ∨ True := fun _ => .inr trivial
  have r1' : RA K m x v G1 H1 := rr_ra r1 (fun n z => by subst z; cases hm)
  cases x with
  | dK ks ds =>
    cases ed
    obtain ⟨a, vs, rfl, hd, hl, rr⟩ := r1'.dK S1.sub hm
    refine ⟨a, _, rfl, hd, fun H' q ts h1 h2 h3 h4 h5 h6 => ?_⟩
    have kr : KR K G1 (ks.zip ds) (ks.zip vs) := KR.of hl rr
    have := new_pairs (K := K) (Q := Q) (F := f1.flatten) (eds := (ks.zip ds).map fun e => (kD e.1, e.2)) S1.sub S1.there h1 h2 h3 h4 h5 (paired_kv h6) (by
      rw [List.map_map, List.map_map]
      show Reps K G1 ((ks.zip ds).map (kD ∘ Prod.fst)) ((ks.zip vs).map (kV ∘ Prod.fst))
      rw [← List.map_map, ← List.map_map, kr.1]
      exact kDs_rep _) (by
      rw [List.map_map, List.map_map]
      exact kr.2) fun v G' H' al r => k v f1 G' H' (t1.trans (al.tr _)) (fun hp => (p1 hp).trans al.hs) (al.sat S1) ?_
    · exact this
    · rw [List.map_map] at r
      exact (r.new _).old t1
  | _ => cases ed
/-! ### list(zip(a, b)) -/
def lzipD : D → D → Option D
  | .lst a, .lst b => some (.lst ((a.zip b).map fun e => .tup [e.1, e.2]))
  | _, _ => none
theorem zip_reps {ds es : List D} {xs ys : List V} (h1 : Reps K G ds xs) (h2 : Reps K G es ys) : Reps K G ((ds.zip es).map (·.1)) ((xs.zip ys).map (·.1)) ∧ Reps K G ((ds.zip es).map (·.2)) ((xs.zip ys).map (·.2)) := by
  induction ds generalizing es xs ys with
  | nil => rw [reps_nil.mp h1]; exact ⟨by simpa using Reps.nil, by simpa using Reps.nil⟩
  | cons d ds ih =>
    obtain ⟨v, r, rfl, a1, a2⟩ := reps_cons.mp h1
    cases es with
    | nil => rw [reps_nil.mp h2]; exact ⟨by simpa using Reps.nil, by simpa using Reps.nil⟩
    | cons e es =>
      obtain ⟨u, q, rfl, b1, b2⟩ := reps_cons.mp h2
      obtain ⟨i1, i2⟩ := ih a2 b2
      exact ⟨.cons a1 i1, .cons b1 i2⟩
theorem c_lzip (h1 : itM ma = true) (h2 : itM mb = true) : C2 K ma mb (.ow 1) lzipD (DZ.rListZip K) := by
  intro F G H d e v u d' Q s th rx ry eq k
  cases d with
  | lst a =>
    cases e with
    | lst b =>
      cases eq
      obtain ⟨l1, xs, rfl, e1, r1⟩ := rx.lst s h1
      obtain ⟨l2, ys, rfl, e2, r2⟩ := ry.lst s h2
      obtain ⟨z1, z2⟩ := zip_reps r1 r2
      exact ⟨l1, l2, xs, ys, rfl, SqL.of e1, SqL.of e2, fun H' p ts q1 q2 q3 q4 q5 q6 => new_pairs s th q1 q2 q3 q4 q5 q6 z1 z2 k⟩
    | _ => cases eq
  | _ => cases eq
/-! ### a display of a table -/
def TPairs (K : PySem.W.Frag) (ms : List M) (trs : List (TE × TE)) (f : FA) : Prop :=
  ∀ env σ fps G H ds env' (Q : List (V × V) → Hp → Prop) (D : Addr) (o : HO), Sat K ms env σ fps G H → D ∉ fps.flatten → H D = some o → G D = none → f env = some (ds, env') →
    (∀ ps fps' G' H', Tr fps.flatten G H fps'.flatten G' H' → Sat K ms env' σ fps' G' H' → D ∉ fps'.flatten → H' D = some o → G' D = none → Reps K G' ds (ps.flatMap fun q => [q.1, q.2]) → Q ps H') → tPairs trs σ H Q
theorem tr_D {F F' : List Addr} {G G' H H' : Hp} {D : Addr} {o : HO} (t : Tr F G H F' G' H') (hD : D ∉ F) (hH : H D = some o) (hG : G D = none) : D ∉ F' ∧ H' D = some o ∧ G' D = none := by
  refine ⟨fun z => (t.fp D z).elim hD fun y => (by rw [hH] at y; cases y), t.fr _ _ hH hD, ?_⟩
  cases e : G' D with
  | none => rfl
  | some u => rcases t.gn D (by rw [e]; exact fun z => (nomatch z)) with y | y | y
              · exact absurd hG y
              · rw [hH] at y; cases y
              · exact absurd y hD
theorem tp_nil : TPairs K ms [] nilF := by
  intro env σ fps G H ds env' Q D o S hD hH hG e k
  cases e
  exact k [] fps G H (Tr.refl _ _ _) S hD hH hG .nil
theorem tp_cons {trs : List (TE × TE)} {fk fv : FE} {fs : FA} {tk tv : TE} (hk : SemE K ms pa .sh fk tk) (hv : SemE K ms pb .sh fv tv) (hs : TPairs K ms trs fs) : TPairs K ms ((tk, tv) :: trs) (consF fk (consF fv fs)) := by
  intro env σ fps G H ds env' Q D o S hD hH hG e k
  obtain ⟨x, e1, r, q1, q2, rfl⟩ := consF_some e
  obtain ⟨y, e2, r2, q3, q4, rfl⟩ := consF_some q2
  refine hk env σ fps G H x e1 _ S q1 fun v f1 G1 H1 t1 p1 S1 r1 => hv e1 σ f1 G1 H1 y e2 _ S1 q3 fun u f2 G2 H2 t2 p2 S2 r2 => ?_
  obtain ⟨a1, a2, a3⟩ := tr_D (t1.trans t2) hD hH hG
  refine hs e2 σ f2 G2 H2 _ env' _ D o S2 a1 a2 a3 q4 fun ps f3 G3 H3 t3 S3 b1 b2 b3 rr => ?_
  refine k ((v, u) :: ps) f3 G3 H3 ((t1.trans t2).trans t3) S3 b1 b2 b3 ?_
  rw [List.flatMap_cons]
  exact .cons (Rep.same (show Rep K G1 x v from r1) (t2.gs.trans t3.gs)) (.cons (Rep.same (show Rep K G2 y u from r2) t3.gs) rr)
def pairUp : List D → Option (List (Key × D))
  | [] => some []
  | a :: d :: r => (keyD a).bind fun k => (pairUp r).map fun l => (k, d) :: l
  | _ => none
theorem pairUp_v : ∀ {ds : List D} {kds : List (Key × D)} {ps : List (V × V)}, pairUp ds = some kds → Reps K G ds (ps.flatMap fun q => [q.1, q.2]) → ∃ kvs : List (Key × V), ps = kvs.map (fun kv => (kV kv.1, kv.2)) ∧ KR K G kds kvs
  | [], kds, ps, e, h => by
    cases e
    cases ps with
    | nil => exact ⟨[], rfl, .nil⟩
    | cons q ps => have := reps_nil.mp h; simp at this
  | [_], kds, ps, e, h => by cases e
  | a :: d :: r, kds, ps, e, h => by
    cases ps with
    | nil => have := h.length; simp at this
    | cons q ps =>
      rw [List.flatMap_cons] at h
      obtain ⟨v, w, e1, h1, h2⟩ := reps_cons.mp h
      obtain ⟨u, w2, e2, h3, h4⟩ := reps_cons.mp h2
      simp only [List.cons_append, List.cons.injEq, List.nil_append] at e1 
      obtain ⟨rfl, rfl⟩ := e1
      simp only [List.cons.injEq] at e2
      obtain ⟨rfl, rfl⟩ := e2
      have e' : ((keyD a).bind fun k => (pairUp r).map fun l => (k, d) :: l) = some kds := e
      cases z : keyD a with
      | none => rw [z] at e'; cases e'
      | some key =>
        rw [z, Option.bind_some] at e'
        cases z2 : pairUp r with
        | none => rw [z2] at e'; cases e'
        | some l =>
          rw [z2] at e'
          cases e'
          obtain ⟨kvs, rfl, kr⟩ := pairUp_v z2 h4
          refine ⟨(key, q.2) :: kvs, ?_, .cons h3 kr⟩
          rw [List.map_cons, ← keyD_v z h1]
def dispF (fs : FA) : FE := fun env => (fs env).bind fun q => if q.1.length ≤ 30 then (pairUp q.1).map fun kds => (.dK ((mergeG [] kds).map (·.1)) ((mergeG [] kds).map (·.2)), q.2) else none
theorem pairUp_len : ∀ {ds : List D} {kds : List (Key × D)}, pairUp ds = some kds → ds.length = 2 * kds.length
  | [], kds, e => by cases e; rfl
  | [_], kds, e => by cases e
  | a :: d :: r, kds, e => by
    have e' : ((keyD a).bind fun k => (pairUp r).map fun l => (k, d) :: l) = some kds := e
    cases z : keyD a with
    | none => rw [z] at e'; cases e'
    | some key =>
      rw [z, Option.bind_some] at e'
      cases z2 : pairUp r with
      | none => rw [z2] at e'; cases e'
      | some l => rw [z2] at e'; cases e'; simp only [List.length_cons, pairUp_len z2]; omega
theorem sem_disp {trs : List (TE × TE)} {fs : FA} (h : TPairs K ms trs fs) : SemE K ms false (.ow 1) (dispF fs) (tDisp trs) := by
  intro env σ fps G H d env' Q S e k
  intro q hq
  unfold dispF at e
  cases z : fs env with
  | none => rw [z] at e; cases e
  | some r =>
    obtain ⟨ds, e1⟩ := r
    rw [z, Option.bind_some] at e
    simp only at e
    split at e
    · rename_i hz
      cases z2 : pairUp ds with
      | none => rw [z2] at e; cases e
      | some kds =>
        rw [z2] at e
        cases e
        have nq : q ∉ fps.flatten := fun y => by
          obtain ⟨o, ho⟩ := S.there q y
          rw [hq] at ho; cases ho
        refine h env σ fps G _ ds _ _ q (.dK []) (S.allocO hq) nq upd_same (S.sub.free hq) z fun ps f1 G1 H1 t1 S1 b1 b2 b3 rr => ⟨b2, ?_⟩
        obtain ⟨kvs, rfl, kr⟩ := pairUp_v z2 rr
        have hl := pairUp_len z2
        refine ⟨kvs, rfl, by rw [kr.len]; omega, ?_⟩
        have kr2 := kr.merge (K := K) (H := G1) .nil
        have t0 : Tr fps.flatten G H f1.flatten G1 H1 := (Tr.allocO hq).trans t1
        have hne : H1 q ≠ none := by rw [b2]; exact fun y => (nomatch y)
        have s2 : Same G1 (upd H1 q (.dK (mergeK [] kvs))) := fun a o y => by
          rw [upd_ne (fun x => by rw [x, b3] at y; cases y)]
          exact S1.sub a o y
        have t2 : Tr fps.flatten G H f1.flatten G1 (upd H1 q (.dK (mergeK [] kvs))) := ⟨t0.gs, t0.gn, t0.fp, fun a o y x => by
          rw [upd_ne (fun w => by rw [w, hq] at y; cases y)]
          exact t0.fr a o y x, fun a y => upd_some (t0.th a y)⟩
        refine k (.ref q) f1 G1 _ t2 (fun y => (nomatch y)) (S1.keep (Same.refl _) s2 S1.out fun a ha o y => ?_) ⟨[q], own_dK1' kr2, by simp, fun a ha => ?_⟩
        · rw [upd_ne (fun x => b1 (by rw [← x]; exact ha))]; exact y
        · have ea : a = q := by simpa using ha
          subst ea
          exact ⟨b3, b1, .inr hq⟩
    · cases e
end
end DL
namespace DL
open PySem PySem.Spec PyProof.Rows L2

section
variable {K : PySem.W.Frag} {G H : Hp} {m ma mb : M} {F : List Addr}
/-! ### in, of data of any depth -/
def deepIn (x y : D) : Option Bool := match y with
  | .lst ds => (toPy x).bind fun a => (toPys ds).bind fun bs => if (SeqAt.shaped a && SeqAt.shaped (.list bs)) = true then some (bs.any fun z => PyData.eqv z a) else none
  | _ => none
def inAD (x y : D) : Option D := match inD x y with
  | some b => some (.bl b)
  | none => (deepIn x y).map .bl
def notInAD (x y : D) : Option D := match inD x y with
  | some b => some (.bl (!b))
  | none => (deepIn x y).map fun b => .bl (!b)
def rNotInB (K : PySem.W.Frag) : R2 := fun x y H Q => rNotInA K x y H Q ∨ rNotInD K x y H Q
theorem op_notInB {X : Cx} (hu : X.A.units + 65 < cLine) : OpR X (compareOp .NotIn) (rNotInB X.K) := (op_notInA hu).or (op_notInD hu)
theorem deep_v {dx dy : D} {x y : V} {r : Bool} (rx : Rep K H dx x) (ry : Rep K H dy y) (e : deepIn dx dy = some r) : ∃ d ds, Dp K H x d ∧ Dp K H y (.list ds) ∧ SeqAt.shaped d = true ∧ SeqAt.shaped (.list ds) = true ∧ (ds.any fun z => PyData.eqv z d) = r := by
  unfold deepIn at e
  split at e
  · rename_i ds
    cases q : toPy dx with
    | none => rw [q] at e; cases e
    | some a =>
      rw [q, Option.bind_some] at e
      cases q2 : toPys ds with
      | none => rw [q2] at e; cases e
      | some bs =>
        rw [q2, Option.bind_some] at e
        split at e
        · rename_i c
          cases e
          rw [Bool.and_eq_true] at c
          exact ⟨a, bs, toPy_dp dx x a q rx, toPy_dp (.lst ds) y (.list bs) (by rw [toPy, q2]; rfl) ry, c.1, c.2, rfl⟩
        · cases e
  · cases e
theorem s_inA : R2S K ma mb .sh inAD (rInA K) := by
  intro F G H dx dy x y d Q s th rx ry e k
  unfold inAD at e
  split at e
  · rename_i b hb
    exact s_in F G H dx dy x y d Q s th rx ry (by unfold inD1; rw [hb]; exact e) k
  · cases q : deepIn dx dy with
    | none => rw [q] at e; cases e
    | some r =>
      rw [q] at e
      cases e
      obtain ⟨a, bs, h1, h2, h3, h4, h5⟩ := deep_v (rx.rep s) (ry.rep s) q
      exact .inr (.inl ⟨a, bs, h1, h2, h3, h4, by rw [h5]; exact k (.bl r) G H (Al.refl s) (show Rep K G (.bl r) (.bl r) from rep_bl)⟩)
theorem s_notInA : R2S K ma mb .sh notInAD (rNotInB K) := by
  intro F G H dx dy x y d Q s th rx ry e k
  unfold notInAD at e
  split at e
  · rename_i b hb
    exact .inl (s_notIn F G H dx dy x y d Q s th rx ry (by unfold notInD1; rw [hb]; exact e) k)
  · cases q : deepIn dx dy with
    | none => rw [q] at e; cases e
    | some r =>
      rw [q] at e
      cases e
      obtain ⟨a, bs, h1, h2, h3, h4, h5⟩ := deep_v (rx.rep s) (ry.rep s) q
      exact .inr ⟨a, bs, h1, h2, h3, h4, by rw [h5]; exact k (.bl (!r)) G H (Al.refl s) (show Rep K G (.bl (!r)) (.bl (!r)) from rep_bl)⟩
/-! ### * : numbers, a list times a number -/
def mulOk (i j : Int) : Bool := Nat.ble (Builtin.Int.intBits i + Builtin.Int.intBits j) 134217728
def fdivOk (_ j : Int) : Bool := decide (0 < j) && decide (j.natAbs.log2 < 9000)
def modOk (_ j : Int) : Bool := decide (0 < j)
/-! ### list + list, owned -/
def addLD : D → D → Option D
  | .lst a, .lst b => if a.length + b.length ≤ 16777216 then some (.lst (a ++ b)) else none
  | _, _ => none
theorem s_addL (hm : itM ma = true) (hm2 : itM mb = true) : R2S K ma mb (.ow 1) addLD (rAddA K) := by
  intro F G H dx dy x y d Q s th rx ry e k
  cases dx with
  | lst a =>
    cases dy with
    | lst b =>
      have e' : (if a.length + b.length ≤ 16777216 then some (D.lst (a ++ b)) else none) = some d := e
      split at e'
      · rename_i hz
        cases e'
        obtain ⟨l, vs, rfl, hl, rr⟩ := rx.lst s hm
        obtain ⟨l2, us, rfl, hl2, rr2⟩ := ry.lst s hm2
        exact .inr (.inr (.inl ⟨l, l2, vs, us, rfl, rfl, hl, hl2, by rw [rr.length, rr2.length, sizeLine_eq]; exact hz, fun p hp => new_list s th hp (rr.append rr2) k⟩))
      · cases e'
    | _ => cases e
  | _ => cases e
end

section
variable {P : Program} {w : World} {K : PySem.W.Frag} {mg : Str → Option Value} {base : Heap} {N : List Str} {sc : Scope} {lv : Nat} {oc : Option (List Str)} {F : Fm P w K mg base N sc lv oc}
variable {ms ms1 ms2 ms' msL msB rms pms : List M} {rm m ma mb mc : M} {p pa pb pc pi pt pe pk : Bool} {e a b c tg iter elt kx : Expr} {es rest ifs : List Expr} {fa fb fc f fe fk fx : FE} {fs fi : FA} {ga gb g gt : FT} {s1 s2 gs : FS} {pos pos' p1 p2 apos : Pos} {st : Stmt} {sts : List Stmt} {mds : List M} {x : Str} {bb : FG}
theorem Fm.hu64 (F : Fm P w K mg base N sc lv oc) (i : F.ι) : (F.X i).A.units + 65 < cLine := by
  have := (F.room i).un
  omega
theorem noOw_it (h : itM m = true) : noOw m = true := by
  cases m with
  | ow n => cases h
  | _ => rfl
/-! arithmetic -/
theorem ev_add (ha : EV F ms pa a ma fa) (hb : EV F ms pb b mb fb) (hm : itM ma = true := by rfl) (hm2 : itM mb = true := by rfl) (ho : (pb || ma == .sh) = true := by rfl) : EV F ms (pa && pb) (.BinOp a .Add b pos) .sh (bin2 fa fb addD) :=
  ev_op (fun i => by have := op_addA (X := F.X i); rw [F.hK] at this; exact this) (s_add hm hm2) ha hb ho (noOw_it hm) (noOw_it hm2)
theorem ev_addO (ha : EV F ms pa a ma fa) (hb : EV F ms pb b mb fb) (hm : itM ma = true := by rfl) (hm2 : itM mb = true := by rfl) (ho : (pb || ma == .sh) = true := by rfl) : EV F ms (pa && pb) (.BinOp a .Add b pos) (.ow 1) (bin2 fa fb addLD) :=
  ev_op (fun i => by have := op_addA (X := F.X i); rw [F.hK] at this; exact this) (s_addL hm hm2) ha hb ho (noOw_it hm) (noOw_it hm2)
theorem ev_sub (ha : EV F ms pa a ma fa) (hb : EV F ms pb b mb fb) (ho : (pb || ma == .sh) = true := by rfl) (h1 : noOw ma = true := by rfl) (h2 : noOw mb = true := by rfl) : EV F ms (pa && pb) (.BinOp a .Sub b pos) .sh (bin2 fa fb (intOp0 fun i j => i - j)) :=
  ev_op (fun i => op_sub) s_int0 ha hb ho h1 h2
theorem ev_mul (ha : EV F ms pa a ma fa) (hb : EV F ms pb b mb fb) (ho : (pb || ma == .sh) = true := by rfl) (h1 : noOw ma = true := by rfl) (h2 : noOw mb = true := by rfl) : EV F ms (pa && pb) (.BinOp a .Mult b pos) .sh (bin2 fa fb (intOp mulOk fun i j => i * j)) :=
  ev_op (fun i => op_mulX) (s_int fun i j h => (by
    have := Nat.le_of_ble_eq_true h
    show (Builtin.Int.intBits i : Int) + (Builtin.Int.intBits j : Int) ≤ 134217728
    omega)) ha hb ho h1 h2
theorem ev_fdiv (ha : EV F ms pa a ma fa) (hb : EV F ms pb b mb fb) (ho : (pb || ma == .sh) = true := by rfl) (h1 : noOw ma = true := by rfl) (h2 : noOw mb = true := by rfl) : EV F ms (pa && pb) (.BinOp a .FloorDiv b pos) .sh (bin2 fa fb (intOp fdivOk fun i j => i / j)) :=
  ev_op (fun i => op_fdivW) (s_int fun i j h => by
    unfold fdivOk at h
    rw [Bool.and_eq_true, decide_eq_true_eq, decide_eq_true_eq] at h
    exact h) ha hb ho h1 h2
theorem ev_mod (ha : EV F ms pa a ma fa) (hb : EV F ms pb b mb fb) (ho : (pb || ma == .sh) = true := by rfl) (h1 : noOw ma = true := by rfl) (h2 : noOw mb = true := by rfl) : EV F ms (pa && pb) (.BinOp a .Mod b pos) .sh (bin2 fa fb (intOp modOk fun i j => i % j)) :=
  ev_op (fun i => op_mod) (s_int fun i j h => of_decide_eq_true h) ha hb ho h1 h2
theorem ev_pow (ha : EV F ms pa a ma fa) (hb : EV F ms pb b mb fb) (ho : (pb || ma == .sh) = true := by rfl) (h1 : noOw ma = true := by rfl) (h2 : noOw mb = true := by rfl) : EV F ms (pa && pb) (.BinOp a .Pow b pos) .sh (bin2 fa fb (intOp powOk fun i j => i ^ j.toNat)) :=
  ev_op (fun i => op_powW) (s_int fun i j h => by
    unfold powOk at h
    rw [Bool.and_eq_true, decide_eq_true_eq, decide_eq_true_eq] at h
    exact h) ha hb ho h1 h2
theorem ev_neg (ha : EV F ms p a m fa) (h1 : noOw m = true := by rfl) : EV F ms p (.UnaryOp .USub a pos) .sh (un1 fa negD) := by
  obtain ⟨t, a1, a2⟩ := ha
  refine ⟨_, fun i => pe_un un_neg (a1 i), ?_⟩
  intro env σ fps G H d env' Q S e k
  obtain ⟨x, ex, ed⟩ := un1_some e
  refine a2 env σ fps G H x env' _ S ex fun v f1 G1 H1 t1 p1 S1 r1 => ?_
  cases x with
  | int i =>
    cases ed
    exact ⟨i, (rr_ra r1 (noOw_ne h1)).int S1.sub, k _ f1 G1 H1 t1 p1 S1 (show Rep K G1 (.int _) (.int _) from rep_int)⟩
  | _ => cases ed
/-! comparisons -/
def ltI (i j : Int) : Bool := decide (i < j)
def leI (i j : Int) : Bool := decide (i ≤ j)
def leS (i j : List Nat) : Bool := !decide (j < i)
def gtI (i j : Int) : Bool := decide (j < i)
def gtS (i j : List Nat) : Bool := decide (j < i)
def geI (i j : Int) : Bool := decide (j ≤ i)
def geS (i j : List Nat) : Bool := !decide (i < j)
/-- which comparison, its relation, its function -/
structure Cmp (F : Fm P w K mg base N sc lv oc) (op : CmpOp) (r : R2) (gd : D → D → Option D) (ma mb : M) : Prop where
  o : ∀ i, OpR (F.X i) (compareOp op) r
  s : R2S K ma mb .sh gd r
theorem k_eq : Cmp F .Eq (rEqA K) eqD ma mb := ⟨fun i => by have := op_eqA (X := F.X i) (by have := F.hu64 i; omega); rw [F.hK] at this; exact this, s_eq⟩
theorem k_ne : Cmp F .NotEq (rNeA K) neD ma mb := ⟨fun i => by have := op_neA (X := F.X i) (by have := F.hu64 i; omega); rw [F.hK] at this; exact this, s_ne⟩
theorem k_lt : Cmp F .Lt (rLtA K) ltD ma mb := ⟨fun i => by have := op_ltA (X := F.X i) (by have := F.hu64 i; omega); rw [F.hK] at this; exact this, s_lt⟩
theorem k_le : Cmp F .LtE (fun x y H Q => (∃ i j, x = .int i ∧ y = .int j ∧ Q (.bl (leI i j)) H) ∨ ∃ i j : Str, x = .str i ∧ y = .str j ∧ Q (.bl (leS i.cps.toList j.cps.toList)) H) (cmpD leI leS) ma mb := ⟨fun i => op_le.or op_le_str, s_cmp⟩
theorem k_gt : Cmp F .Gt (fun x y H Q => (∃ i j, x = .int i ∧ y = .int j ∧ Q (.bl (gtI i j)) H) ∨ ∃ i j : Str, x = .str i ∧ y = .str j ∧ Q (.bl (gtS i.cps.toList j.cps.toList)) H) (cmpD gtI gtS) ma mb := ⟨fun i => op_gt.or op_gt_str, s_cmp⟩
theorem k_ge : Cmp F .GtE (fun x y H Q => (∃ i j, x = .int i ∧ y = .int j ∧ Q (.bl (geI i j)) H) ∨ ∃ i j : Str, x = .str i ∧ y = .str j ∧ Q (.bl (geS i.cps.toList j.cps.toList)) H) (cmpD geI geS) ma mb := ⟨fun i => op_ge.or op_ge_str, s_cmp⟩
theorem k_in : Cmp F .In (rInA K) inAD ma mb := ⟨fun i => by have := op_inA (X := F.X i) (F.hu64 i); rw [F.hK] at this; exact this, s_inA⟩
theorem k_notIn : Cmp F .NotIn (rNotInB K) notInAD ma mb := ⟨fun i => by have := op_notInB (X := F.X i) (F.hu64 i); rw [F.hK] at this; exact this, s_notInA⟩
theorem k_is : Cmp F .Is rIsA isNoneD ma mb := ⟨fun _ => op_isA, s_is⟩
theorem k_isnot : Cmp F .IsNot rNotA isNotD ma mb := ⟨fun _ => op_notA, s_isnot⟩
theorem ev_cmpK {op : CmpOp} {r : R2} {gd : D → D → Option D} (C : Cmp F op r gd ma mb) (ha : EV F ms pa a ma fa) (hb : EV F ms pb b mb fb) (hk : behindInMarks op b = false := by rfl) (hm : (pb || ma == .sh) = true := by rfl)
    (h1 : noOw ma = true := by rfl) (h2 : noOw mb = true := by rfl) : EV F ms (pa && pb) (.Compare a [op] [b] pos) .sh (bin2 fa fb gd) := ev_cmp C.o C.s hk ha hb hm h1 h2
theorem tv_cmpK {op : CmpOp} {r : R2} {gd : D → D → Option D} (C : Cmp F op r gd ma mb) (ha : EV F ms pa a ma fa) (hb : EV F ms pb b mb fb) (hk : behindInMarks op b = false := by rfl) (hm : (pb || ma == .sh) = true := by rfl)
    (h1 : noOw ma = true := by rfl) (h2 : noOw mb = true := by rfl) : TV F ms (pa && pb) (.Compare a [op] [b] pos) (tstF (bin2 fa fb gd)) := tv_cmp C.o C.s hk ha hb hm h1 h2
theorem ev_chainK {op op' : CmpOp} {r r' : R2} {gd gd' : D → D → Option D} (C : Cmp F op r gd .sh .sh) (C' : Cmp F op' r' gd' .sh .sh) (ha : EV F ms pa a .sh fa) (hb : EV F ms pb b .sh fb) (hc : EV F ms pc c .sh fc) (hm : lastMarks [op, op'] [b, c] = false := by with_unfolding_all rfl) :
    EV F ms (pa && (pb && pc)) (.Compare a [op, op'] [b, c] pos) .sh (chainF fa fb fc gd gd') := ev_chain C.o C'.o C.s C'.s ha hb hc hm
theorem tv_chainK {op op' : CmpOp} {r r' : R2} {gd gd' : D → D → Option D} (C : Cmp F op r gd .sh .sh) (C' : Cmp F op' r' gd' .sh .sh) (ha : EV F ms pa a .sh fa) (hb : EV F ms pb b .sh fb) (hc : EV F ms pc c .sh fc) (hm : lastMarks [op, op'] [b, c] = false := by with_unfolding_all rfl) :
    TV F ms (pa && (pb && pc)) (.Compare a [op, op'] [b, c] pos) (tstF (chainF fa fb fc gd gd')) := tv_chain C.o C'.o C.s C'.s ha hb hc hm
/-! built-ins -/
/-- a built-in: where it stands, its rule, its function -/
structure Blt (F : Fm P w K mg base N sc lv oc) (x : Str) (mds : List M) (m : M) (gd : List D → Option D) : Prop where
  ok : ∃ r, CallS K mds m gd r ∧ mg x = none ∧ ((∃ id : String, bootBuiltins x = some (.builtin id) ∧ ∀ i, CallR (F.X i) (.builtin id) r) ∨ ∃ T : String, bootBuiltins x = some (.type T) ∧ ∀ i, CallR (F.X i) (.type T) r)
theorem ev_blt {gd : List D → Option D} (B : Blt F x mds m gd) (ha : AV F ms p (e :: es) mds fs)
    (hg : GlS sc x := by intro env h; unfold Env.kindOf; rw [h]; rfl) (hn : x ≠ "__name__" := by decide) (hdb : (x == ("__debug__" : Str)) = false := by decide)
    (he : ∀ i, starEach (e :: es) (F.X i).env = (false, eval e (F.X i).env) :: starEach es (F.X i).env := by intro _; rfl) (hpl : ∀ i, (backTo pos (starEach es (F.X i).env)).any (·.1) = false := by intro _; rfl) :
    EV F ms p (.Call (.Name x p1) (e :: es) [] pos) m (callF fs gd) := by
  obtain ⟨r, sp, hm, h | h⟩ := B.ok
  · obtain ⟨id, hv, hc⟩ := h
    exact ev_callB hc sp hm hv ha hg hn hdb he hpl
  · obtain ⟨T, hv, hc⟩ := h
    exact ev_callTy hc sp hm hv ha hg hn hdb he hpl
theorem b_len (hm : mg "len" = none) : Blt F "len" [m] .sh (one lenD) := ⟨_, c_len.s, hm, .inl ⟨_, PyProof.Rows.bootS_len, fun i => by have := call_lenA (X := F.X i); rw [F.hK] at this; exact this⟩⟩
theorem b_int (hm : mg "int" = none) : Blt F "int" [m] .sh (one intD) := ⟨_, c_int.s, hm, .inr ⟨_, PyProof.Rows.boot_int, fun _ => call_int1⟩⟩
theorem b_sum (hm : mg "sum" = none) : Blt F "sum" [m] .sh (one sumD) := ⟨_, c_sum.s, hm, .inl ⟨_, PyProof.Rows.boot_sum, fun i => by have := cr_sum (X := F.X i) (F.calm i); rw [F.hK] at this; exact this⟩⟩
theorem b_max (hm : mg "max" = none) : Blt F "max" [m] .sh (one maxD1) := ⟨_, c_max1.s, hm, .inl ⟨_, PyProof.Rows.boot_max, fun i => by have := cr_max (X := F.X i) (F.calm i); rw [F.hK] at this; exact this⟩⟩
theorem b_min (hm : mg "min" = none) : Blt F "min" [m] .sh (one minD1) := ⟨_, c_min1.s, hm, .inl ⟨_, PyProof.Rows.boot_min, fun i => by have := cr_min (X := F.X i) (F.calm i); rw [F.hK] at this; exact this⟩⟩
theorem b_max2 (hm : mg "max" = none) : Blt F "max" [ma, mb] .sh (two maxD2) := ⟨_, c_max2.s, hm, .inl ⟨_, PyProof.Rows.boot_max, fun i => call_max2 (F.calm i)⟩⟩
theorem b_min2 (hm : mg "min" = none) : Blt F "min" [ma, mb] .sh (two minD2) := ⟨_, c_min2.s, hm, .inl ⟨_, PyProof.Rows.boot_min, fun i => call_min2 (F.calm i)⟩⟩
theorem b_all (hm : mg "all" = none) : Blt F "all" [m] .sh (one allD) := ⟨_, c_all.s, hm, .inl ⟨_, PyProof.Rows.boot_all, fun i => by have := cr_all (X := F.X i) (F.calm i); rw [F.hK] at this; exact this⟩⟩
theorem b_any (hm : mg "any" = none) : Blt F "any" [m] .sh (one anyD) := ⟨_, c_any.s, hm, .inl ⟨_, PyProof.Rows.boot_any, fun i => by have := cr_any (X := F.X i) (F.calm i); rw [F.hK] at this; exact this⟩⟩
theorem b_list (hm : mg "list" = none) (h : itM m = true := by rfl) : Blt F "list" [m] (.ow 1) (one listD) := ⟨_, (c_list h).s, hm, .inr ⟨_, PyProof.Rows.boot_list, fun i => by have := call_listA (X := F.X i) (F.calm i); rw [F.hK] at this; exact this⟩⟩
theorem b_tuple (hm : mg "tuple" = none) (h : itM m = true := by rfl) : Blt F "tuple" [m] .sh (one tupleD) := ⟨_, (c_tuple h).s, hm, .inr ⟨_, PyProof.Rows.boot_tuple, fun i => by have := call_tuple_of (X := F.X i); rw [F.hK] at this; exact this⟩⟩
theorem b_dict (hm : mg "dict" = none) (h : itM m = true := by rfl) : Blt F "dict" [m] (.ow 1) (one dictD) := ⟨_, (c_dict h).s, hm, .inr ⟨_, PyProof.Rows.boot_dict, fun i => by have := call_dictA (X := F.X i) (F.calm i); rw [F.hK] at this; exact this⟩⟩
theorem b_sorted (hm : mg "sorted" = none) (h : itM m = true := by rfl) : Blt F "sorted" [m] (.ow 1) (one sortD) := ⟨_, (c_sorted h).s, hm, .inl ⟨_, PyProof.Rows.boot_sorted, fun i => by have := call_sortedData (X := F.X i) (by have := F.hu64 i; omega); rw [F.hK] at this; exact this⟩⟩
theorem b_repr (hm : mg "repr" = none) : Blt F "repr" [m] .sh (one reprD) := ⟨_, c_repr.s, hm, .inl ⟨_, PyProof.Rows.boot_repr, fun i => by have := call_reprD (X := F.X i) (by have := F.hu64 i; omega) (F.gd i); rw [F.hK] at this; exact this⟩⟩
/-! isinstance -/
theorem ev_isi {n : String} {y : Str} (hm : mg "isinstance" = none) (hm2 : mg y = none) (hv : bootBuiltins y = some (.type n)) (hn : kitAll n = true) (ha : EV F ms p e m fa)
    (h1 : noOw m = true := by rfl) (hg : GlS sc "isinstance" := by intro env h; unfold Env.kindOf; rw [h]; rfl) (hg2 : GlS sc y := by intro env h; unfold Env.kindOf; rw [h]; rfl) (hy : y ≠ "__name__" := by decide) (hyd : (y == ("__debug__" : Str)) = false := by decide)
    (he : ∀ i, starEach [e, .Name y p2] (F.X i).env = (false, eval e (F.X i).env) :: starEach [.Name y p2] (F.X i).env := by intro _; rfl) :
    EV F ms p (.Call (.Name "isinstance" p1) [e, .Name y p2] [] pos) .sh (un1 fa (isiD n)) := by
  obtain ⟨t, a1, a2⟩ := ha
  refine ⟨_, fun i => ?_, sem_isi hn a2 (noOw_ne h1)⟩
  have hc := call_isi (X := F.X i)
  rw [F.hK] at hc
  exact pe_callB hc (hg _ (F.hsc i)) (by rw [F.hmg]; exact hm) PyProof.Rows.boot_isinstance (pa_cons (a1 i) (pa_cons (pe_bltn (v := .ty n) (hg2 _ (F.hsc i)) (by rw [F.hmg]; exact hm2) hv rfl hy hyd) pa_nil) (he i)) (by decide) (by decide) (he i)
/-- the names of some types -/
def TyNames (F : Fm P w K mg base N sc lv oc) (es : List Expr) (ns : List String) : Prop := ∀ i, PA (F.X i) es (tTys ns)
theorem tn_nil : TyNames F [] [] := fun _ => pa_nil
theorem tn_cons {n : String} {ns : List String} {y : Str} (hm2 : mg y = none) (hv : bootBuiltins y = some (.type n)) (h : TyNames F es ns) (hg2 : GlS sc y := by intro env h; unfold Env.kindOf; rw [h]; rfl) (hy : y ≠ "__name__" := by decide) (hyd : (y == ("__debug__" : Str)) = false := by decide)
    (he : ∀ i, starEach (.Name y p2 :: es) (F.X i).env = (false, eval (.Name y p2) (F.X i).env) :: starEach es (F.X i).env := by intro _; rfl) : TyNames F (.Name y p2 :: es) (n :: ns) :=
  fun i => pa_cons (pe_bltn (v := .ty n) (hg2 _ (F.hsc i)) (by rw [F.hmg]; exact hm2) hv rfl hy hyd) (h i) (he i)
theorem ev_isiT {ns : List String} {k2} (hm : mg "isinstance" = none) (hts : TyNames F es ns) (hn : ns.all kitAll = true) (ha : EV F ms p e m fa) (hz : ns.length ≤ sizeLine := by (show _ ≤ sizeLine; decide))
    (h1 : noOw m = true := by rfl) (hg : GlS sc "isinstance" := by intro env h; unfold Env.kindOf; rw [h]; rfl)
    (he : ∀ i, starEach [e, .Tuple es k2 p2] (F.X i).env = (false, eval e (F.X i).env) :: starEach [.Tuple es k2 p2] (F.X i).env := by intro _; rfl) :
    EV F ms p (.Call (.Name "isinstance" p1) [e, .Tuple es k2 p2] [] pos) .sh (un1 fa (isiTD ns)) := by
  obtain ⟨t, a1, a2⟩ := ha
  refine ⟨_, fun i => ?_, sem_isiT hn hz a2 (noOw_ne h1)⟩
  have hc := call_isiT (X := F.X i)
  rw [F.hK] at hc
  exact pe_callB hc (hg _ (F.hsc i)) (by rw [F.hmg]; exact hm) PyProof.Rows.boot_isinstance (pa_cons (a1 i) (pa_cons (pe_tup (hts i)) pa_nil) (he i)) (by decide) (by decide) (he i)
/-! slices -/
def OV (F : Fm P w K mg base N sc lv oc) (ms : List M) (p : Bool) (o : Option Expr) (f : FO) : Prop := ∃ t, (∀ i, PO (F.X i) o t) ∧ SemO K ms p f t
theorem ov_none : OV F ms true none nopF := ⟨_, fun _ => po_none, sem_nop⟩
theorem ov_some (h : EV F ms p e m f) (h1 : noOw m = true := by rfl) : OV F ms p (some e) (partF f) := let ⟨t, a1, a2⟩ := h; ⟨_, fun i => po_some (a1 i), sem_part a2 (noOw_ne h1)⟩
theorem ev_slice {lo hi : Option Expr} {fl fh : FO} (ha : EV F ms pa a ma fa) (hl : OV F ms pb lo fl) (hh : OV F ms pc hi fh) (hm : itM ma = true := by rfl) (ho : ((pb && pc) || ma == .sh) = true := by rfl) :
    EV F ms (pa && (pb && pc)) (.Subscript a (.Slice lo hi none p2) pos) .sh (sliceF fa fl fh sliceD) := by
  obtain ⟨t, a1, a2⟩ := ha
  obtain ⟨u, l1, l2⟩ := hl
  obtain ⟨v, h1, h2⟩ := hh
  refine ⟨_, fun i => ?_, sem_slice a2 l2 h2 (s_slice hm) ho (noOw_ne (noOw_it hm))⟩
  have := pe_slice (pos := pos) (p2 := p2) (sl_any (X := F.X i)) (a1 i) (l1 i) (h1 i)
  rw [F.hK] at this
  exact this
theorem ev_sliceO {lo hi : Option Expr} {fl fh : FO} (ha : EV F ms pa a ma fa) (hl : OV F ms pb lo fl) (hh : OV F ms pc hi fh) (hm : itM ma = true := by rfl) (ho : ((pb && pc) || ma == .sh) = true := by rfl) :
    EV F ms (pa && (pb && pc)) (.Subscript a (.Slice lo hi none p2) pos) (.ow 1) (sliceF fa fl fh sliceLD) := by
  obtain ⟨t, a1, a2⟩ := ha
  obtain ⟨u, l1, l2⟩ := hl
  obtain ⟨v, h1, h2⟩ := hh
  refine ⟨_, fun i => ?_, sem_slice a2 l2 h2 (s_sliceL hm) ho (noOw_ne (noOw_it hm))⟩
  have := pe_slice (pos := pos) (p2 := p2) (sl_any (X := F.X i)) (a1 i) (l1 i) (h1 i)
  rw [F.hK] at this
  exact this
/-! methods -/
theorem ev_bits (ha : EV F ms p a m fa) (h1 : noOw m = true := by rfl) (hbase : ∀ i, attributeBase a "bit_length" (F.X i).env (eval a (F.X i).env) = eval a (F.X i).env := by intro _; rfl) (hline : (apos.endLine == pos.line) = true := by rfl) :
    EV F ms p (.Call (.Attribute a "bit_length" apos) [] [] pos) .sh (un1 fa bitsD) := by
  obtain ⟨t, a1, a2⟩ := ha
  exact ⟨_, fun i => pe_bits (a1 i) (hbase i) hline, sem_bits a2 (noOw_ne h1)⟩
def mutE (j : Nat) (fs : FA) (g : List D → List D → Option (List D × D)) : FE := fun env => if ((env[j]?).elim false isLst) = true then mutF j fs g env else none
/-- o.name(e, ..) on an owned list -/
structure LMt (F : Fm P w K mg base N sc lv oc) (name : Str) (mds : List M) (g : List D → List D → Option (List D × D)) : Prop where
  ok : ∃ (id : String) (r : V → List V → Hp → VK → Prop), Slot "list" name id ∧ typeOf (.builtin id) = pure (.type "method_descriptor") ∧ (∀ i, MtR (F.X i) id r) ∧ MutL K mds g r
theorem lm_append : LMt F "append" [.sh] appD := ⟨_, _, PySem.F.slot_list_append, PySem.F.type_list_append, fun _ => mt_append, mu_append⟩
theorem lm_extend (h : itM m = true := by rfl) : LMt F "extend" [m] extD := ⟨_, _, PySem.F.slot_list_extend, PySem.F.type_list_extend, fun _ => mt_extend, mu_extend h⟩
theorem lm_insert : LMt F "insert" [m, .sh] insD := ⟨_, _, PySem.F.slot_list_insert, PySem.F.type_list_insert, fun _ => mt_insert, mu_insert⟩
theorem lm_pop : LMt F "pop" [m] popAtD := ⟨_, _, PySem.F.slot_list_pop, PySem.F.type_list_pop, fun _ => mt_popAt, mu_popAt⟩
theorem ev_mut (j : Nat) {y name : Str} {g : List D → List D → Option (List D × D)} (L : LMt F name mds g) (ha : AV F ms p (e :: es) mds fs) (hj : ms[j]? = some (.ow 1) := by rfl) (hN : N[j]? = some y := by rfl)
    (hv : Vis sc y := by first | exact Or.inl rfl | exact Or.inr (Or.inl rfl) | exact Or.inr (Or.inr rfl)) (hd : (y == ("__debug__" : Str)) = false := by decide) (hcd : (y == ("__classdict__" : Str)) = false := by decide)
    (hbase : ∀ i, attributeBase (.Name y p1) name (F.X i).env (eval (.Name y p1) (F.X i).env) = eval (.Name y p1) (F.X i).env := by intro _; rfl)
    (hfew : ∀ i, ((backTo pos (starEach (e :: es) (F.X i).env)).all (fun x => !x.1) && (backToKw pos (keywordEach [] (F.X i).env)).all (fun x => x.1.isSome) && decide ((e :: es).length + ([] : List Keyword).length + (if ([] : List Keyword).isEmpty then 0 else 1) < 30)) = true := by intro _; rfl)
    (hline : (apos.endLine == pos.line) = true := by rfl) (hs : ∀ i, starEach (e :: es) (F.X i).env = (false, eval e (F.X i).env) :: starEach es (F.X i).env := by intro _; rfl) (hpl : ∀ i, (backTo pos (starEach es (F.X i).env)).any (·.1) = false := by intro _; rfl) :
    EV F ms false (.Call (.Attribute (.Name y p1) name apos) (e :: es) [] pos) .sh (mutE j fs g) := by
  obtain ⟨id, r, slot, hty, hm, sp⟩ := L.ok
  obtain ⟨t, a1, a2⟩ := ha
  refine ⟨_, fun i => ?_, sem_mutL hj a2 sp⟩
  have := pe_bm (X := F.X i) PySem.F.plainAttrs_list slot hty (hm i) (pe_var (by rw [F.hN]; exact hN) (by rw [F.hsc]; exact hv) hd hcd) (a1 i) (hbase i) (hfew i) hline (hs i) (hpl i)
  rw [F.hK] at this
  exact this
theorem ev_get1 (ha : EV F ms pa a ma fa) (hk : EV F ms pb b mb fk) (hm : itM ma = true := by rfl) (ho : (pb || ma == .sh) = true := by rfl) (h2 : noOw mb = true := by rfl) (M : ∀ i, M1 (F.X i) a "get" apos b pos := by intro _; exact ⟨rfl, rfl, rfl, rfl⟩) :
    EV F ms (pa && pb) (.Call (.Attribute a "get" apos) [b] [] pos) .sh (get1F fa fk) := by
  obtain ⟨t, a1, a2⟩ := ha
  obtain ⟨u, b1, b2⟩ := hk
  exact ⟨_, fun i => pe_dget1 (F.hu i) (a1 i) (b1 i) (M i), sem_get1 a2 b2 hm ho (noOw_ne h2)⟩
theorem ev_get2 (ha : EV F ms pa a ma fa) (hk : EV F ms pb b mb fk) (hx : EV F ms pc c .sh fx) (hm : itM ma = true := by rfl) (ho : (pb && pc || ma == .sh) = true := by rfl) (hb : (pc || mb == .sh) = true := by rfl) (h2 : noOw mb = true := by rfl) (M : ∀ i, M2 (F.X i) a "get" apos b c pos := by intro _; exact ⟨rfl, rfl, rfl, rfl⟩) :
    EV F ms (pa && (pb && pc)) (.Call (.Attribute a "get" apos) [b, c] [] pos) .sh (get2F fa fk fx) := by
  obtain ⟨t, a1, a2⟩ := ha
  obtain ⟨u, b1, b2⟩ := hk
  obtain ⟨v, c1, c2⟩ := hx
  exact ⟨_, fun i => pe_dget2 (F.hu i) (a1 i) (b1 i) (c1 i) (M i), sem_get2 a2 b2 c2 hm ho hb (noOw_ne h2)⟩
theorem ev_items (hm : mg "list" = none) (ha : EV F ms p a m fa) (h1 : itM m = true := by rfl) (hg : GlS sc "list" := by intro env h; unfold Env.kindOf; rw [h]; rfl) (hbase : ∀ i, attributeBase a "items" (F.X i).env (eval a (F.X i).env) = eval a (F.X i).env := by intro _; rfl) (hline : (apos.endLine == pos'.line) = true := by rfl)
    (hs : ∀ i, starEach [.Call (.Attribute a "items" apos) [] [] pos'] (F.X i).env = (false, eval (.Call (.Attribute a "items" apos) [] [] pos') (F.X i).env) :: starEach [] (F.X i).env := by intro _; rfl) :
    EV F ms p (.Call (.Name "list" p1) [.Call (.Attribute a "items" apos) [] [] pos'] [] pos) (.ow 1) (un1 fa itemsD) := by
  obtain ⟨t, a1, a2⟩ := ha
  exact ⟨_, fun i => pe_listItemsR (F.calm i) (a1 i) (hg _ (F.hsc i)) (by rw [F.hmg]; exact hm) (hbase i) hline (hs i), sem_items a2 h1⟩
theorem ev_lzip (hm : mg "list" = none) (hm2 : mg "zip" = none) (ha : AV F ms p [a, b] [ma, mb] fs) (h1 : itM ma = true := by rfl) (h2 : itM mb = true := by rfl) (hg : GlS sc "list" := by intro env h; unfold Env.kindOf; rw [h]; rfl) (hg2 : GlS sc "zip" := by intro env h; unfold Env.kindOf; rw [h]; rfl)
    (hs2 : ∀ i, starEach [a, b] (F.X i).env = (false, eval a (F.X i).env) :: starEach [b] (F.X i).env := by intro _; rfl) (hpl2 : ∀ i, (backTo pos' (starEach [b] (F.X i).env)).any (·.1) = false := by intro _; rfl)
    (hs : ∀ i, starEach [.Call (.Name "zip" p2) [a, b] [] pos'] (F.X i).env = (false, eval (.Call (.Name "zip" p2) [a, b] [] pos') (F.X i).env) :: starEach [] (F.X i).env := by intro _; rfl) :
    EV F ms p (.Call (.Name "list" p1) [.Call (.Name "zip" p2) [a, b] [] pos'] [] pos) (.ow 1) (callF fs (two lzipD)) := by
  obtain ⟨t, a1, a2⟩ := ha
  refine ⟨_, fun i => ?_, sem_call a2 (c_lzip h1 h2).s⟩
  have := DZ.pe_listZip (p := p1) (pos := pos) (F.calm i) (a1 i) (hg _ (F.hsc i)) (by rw [F.hmg]; exact hm) (hg2 _ (F.hsc i)) (by rw [F.hmg]; exact hm2) (hs2 i) (hpl2 i) (hs i)
  rw [F.hK] at this
  exact this
/-! tables -/
theorem ev_dnewK : EV F ms true (.Dict [] [] pos) (.ow 1) (conF (.dK [] [])) := ⟨_, fun _ => pe_dnewK, sem_dnewK⟩
theorem ev_dnewT : EV F ms true (.Dict [] [] pos) (.ow 1) (conF (.dT [] [])) := ⟨_, fun _ => pe_dnewT, sem_dnewT⟩
theorem ev_dc {scope : Scope} {own : List (Str × Nat)} (hi : IV F ms pi tg iter fi) (hg : GV (F.blk scope) (outM N.length (own.map (·.2))) (blkM ms (own.map (·.2))) msB tg bb) (ht : CV (F.blk scope) msB pt ifs gt) (hk : EV (F.blk scope) msB pk kx .sh fk) (he : EV (F.blk scope) msB pe elt .sh fe)
    (ok : blkC N sc scope own = true := by decide +kernel) (ho : ownOk ms (own.map (·.2)) = true := by rfl) (hn : ms.length = N.length := by rfl) (hw : weakM msB (blkM ms (own.map (·.2))) = true := by rfl)
    (hs : ∀ i x, foldedSetIterable iter (F.X i).env x = pure x := by intro _ _; rfl) :
    EV F ms (pi && (pt && (pk && pe))) (.DictComp kx elt [⟨tg, iter, ifs, 0⟩] scope pos) (.ow 1) (dcompF fi (own.map (·.2)) bb gt fk fe) := by
  obtain ⟨wi, i1, i2⟩ := hi
  obtain ⟨g0, g1, g2⟩ := hg
  obtain ⟨tt, t1, t2⟩ := ht
  obtain ⟨tk, k1, k2⟩ := hk
  obtain ⟨te, e1, e2⟩ := he
  refine ⟨_, fun i => pe_dc (own := own) (F.calm i) (by rw [F.hN]; exact F.nd) (i1 i) (by rw [F.hN, F.hsc]; exact blkOk_by ok) (fun s H C cl fp => g1 (i, s, H, C, cl, fp)) (fun s H C cl fp => t1 (i, s, H, C, cl, fp)) (fun s H C cl fp => k1 (i, s, H, C, cl, fp)) (fun s H C cl fp => e1 (i, s, H, C, cl, fp)) (hs i), sem_dc i2 g2 t2 k2 e2 ho hn hw⟩
def DV (F : Fm P w K mg base N sc lv oc) (ms : List M) (pos : Pos) (ks : List (Option Expr)) (vs : List Expr) (f : FA) : Prop := ∃ trs, (∀ i, PPs (F.X i) pos ks vs trs) ∧ TPairs K ms trs f
theorem ev_disp {ks : List (Option Expr)} {vs : List Expr} (h : DV F ms pos ks vs fs) (hall : ks.all (·.isSome) = true := by rfl) (hl : ks.length = vs.length := by rfl) (h0 : ks ≠ [] := by exact fun z => nomatch z) (h15 : ks.length ≤ 15 := by decide) : EV F ms false (.Dict ks vs pos) (.ow 1) (dispF fs) := by
  obtain ⟨t, a1, a2⟩ := h
  exact ⟨_, fun i => pe_disp (a1 i) hall hl h0 h15, sem_disp a2⟩
theorem dv_nil : DV F ms pos [] [] nilF := ⟨[], fun _ => pps_nil, tp_nil⟩
theorem dv_cons {ks : List (Option Expr)} {vs : List Expr} (hk : EV F ms pa a .sh fk) (hv : EV F ms pb b .sh fx) (h : DV F ms pos ks vs fs) : DV F ms pos (some a :: ks) (b :: vs) (consF fk (consF fx fs)) := by
  obtain ⟨t, a1, a2⟩ := hk
  obtain ⟨u, b1, b2⟩ := hv
  obtain ⟨trs, c1, c2⟩ := h
  exact ⟨_, fun i => pps_cons (a1 i) (b1 i) (c1 i), tp_cons a2 b2 c2⟩
/-! stores into tables and lists -/
theorem sv_setIt (j : Nat) {y : Str} (hv : EV F ms pa e .sh fx) (hi : EV F ms pb b mb fk) (h2 : noOw mb = true := by rfl) (hj : ms[j]? = some (.ow 1) := by rfl) (hN : N[j]? = some y := by rfl)
    (hvis : Vis sc y := by first | exact Or.inl rfl | exact Or.inr (Or.inl rfl) | exact Or.inr (Or.inr rfl)) (hd : (y == ("__debug__" : Str)) = false := by decide) (hcd : (y == ("__classdict__" : Str)) = false := by decide)
    (ha : ∀ i v, assign (.Subscript (.Name y p1) b pos') (F.X i).env v = (do
      let ov ← holding [v] (eval (.Name y p1) (F.X i).env)
      let iv ← holding [v, ov] (eval b (F.X i).env)
      standAt pos'
      holding [v, ov, iv] (setItem ov iv v)
      release [v, ov, iv] []) := by intro _ _; rfl)
    (hs : swapsWithSole [.Subscript (.Name y p1) b pos'] e pos.line (envS sc) = pure false := by rfl) (hw : swappedStores [.Subscript (.Name y p1) b pos'] e (envS sc) = pure none := by rfl)
    (h1 : ∀ i, (assignEach [.Subscript (.Name y p1) b pos'] (F.X i).env).map (·.2) = [assign (.Subscript (.Name y p1) b pos') (F.X i).env] := by intro _; rfl) :
    SV F rm rms ms ms (.Assign [.Subscript (.Name y p1) b pos'] e pos) (setItF j fk fx) := by
  obtain ⟨t, a1, a2⟩ := hv
  obtain ⟨u, b1, b2⟩ := hi
  exact ⟨_, fun i => ps_asg (a1 i) (pg_sub (pe_var (by rw [F.hN]; exact hN) (by rw [F.hsc]; exact hvis) hd hcd) (b1 i) set_list (ha i)) (by rw [sole_env, F.hsc]; exact hs) (by rw [swapped_env, F.hsc]; exact hw) (h1 i), sem_setIt hj a2 b2 (noOw_ne h2)⟩
theorem sv_dput (j : Nat) {y : Str} (hv : EV F ms pa e .sh fx) (hk : EV F ms pb b mb fk) (h2 : noOw mb = true := by rfl) (hj : ms[j]? = some (.ow 1) := by rfl) (hN : N[j]? = some y := by rfl)
    (hvis : Vis sc y := by first | exact Or.inl rfl | exact Or.inr (Or.inl rfl) | exact Or.inr (Or.inr rfl)) (hd : (y == ("__debug__" : Str)) = false := by decide) (hcd : (y == ("__classdict__" : Str)) = false := by decide)
    (hs : swapsWith e (some (.Subscript (.Name y p1) b pos')) pos.line (envS sc) = pure false := by rfl) :
    SV F rm rms ms ms (.Assign [.Subscript (.Name y p1) b pos'] e pos) (dputF j fk fx) := by
  obtain ⟨t, a1, a2⟩ := hv
  obtain ⟨u, b1, b2⟩ := hk
  exact ⟨_, fun i => ps_dput (F.hu i) (pe_var (by rw [F.hN]; exact hN) (by rw [F.hsc]; exact hvis) hd hcd) (b1 i) (a1 i) (by rw [swaps_env, F.hsc]; exact hs), sem_dput hj a2 b2 (noOw_ne h2)⟩
end
end DL
namespace DL
open PySem PySem.Spec PyProof.Rows L2

/-! ### defs with defaults; calls by keywords -/
section
variable {X : Cx} {CX : CXT} {k : Nat} {f : Addr} {fd : FuncData} {ps : List Str} {sp : Sp} {E : XK} {x : Str}
theorem FnG.call_D {pins : List (Addr × Obj)} {σ : L2.St} {H : Hp} {s : Shared} {Q : VK} {us ds : List Value} {xs dvs : List V}
    (D : FnG X.prog X.w X.K X.mg X.base CX k f fd ps sp) (gd : X.A.guards = some []) (room : Room k X.A) (B : Binds X.K fd ps ds) (out : Passes CX X E) (I : Inv X pins σ H s)
    (r : Vals xs us) (rd : Vals dvs ds) (h : sp (xs ++ dvs) H Q E) : wpAny (model X.prog X.w) X.A (call (.ref f) us) (EP X pins σ Q) X.xe s := by
  have rr := r.append rd
  have n : (us ++ ds).length = ps.length := by rw [← rr.length]; exact D.width _ _ _ _ h
  refine wpAny_call (codeAny_mono (D.at_call gd room out I (B s us I.kIn n) rr h) fun res s' q => ?_)
  match res, q with
  | .error e, q => exact q
  | .ok (.ret u), q => exact q
  | .ok .next, q => exact q.elim
  | .ok .brk, q => exact q.elim
  | .ok .cont, q => exact q.elim
theorem FnG.call_K {pins : List (Addr × Obj)} {σ : L2.St} {H : Hp} {s : Shared} {Q : VK} {us ws : List Value} {xs zs : List V} {n : Nat} {ks : List Str} {g : List Value → List Value → List Value} {gV : List V → List V → List V}
    (D : FnG X.prog X.w X.K X.mg X.base CX k f fd ps sp) (gd : X.A.guards = some []) (room : Room k X.A) (B : KBn X.K fd ps n ks g gV) (out : Passes CX X E) (I : Inv X pins σ H s)
    (r : Vals xs us) (rz : Vals zs ws) (l1 : xs.length = n) (l2 : zs.length = ks.length) (h : sp (gV xs zs) H Q E) : wpAny (model X.prog X.w) X.A (call (.ref f) us (ks.zip ws)) (EP X pins σ Q) X.xe s := by
  refine wpAny_call (codeAny_mono (D.at_call gd room out I (B.to s us ws I.kIn (r.length.symm.trans l1) (rz.length.symm.trans l2)) (B.rel r rz) h) fun res s' q => ?_)
  match res, q with
  | .error e, q => exact q
  | .ok (.ret u), q => exact q
  | .ok .next, q => exact q.elim
  | .ok .brk, q => exact q.elim
  | .ok .cont, q => exact q.elim
variable {p pos : Pos} {e : Expr} {es : List Expr} {t tk : TA} {kws : List Keyword}
theorem pe_callD {ds : List Value} {dvs : List V} (D : FnG X.prog X.w X.K X.mg X.base CX k f fd ps sp) (gd : X.A.guards = some []) (room : Room k X.A) (hg : Gl X x) (hm : X.mg x = some (.ref f)) (keep : PySem.W.keepIn X.K (.ref f) = true)
    (B : Binds X.K fd ps ds) (rd : Vals dvs ds) (out : Passes CX X E) (args : PA X (e :: es) t) (hdb : (x == ("__debug__" : Str)) = false)
    (he : starEach (e :: es) X.env = (false, eval e X.env) :: starEach es X.env) (hpl : (backTo pos (starEach es X.env)).any (·.1) = false) :
    PE X (.Call (.Name x p) (e :: es) [] pos) (tCall sp dvs E t) :=
  ⟨fun pins s σ H Q I h => wpAny_Call_Name_kw (ld_glob I hg hm (PySem.W.callWith_K (h₀ := X.base) I.ok.mod.kin keep
    (thn (args.run pos pins s σ H _ I h) fun us s1 ⟨xs, H1, I1, r, q⟩ => ⟨I1.kIn, D.call_D gd room B out I1 r rd q⟩) he hpl) hdb)⟩
/-- every argument by its name -/
def tLen (n : Nat) (t : TA) : TA := fun σ H Q => t σ H fun zs H1 => zs.length = n ∧ Q zs H1
theorem pe_callAK {ks : List Str} {g : List Value → List Value → List Value} {gV : List V → List V → List V} (D : FnG X.prog X.w X.K X.mg X.base CX k f fd ps sp) (gd : X.A.guards = some []) (room : Room k X.A) (hg : Gl X x) (hm : X.mg x = some (.ref f)) (keep : PySem.W.keepIn X.K (.ref f) = true)
    (B : KBn X.K fd ps 0 ks g gV) (out : Passes CX X E) (named : PK X kws tk) (hall : (backToKw pos (keywordEach kws X.env)).all (·.1.isSome) = true) (hks : (backToKw pos (keywordEach kws X.env)).filterMap (·.1) = ks)
    (hdb : (x == ("__debug__" : Str)) = false) (hpl : ((backTo pos (starEach [] X.env)).any (·.1) || (backToKw pos (keywordEach kws X.env)).any (·.1.isNone)) = false) :
    PE X (.Call (.Name x p) [] kws pos) (fun σ H Q => tLen ks.length tk σ H fun zs H1 => sp (gV [] zs) H1 Q E) :=
  ⟨fun pins s σ H Q I h => wpAny_Call_Name_kw (ld_glob I hg hm (PySem.W.callWith_KW0 (h₀ := X.base) I.ok.mod.kin keep hall
    (thn (named.run pos pins s σ H _ I h) fun ws s2 ⟨zs, H2, I2, rz, l2, q2⟩ => ⟨I2.kIn, by
      rw [hks]
      exact D.call_K (us := []) (xs := []) gd room B out I2 .nil rz rfl l2 q2⟩) hpl) hdb)⟩
end
theorem FnG.of_bodyD {P : Program} {w : World} {K : PySem.W.Frag} {mg : Str → Option Value} {base : Heap} {k : Nat} {x qual : Str} {params : Arguments} {bodyS : List Stmt} {scope : Scope} {dvs : List V} {kws : List (Str × V)} {f : Addr} {fd : FuncData} {N ps : List Str} {sp : Sp}
    (F : FunD K x qual params bodyS scope dvs kws f fd) (S : FnScope N ps scope) (width : ∀ (xs : List V) (H : Hp) (Q : VK) (E : XK), sp xs H Q E → xs.length = ps.length)
    (body : ∀ (cdv : Value) (A : Around) (below : List Env) (s : Shared) (H : Hp) (xs : List V) (Q : VK) (E : XK), A.guards = some [] → Room k (A.deeper (envOfC qual scope s.heap.objs.size f cdv)) → sp xs H Q E →
      ∃ t, PSs (cxOf CX0 P w K mg base N qual scope f cdv A below s H E).nox bodyS t ∧ t { nx := fun _ H' => Q .non H', rt := Q } (L2.start N xs) H) :
    FnG P w K mg base CX0 (k + 1) f fd ps sp := by
  obtain ⟨oc, od, dV, kV, doc, pm, an, cdv, ct, osl, rfl, look, code, _, _⟩ := F.ex
  refine ⟨width, fun A below s H args us xs Q E gd room e0 B r h => ?_⟩
  have n := width _ _ _ _ h
  have inS : K.In s.heap := e0.mod.kin.keeps fun b o z => (e0.bs b o z).1
  have free : s.heap.NoLimit := e0.mod.nolimit.keeps fun b o z => (e0.bs b o z).1
  have bound : ∀ y ∈ ps.zip us, scope.names.lookup y.1 = some .local ∨ (scope.names.lookup y.1 = some .cell ∧ ((cellsFrom (s.heap.objs.size + 1) scope.names []).lookup y.1).isSome = true) := by
    rintro ⟨y, v⟩ hy
    exact (S.par y (List.of_mem_zip hy).1).imp id fun c => ⟨c, PySem.W.cellsFrom_some _ _ _ (.inl c)⟩
  refine codeAny_call_function room.depth (inS _ _ look) rfl S.co S.gen rfl (PySem.W.codeRec_of inS code) (B _ _ _ _ ?_)
  refine wpAny_newFunctionEnv_cells S.kind bound fun env same s1 made => ?_
  subst same
  refine ⟨free.keeps made.toInCall.keep, codeAny_func ?_⟩
  obtain ⟨t, ht, hq⟩ := body cdv A below s H xs Q E gd (room.deeper _) h
  have I : Inv (cxOf CX0 P w K mg base N qual scope f cdv A below s H E) [] (L2.start N xs) H s1 := inv_start S room.hd e0 n r made
  refine wpAny_mono (ht.nox.run [] s1 (L2.start N xs) H _ I hq) (fun fl s' q => ?_) fun e s' q => q
  match fl, q with
  | .ret u, ⟨v, σ', H', J, rv, q⟩ => exact ⟨v, H', J.os, J.bare, J.base, J.hok, rv, q⟩
  | .next, ⟨σ', H', J, q⟩ => exact ⟨V.non, H', J.os, J.bare, J.base, J.hok, rfl, q⟩
  | .brk, ⟨_, _, _, q⟩ => exact False.elim q
  | .cont, ⟨_, _, _, q⟩ => exact False.elim q
/-! picking -/
def pick {α : Type} (is : List Nat) (l : List α) : List α := is.filterMap fun i => l[i]?
theorem pick_vals {xs : List V} {us : List Value} (r : Vals xs us) : ∀ is : List Nat, Vals (pick is xs) (pick is us)
  | [] => .nil
  | i :: is => by
    unfold pick
    rw [List.filterMap_cons, List.filterMap_cons]
    cases e : xs[i]? with
    | none =>
      have h1 : us[i]? = none := by
        rw [List.getElem?_eq_none_iff] at e ⊢
        rw [← r.length]; exact e
      rw [h1]; exact pick_vals r is
    | some v =>
      obtain ⟨u, hu, ru⟩ := r.get e
      rw [hu]; exact .cons ru (pick_vals r is)
theorem pick_reps {K : PySem.W.Frag} {G : Hp} {ds : List D} {vs : List V} (r : Reps K G ds vs) : ∀ is : List Nat, Reps K G (pick is ds) (pick is vs)
  | [] => .nil
  | i :: is => by
    unfold pick
    rw [List.filterMap_cons, List.filterMap_cons]
    cases e : ds[i]? with
    | none =>
      have h1 : vs[i]? = none := by
        rw [List.getElem?_eq_none_iff] at e ⊢
        rw [r.length]; exact e
      rw [h1]; exact pick_reps r is
    | some v =>
      obtain ⟨u, hu, ru⟩ := r.get e
      rw [hu]; exact .cons ru (pick_reps r is)
/-- how the arguments of a def without defaults are put in place -/
theorem FunD.kpick {K : PySem.W.Frag} {x qual : Str} {params : Arguments} {body : List Stmt} {scope : Scope} {f : Addr} {fd : FuncData} {ps : List Str} (F : FunD K x qual params body scope [] [] f fd) (n : Nat) (ks : List Str) (is : List Nat)
    (h : ∀ (kV doc pm : Value) (an : Option Addr) (cdv ct : Value) (us ws : List Value), us.length = n → ws.length = ks.length → bindArgs (PySem.W.fnOf x qual params body scope .none kV doc pm an cdv ct) ⟨us, ks.zip ws⟩ = pure (ps.zip (pick is (us ++ ws)))) :
    KBn K fd ps n ks (fun us ws => pick is (us ++ ws)) (fun xs zs => pick is (xs ++ zs)) := by
  obtain ⟨oc, od, dV, kV, doc, pm, an, cdv, ct, osl, rfl, lk, hcd, hD, hK⟩ := F.ex
  rcases hD with ⟨_, rfl⟩ | ⟨e, _⟩
  · exact ⟨fun s us ws _ l1 l2 => .of_eq (h kV doc pm an cdv ct us ws l1 l2), fun r rz => pick_vals (r.append rz) is⟩
  · exact absurd rfl e
section
variable {P : Program} {w : World} {K : PySem.W.Frag} {mg : Str → Option Value} {base : Heap} {N : List Str} {sc : Scope} {lv : Nat} {oc : Option (List Str)} {F : Fm P w K mg base N sc lv oc}
variable {ms ms1 ms2 ms' msL msB rms pms : List M} {rm m ma mb mc : M} {p pa pb pc pi pt pe pk : Bool} {e a b c tg iter elt kx : Expr} {es rest ifs : List Expr} {fa fb fc f fe fk fx : FE} {fs fi : FA} {ga gb g gt : FT} {s1 s2 gs : FS} {pos pos' p1 p2 apos : Pos} {st : Stmt} {sts : List Stmt} {mds : List M} {x : Str} {bb : FG}
/-- a def as its callers see it; dvs: what fills up behind n arguments by place -/
structure DefD (P : Program) (w : World) (K : PySem.W.Frag) (mg : Str → Option Value) (base : Heap) (x : Str) (k : Nat) (ps : List Str) (pms : List M) (rm : M) (fd : FD) (dds : List D) : Prop where
  ok : ∃ (f : Addr) (d : FuncData) (ds : List Value) (dvs : List V), mg x = some (.ref f) ∧ PySem.W.keepIn K (.ref f) = true ∧ FnG P w K mg base CX0 k f d ps (Prom K pms rm fd) ∧ Binds K d ps ds ∧ Vals dvs ds ∧ ∀ G, Reps K G dds dvs
structure DefK (P : Program) (w : World) (K : PySem.W.Frag) (mg : Str → Option Value) (base : Heap) (x : Str) (k : Nat) (ps : List Str) (pms : List M) (rm : M) (fd : FD) (n : Nat) (ks : List Str) (is : List Nat) : Prop where
  ok : ∃ (f : Addr) (d : FuncData), mg x = some (.ref f) ∧ PySem.W.keepIn K (.ref f) = true ∧ FnG P w K mg base CX0 k f d ps (Prom K pms rm fd) ∧ KBn K d ps n ks (fun us ws => pick is (us ++ ws)) (fun xs zs => pick is (xs ++ zs))
/-- constants behind the arguments -/
def tWith (t : TA) (dvs : List V) : TA := fun σ H Q => t σ H fun xs H1 => Q (xs ++ dvs) H1
def withF (fs : FA) (dds : List D) : FA := fun env => (fs env).map fun q => (q.1 ++ dds, q.2)
theorem RAs.app {G H : Hp} {dds : List D} {dvs : List V} (h : Reps K G dds dvs) : ∀ {ms : List M} {ds : List D} {vs : List V}, RAs K G H ms ds vs → RAs K G H (ms ++ dds.map fun _ => .sh) (ds ++ dds) (vs ++ dvs)
  | [], ds, vs, r => by
    obtain ⟨rfl, rfl⟩ := r
    induction dds generalizing dvs with
    | nil => rw [reps_nil.mp h]; exact ⟨rfl, rfl⟩
    | cons d dds ih =>
      obtain ⟨v, q, rfl, h1, h2⟩ := reps_cons.mp h
      exact ⟨d, dds, v, q, rfl, rfl, h1, ih h2⟩
  | m :: ms, ds, vs, r => by
    obtain ⟨d, r', v, q, rfl, rfl, h1, h2⟩ := r
    exact ⟨d, _, v, _, rfl, rfl, h1, RAs.app h h2⟩
theorem sem_with {t : TA} {dds : List D} {dvs : List V} (h : SemA K ms p mds fs t) (hd : ∀ G, Reps K G dds dvs) : SemA K ms p (mds ++ dds.map fun _ => .sh) (withF fs dds) (tWith t dvs) := by
  intro env σ fps G H ds env' Q S e k
  unfold withF at e
  cases q : fs env with
  | none => rw [q] at e; cases e
  | some r =>
    rw [q] at e
    cases e
    exact h env σ fps G H r.1 r.2 _ S q fun vs f1 G1 H1 t1 p1 S1 r1 => k _ f1 G1 H1 t1 p1 S1 (r1.app (hd G1))
theorem ev_callD {k : Nat} {ps : List Str} {fd : FD} {dds : List D} (D : DefD P w K mg base x k ps pms rm fd dds) (ha : AV F ms p (e :: es) mds fs) (hk : k ≤ lv := by first | decide | omega) (hm : mds.all (· == .sh) = true := by rfl) (hp : pms.all (· == .sh) = true := by rfl) (hl : pms.length = (mds ++ dds.map fun _ => M.sh).length := by rfl)
    (hm2 : (mds ++ dds.map fun _ => M.sh).all (· == .sh) = true := by rfl)
    (hg : GlS sc x := by intro env h; unfold Env.kindOf; rw [h]; rfl) (hdb : (x == ("__debug__" : Str)) = false := by decide)
    (he : ∀ i, starEach (e :: es) (F.X i).env = (false, eval e (F.X i).env) :: starEach es (F.X i).env := by intro _; rfl) (hpl : ∀ i, (backTo pos (starEach es (F.X i).env)).any (·.1) = false := by intro _; rfl) :
    EV F ms p (.Call (.Name x p1) (e :: es) [] pos) rm (ucallF (withF fs dds) fd) := by
  obtain ⟨t, a1, a2⟩ := ha
  obtain ⟨f, d, ds, dvs, h1, h2, h3, h4, h5, h6⟩ := D.ok
  have sem := sem_ucall (E := E0) (rm := rm) (F := fd) (sem_with a2 h6) hm2 hp hl
  refine ⟨tCall (Prom K pms rm fd) dvs E0 t, fun i => ?_, ?_⟩
  · refine pe_callD (CX := CX0) (k := k) (f := f) (fd := d) (ps := ps) (ds := ds) ?_ (F.gd i) ((F.room i).mono hk) (hg _ (F.hsc i)) (by rw [F.hmg]; exact h1) (by rw [F.hK]; exact h2) (by rw [F.hK]; exact h4) h5 pass0 (a1 i) hdb (he i) (hpl i)
    rw [F.hP, F.hw, F.hK, F.hmg, F.hb]
    exact h3
  · intro env σ fps G H d env' Q S e k
    have := sem env σ fps G H d env' Q S e k
    have e2 : (tCall (Prom K pms rm fd) [] E0 (tWith t dvs)) σ H Q = (tCall (Prom K pms rm fd) dvs E0 t) σ H Q := by
      show (t σ H fun xs H1 => Prom K pms rm fd ((xs ++ dvs) ++ []) H1 Q E0) = (t σ H fun xs H1 => Prom K pms rm fd (xs ++ dvs) H1 Q E0)
      congr 1
      funext xs H1
      rw [List.append_nil]
    rw [← e2]; exact this
/-! f(x = a, y = b) -/
def pickF (is : List Nat) (fs : FA) : FA := fun env => (fs env).map fun q => (pick is q.1, q.2)
def tPick (is : List Nat) (t : TA) : TA := fun σ H Q => t σ H fun xs H1 => Q (pick is xs) H1
theorem pick_len {α β : Type} : ∀ (is : List Nat) (a : List α) (b : List β), a.length = b.length → (pick is a).length = (pick is b).length
  | [], _, _, _ => rfl
  | i :: is, a, b, hab => by
    have ih := pick_len is a b hab
    unfold pick at ih ⊢
    rw [List.filterMap_cons, List.filterMap_cons]
    by_cases hi : i < a.length
    · rw [List.getElem?_eq_getElem hi, List.getElem?_eq_getElem (by rw [← hab]; exact hi)]
      simp [ih]
    · rw [List.getElem?_eq_none (by omega), List.getElem?_eq_none (by omega)]
      exact ih
theorem sem_len {t : TA} {n : Nat} (h : SemA K ms p mds fs t) (hn : mds.length = n) : SemA K ms p mds fs (tLen n t) := by
  intro env σ fps G H ds env' Q S e k
  exact h env σ fps G H ds env' _ S e fun vs f1 G1 H1 t1 p1 S1 r1 => ⟨r1.lens.2.trans hn, k vs f1 G1 H1 t1 p1 S1 r1⟩
theorem sem_pick {t : TA} (is : List Nat) (h : SemA K ms p mds fs t) (hm : mds.all (· == .sh) = true) : SemA K ms p ((pick is mds).map fun _ => .sh) (pickF is fs) (tPick is t) := by
  intro env σ fps G H ds env' Q S e k
  unfold pickF at e
  cases q : fs env with
  | none => rw [q] at e; cases e
  | some r =>
    rw [q] at e
    cases e
    refine h env σ fps G H r.1 r.2 _ S q fun vs f1 G1 H1 t1 p1 S1 r1 => k _ f1 G1 H1 t1 p1 S1 ?_
    have rr := pick_reps (r1.shared hm) is
    have hl : (pick is r.1).length = (pick is mds).length := by
      exact pick_len is _ _ r1.lens.1
    have : ∀ {ns : List M} {ds : List D} {vs : List V}, ds.length = ns.length → Reps K G1 ds vs → RAs K G1 H1 (ns.map fun _ => M.sh) ds vs := by
      intro ns
      induction ns with
      | nil =>
        intro ds vs hl h
        have : ds = [] := by simpa using hl
        subst this
        rw [reps_nil.mp h]; exact ⟨rfl, rfl⟩
      | cons n ns ih =>
        intro ds vs hl h
        cases ds with
        | nil => simp at hl
        | cons d ds =>
          obtain ⟨v, q, rfl, h1, h2⟩ := reps_cons.mp h
          exact ⟨d, ds, v, q, rfl, rfl, h1, ih (by simpa using hl) h2⟩
    exact this hl rr
def KV' (F : Fm P w K mg base N sc lv oc) (ms : List M) (p : Bool) (kws : List Keyword) (mds : List M) (f : FA) : Prop := ∃ t, (∀ i, PK (F.X i) kws t) ∧ SemA K ms p mds f t
theorem ev_callAK {k : Nat} {ps ks : List Str} {fd : FD} {is : List Nat} {kws : List Keyword} (D : DefK P w K mg base x k ps pms rm fd 0 ks is) (ha : KV' F ms p kws mds fs) (hk : k ≤ lv := by first | decide | omega) (hm : mds.all (· == .sh) = true := by rfl) (hp : pms.all (· == .sh) = true := by rfl) (hl : pms.length = ((pick is mds).map fun _ => M.sh).length := by rfl)
    (hn : mds.length = ks.length := by rfl) (hm2 : ((pick is mds).map fun _ => M.sh).all (· == .sh) = true := by rfl)
    (hg : GlS sc x := by intro env h; unfold Env.kindOf; rw [h]; rfl) (hdb : (x == ("__debug__" : Str)) = false := by decide)
    (hall : ∀ i, (backToKw pos (keywordEach kws (F.X i).env)).all (·.1.isSome) = true := by intro _; rfl) (hks : ∀ i, (backToKw pos (keywordEach kws (F.X i).env)).filterMap (·.1) = ks := by intro _; rfl)
    (hpl : ∀ i, ((backTo pos (starEach [] (F.X i).env)).any (·.1) || (backToKw pos (keywordEach kws (F.X i).env)).any (·.1.isNone)) = false := by intro _; rfl) :
    EV F ms p (.Call (.Name x p1) [] kws pos) rm (ucallF (pickF is fs) fd) := by
  obtain ⟨t, a1, a2⟩ := ha
  obtain ⟨f, d, h1, h2, h3, h4⟩ := D.ok
  have sem := sem_ucall (E := E0) (rm := rm) (F := fd) (sem_pick is (sem_len (n := ks.length) a2 hn) hm) hm2 hp hl
  refine ⟨fun σ H Q => tLen ks.length t σ H fun zs H1 => Prom K pms rm fd (pick is ([] ++ zs)) H1 Q E0, fun i => ?_, ?_⟩
  · refine pe_callAK (CX := CX0) (k := k) (f := f) (fd := d) (ps := ps) ?_ (F.gd i) ((F.room i).mono hk) (hg _ (F.hsc i)) (by rw [F.hmg]; exact h1) (by rw [F.hK]; exact h2) (by rw [F.hK]; exact h4) pass0 (a1 i) (hall i) (hks i) hdb (hpl i)
    rw [F.hP, F.hw, F.hK, F.hmg, F.hb]
    exact h3
  · intro env σ fps G H d env' Q S e k
    have := sem env σ fps G H d env' Q S e k
    have e2 : (tCall (Prom K pms rm fd) [] E0 (tPick is (tLen ks.length t))) σ H Q = (tLen ks.length t σ H fun zs H1 => Prom K pms rm fd (pick is ([] ++ zs)) H1 Q E0) := by
      show (tLen ks.length t σ H fun zs H1 => Prom K pms rm fd (pick is zs ++ []) H1 Q E0) = _
      congr 1
      funext zs H1
      rw [List.append_nil, List.nil_append]
    rw [← e2]; exact this
theorem kv_nil : KV' F ms true [] [] nilF := ⟨_, fun _ => pk_nil, sem_nil⟩
theorem kv_cons {nm : Option Str} {kpos : Pos} {kws : List Keyword} (ha : EV F ms pa e ma fa) (hs : KV' F ms pb kws mds fs) (hm : (pb || ma == .sh) = true := by rfl) (h1 : noOw ma = true := by rfl) : KV' F ms (pa && pb) (⟨nm, e, kpos⟩ :: kws) (ma :: mds) (consF fa fs) := by
  obtain ⟨t, a1, a2⟩ := ha
  obtain ⟨u, s1, s2⟩ := hs
  exact ⟨_, fun i => pk_cons (a1 i) (s1 i), sem_cons a2 s2 hm (noOw_ne h1)⟩
theorem DefD.def {k : Nat} {ps : List Str} {fd : FD} (D : DefD P w K mg base x k ps pms rm fd []) : Def P w K mg base x k ps pms rm fd := by
  obtain ⟨f, d, ds, dvs, h1, h2, h3, h4, h5, h6⟩ := D.ok
  have hv : dvs = [] := reps_nil.mp (h6 (fun _ => none))
  subst hv
  cases h5
  exact ⟨f, d, h1, h2, h3, h4⟩
/-! a body keeps its promise, for a family -/
/-- the contexts of a def's body -/
structure Bd (K : PySem.W.Frag) (N : List Str) (sc : Scope) (qual : Str) (f : Addr) (lv : Nat) where
  cdv : Value
  A : Around
  outer : List Env
  s : Shared
  H : Hp
  E : XK
  gd : A.guards = some []
  room : Room lv (A.deeper (envOfC qual sc s.heap.objs.size f cdv))
def bodyFm (P : Program) (w : World) (K : PySem.W.Frag) (mg : Str → Option Value) (base : Heap) (N ps : List Str) (sc : Scope) (qual : Str) (f : Addr) (lv : Nat) (S : FnScope N ps sc) : Fm P w K mg base N sc lv none where
  ι := Bd K N sc qual f lv
  X := fun j => (cxOf CX0 P w K mg base N qual sc f j.cdv j.A j.outer j.s j.H j.E).nox
  hP := fun _ => rfl
  hw := fun _ => rfl
  hK := fun _ => rfl
  hmg := fun _ => rfl
  hb := fun _ => rfl
  hN := fun _ => rfl
  hsc := fun _ => rfl
  nd := S.nd
  calm := fun j => rfl
  room := fun j => j.room
  gd := fun j => j.gd
  fn := fun j x h => rfl
  xe := fun _ => rfl
theorem body_okD {qual : Str} {params : Arguments} {bodyS : List Stmt} {scope : Scope} {dvs : List V} {kws : List (Str × V)} {f : Addr} {fd : FuncData} {ps : List Str} {k : Nat} {g : FS}
    (Fd : FunD K x qual params bodyS scope dvs kws f fd) (S : FnScope N ps scope) (hps : ps.length = pms.length) (hN : N.length = pms.length + k) (hpm : ∀ m ∈ pms, m = .sh ∨ ∃ n, m = .ow n) (hw : weakM ms' (rmsOf pms k) = true) (hrm : rm = .sh ∨ ∃ n, rm = .ow n) (hnx : rm = .sh ∨ ∀ env env', g env ≠ some (.nx env'))
    (body : BV (bodyFm P w K mg base N ps scope qual f lv S) rm (rmsOf pms k) (startM pms k) ms' bodyS g) :
    FnG P w K mg base CX0 (lv + 1) f fd ps (Prom K pms rm (defF pms k g)) := by
  refine FnG.of_bodyD Fd S (fun vs H Q E h => by rw [hps]; exact prom_len vs H Q E h) fun cdv A outer s H vs Q E gd hr h => ?_
  obtain ⟨t, ht, sem⟩ := body
  refine ⟨t, ht ⟨cdv, A, outer, s, H, E, gd, hr⟩, ?_⟩
  have hvl := prom_len vs H Q E h
  obtain ⟨ds, fps, G, d, ds', S0, e, kk⟩ := h
  have est : L2.start N vs = vs.map some ++ List.replicate k none := by
    unfold L2.start
    rw [hN, hvl, Nat.add_sub_cancel_left]
  rw [est]
  have S1 : Sat K (startM pms k) (ds ++ List.replicate k .non) (vs.map some ++ List.replicate k none) (fps ++ List.replicate k []) G H :=
    ⟨slots_start S0.sl, by rw [flat_rep]; exact S0.nd, fun a h => by rw [flat_rep] at h; exact S0.out a h, S0.sub⟩
  unfold defF at e
  cases q : g (ds ++ List.replicate k .non) with
  | none => rw [q] at e; cases e
  | some o =>
    rw [q] at e
    refine sem _ _ _ G H o _ S1 q (fun env' σ' f' G' H' eo t1 p1 S2 => ?_) fun d1 env' v σ' f' G' H' eo t1 p1 S2 r2 => ?_
    · subst eo
      cases e
      rw [flat_rep] at t1
      obtain ⟨f3, S3, t3, sub⟩ := S2.weak hw
      obtain ⟨fr, sl, ef⟩ := slots_back t1.gs hpm S0.sl S3.sl fun i n e => p1 i n e
      refine kk .non fr G' H' ?_ ⟨sl, by rw [ef]; exact S3.nd, fun a h => by rw [ef] at h; exact S3.out a h, S3.sub⟩ ?_
      · rw [ef]; exact t1.trans t3
      · rcases hnx with rfl | z
        · show Rep K G' .non .non
          exact rep_non
        · exact absurd q (z _ _)
    · subst eo
      cases e
      rw [flat_rep] at t1 r2
      obtain ⟨fr, sl, ef⟩ := slots_back t1.gs hpm S0.sl S2.sl fun i n e => p1 i n e
      refine kk v fr G' H' ?_ ⟨sl, by rw [ef]; exact S2.nd, fun a h => by rw [ef] at h; exact S2.out a h, S2.sub⟩ ?_
      · rw [ef]; exact t1
      · rw [ef]; exact r2
end
end DL
namespace DL
open PySem PySem.Spec PyProof.Rows L2

/-- never falls through -/
def NoNx (g : FS) : Prop := ∀ env env', g env ≠ some (.nx env')
theorem nn_ret {f : FE} : NoNx (retF f) := fun env env' e => by
  unfold retF at e
  cases q : f env with
  | none => rw [q] at e; cases e
  | some r => rw [q] at e; cases e
theorem nn_none : NoNx (fun _ => none) := fun env env' e => by cases e
theorem nn_seq {g1 g2 : FS} (h : NoNx g2) : NoNx (seqF g1 g2) := fun env env' e => by
  unfold seqF at e
  cases q : g1 env with
  | none => rw [q] at e; cases e
  | some o =>
    rw [q, Option.bind_some] at e
    cases o with
    | nx e1 => exact h _ _ e
    | rt d e1 => cases e
theorem nn_ite {c : FT} {g1 g2 : FS} (h1 : NoNx g1) (h2 : NoNx g2) : NoNx (iteF' c g1 g2) := fun env env' e => by
  unfold iteF' at e
  cases q : c env with
  | none => rw [q] at e; cases e
  | some o =>
    rw [q, Option.bind_some] at e
    split at e
    · exact h1 _ _ e
    · exact h2 _ _ e
section
variable {K : PySem.W.Frag} {ms : List M} {p : Bool} {m ma : M}
/-! ### for over a list, a tuple, a text -/
def iOr (a b : TI) : TI := fun σ H R => a σ H R ∨ b σ H R
def seqD : D → Option (List D)
  | .lst ds => some ds
  | .tup ds => some ds
  | .str x => if x.cps.size ≤ 16777216 then some (signsD x) else none
  | _ => none
def seqIF (f : FE) : FA := fun env => (f env).bind fun q => (seqD q.1).map fun l => (l, q.2)
theorem semI_case {f : FE} {fl ft fx : FA} {tl tt tx : TI} (hl : SemI K ms p (lstF f) tl) (ht : SemI K ms p (tupF f) tt) (hx : SemI K ms p (strF f) tx) : SemI K ms p (seqIF f) (iOr tl (iOr tt tx)) := by
  intro env σ fps G H items env' R S e k
  unfold seqIF at e
  cases q : f env with
  | none => rw [q] at e; cases e
  | some r =>
    obtain ⟨d, e1⟩ := r
    rw [q, Option.bind_some] at e
    cases d with
    | lst ds =>
      cases e
      exact .inl (hl env σ fps G H _ _ R S (by unfold lstF; rw [q]; rfl) k)
    | tup ds =>
      cases e
      exact .inr (.inl (ht env σ fps G H _ _ R S (by unfold tupF; rw [q]; rfl) k))
    | str x =>
      have e' : ((if x.cps.size ≤ 16777216 then some (signsD x) else none).map fun l => (l, e1)) = some (items, env') := e
      split at e'
      · rename_i hz
        cases e'
        refine .inr (.inr (hx env σ fps G H _ _ R S ?_ k))
        unfold strF
        rw [q, Option.bind_some]
        show (if x.cps.size ≤ 16777216 then some (signsD x, env') else none) = _
        rw [if_pos hz]
      · cases e'
    | _ => cases e
/-! ### x[i] = v, of a list, of a table -/
def sOr (a b : TS) : TS := fun De σ H => a De σ H ∨ b De σ H
def putF (j : Nat) (fk fv : FE) : FS := fun env => match setItF j fk fv env with
  | some o => some o
  | none => dputF j fk fv env
theorem sem_put {rm : M} {rms : List M} {j : Nat} {fk fv : FE} {a b : TS} (h1 : SemS K rm rms ms ms (setItF j fk fv) a) (h2 : SemS K rm rms ms ms (dputF j fk fv) b) : SemS K rm rms ms ms (putF j fk fv) (sOr a b) := by
  intro env σ fps G H o De S e kn kr
  unfold putF at e
  split at e
  · rename_i o' q
    cases e
    exact .inl (h1 env σ fps G H _ De S q kn kr)
  · exact .inr (h2 env σ fps G H _ De S e kn kr)
end
theorem PI.or {X : Cx} {tg iter : Expr} {a b : TI} (h1 : PI X tg iter a) (h2 : PI X tg iter b) : PI X tg iter (iOr a b) := ⟨fun pins s σ H R I h => h.elim (h1.run pins s σ H R I) (h2.run pins s σ H R I)⟩
theorem PS.or {X : Cx} {st : Stmt} {a b : TS} (h1 : PS X st a) (h2 : PS X st b) : PS X st (sOr a b) := ⟨fun pins s σ H De I h => h.elim (h1.run pins s σ H De I) (h2.run pins s σ H De I)⟩
section
variable {P : Program} {w : World} {K : PySem.W.Frag} {mg : Str → Option Value} {base : Heap} {N : List Str} {sc : Scope} {lv : Nat} {oc : Option (List Str)} {F : Fm P w K mg base N sc lv oc}
variable {ms ms1 ms2 ms' msL msB rms pms : List M} {rm m ma mb mc : M} {p pa pb pc pi pt pe pk : Bool} {e a b c tg iter elt kx : Expr} {es rest ifs : List Expr} {fa fb fc f fe fk fx : FE} {fs fi : FA} {ga gb g gt : FT} {s1 s2 gs : FS} {pos pos' p1 p2 apos : Pos} {st : Stmt} {sts : List Stmt} {mds : List M} {x : Str} {bb : FG}
theorem iv_seq (h : EV F ms p e .sh f) : IV F ms p tg e (seqIF f) := by
  obtain ⟨t, a1, a2⟩ := h
  refine ⟨_, fun i => ?_, semI_case (fl := lstF f) (ft := tupF f) (fx := strF f) (sem_iList a2) (sem_iTup a2) (sem_iStr a2 (.inl rfl))⟩
  have h1 := pi_know (pi_list (tg := tg) (a1 i))
  have h2 := pi_know (pi_tup (tg := tg) (a1 i))
  rw [F.hK] at h1 h2
  exact PI.or h1 (PI.or h2 (pi_str (a1 i)))
theorem sv_put (j : Nat) {y : Str} (hv : EV F ms pa e .sh fx) (hi : EV F ms pb b mb fk) (h2 : noOw mb = true := by rfl) (hj : ms[j]? = some (.ow 1) := by rfl) (hN : N[j]? = some y := by rfl)
    (hvis : Vis sc y := by first | exact Or.inl rfl | exact Or.inr (Or.inl rfl) | exact Or.inr (Or.inr rfl)) (hd : (y == ("__debug__" : Str)) = false := by decide) (hcd : (y == ("__classdict__" : Str)) = false := by decide)
    (ha : ∀ i v, assign (.Subscript (.Name y p1) b pos') (F.X i).env v = (do
      let ov ← holding [v] (eval (.Name y p1) (F.X i).env)
      let iv ← holding [v, ov] (eval b (F.X i).env)
      standAt pos'
      holding [v, ov, iv] (setItem ov iv v)
      release [v, ov, iv] []) := by intro _ _; rfl)
    (hs : swapsWithSole [.Subscript (.Name y p1) b pos'] e pos.line (envS sc) = pure false := by rfl) (hw : swappedStores [.Subscript (.Name y p1) b pos'] e (envS sc) = pure none := by rfl)
    (h1 : ∀ i, (assignEach [.Subscript (.Name y p1) b pos'] (F.X i).env).map (·.2) = [assign (.Subscript (.Name y p1) b pos') (F.X i).env] := by intro _; rfl)
    (hs2 : swapsWith e (some (.Subscript (.Name y p1) b pos')) pos.line (envS sc) = pure false := by rfl) :
    SV F rm rms ms ms (.Assign [.Subscript (.Name y p1) b pos'] e pos) (putF j fk fx) := by
  obtain ⟨t, a1, a2⟩ := sv_setIt (rm := rm) (rms := rms) j hv hi h2 hj hN hvis hd hcd ha hs hw h1
  obtain ⟨u, b1, b2⟩ := sv_dput (rm := rm) (rms := rms) j hv hi h2 hj hN hvis hd hcd hs2
  exact ⟨_, fun i => PS.or (a1 i) (b1 i), sem_put a2 b2⟩
theorem sv_pre (h : SV F rm rms ms1 ms2 st gs) (w : weakM ms ms1 = true := by rfl) : SV F rm rms ms ms2 st gs := let ⟨t, a1, a2⟩ := h; ⟨t, a1, sem_pre a2 w⟩
end
end DL
namespace DL
open PySem PySem.Spec PyProof.Rows L2

section
variable {K : PySem.W.Frag} {rm : M} {rms ms ms1 ms2 msL msB msC ms' : List M} {p pa pb pc : Bool} {m ma mb mc : M} {fa fb fc : FE} {ta tb tc : TE} {ga gb : FT} {ua ub : TT} {g1 g2 : FS} {t t1 t2 : TS}
theorem Owns.snoc {R : D → V → List Addr → Prop} {d : D} {v : V} {f : List Addr} (h : R d v f) : ∀ {ds : List D} {vs : List V} {fr : List Addr}, Owns R ds vs fr → Owns R (ds ++ [d]) (vs ++ [v]) (fr ++ f)
  | [], vs, fr, r => by
    obtain ⟨rfl, rfl⟩ := r
    exact ⟨v, [], f, [], rfl, by simp, h, rfl, rfl⟩
  | x :: ds, vs, fr, r => by
    obtain ⟨u, q, f1, f2, rfl, rfl, h1, h2⟩ := r
    exact ⟨u, _, f1, _, rfl, by rw [List.append_assoc], h1, Owns.snoc h h2⟩
/-! ### a list of owned things, made by a comprehension -/
theorem sem_lcO {kk : Nat} {f : FA} {wi : TI} {own : List Nat} {b : FG} {g : TG} {gt : FT} {tt : TT} {fe : FE} {te : TE} {n : Nat} {pi pt pe : Bool} (hi : SemI K ms pi f wi) (hg : SemG K (outM n own) (blkM ms own) msB b g)
    (ht : SemT K msB pt gt tt) (he : SemE K msB pe (.ow kk) fe te) (ho : ownOk ms own = true) (hn : ms.length = n) (hw : weakM msB (blkM ms own) = true) :
    SemE K ms (pi && (pt && pe)) (.ow (kk + 1)) (compF f own b gt fe) (tLc wi g tt te own) := by
  intro env σ fps G H d env' Q S e k
  unfold compF at e
  cases q : f env with
  | none => rw [q] at e; cases e
  | some r =>
    obtain ⟨items, e1⟩ := r
    rw [q, Option.bind_some] at e
    cases q2 : lcF b gt fe items e1 with
    | none => rw [q2] at e; cases e
    | some r2 =>
      rw [q2] at e
      cases e
      refine hi env σ fps G H items e1 _ S q fun J f1 G1 H1 t1 p1 S1 ok => ?_
      intro L hL
      have SB := S1.block ho
      have g1L : G1 L = none := S1.sub.free hL
      have tL : Tr f1.flatten G1 H1 (L :: f1.flatten) G1 (upd H1 L (.lst [])) := ⟨Same.refl _, fun _ z => .inl z, fun a h => by
        rcases List.mem_cons.mp h with z | z
        · rw [z]; exact .inr hL
        · exact .inl z, fun a o e _ => by rw [upd_ne (ne_of_none e hL)]; exact e, fun a h => upd_some h⟩
      refine ⟨fun i m H' => m = items.length - i ∧ i ≤ items.length ∧ ∃ acc vs env' fps' G', acc.length ≤ i ∧ Tr f1.flatten G1 H1 (L :: fps'.flatten) G' H' ∧ Same G1 G' ∧ ((pt && pe) = true → Same H1 H') ∧
          Sat K (blkM ms own) env' (wipe σ own) fps' G' H' ∧ H' L = some (.lst vs) ∧ G' L = none ∧ L ∉ fps'.flatten ∧ (∃ fr, Owns (Own K G' H' kk) acc vs fr ∧ fr.Nodup ∧ ∀ a ∈ fr, G' a = none ∧ a ∉ fps'.flatten ∧ a ≠ L ∧ H' a ≠ none ∧ (a ∈ f1.flatten ∨ H1 a = none)) ∧ ∃ r3, lcF b gt fe (items.drop i) env' = some r3 ∧ acc ++ r3.1 = r2.1 ∧ r3.2 = r2.2,
        ⟨items.length, by simp, Nat.zero_le _, [], [], e1, f1, G1, Nat.le_refl _, tL, Same.refl _, fun _ => same_upd hL, SB.allocO hL, upd_same, g1L, fun z => ?_, ⟨[], ⟨rfl, rfl⟩, List.nodup_nil, fun _ z => (nomatch z)⟩, r2, by simpa using q2, rfl, rfl⟩, ?_⟩
      · obtain ⟨o, ho⟩ := S1.there L z
        rw [hL] at ho; cases ho
      rintro i m H2 ⟨rfl, hle, acc, vs, e2, f2, G2, hacc, t2, g2, p2, S2, hv, gL, nL, ⟨fr, rr, nd, out⟩, r3, el, ea, eb⟩
      have hLs : H2 L ≠ none := by rw [hv]; exact fun z => nomatch z
      by_cases hlt : i < items.length
      · have hd : items[i]? = some items[i] := by simp [hlt]
        refine .inr ⟨ok.go i G2 H2 _ g2 S2.sub hd, fun H' => i + 1 ≤ items.length ∧ ∃ acc vs env' fps' G', acc.length ≤ i + 1 ∧ Tr f1.flatten G1 H1 (L :: fps'.flatten) G' H' ∧ Same G1 G' ∧ ((pt && pe) = true → Same H1 H') ∧
            Sat K (blkM ms own) env' (wipe σ own) fps' G' H' ∧ H' L = some (.lst vs) ∧ G' L = none ∧ L ∉ fps'.flatten ∧ (∃ fr, Owns (Own K G' H' kk) acc vs fr ∧ fr.Nodup ∧ ∀ a ∈ fr, G' a = none ∧ a ∉ fps'.flatten ∧ a ≠ L ∧ H' a ≠ none ∧ (a ∈ f1.flatten ∨ H1 a = none)) ∧ ∃ r3, lcF b gt fe (items.drop (i + 1)) env' = some r3 ∧ acc ++ r3.1 = r2.1 ∧ r3.2 = r2.2,
          fun H' z => ⟨items.length - (i + 1), by omega, rfl, z.1, z.2⟩, fun x H3 y => ?_⟩
        obtain ⟨G3, a3, rx⟩ := ok.yld i G2 H2 _ x H3 g2 S2.sub hd y
        have S3 := a3.sat S2
        have t3 : Tr f1.flatten G1 H1 (L :: f2.flatten) G3 H3 := t2.trans ((a3.tr f2.flatten).frame hLs)
        have hv3 : H3 L = some (.lst vs) := a3.hs _ _ hv
        have hL3 : H3 L ≠ none := by rw [hv3]; exact fun z => nomatch z
        have gL3 : G3 L = none := by
          cases e : G3 L with
          | none => rfl
          | some o => rcases a3.gn L (by rw [e]; exact fun z => nomatch z) with z | z
                      · exact absurd gL z
                      · exact absurd z hLs
        have p3 : (pt && pe) = true → Same H1 H3 := fun hp => (p2 hp).trans a3.hs
        have rr3 : Owns (Own K G3 H3 kk) acc vs fr := rr.imp fun d v f q r => r.keep a3.gs fun a _ o e => a3.hs a o e
        have out3 : ∀ a ∈ fr, G3 a = none ∧ a ∉ f2.flatten ∧ a ≠ L ∧ H3 a ≠ none ∧ (a ∈ f1.flatten ∨ H1 a = none) := fun a ha => by
          obtain ⟨z1, z2, z3, z4, z5⟩ := out a ha
          refine ⟨?_, z2, z3, ?_, z5⟩
          · cases e : G3 a with
            | none => rfl
            | some o => rcases a3.gn a (by rw [e]; exact fun z => nomatch z) with z | z
                        · exact absurd z1 z
                        · exact absurd z z4
          · cases e : H2 a with
            | none => exact absurd e z4
            | some o => rw [a3.hs a o e]; exact fun z => nomatch z
        rw [List.drop_eq_getElem_cons hlt] at el
        have el' : ((b items[i] e2).bind fun e1 => (gt e1).bind fun q => if q.1 = true then (fe q.2).bind fun x => (lcF b gt fe (items.drop (i + 1)) x.2).map fun r => (x.1 :: r.1, r.2)
            else lcF b gt fe (items.drop (i + 1)) q.2) = some r3 := el
        cases qb : b items[i] e2 with
        | none => rw [qb] at el'; cases el'
        | some e3 =>
          rw [qb, Option.bind_some] at el'
          refine hg e2 (wipe σ own) f2 G3 H3 _ x e3 _ S3 rx qb fun σ4 f4 s4 p4 S4 => ?_
          have hlen4 : σ4.length = (wipe σ own).length := by
            have h1 := S4.sl.len.2.1
            have h2 := S3.sl.len.2.1
            have h3 : msB.length = (blkM ms own).length := by
              have : ∀ (a b : List M), weakM a b = true → a.length = b.length := by
                intro a
                induction a with
                | nil => intro b h; cases b with
                  | nil => rfl
                  | cons _ _ => simp [weakM] at h
                | cons x a ih => intro b h; cases b with
                  | nil => simp [weakM] at h
                  | cons y b => simp only [weakM, Bool.and_eq_true] at h; simp [ih b h.2]
              exact this _ _ hw
            rw [h1, h2, h3]
          have agree : ∀ (j : Nat), j ∉ own → σ4[j]? = (wipe σ own)[j]? := fun j hj => by
            by_cases hjn : j < n
            · refine p4 j 0 ?_
              unfold outM
              rw [List.getElem?_map, List.getElem?_range hjn]
              simp [hj]
            · have h1 : σ4.length = n := by rw [hlen4, wipe_length, ← hn]; exact S1.sl.len.2.1
              rw [List.getElem?_eq_none (by omega), List.getElem?_eq_none (by rw [← hlen4]; omega)]
          have weq : wipe σ4 own = wipe σ own := by
            have h1 : wipe σ4 own = wipe (wipe σ own) own := wipe_eq hlen4 agree
            rw [h1]
            exact wipe_eq (wipe_length _ _) fun j hj => by rw [wipe_get, if_neg hj]
          refine ⟨weq, ?_⟩
          have t4 : Tr f1.flatten G1 H1 (L :: f4.flatten) G3 H3 := ⟨t3.gs, t3.gn, fun a ha => by
            rcases List.mem_cons.mp ha with z | z
            · exact t3.fp a (by rw [z]; exact List.mem_cons_self)
            · exact t3.fp a (List.mem_cons_of_mem _ (s4 a z)), t3.fr, t3.th⟩
          have nL4 : L ∉ f4.flatten := fun z => nL (s4 L z)
          -- back to the block's slots
          have back : ∀ {env5 : List D} {f5 : List (List Addr)} {G5 H5 : Hp}, Sat K msB env5 σ4 f5 G5 H5 → ∃ f6, Sat K (blkM ms own) env5 (wipe σ own) f6 G5 H5 ∧ (∀ a ∈ f6.flatten, a ∈ f5.flatten) := fun {env5 f5 G5 H5} S5 => by
            obtain ⟨f6, S6, _, sub⟩ := S5.weak hw
            refine ⟨f6, ⟨S6.sl.sig hlen4.symm fun j hj => ?_, S6.nd, S6.out, S6.sub⟩, sub⟩
            by_cases h : j ∈ own
            · by_cases hjn : j < ms.length
              · exact absurd (by rw [blkM_get, if_pos h, if_pos hjn]) hj
              · have h1 : (wipe σ own).length = ms.length := by rw [wipe_length]; exact S1.sl.len.2.1
                rw [List.getElem?_eq_none (by omega), List.getElem?_eq_none (by rw [hlen4]; omega)]
            · exact (agree j h).symm
          cases qt : gt e3 with
          | none => rw [qt] at el'; cases el'
          | some c5 =>
            obtain ⟨c, e5⟩ := c5
            rw [qt, Option.bind_some] at el'
            refine ht e3 σ4 f4 G3 H3 c e5 _ S4 qt fun f5 G5 H5 t5 p5 S5 => ?_
            have hv5 : H5 L = some (.lst vs) := t5.fr _ _ hv3 nL4
            have hL5 : H5 L ≠ none := by rw [hv5]; exact fun z => nomatch z
            have t5' : Tr f1.flatten G1 H1 (L :: f5.flatten) G5 H5 := t4.trans (t5.frame hL3)
            have gL5 : G5 L = none := by
              cases e : G5 L with
              | none => rfl
              | some o => rcases t5.gn L (by rw [e]; exact fun z => nomatch z) with z | z | z
                          · exact absurd gL3 z
                          · exact absurd z hL3
                          · exact absurd z nL4
            have nL5 : L ∉ f5.flatten := fun z => (t5.fp L z).elim nL4 hL3
            have rr5 : Owns (Own K G5 H5 kk) acc vs fr := rr3.imp fun d v f q r => r.keep t5.gs fun a ha o e => t5.fr a o e fun z => (out3 a (q a ha)).2.1 (s4 a z)
            have out5 : ∀ a ∈ fr, G5 a = none ∧ a ∉ f5.flatten ∧ a ≠ L ∧ H5 a ≠ none ∧ (a ∈ f1.flatten ∨ H1 a = none) := fun a ha => by
              obtain ⟨z1, z2, z3, z4, z5⟩ := out3 a ha
              refine ⟨?_, fun z => (t5.fp a z).elim (fun y => z2 (s4 a y)) z4, z3, t5.th a z4, z5⟩
              cases e : G5 a with
              | none => rfl
              | some o => rcases t5.gn a (by rw [e]; exact fun z => nomatch z) with z | z | z
                          · exact absurd z1 z
                          · exact absurd z z4
                          · exact absurd (s4 a z) z2
            cases c with
            | false =>
              rw [if_neg Bool.false_ne_true] at el' ⊢
              obtain ⟨f6, S6, sub⟩ := back S5
              exact ⟨hlt, acc, vs, e5, f6, G5, by omega, ⟨t5'.gs, t5'.gn, fun a ha => by
                rcases List.mem_cons.mp ha with z | z
                · exact t5'.fp a (by rw [z]; exact List.mem_cons_self)
                · exact t5'.fp a (List.mem_cons_of_mem _ (sub a z)), t5'.fr, t5'.th⟩, (g2.trans a3.gs).trans t5.gs, fun hp => (p3 hp).trans (p5 (by
                  simp only [Bool.and_eq_true] at hp; exact hp.1)), S6, hv5, gL5, fun z => nL5 (sub L z), ⟨fr, rr5, nd, fun a ha => ⟨(out5 a ha).1, fun z => (out5 a ha).2.1 (sub a z), (out5 a ha).2.2⟩⟩, r3, el', ea, eb⟩
            | true =>
              rw [if_pos rfl] at el' ⊢
              simp only at el'
              cases qe : fe e5 with
              | none => rw [qe] at el'; cases el'
              | some x7 =>
                obtain ⟨dx, e7⟩ := x7
                rw [qe, Option.bind_some] at el'
                simp only at el'
                cases ql : lcF b gt fe (items.drop (i + 1)) e7 with
                | none => rw [ql] at el'; cases el'
                | some r8 =>
                  rw [ql] at el'
                  cases el'
                  refine he e5 σ4 f5 G5 H5 dx e7 _ S5 qe fun y f7 G7 H7 t7 p7 S7 r7 => ?_
                  obtain ⟨fp, r7', ndp, fre⟩ := (show ∃ fp, Own K G7 H7 kk dx y fp ∧ Fresh f5.flatten H5 f7.flatten G7 fp from r7)
                  have hv7 : H7 L = some (.lst vs) := t7.fr _ _ hv5 nL5
                  have hL7 : H7 L ≠ none := by rw [hv7]; exact fun z => nomatch z
                  have gL7 : G7 L = none := by
                    cases e : G7 L with
                    | none => rfl
                    | some o => rcases t7.gn L (by rw [e]; exact fun z => nomatch z) with z | z | z
                                · exact absurd gL5 z
                                · exact absurd z hL5
                                · exact absurd z nL5
                  have nL7 : L ∉ f7.flatten := fun z => (t7.fp L z).elim nL5 hL5
                  obtain ⟨f8, S8, sub⟩ := back S7
                  have t7' : Tr f1.flatten G1 H1 (L :: f7.flatten) G7 H7 := t5'.trans (t7.frame hL5)
                  have rr7 : Owns (Own K G7 H7 kk) acc vs fr := rr5.imp fun d v f q r => r.keep t7.gs fun a ha o e => t7.fr a o e fun z => (out5 a (q a ha)).2.1 z
                  have out7 : ∀ a ∈ fr, G7 a = none ∧ a ∉ f7.flatten ∧ a ≠ L ∧ H7 a ≠ none ∧ (a ∈ f1.flatten ∨ H1 a = none) := fun a ha => by
                    obtain ⟨z1, z2, z3, z4, z5⟩ := out5 a ha
                    refine ⟨?_, fun z => (t7.fp a z).elim z2 z4, z3, t7.th a z4, z5⟩
                    cases e : G7 a with
                    | none => rfl
                    | some o => rcases t7.gn a (by rw [e]; exact fun z => nomatch z) with z | z | z
                                · exact absurd z1 z
                                · exact absurd z z4
                                · exact absurd z z2
                  have Lfp : L ∉ fp := fun z => (fre L z).2.2.elim nL5 hL5
                  have apart : ∀ a ∈ fr, ∀ b' ∈ fp, a ≠ b' := fun a ha b' hb z => by
                    subst z
                    exact (fre a hb).2.2.elim (out5 a ha).2.1 (out5 a ha).2.2.2.1
                  have thp : ∀ a ∈ fp, H7 a ≠ none := fun a ha z => by
                    obtain ⟨u, hu⟩ := r7'.there a ha
                    rw [hu] at z; cases z
                  have keepW : ∀ {d v f}, (∀ a ∈ f, a ≠ L) → Own K G7 H7 kk d v f → Own K G7 (upd H7 L (.lst (vs ++ [y]))) kk d v f := fun hne r => r.keep (Same.refl _) fun a ha o e => by rw [upd_ne (hne a ha)]; exact e
                  have own8 : Owns (Own K G7 (upd H7 L (.lst (vs ++ [y]))) kk) (acc ++ [dx]) (vs ++ [y]) (fr ++ fp) := (rr7.imp fun d v f q r => keepW (fun a ha => (out7 a (q a ha)).2.2.1) r).snoc (keepW (fun a ha z => Lfp (by rw [← z]; exact ha)) r7')
                  have old7 : ∀ a ∈ fp, a ∈ f1.flatten ∨ H1 a = none := fun a ha => by
                    rcases (fre a ha).2.2 with z | z
                    · rcases t5'.fp a (List.mem_cons_of_mem _ z) with y | y
                      · exact .inl y
                      · exact .inr y
                    · exact .inr (t5'.back z)
                  have hz : vs.length < sizeLine := by
                    rw [rr7.length]
                    have := ok.len
                    omega
                  refine ⟨vs, hv7, hz, hlt, acc ++ [dx], vs ++ [y], e7, f8, G7, by simp; omega, ?_, ((g2.trans a3.gs).trans t5.gs).trans t7.gs, fun hp => ?_, ?_, upd_same, gL7, fun z => nL7 (sub L z), ⟨fr ++ fp, own8, List.nodup_append.mpr ⟨nd, ndp, apart⟩, fun a ha => ?_⟩, r8, ql, by simpa using ea, eb⟩
                  · have t9 : Tr (L :: f7.flatten) G7 H7 (L :: f7.flatten) G7 (upd H7 L (.lst (vs ++ [y]))) := Tr.wr hL7 List.mem_cons_self
                    have t10 := t7'.trans t9
                    exact ⟨t10.gs, t10.gn, fun a ha => by
                      rcases List.mem_cons.mp ha with z | z
                      · exact t10.fp a (by rw [z]; exact List.mem_cons_self)
                      · exact t10.fp a (List.mem_cons_of_mem _ (sub a z)), t10.fr, t10.th⟩
                  · have hp' := hp
                    simp only [Bool.and_eq_true] at hp
                    intro a o ha
                    have hne : a ≠ L := fun z => by rw [z, hL] at ha; cases ha
                    rw [upd_ne hne]
                    exact p7 hp.2 _ _ (p5 hp.1 _ _ (p3 hp' _ _ ha))
                  · refine S8.keep (Same.refl _) (fun a o ha => ?_) S8.out fun a ha o e => ?_
                    · rw [upd_ne (fun z => by rw [z, gL7] at ha; cases ha)]; exact S8.sub _ _ ha
                    · rw [upd_ne (fun z => nL7 (sub L (by rw [← z]; exact ha)))]; exact e
                  · rcases List.mem_append.mp ha with z | z
                    · obtain ⟨z1, z2, z3, z4, z5⟩ := out7 a z
                      exact ⟨z1, fun y => z2 (sub a y), z3, upd_some z4, z5⟩
                    · exact ⟨(fre a z).1, fun y => (fre a z).2.1 (sub a y), fun y => Lfp (by rw [← y]; exact z), upd_some (thp a z), old7 a z⟩
      · have hz : i = items.length := by omega
        subst hz
        rw [List.drop_length] at el
        cases el
        simp only [List.append_nil] at ea
        refine .inl ⟨ok.stop _ G2 H2 g2 S2.sub (Nat.le_refl _), ?_⟩
        have S9 : Sat K ms (restD e1 e2 own) σ f2 G2 H2 := S1.unblock ho S2 g2
        rw [show e2 = r2.2 from eb] at S9
        have t9 : Tr fps.flatten G H (L :: f2.flatten) G2 H2 := t1.trans t2
        refine k (.ref L) f2 G2 H2 ⟨t9.gs, t9.gn, fun a ha => t9.fp a (List.mem_cons_of_mem _ ha), t9.fr, t9.th⟩ (fun hp => ?_) S9 ⟨L :: fr, ⟨L, fr, rfl, rfl, vs, hv, ?_⟩, List.nodup_cons.mpr ⟨fun z => (out L z).2.2.1 rfl, nd⟩, fun a ha => ?_⟩
        · simp only [Bool.and_eq_true] at hp
          exact (p1 hp.1).trans (p2 (by simp only [Bool.and_eq_true]; exact hp.2))
        · rw [← ea]; exact rr
        · rcases List.mem_cons.mp ha with z | z
          · rw [z]; exact ⟨gL, nL, .inr (t1.back hL)⟩
          · obtain ⟨z1, z2, z3, z4, z5⟩ := out a z
            exact ⟨z1, z2, z5.elim (fun y => t1.fp a y) fun y => .inr (t1.back y)⟩

/-! ### for x in (a new list of owned things) -/
def forOF (f : FE) (i : Nat) (body : FS) : FS := fun env => (f env).bind fun q => match q.1 with
  | .lst ds => loopF (nameG i) body ds q.2
  | _ => none
theorem sem_forO {kk i : Nat} {f : FE} {body : FS} {tbd : TS} (hf : SemE K msL p (.ow (kk + 1)) f ta) (hb : SemS K rm rms (msL.set i (.ow kk)) msL body tbd) (hi : rms[i]? = some .un) : SemS K rm rms msL msL (forOF f i body) (tFor (iList K ta) (gName i) tbd) := by
  intro env σ fps G H o De S e kn kr
  unfold forOF at e
  cases q : f env with
  | none => rw [q] at e; cases e
  | some r =>
    obtain ⟨d, e1⟩ := r
    rw [q, Option.bind_some] at e
    cases d with
    | lst items =>
      have el0 : loopF (nameG i) body items e1 = some o := e
      refine hf env σ fps G H _ e1 _ S q fun v f1 G1 H1 t1 p1 S1 ⟨fp, ow, nd, fre⟩ => ?_
      obtain ⟨a, fr0, rfl, rfl, vs, ha, ow⟩ := ow
      have ndc := List.nodup_cons.mp nd
      -- the list itself is shared from here
      let G2 : Hp := upd G1 a (.lst vs)
      have gaN : G1 a = none := (fre a List.mem_cons_self).1
      have g12 : Same G1 G2 := same_upd gaN
      have s2H : Same G2 H1 := fun b u z => by
        have z' : upd G1 a (.lst vs) b = some u := z
        by_cases y : b = a
        · rw [y, upd_same] at z'; rw [y, ha]; exact z'
        · rw [upd_ne y] at z'; exact S1.sub b u z'
      have t12 : Tr fps.flatten G H f1.flatten G2 H1 := ⟨t1.gs.trans g12, fun b z => by
        by_cases y : b = a
        · rw [y]; exact ((fre a List.mem_cons_self).2.2).elim (fun w => .inr (.inr w)) fun w => .inr (.inl w)
        · exact t1.gn b (by
            have z' : upd G1 a (.lst vs) b ≠ none := z
            rw [upd_ne y] at z'; exact z'), t1.fp, t1.fr, t1.th⟩
      have S2 : Sat K msL e1 σ f1 G2 H1 := S1.keep g12 s2H (fun b hb => by
        show upd G1 a (.lst vs) b = none
        rw [upd_ne (fun y => (fre a List.mem_cons_self).2.1 (by rw [← y]; exact hb))]
        exact S1.out b hb) fun _ _ _ e => e
      have sq : ∀ {G' H'}, Same G2 G' → Same G' H' → SqL K H' a vs := fun s1 s2 => SqL.of (s2 _ _ (s1 _ _ upd_same))
      have hlen : vs.length = items.length := ow.length
      refine ⟨a, rfl, ⟨vs, SqL.of ha⟩, ?_⟩
      refine ⟨fun n m σ' H' => m = items.length - n ∧ n ≤ items.length ∧ ∃ env' fps' G' fr, Tr fps.flatten G H fps'.flatten G' H' ∧ Same G2 G' ∧ Pins rms σ σ' ∧ Sat K msL env' σ' fps' G' H' ∧ loopF (nameG i) body (items.drop n) env' = some o ∧
          Owns (Own K G' H' kk) (items.drop n) (vs.drop n) fr ∧ fr.Nodup ∧ ∀ b ∈ fr, G' b = none ∧ b ∉ fps'.flatten ∧ H' b ≠ none ∧ (b ∈ fps.flatten ∨ H b = none),
        ⟨items.length, by simp, Nat.zero_le _, e1, f1, G2, fr0, t12, Same.refl _, Pins.refl, S2, by simpa using el0, by simpa using ow.imp (fun d v f q r => r.keep g12 fun b hb o e => e), ndc.2, fun b hb => ?_⟩, ?_⟩
      · have z := fre b (List.mem_cons_of_mem _ hb)
        refine ⟨?_, z.2.1, fun y => ?_, z.2.2⟩
        · show upd G1 a (.lst vs) b = none
          rw [upd_ne (fun y => ndc.1 (by rw [← y]; exact hb))]; exact z.1
        · obtain ⟨u, hu⟩ := ow.there (fun d v f r => r.there) b hb
          rw [hu] at y; cases y
      rintro n m σ2 H2 ⟨rfl, hle, e2, f2, G3, fr, t2, g2, p2, S3, el, own, ndf, out⟩
      by_cases hlt : n < items.length
      · have hlv : n < vs.length := by omega
        refine .inr ⟨⟨vs, vs[n], sq g2 S3.sub, by simp [hlv]⟩, fun σ3 H3 => n + 1 ≤ items.length ∧ ∃ env' fps' G' fr, Tr fps.flatten G H fps'.flatten G' H3 ∧ Same G2 G' ∧ Pins rms σ σ3 ∧ Sat K msL env' σ3 fps' G' H3 ∧ loopF (nameG i) body (items.drop (n + 1)) env' = some o ∧
            Owns (Own K G' H3 kk) (items.drop (n + 1)) (vs.drop (n + 1)) fr ∧ fr.Nodup ∧ ∀ b ∈ fr, G' b = none ∧ b ∉ fps'.flatten ∧ H3 b ≠ none ∧ (b ∈ fps.flatten ∨ H b = none),
          fun σ3 H3 z => ⟨items.length - (n + 1), by omega, rfl, z.1, z.2⟩, fun x H3 y => ?_⟩
        obtain ⟨eH, y⟩ := y
        subst eH
        have hx := y vs (sq g2 S3.sub)
        rw [List.getElem?_eq_getElem hlv] at hx
        have hx' : vs[n] = x := Option.some.inj hx
        rw [List.drop_eq_getElem_cons hlt] at el own
        rw [List.drop_eq_getElem_cons hlv] at own
        obtain ⟨v, q', fa1, fa2, ev, rfl, own1, own2⟩ := own
        obtain ⟨rfl, rfl⟩ := List.cons.inj ev
        obtain ⟨n1, n2, n3⟩ := List.nodup_append.mp ndf
        have el' : (body (e2.set i items[n])).bind (fun o => match o with
          | .nx e2 => loopF (nameG i) body (items.drop (n + 1)) e2
          | .rt d e2 => some (.rt d e2)) = some o := el
        have o1 : ∀ b ∈ fa1, G3 b = none ∧ b ∉ f2.flatten ∧ H3 b ≠ none ∧ (b ∈ fps.flatten ∨ H b = none) := fun b hb => out b (List.mem_append_left _ hb)
        have o2 : ∀ b ∈ fa2, G3 b = none ∧ b ∉ f2.flatten ∧ H3 b ≠ none ∧ (b ∈ fps.flatten ∨ H b = none) := fun b hb => out b (List.mem_append_right _ hb)
        have S4 : Sat K (msL.set i (.ow kk)) (e2.set i items[n]) (σ2.set i (some x)) (f2.set i fa1) G3 H3 := S3.set i (m := .ow kk) ⟨x, rfl, by rw [← hx']; exact own1⟩ n1 (fun b hb => (o1 b hb).1) (fun b hb hz => absurd hz (o1 b hb).2.1)
        have sub4 : ∀ b ∈ (f2.set i fa1).flatten, b ∈ f2.flatten ∨ b ∈ fa1 := fun b hb => (mem_flatten_set hb).elim .inr .inl
        have t4 : Tr fps.flatten G H (f2.set i fa1).flatten G3 H3 := ⟨t2.gs, t2.gn, fun b hb => (sub4 b hb).elim (fun z => t2.fp b z) fun z => (o1 b z).2.2.2, t2.fr, t2.th⟩
        show (tbd _ (σ2.set i (some x)) H3)
        have pi : Pins rms σ2 (σ2.set i (some x)) := pins_set hi
        cases qo : body (e2.set i items[n]) with
        | none => rw [qo] at el'; cases el'
        | some o3 =>
          rw [qo, Option.bind_some] at el'
          refine hb _ _ _ G3 H3 o3 _ S4 qo (fun e5 σ5 f5 G5 H5 eo t5 p5 S5 => ?_) fun d e5 v σ5 f5 G5 H5 eo t5 p5 S5 r5 => ?_
          · subst eo
            have off : ∀ b ∈ fa2, b ∉ (f2.set i fa1).flatten := fun b hb z => (sub4 b z).elim (o2 b hb).2.1 fun w => n3 b w b hb rfl
            refine ⟨hlt, e5, f5, G5, fa2, t4.trans t5, g2.trans t5.gs, (p2.trans pi).trans p5, S5, el', own2.imp fun d v f q r => r.keep t5.gs fun b hb o e => t5.fr b o e (off b (q b hb)), n2, fun b hb => ⟨?_, fun z => (t5.fp b z).elim (off b hb) (o2 b hb).2.2.1, t5.th b (o2 b hb).2.2.1, (o2 b hb).2.2.2⟩⟩
            cases e : G5 b with
            | none => rfl
            | some o => rcases t5.gn b (by rw [e]; exact fun z => nomatch z) with z | z | z
                        · exact absurd (o2 b hb).1 z
                        · exact absurd z (o2 b hb).2.2.1
                        · exact absurd z (off b hb)
          · subst eo
            cases el'
            exact kr d e5 v σ5 f5 G5 H5 rfl (t4.trans t5) ((p2.trans pi).trans p5) S5 (r5.old t4)
      · have hz : n = items.length := by omega
        subst hz
        rw [List.drop_length] at el
        cases el
        exact .inl ⟨⟨vs, sq g2 S3.sub, by omega⟩, kn e2 σ2 f2 G3 H2 rfl t2 p2 S3⟩
    | _ => cases e
end
section
variable {P : Program} {w : World} {K : PySem.W.Frag} {mg : Str → Option Value} {base : Heap} {N : List Str} {sc : Scope} {lv : Nat} {oc : Option (List Str)} {F : Fm P w K mg base N sc lv oc}
variable {ms ms1 ms2 ms' msL msB rms pms : List M} {rm m ma mb mc : M} {p pa pb pc pi pt pe pk : Bool} {e a b c tg iter elt kx : Expr} {es rest ifs : List Expr} {fa fb fc f fe fk fx : FE} {fs fi : FA} {ga gb g gt : FT} {s1 s2 gs : FS} {pos pos' p1 p2 apos : Pos} {st : Stmt} {sts : List Stmt} {mds : List M} {x : Str} {bb : FG}
theorem ev_lcO {kk : Nat} {scope : Scope} {own : List (Str × Nat)} (hi : IV F ms pi tg iter fi) (hg : GV (F.blk scope) (outM N.length (own.map (·.2))) (blkM ms (own.map (·.2))) msB tg bb) (ht : CV (F.blk scope) msB pt ifs gt) (he : EV (F.blk scope) msB pe elt (.ow kk) fe)
    (ok : blkC N sc scope own = true := by decide +kernel) (ho : ownOk ms (own.map (·.2)) = true := by rfl) (hn : ms.length = N.length := by rfl) (hw : weakM msB (blkM ms (own.map (·.2))) = true := by rfl)
    (hs : ∀ i x, foldedSetIterable iter (F.X i).env x = pure x := by intro _ _; rfl) :
    EV F ms (pi && (pt && pe)) (.ListComp elt [⟨tg, iter, ifs, 0⟩] scope pos) (.ow (kk + 1)) (compF fi (own.map (·.2)) bb gt fe) := by
  obtain ⟨wi, i1, i2⟩ := hi
  obtain ⟨g0, g1, g2⟩ := hg
  obtain ⟨tt, t1, t2⟩ := ht
  obtain ⟨te, e1, e2⟩ := he
  refine ⟨_, fun i => pe_lc (own := own) (F.calm i) (by rw [F.hN]; exact F.nd) (i1 i) (by rw [F.hN, F.hsc]; exact blkOk_by ok) (fun s H C cl fp => g1 (i, s, H, C, cl, fp)) (fun s H C cl fp => t1 (i, s, H, C, cl, fp)) (fun s H C cl fp => e1 (i, s, H, C, cl, fp)) (hs i), sem_lcO i2 g2 t2 e2 ho hn hw⟩
theorem sv_forO (i : Nat) {kk : Nat} {y : Str} {body : List Stmt} (hf : EV F msL p iter (.ow (kk + 1)) f) (hb : BV F rm rms (msL.set i (.ow kk)) msL body gs) (hi : rms[i]? = some .un := by rfl) (hN : N[i]? = some y := by rfl)
    (hst : StoreOk sc oc y := by first | exact ⟨Or.inl rfl, Or.inl rfl⟩ | exact ⟨Or.inr rfl, Or.inr rfl⟩) (hs : ∀ i x, foldedSetIterable iter (F.X i).env x = pure x := by intro _ _; rfl) :
    SV F rm rms msL msL (.For (.Name y p1) iter body [] pos) (forOF f i gs) := by
  obtain ⟨t, a1, a2⟩ := hf
  obtain ⟨v, b1, b2⟩ := hb
  refine ⟨_, fun q => ?_, sem_forO a2 b2 hi⟩
  have h1 := pi_list (tg := .Name y p1) (a1 q)
  rw [F.hK] at h1
  exact ps_for (by rw [F.xe]; exact PassesOwn.never) (F.calm q) h1 (pg_name (by rw [F.hN]; exact F.nd) (by rw [F.hN]; exact hN) (hst.loc q) (hst.fn q)) (b1 q) (hs q)
end
end DL
namespace DL
open PySem PySem.Spec PyProof.Rows L2
theorem FnG.no {P : Program} {w : World} {K : PySem.W.Frag} {mg : Str → Option Value} {base : Heap} {k : Nat} {f : Addr} {fd : FuncData} {ps : List Str} {sp : Sp} (h : ∀ vs H Q E, ¬ sp vs H Q E) : FnG P w K mg base CX0 k f fd ps sp :=
  ⟨fun xs H Q E z => absurd z (h _ _ _ _), fun A below s H args us xs Q E _ _ _ _ _ z => absurd z (h _ _ _ _)⟩
section
variable {P : Program} {w : World} {K : PySem.W.Frag} {mg : Str → Option Value} {base : Heap} {N : List Str} {sc : Scope} {lv : Nat} {oc : Option (List Str)} {F : Fm P w K mg base N sc lv oc}
variable {ms ms1 ms2 ms' rms : List M} {rm : M} {st : Stmt} {gs : FS}
theorem sv_freezeEnd (i : Nat) {n : Nat} (h : SV F rm rms ms ms1 st gs) (hi : ms1[i]? = some (.ow n) := by rfl) : SV F rm rms ms (ms1.set i .sh) st gs := let ⟨t, a1, a2⟩ := h; ⟨t, a1, sem_freezeEnd i hi a2⟩
end
end DL
namespace DL
open PySem PySem.Spec PyProof.Rows L2 RZ
section
variable {K : PySem.W.Frag} {ms : List M} {p : Bool}
/-! ### zip of two lists, of two tuples -/
def zipAF (fs : FA) : FA := fun env => (fs env).bind fun q => match q.1 with
  | [.lst ds, .lst es] => some (zipD ds es, q.2)
  | [.tup ds, .tup es] => some (zipD ds es, q.2)
  | _ => none
theorem sem_iZipA {fs : FA} {ts : TA} (h : SemA K ms p [.sh, .sh] fs ts) : SemI K ms p (zipAF fs) (iKnow (iZipA K ts)) := by
  intro env σ fps G H items env' R S e k
  unfold zipAF at e
  cases q : fs env with
  | none => rw [q] at e; cases e
  | some r =>
    obtain ⟨ds, e1⟩ := r
    rw [q, Option.bind_some] at e
    simp only at e
    split at e
    · rename_i l l2
      cases e
      refine h env σ fps G H _ _ _ S q fun vs f1 G1 H1 t1 p1 S1 r1 => ?_
      obtain ⟨v, u, rfl, rv, ru⟩ := r1.two
      have rv' : Rep K G1 (.lst l) v := rv
      unfold Rep at rv'
      obtain ⟨a, vs, rfl, ha, rr⟩ := rv'
      have ru' : Rep K G1 (.lst l2) u := ru
      unfold Rep at ru'
      obtain ⟨b, us, rfl, hb, rr2⟩ := ru'
      have hq : ∀ G H, Same G1 G → Same G H → SqL K H a vs := fun G H s1 s2 => SqL.of (s2 _ _ (s1 _ _ ha))
      have hq2 : ∀ G H, Same G1 G → Same G H → SqL K H b us := fun G H s1 s2 => SqL.of (s2 _ _ (s1 _ _ hb))
      refine ⟨a, b, vs, us, rfl, .inl ⟨SqL.of (S1.sub _ _ ha), SqL.of (S1.sub _ _ hb), fun hl => k _ f1 G1 H1 t1 p1 S1 ⟨?_, fun i G H s1 s2 hi => ?_, fun i G H d s1 s2 hi => ?_, fun i G H d x H' s1 s2 hi y => ?_⟩⟩⟩
      · rw [zipD_length, ← rr.length]
        have := (hl a).1 vs (.inl (S1.sub _ _ ha))
        omega
      · rw [zipD_length] at hi
        refine ⟨vs, us, hq G H s1 s2, hq2 G H s1 s2, ?_⟩
        rw [rr.length, rr2.length]
        omega
      · obtain ⟨x, y, e1, e2, _⟩ := zipD_get i _ _ _ hi
        obtain ⟨w, hw, _⟩ := rr.get e1
        obtain ⟨z, hz, _⟩ := rr2.get e2
        exact ⟨vs, us, w, z, hq G H s1 s2, hq2 G H s1 s2, hw, hz⟩
      · obtain ⟨T, x1, y1, ex, hT, eH, y1', y2'⟩ := y
        subst ex eH
        obtain ⟨x, y, e1, e2, rfl⟩ := zipD_get i _ _ _ hi
        obtain ⟨w, hw, rw'⟩ := rr.get e1
        obtain ⟨z, hz, rz'⟩ := rr2.get e2
        have h1 := y1' vs (hq _ _ s1 s2)
        rw [hw] at h1
        obtain rfl : w = x1 := Option.some.inj h1
        have h2 := y2' us (hq2 _ _ s1 s2)
        rw [hz] at h2
        obtain rfl : z = y1 := Option.some.inj h2
        exact ⟨upd G T (.tup [w, z]), Al.sh s2 hT, rep_tup (.cons (rw'.same s1) (.cons (rz'.same s1) .nil)) (s2.free hT)⟩
    · rename_i l l2
      cases e
      refine h env σ fps G H _ _ _ S q fun vs f1 G1 H1 t1 p1 S1 r1 => ?_
      obtain ⟨v, u, rfl, rv, ru⟩ := r1.two
      have rv' : Rep K G1 (.tup l) v := rv
      unfold Rep at rv'
      obtain ⟨a, vs, rfl, ha, rr⟩ := rv'
      have ru' : Rep K G1 (.tup l2) u := ru
      unfold Rep at ru'
      obtain ⟨b, us, rfl, hb, rr2⟩ := ru'
      have hq : ∀ G H, Same G1 G → Same G H → SqT K H a vs := fun G H s1 s2 => SqT.of (s2 _ _ (s1 _ _ ha))
      have hq2 : ∀ G H, Same G1 G → Same G H → SqT K H b us := fun G H s1 s2 => SqT.of (s2 _ _ (s1 _ _ hb))
      refine ⟨a, b, vs, us, rfl, .inr ⟨SqT.of (S1.sub _ _ ha), SqT.of (S1.sub _ _ hb), fun hl => k _ f1 G1 H1 t1 p1 S1 ⟨?_, fun i G H s1 s2 hi => ?_, fun i G H d s1 s2 hi => ?_, fun i G H d x H' s1 s2 hi y => ?_⟩⟩⟩
      · rw [zipD_length, ← rr.length]
        have := (hl a).2.1 vs (.inl (S1.sub _ _ ha))
        omega
      · rw [zipD_length] at hi
        refine ⟨vs, us, hq G H s1 s2, hq2 G H s1 s2, ?_⟩
        rw [rr.length, rr2.length]
        omega
      · obtain ⟨x, y, e1, e2, _⟩ := zipD_get i _ _ _ hi
        obtain ⟨w, hw, _⟩ := rr.get e1
        obtain ⟨z, hz, _⟩ := rr2.get e2
        exact ⟨vs, us, w, z, hq G H s1 s2, hq2 G H s1 s2, hw, hz⟩
      · obtain ⟨T, x1, y1, ex, hT, eH, y1', y2'⟩ := y
        subst ex eH
        obtain ⟨x, y, e1, e2, rfl⟩ := zipD_get i _ _ _ hi
        obtain ⟨w, hw, rw'⟩ := rr.get e1
        obtain ⟨z, hz, rz'⟩ := rr2.get e2
        have h1 := y1' vs (hq _ _ s1 s2)
        rw [hw] at h1
        obtain rfl : w = x1 := Option.some.inj h1
        have h2 := y2' us (hq2 _ _ s1 s2)
        rw [hz] at h2
        obtain rfl : z = y1 := Option.some.inj h2
        exact ⟨upd G T (.tup [w, z]), Al.sh s2 hT, rep_tup (.cons (rw'.same s1) (.cons (rz'.same s1) .nil)) (s2.free hT)⟩
    · cases e
end
section
variable {P : Program} {w : World} {K : PySem.W.Frag} {mg : Str → Option Value} {base : Heap} {N : List Str} {sc : Scope} {lv : Nat} {oc : Option (List Str)} {F : Fm P w K mg base N sc lv oc}
variable {ms : List M} {p : Bool} {a b : Expr} {fs : FA} {pos p1 tpos : Pos}
theorem iv_zipA {elts : List Expr} {kk : Nat} (hm : mg "zip" = none) (h : AV F ms p [a, b] [.sh, .sh] fs) (hg : GlS sc "zip" := by intro env h; unfold Env.kindOf; rw [h]; rfl)
    (hs : ∀ i, starEach [a, b] (F.X i).env = (false, eval a (F.X i).env) :: starEach [b] (F.X i).env := by intro _; rfl) (hpl : ∀ i, (backTo pos (starEach [b] (F.X i).env)).any (·.1) = false := by intro _; rfl) :
    IV F ms p (.Tuple elts kk tpos) (.Call (.Name "zip" p1) [a, b] [] pos) (zipAF fs) := by
  obtain ⟨t, a1, a2⟩ := h
  refine ⟨_, fun i => ?_, sem_iZipA a2⟩
  have := pi_know (pi_zipA (kk := kk) (tpos := tpos) (elts := elts) (p := p1) (pos := pos) (hg _ (F.hsc i)) (by rw [F.hmg]; exact hm) (a1 i) (hs i) (hpl i))
  rw [F.hK] at this
  exact this
end
end DL
namespace DL
open PySem PySem.Spec PyProof.Rows L2
/-! a table locked for one statement, and walked -/
theorem Own.le {K : PySem.W.Frag} {G G' H H' : Hp} (s : Le G G') : ∀ {n : Nat} {d : D} {v : V} {fp : List Addr}, Own K G H n d v fp → (∀ a ∈ fp, ∀ o, H a = some o → H' a = some o) → Own K G' H' n d v fp
  | 0, d, v, fp, h, _ => ⟨rep_le s _ _ h.1, h.2⟩
  | n + 1, d, v, fp, h, k => by
    obtain ⟨a, fr, e1, e2, h⟩ := h
    subst e2
    refine ⟨a, fr, e1, rfl, ?_⟩
    have ka : ∀ o, H a = some o → H' a = some o := k a List.mem_cons_self
    have kr : ∀ {ds vs}, Owns (Own K G H n) ds vs fr → Owns (Own K G' H' n) ds vs fr := fun q => q.imp fun d v f q r => Own.le s r fun b hb => k b (List.mem_cons_of_mem _ (q b hb))
    cases d with
    | lst ds => obtain ⟨vs, e, q⟩ := h; exact ⟨vs, ka _ e, kr q⟩
    | dK ks ds => obtain ⟨vs, e, z, q⟩ := h; exact ⟨vs, ka _ e, z, kr q⟩
    | dT ks ds => obtain ⟨vs, e, z, q⟩ := h; exact ⟨vs, ka _ e, z, kr q⟩
    | non => exact h
    | bl b => exact h
    | int b => exact h
    | str b => exact h
    | tup b => exact h
    | scr b => exact h
def noLk (ms : List M) : Bool := ms.all fun m => !(m == .lk)
section
variable {K : PySem.W.Frag} {G G' H H' : Hp}
theorem SlotOk.le {m : M} {d : D} {o : Option V} {fp : List Addr} (hm : m ≠ .lk) (h : SlotOk K G H m d o fp) (s : Le G G') (k : ∀ a ∈ fp, ∀ o, H a = some o → H' a = some o) : SlotOk K G' H' m d o fp := by
  cases m with
  | un => exact h
  | lk => exact absurd rfl hm
  | sh => obtain ⟨e, v, h1, h2⟩ := h; exact ⟨e, v, h1, rep_le s _ _ h2⟩
  | vw n => exact h
  | bo => exact h
  | ow n => obtain ⟨v, e, r⟩ := h; exact ⟨v, e, r.le s k⟩
theorem Slots.le (s : Le G G') : ∀ {ms : List M} {env : List D} {σ : L2.St} {fps : List (List Addr)}, noLk ms = true → Slots K G H ms env σ fps → (∀ a ∈ fps.flatten, ∀ o, H a = some o → H' a = some o) → Slots K G' H' ms env σ fps
  | [], [], [], [], _, _, _ => trivial
  | m :: ms, d :: ds, o :: os, f :: fs, n, h, k => by
    obtain ⟨h1, h2⟩ := h
    rw [List.flatten_cons] at k
    have n' : (!(m == .lk) && noLk ms) = true := n
    rw [Bool.and_eq_true] at n'
    have n1 : m ≠ .lk := by simpa using n'.1
    exact ⟨h1.le n1 s fun a q => k a (List.mem_append_left _ q), Slots.le s n'.2 h2 fun a q => k a (List.mem_append_right _ q)⟩
  | [], [], [], _ :: _, _, h, _ => h.elim
  | [], [], _ :: _, _, _, h, _ => h.elim
  | [], _ :: _, _, _, _, h, _ => h.elim
  | _ :: _, [], _, _, _, h, _ => h.elim
  | _ :: _, _ :: _, [], _, _, h, _ => h.elim
  | _ :: _, _ :: _, _ :: _, [], _, h, _ => h.elim
theorem Slots.mode {m' : M} : ∀ {ms : List M} {env : List D} {σ : L2.St} {fps : List (List Addr)} {i : Nat} {d : D} {o : Option V} {f : List Addr}, Slots K G H ms env σ fps → env[i]? = some d → σ[i]? = some o → fps[i]? = some f → SlotOk K G H m' d o f →
    Slots K G H (ms.set i m') env σ fps
  | m :: ms, d :: ds, o :: os, f :: fs, 0, _, _, _, h, e1, e2, e3, k => by
    cases e1; cases e2; cases e3
    exact ⟨k, h.2⟩
  | m :: ms, d :: ds, o :: os, f :: fs, i + 1, _, _, _, h, e1, e2, e3, k => ⟨h.1, Slots.mode h.2 (by simpa using e1) (by simpa using e2) (by simpa using e3) k⟩
  | [], [], [], [], _, _, _, _, _, e, _, _, _ => by simp at e
  | [], [], [], _ :: _, _, _, _, _, h, _, _, _, _ => h.elim
  | [], [], _ :: _, _, _, _, _, _, h, _, _, _, _ => h.elim
  | [], _ :: _, _, _, _, _, _, _, h, _, _, _, _ => h.elim
  | _ :: _, [], _, _, _, _, _, _, h, _, _, _, _ => h.elim
  | _ :: _, _ :: _, [], _, _, _, _, _, h, _, _, _, _ => h.elim
  | _ :: _, _ :: _, _ :: _, [], _, _, _, _, h, _, _, _, _ => h.elim
theorem le_lock {d : Addr} {od : Obj} {kvs : List (Key × V)} (h : G d = some (.dK kvs)) : Le G (upd G d (.frz od (.dK kvs))) := by
  refine ⟨fun a u hu r => ?_, fun a xs e => ?_, fun a xs e => ?_⟩
  · by_cases z : a = d
    · subst z
      rcases r with r | ⟨o, r⟩
      · rw [h] at r; cases r
        exact .inr ⟨od, upd_same⟩
      · rw [h] at r; cases r
    · unfold Rd; rw [upd_ne z]; exact r
  · have z : a ≠ d := fun z => by subst z; rw [h] at e; cases e
    rw [upd_ne z]; exact e
  · have z : a ≠ d := fun z => by subst z; rw [h] at e; cases e
    rw [upd_ne z]; exact e
theorem le_unlock {d : Addr} {od : Obj} {kvs : List (Key × V)} (h : G d = some (.frz od (.dK kvs))) : Le G (upd G d (.dK kvs)) := by
  refine ⟨fun a u hu r => ?_, fun a xs e => ?_, fun a xs e => ?_⟩
  · by_cases z : a = d
    · subst z
      rcases r with r | ⟨o, r⟩
      · rw [h] at r; cases r
        exact hu.elim
      · rw [h] at r; cases r
        exact .inl upd_same
    · unfold Rd; rw [upd_ne z]; exact r
  · have z : a ≠ d := fun z => by subst z; rw [h] at e; cases e
    rw [upd_ne z]; exact e
  · have z : a ≠ d := fun z => by subst z; rw [h] at e; cases e
    rw [upd_ne z]; exact e
theorem same_updB {d : Addr} {o : HO} (s : Same G H) : Same (upd G d o) (upd H d o) := fun a u e => by
  by_cases z : a = d
  · subst z; rw [upd_same] at e ⊢; exact e
  · rw [upd_ne z] at e ⊢; exact s _ _ e
theorem upd_none {d a : Addr} {o : HO} (h : upd H d o a = none) : a ≠ d ∧ H a = none := by
  by_cases z : a = d
  · subst z; rw [upd_same] at h; cases h
  · rw [upd_ne z] at h; exact ⟨z, h⟩
theorem tr_unlock {F F' : List Addr} {d : Addr} {x u : HO} (hG : G d = some u) (hH : H d = some u) (t : Tr F (upd G d x) (upd H d x) F' G' H') : Tr F G H F' (upd G' d u) (upd H' d u) := by
  refine ⟨fun a o e => ?_, fun a e => ?_, fun a ha => ?_, fun a o e na => ?_, fun a e => ?_⟩
  · by_cases z : a = d
    · subst z; rw [hG] at e; cases e; exact upd_same
    · rw [upd_ne z]; exact t.gs a o (by rw [upd_ne z]; exact e)
  · by_cases z : a = d
    · subst z; left; rw [hG]; exact fun z => nomatch z
    · rw [upd_ne z] at e
      rcases t.gn a e with q | q | q
      · rw [upd_ne z] at q; exact .inl q
      · exact .inr (.inl (upd_none q).2)
      · exact .inr (.inr q)
  · exact (t.fp a ha).elim .inl fun q => .inr (upd_none q).2
  · by_cases z : a = d
    · subst z; rw [hH] at e; cases e; exact upd_same
    · rw [upd_ne z]; exact t.fr a o (by rw [upd_ne z]; exact e) na
  · by_cases z : a = d
    · subst z; rw [upd_same]; exact fun z => nomatch z
    · rw [upd_ne z]; exact t.th a (by rw [upd_ne z]; exact e)
theorem sat_le {ms : List M} {env : List D} {σ : L2.St} {fps : List (List Addr)} {d : Addr} {o : HO} (n : noLk ms = true) (S : Sat K ms env σ fps G H) (l : Le G (upd G d o)) (hd : G d ≠ none) : Sat K ms env σ fps (upd G d o) (upd H d o) := by
  have nf : ∀ a ∈ fps.flatten, a ≠ d := fun a ha z => by subst z; exact hd (S.out a ha)
  exact ⟨S.sl.le l n fun a ha u e => by rw [upd_ne (nf a ha)]; exact e, S.nd, fun a ha => by rw [upd_ne (nf a ha)]; exact S.out a ha, same_updB S.sub⟩
theorem rr_unlock {F0 F : List Addr} {H0 : Hp} {d : Addr} {x u : HO} {m : M} {e : D} {v : V} (r : RR K F0 (upd H0 d x) m e v F G H) (hm : (m == .sh || !noOw m) = true) (l : Le G (upd G d u)) (hd : G d ≠ none) : RR K F0 H0 m e v F (upd G d u) (upd H d u) := by
  cases m with
  | sh => exact rep_le l _ _ (show Rep K G e v from r)
  | ow n =>
    obtain ⟨fp, o, nd, q⟩ := r
    have nf : ∀ a ∈ fp, a ≠ d := fun a ha z => by subst z; exact hd (q a ha).1
    exact ⟨fp, o.le l fun a ha u e => by rw [upd_ne (nf a ha)]; exact e, nd, fun a ha => ⟨by rw [upd_ne (nf a ha)]; exact (q a ha).1, (q a ha).2.1, (q a ha).2.2.elim .inl fun z => .inr (upd_none z).2⟩⟩
  | un => cases hm
  | lk => cases hm
  | bo => cases hm
  | vw n => cases hm
theorem sem_lockK (j : Nat) {rm : M} {rms ms ms1 : List M} {g : FS} {t : TS} (hj : ms[j]? = some .sh) (hj1 : ms1[j]? = some .lk) (n1 : noLk ms = true) (n2 : noLk (ms1.set j .sh) = true) (n3 : noLk rms = true) (hrm : (rm == .sh || !noOw rm) = true)
    (hk : ∀ env o, g env = some o → ∃ ks xs, env[j]? = some (.dK ks xs)) (k : SemS K rm rms (ms.set j .lk) ms1 g t) : SemS K rm rms ms (ms1.set j .sh) g (sOr (tLock t) t) := by
  intro env σ fps G H o De S e kn kr
  obtain ⟨ks, xs, ek⟩ := hk env o e
  obtain ⟨d0, ov, f, e1, e2, e3, hf, v, hv, r⟩ := S.sl.get hj
  rw [ek] at e1; cases e1
  subst hv
  have r' : Rep K G (.dK ks xs) v := r
  unfold Rep at r'
  obtain ⟨d, vs, rfl, hd, hl, rr⟩ := r'
  have back : ∀ {env' : List D} {σ' : L2.St} {f' : List (List Addr)} {G' H' : Hp}, Sat K ms1 env' σ' f' G' H' → Sat K (ms1.set j .sh) env' σ' f' G' H' := fun {env' σ' f' G' H'} S1 => by
    obtain ⟨d1, o1, g1, a1, a2, a3, b1, w, b2, b3, _⟩ := S1.sl.get hj1
    exact ⟨S1.sl.mode a1 a2 a3 ⟨b1, w, b2, b3⟩, S1.nd, S1.out, S1.sub⟩
  rcases hd with hd | ⟨od, hd⟩
  · refine .inl ⟨d, .dK (ks.zip vs), S.sub _ _ hd, trivial, fun od => ?_⟩
    have S0 := sat_le (d := d) (o := .frz od (.dK (ks.zip vs))) n1 S (le_lock hd) (by rw [hd]; exact fun z => nomatch z)
    have S0' : Sat K (ms.set j .lk) env σ fps (upd G d (.frz od (.dK (ks.zip vs)))) (upd H d (.frz od (.dK (ks.zip vs)))) :=
      ⟨S0.sl.mode ek e2 e3 ⟨hf, _, rfl, rep_le (le_lock hd) _ _ r, d, od, ks.zip vs, rfl, upd_same⟩, S0.nd, S0.out, S0.sub⟩
    refine k env σ fps _ _ o _ S0' e (fun env' σ' f' G' H' eo t' p' S' => ?_) fun x env' v σ' f' G' H' eo t' p' S' r' => ?_
    · have hG' : G' d = some (.frz od (.dK (ks.zip vs))) := t'.gs _ _ upd_same
      refine ⟨S'.sub _ _ hG', ?_⟩
      exact kn env' σ' f' (upd G' d (.dK (ks.zip vs))) _ eo (tr_unlock hd (S.sub _ _ hd) t') p' (sat_le n2 (back S') (le_unlock hG') (by rw [hG']; exact fun z => nomatch z))
    · have hG' : G' d = some (.frz od (.dK (ks.zip vs))) := t'.gs _ _ upd_same
      refine ⟨S'.sub _ _ hG', ?_⟩
      exact kr x env' v σ' f' (upd G' d (.dK (ks.zip vs))) _ eo (tr_unlock hd (S.sub _ _ hd) t') p' (sat_le n3 S' (le_unlock hG') (by rw [hG']; exact fun z => nomatch z)) (rr_unlock r' hrm (le_unlock hG') (by rw [hG']; exact fun z => nomatch z))
  · refine .inr (k env σ fps G H o De ⟨S.sl.mode ek e2 e3 ⟨hf, _, rfl, r, d, od, ks.zip vs, rfl, hd⟩, S.nd, S.out, S.sub⟩ e (fun env' σ' f' G' H' eo t' p' S' => kn env' σ' f' G' H' eo t' p' (back S')) kr)
/-! the keys of a locked table -/
def keysF (j : Nat) : FA := fun env => match env[j]? with
  | some (.dK ks _) => some (ks.map kD, env)
  | _ => none
theorem sem_keys {ms : List M} {j : Nat} (hj : ms[j]? = some .lk) : SemI K ms true (keysF j) (iKnow (iKeys (tVar j))) := by
  intro env σ fps G H items env' R S e k
  obtain ⟨d0, ov, f, e1, e2, e3, hf, v, hv, r, a, od, kvs, hva, hG⟩ := S.sl.get hj
  subst hv
  unfold keysF at e
  rw [e1] at e
  cases d0 with
  | dK ks xs =>
    cases e
    subst hva
    have r' : Rep K G (.dK ks xs) (.ref a) := r
    unfold Rep at r'
    obtain ⟨a', vs, ea, hd, hl, rr⟩ := r'
    cases ea
    have ez : kvs = ks.zip vs := by
      rcases hd with hd | ⟨o', hd⟩
      · rw [hG] at hd; cases hd
      · rw [hG] at hd; cases hd; rfl
    subst ez
    have lz : (ks.zip vs).length = ks.length := by rw [List.length_zip, rr.length, hl, Nat.min_self]
    refine ⟨_, e2, a, od, rfl, .inl ⟨ks.zip vs, S.sub _ _ hG, fun hz => ?_⟩⟩
    refine k _ fps G H (Tr.refl _ _ _) (fun _ => Same.refl _) S ⟨?_, fun i G1 H1 s1 s2 hi => ?_, fun i G1 H1 d s1 s2 hi => ?_, fun i G1 H1 d x H' s1 s2 hi y => ?_⟩
    · rw [List.length_map, ← lz]
      exact (hz a).2.2.1 _ (.inr ⟨od, S.sub _ _ hG⟩)
    · exact ⟨s2 _ _ (s1 _ _ hG), by rw [lz]; rw [List.length_map] at hi; exact hi⟩
    · refine ⟨s2 _ _ (s1 _ _ hG), ?_⟩
      rw [lz]
      have := List.getElem?_eq_some_iff.mp hi
      obtain ⟨h1, _⟩ := this
      rw [List.length_map] at h1; exact h1
    · obtain ⟨rfl, kk, w, h1, rfl⟩ := y
      have hk : ks[i]? = some kk := (List.getElem?_zip_eq_some.mp h1).1
      rw [List.getElem?_map, hk] at hi
      cases hi
      exact ⟨G1, Al.refl s2, kD_rep⟩
  | _ => cases e
end
section
variable {P : Program} {w : World} {K : PySem.W.Frag} {mg : Str → Option Value} {base : Heap} {N : List Str} {sc : Scope} {lv : Nat} {oc : Option (List Str)} {F : Fm P w K mg base N sc lv oc}
variable {ms ms1 rms : List M} {rm : M} {tg : Expr} {st : Stmt} {g : FS} {x : Str} {pos : Pos}
theorem iv_keys (j : Nat) (hj : ms[j]? = some .lk := by rfl) (hN : N[j]? = some x := by rfl) (hv : Vis sc x := by first | exact Or.inl rfl | exact Or.inr (Or.inl rfl) | exact Or.inr (Or.inr rfl))
    (hd : (x == ("__debug__" : Str)) = false := by decide) (hcd : (x == ("__classdict__" : Str)) = false := by decide) : IV F ms true tg (.Name x pos) (keysF j) :=
  ⟨_, fun i => pi_know (pi_keys (pe_var (by rw [F.hN]; exact hN) (by rw [F.hsc]; exact hv) hd hcd)), sem_keys hj⟩
theorem ev_varL (i : Nat) (hN : N[i]? = some x := by rfl) (hv : Vis sc x := by first | exact Or.inl rfl | exact Or.inr (Or.inl rfl) | exact Or.inr (Or.inr rfl)) (hm : ms[i]? = some .lk := by rfl)
    (hd : (x == ("__debug__" : Str)) = false := by decide) (hcd : (x == ("__classdict__" : Str)) = false := by decide) : EV F ms true (.Name x pos) .sh (varF i) :=
  ⟨tVar i, fun j => pe_var (by rw [F.hN]; exact hN) (by rw [F.hsc]; exact hv) hd hcd, by
    intro env σ fps G H d env' Q S e k
    obtain ⟨d', o, f, e1, e2, e3, hf, v, rfl, r, _⟩ := S.sl.get hm
    unfold varF at e
    rw [e1] at e
    cases e
    exact ⟨v, e2, k v fps G H (Tr.refl _ _ _) (fun _ => Same.refl _) S r⟩⟩
/-- the table of slot j is there, or nothing is answered -/
def needK (j : Nat) (g : FS) : FS := fun env => match env[j]? with
  | some (.dK _ _) => g env
  | _ => none
theorem sv_lock (j : Nat) {msA ms2 : List M} (k : SV F rm rms msA ms1 st g) (hA : msA = ms.set j .lk := by rfl) (hB : ms2 = ms1.set j .sh := by rfl) (hj : ms[j]? = some .sh := by rfl) (hj1 : ms1[j]? = some .lk := by rfl) (n1 : noLk ms = true := by rfl) (n2 : noLk ms2 = true := by rfl) (n3 : noLk rms = true := by rfl) (hrm : (rm == .sh || !noOw rm) = true := by rfl) :
    SV F rm rms ms ms2 st (needK j g) := by
  subst hA hB
  obtain ⟨t, k1, k2⟩ := k
  refine ⟨_, fun i => PS.or (ps_lock (k1 i)) (k1 i), sem_lockK j hj hj1 n1 n2 n3 hrm (fun env o e => ?_) fun env σ fps G H o De S e kn kr => k2 env σ fps G H o De S ?_ kn kr⟩
  · unfold needK at e
    cases q : env[j]? with
    | none => rw [q] at e; cases e
    | some d =>
      rw [q] at e
      cases d with
      | dK ks xs => exact ⟨ks, xs, rfl⟩
      | _ => cases e
  · unfold needK at e
    cases q : env[j]? with
    | none => rw [q] at e; cases e
    | some d =>
      rw [q] at e
      cases d with
      | dK ks xs => exact e
      | _ => cases e
theorem nn_need {j : Nat} {g : FS} (h : NoNx g) : NoNx (needK j g) := fun env env' e => by
  unfold needK at e
  cases q : env[j]? with
  | none => rw [q] at e; cases e
  | some d =>
    rw [q] at e
    cases d with
    | dK ks xs => exact h _ _ e
    | _ => cases e
theorem sv_nx {ms' : List M} (k : SV F rm rms ms ms1 st g) (n : NoNx g) : SV F rm rms ms ms' st g := by
  obtain ⟨t, k1, k2⟩ := k
  exact ⟨t, k1, fun env σ fps G H o De S e kn kr => k2 env σ fps G H o De S e (fun env' σ' f' G' H' eo => absurd (eo ▸ e) (n _ _)) kr⟩
end
end DL
namespace DL
open PySem PySem.Spec PyProof.Rows L2
/-! ### the law's promise, from the data function -/
theorem prom_law {K : PySem.W.Frag} {F : FD} {H : Hp} {a : Addr} {ns : List Int} {E : XK} (hF : ∃ r, F [.scr ns] = some (.bl true, r)) (sq : SqL K H a (ns.map V.int)) : Prom K [.sh] .sh F [.ref a] H (fun v _ => v = .bl true) E := by
  obtain ⟨r, e⟩ := hF
  refine ⟨[.scr ns], [[]], H, .bl true, r, ⟨⟨⟨rfl, .ref a, rfl, ?_⟩, trivial⟩, by simp, by simp, Same.refl _⟩, e, fun v fps' G' H' _ _ q => ?_⟩
  · unfold Rep
    exact ⟨a, rfl, sq⟩
  · have : Rep K G' (.bl true) v := q
    exact this.bl_
/-! ### facts of the top -/
section
variable {K : PySem.W.Frag} {h : Heap} {mg : Str → Option Value} {x : Str} {st : Stmt} {f : Addr} {oc : Value} {od an : Option Addr} {osl : Array (Option Value)} {kV dV doc pm cdv ct : Value}
theorem fld (X : K.In h) (G : h.Ns mainGlobals mg) (a : PySem.W.nsIn K mainGlobals x = some (some (.ref f))) (l : K.lookup f = some ⟨oc, od, .func (PySem.W.fnOf x x (defArgs st) (defBody st) (defScope st) .none kV doc pm an cdv ct), osl⟩)
    (c : PySem.W.codeIn K cdv x = true) (k : PySem.W.keepIn K (.ref f) = true) : ∃ (f : Addr) (fd : FuncData), mg x = some (.ref f) ∧ FunD K x x (defArgs st) (defBody st) (defScope st) [] [] f fd :=
  ⟨f, _, PySem.W.mg_of X G a, ⟨⟨oc, od, .none, kV, doc, pm, an, cdv, ct, osl, rfl, l, c, .inl ⟨rfl, rfl⟩, .inl rfl⟩, k⟩⟩
theorem fldD {T : Addr} {o : Obj} {its : List Value} {n : Nat} {dvs : List V} (X : K.In h) (G : h.Ns mainGlobals mg) (a : PySem.W.nsIn K mainGlobals x = some (some (.ref f))) (l : K.lookup f = some ⟨oc, od, .func (PySem.W.fnOf x x (defArgs st) (defBody st) (defScope st) (.ref T) kV doc pm an cdv ct), osl⟩)
    (c : PySem.W.codeIn K cdv x = true) (k : PySem.W.keepIn K (.ref f) = true) (t : K.lookup T = some o) (d : o.data = .seq its.toArray n) (ne : dvs ≠ []) (v : Vals dvs its) : ∃ (f : Addr) (fd : FuncData), mg x = some (.ref f) ∧ FunD K x x (defArgs st) (defBody st) (defScope st) dvs [] f fd :=
  ⟨f, _, PySem.W.mg_of X G a, ⟨⟨oc, od, .ref T, kV, doc, pm, an, cdv, ct, osl, rfl, l, c, .inr ⟨ne, T, o, its, n, rfl, t, d, v⟩, .inl rfl⟩, k⟩⟩
end
end DL
/-! The helpers that every law has, and what they do, in plain Lean. -/
namespace LH
open PySem DL
def g__law_purse : FS := (seqF (setF 2 (callF (consF (sliceF (varF 0) (partF (varF 1)) (partF (bin2 (varF 1) (conF (.int 1)) addD)) sliceD) nilF) (one sumD)))
  (retF (callF (consF (bin2 (callF (consF (callF (consF (bin2 (varF 2) (bin2 (conF (.int 10)) (conF (.int 18)) (intOp powOk fun i j => i ^ j.toNat)) (intOp0 fun i j => i - j)) (consF (conF (.int 0)) nilF)) (two maxD2)) nilF) (one intD)) (bin2 (bin2 (conF (.int 10)) (conF (.int 60)) (intOp powOk fun i j => i ^ j.toNat)) (conF (.int 8)) (intOp powOk fun i j => i ^ j.toNat)) (intOp modOk fun i j => i % j)) (consF (bin2 (callF (consF (varF 2) nilF) (one intD)) (conF (.int 2147483629)) (intOp modOk fun i j => i % j)) (consF (conF (.int 0)) (consF (varF 1) nilF)))) lstD)))
def fd__law_purse : FD := defF [.sh, .sh] 1 g__law_purse
def g__law_mixed : FS := (seqF (setF 3 (bin2 (bin2 (varF 0) (conF (.int 69069)) (intOp mulOk fun i j => i * j)) (bin2 (bin2 (conF (.int 104729)) (varF 1) (intOp mulOk fun i j => i * j)) (varF 1) (intOp mulOk fun i j => i * j)) addD))
  (seqF (setF 3 (bin2 (callF (consF (bin2 (bin2 (varF 3) (bin2 (conF (.int 7919)) (varF 2) (intOp mulOk fun i j => i * j)) addD) (varF 1) addD) nilF) (one intD)) (conF (.int 2147483647)) (intOp modOk fun i j => i % j)))
  (seqF (setF 3 (bin2 (callF (consF (bin2 (bin2 (varF 3) (varF 3) (intOp mulOk fun i j => i * j)) (conF (.int 40503)) addD) nilF) (one intD)) (conF (.int 2147483629)) (intOp modOk fun i j => i % j)))
  (retF (bin2 (callF (consF (bin2 (varF 3) (conF (.int 48271)) (intOp mulOk fun i j => i * j)) nilF) (one intD)) (conF (.int 2147483587)) (intOp modOk fun i j => i % j))))))
def fd__law_mixed : FD := defF [.sh, .sh, .sh] 1 g__law_mixed
def g__law_draw : FS := (seqF (iteF' (tstF (bin2 (bin2 (varF 0) (conF (.int 0)) ixD) (conF (.int 0)) (cmpD gtI gtS))) (seqF (setF 2 (bin2 (callF (consF (bin2 (varF 0) (conF (.int 0)) ixD) nilF) (one intD)) (varF 1) (intOp modOk fun i j => i % j)))
  (seqF (putF 0 (conF (.int 0)) (bin2 (bin2 (varF 0) (conF (.int 0)) ixD) (varF 1) (intOp fdivOk fun i j => i / j)))
  (retF (varF 2)))) skipF)
  (seqF (setF 3 (conF (.int 0)))
  (seqF (forF (rng1F (consF (bin2 (conF (.int 1)) (bin2 (un1 (varF 1) bitsD) (conF (.int 28)) (intOp fdivOk fun i j => i / j)) addD) nilF)) (nameG 4) (seqF (putF 0 (conF (.int 2)) (bin2 (bin2 (varF 0) (conF (.int 2)) ixD) (conF (.int 1)) addD))
  (setF 3 (bin2 (bin2 (varF 3) (conF (.int 2147483587)) (intOp mulOk fun i j => i * j)) (ucallF (consF (bin2 (varF 0) (conF (.int 1)) ixD) (consF (bin2 (varF 0) (conF (.int 2)) ixD) (consF (bin2 (varF 0) (conF (.int 3)) ixD) nilF))) fd__law_mixed) addD))))
  (retF (bin2 (callF (consF (varF 3) nilF) (one intD)) (varF 1) (intOp modOk fun i j => i % j))))))
def fd__law_draw : FD := defF [.ow 1, .sh] 3 g__law_draw
def g__law_purses : FS := (retF (compF (rng1F (consF (callF (consF (conF (.int 1)) (consF (callF (consF (varF 1) (consF (callF (consF (varF 0) nilF) (one lenD)) nilF)) (two minD2)) nilF)) (two maxD2)) nilF)) [2] (nameG 2) yesF (ucallF (consF (varF 0) (consF (varF 2) nilF)) fd__law_purse)))
def fd__law_purses : FD := defF [.sh, .sh] 1 g__law_purses
def g__law_one_of : FS := (retF (bin2 (varF 1) (ucallIO 0 (consF (callF (consF (varF 1) nilF) (one lenD)) nilF) fd__law_draw) ixD))
def fd__law_one_of : FD := defF [.ow 1, .sh] 0 g__law_one_of
def g__law_shuffled : FS := (seqF (setF 2 (callF nilF lstD))
  (seqF (forF (seqIF (varF 1)) (nameG 3) (dropF (mutE 2 (consF (ucallIO 0 (consF (bin2 (callF (consF (varF 2) nilF) (one lenD)) (conF (.int 1)) addD) nilF) fd__law_draw) (consF (varF 3) nilF)) insD)))
  (retF (varF 2))))
def fd__law_shuffled : FD := defF [.ow 1, .sh] 2 g__law_shuffled
def fd__law_exact : Nat → FD
  | 0 => fun _ => none
  | n + 1 => defF [.sh, .sh] 4 ((seqF (iteF' (tstF (un1 (varF 0) (isiTD ["list", "tuple"]))) (seqF (setF 2 (bin2 (un1 (varF 1) (isiD "list")) (un1 (varF 0) (isiD "list")) eqD))
  (seqF (setF 3 (andV (varF 2) (bin2 (un1 (varF 1) (isiD "tuple")) (un1 (varF 0) (isiD "tuple")) eqD)))
  (retF (andV (varF 3) (andV (bin2 (callF (consF (varF 0) nilF) (one lenD)) (callF (consF (varF 1) nilF) (one lenD)) eqD) (callF (consF (compF (zipAF (consF (varF 0) (consF (varF 1) nilF))) [4, 5] (tupG 2 (consG (nameG 4) (consG (nameG 5) nilG))) yesF (ucallF (consF (varF 4) (consF (varF 5) nilF)) (fd__law_exact n))) nilF) (one allD))))))) skipF)
  (seqF (iteF' (orF (tstF (un1 (varF 1) (isiTD ["list", "tuple"]))) (tstF (bin2 (bin2 (varF 0) (conF .non) isNoneD) (bin2 (varF 1) (conF .non) isNoneD) neD))) (retF (conF (.bl false))) skipF)
  (seqF (setF 3 (andV (bin2 (un1 (varF 0) (isiD "int")) (un1 (varF 1) (isiD "int")) eqD) (bin2 (un1 (varF 0) (isiD "str")) (un1 (varF 1) (isiD "str")) eqD)))
  (retF (andV (varF 3) (andV (bin2 (un1 (varF 0) (isiD "bool")) (un1 (varF 1) (isiD "bool")) eqD) (bin2 (varF 0) (varF 1) eqD))))))))
/-! ### sizes of numbers -/
def Bd (n : Nat) (i : Int) : Prop := i.natAbs < 2 ^ n
theorem Bd.mul {n m : Nat} {i j : Int} (h : Bd n i) (k : Bd m j) : Bd (n + m) (i * j) := by
  unfold Bd at *
  rw [Int.natAbs_mul, Nat.pow_add]
  exact Nat.mul_lt_mul'' h k
theorem Bd.add {n m : Nat} {i j : Int} (h : Bd n i) (k : Bd m j) : Bd (n + m + 1) (i + j) := by
  unfold Bd at *
  have h1 : i.natAbs < 2 ^ (n + m) := Nat.lt_of_lt_of_le h (Nat.pow_le_pow_right (by decide) (by omega))
  have h2 : j.natAbs < 2 ^ (n + m) := Nat.lt_of_lt_of_le k (Nat.pow_le_pow_right (by decide) (by omega))
  have h3 := Int.natAbs_add_le i j
  rw [Nat.pow_succ]
  omega
theorem Bd.mono {n m : Nat} {i : Int} (h : Bd n i) (k : n ≤ m) : Bd m i := Nat.lt_of_lt_of_le h (Nat.pow_le_pow_right (by decide) k)
theorem Bd.of {n : Nat} {i : Int} (h0 : 0 ≤ i) (h : i < 2 ^ n) : Bd n i := by
  unfold Bd
  have : ((2 ^ n : Nat) : Int) = 2 ^ n := by push_cast; rfl
  omega
theorem mul_ok {n m : Nat} {i j : Int} (h : Bd n i) (k : Bd m j) (z : n + m ≤ 134217728) : mulOk i j = true := by
  unfold mulOk
  have h1 := PyProof.Rows.intBits_le h
  have h2 := PyProof.Rows.intBits_le k
  exact Nat.ble_eq_true_of_le (by omega)
theorem mod_ok {i j : Int} (h : 0 < j) : modOk i j = true := by unfold modOk; exact decide_eq_true h
theorem fdiv_ok {i j : Int} {n : Nat} (h : 0 < j) (k : Bd n j) (z : n ≤ 9000) : fdivOk i j = true := by
  unfold fdivOk
  rw [Bool.and_eq_true, decide_eq_true_eq, decide_eq_true_eq]
  refine ⟨h, ?_⟩
  exact Nat.lt_of_lt_of_le ((Nat.log2_lt (by omega)).mpr k) z
theorem Bd.const {n : Nat} {i : Int} (h : decide (i.natAbs < 2 ^ n) = true) : Bd n i := (of_decide_eq_true h : i.natAbs < 2 ^ n)
theorem mod_bd {x m : Int} {n : Nat} (h : 0 < m) (k : Bd n m) : Bd n (x % m) := by
  unfold Bd at *
  have h1 := Int.emod_nonneg x (Int.ne_of_gt h)
  have h2 := Int.emod_lt_of_pos x h
  omega
theorem mixed_ok {a b c : Int} (ha : Bd 64 a) (hb : Bd 64 b) (hc : Bd 64 c) : ∃ d, fd__law_mixed [.int a, .int b, .int c] = some (.int d, [.int a, .int b, .int c]) ∧ 0 ≤ d ∧ Bd 31 d := by
  have k1 : mulOk a 69069 = true := mul_ok ha (Bd.const (n := 32) (by decide)) (by decide)
  have k2 : mulOk 104729 b = true := mul_ok (Bd.const (n := 32) (by decide)) hb (by decide)
  have k3 : mulOk (104729 * b) b = true := mul_ok ((Bd.const (n := 32) (by decide)).mul hb) hb (by decide)
  have k4 : mulOk 7919 c = true := mul_ok (Bd.const (n := 32) (by decide)) hc (by decide)
  have m1 : ∀ x, modOk x 2147483647 = true := fun _ => mod_ok (by decide)
  have m2 : ∀ x, modOk x 2147483629 = true := fun _ => mod_ok (by decide)
  have m3 : ∀ x, modOk x 2147483587 = true := fun _ => mod_ok (by decide)
  obtain ⟨x, ex⟩ : ∃ x, x = (a * 69069 + 104729 * b * b + 7919 * c + b) % 2147483647 := ⟨_, rfl⟩
  have hx : Bd 64 x := by rw [ex]; exact mod_bd (by decide) (Bd.const (by decide))
  have k5 : mulOk x x = true := mul_ok hx hx (by decide)
  obtain ⟨y, ey⟩ : ∃ y, y = (x * x + 40503) % 2147483629 := ⟨_, rfl⟩
  have hy : Bd 64 y := by rw [ey]; exact mod_bd (by decide) (Bd.const (by decide))
  have k6 : mulOk y 48271 = true := mul_ok hy (Bd.const (n := 32) (by decide)) (by decide)
  refine ⟨(y * 48271) % 2147483587, ?_, Int.emod_nonneg _ (by decide), mod_bd (by decide) (Bd.const (by decide))⟩
  simp only [fd__law_mixed, defF, g__law_mixed, seqF, setF, retF, bin2, varF, conF, callF, consF, nilF, one, intD, intOp, addD, k1, k2, k3, k4, m1, m2, m3, List.cons_append, List.nil_append, List.replicate, List.getElem?_cons_zero, List.getElem?_cons_succ, Option.map_some, Option.bind_some, if_true, List.set_cons_zero, List.set_cons_succ, ← ex, k5, ← ey, k6, backD]
/-! ### purses -/
def purse (a b c e : Int) : D := .lst [.int a, .int b, .int c, .int e]
/-- a purse with n more pieces to be drawn -/
def Pu (n : Nat) (d : D) : Prop := ∃ (a b e : Int) (c : Nat), d = purse a b c e ∧ 0 ≤ a ∧ Bd 64 b ∧ c + n ≤ 2 ^ 60 ∧ Bd 64 e
theorem Pu.mono {n m : Nat} {d : D} (h : Pu n d) (k : m ≤ n) : Pu m d := by
  obtain ⟨a, b, e, c, h1, h2, h3, h4, h5⟩ := h
  exact ⟨a, b, e, c, h1, h2, h3, by omega, h5⟩
theorem ix0 {a b c e : Int} : ixD (purse a b c e) (.int 0) = some (.int a) := rfl
theorem ix1 {a b c e : Int} : ixD (purse a b c e) (.int 1) = some (.int b) := rfl
theorem ix2 {a b c e : Int} : ixD (purse a b c e) (.int 2) = some (.int c) := rfl
theorem ix3 {a b c e : Int} : ixD (purse a b c e) (.int 3) = some (.int e) := rfl
def stepS : FS := (seqF (putF 0 (conF (.int 2)) (bin2 (bin2 (varF 0) (conF (.int 2)) ixD) (conF (.int 1)) addD))
  (setF 3 (bin2 (bin2 (varF 3) (conF (.int 2147483587)) (intOp mulOk fun i j => i * j)) (ucallF (consF (bin2 (varF 0) (conF (.int 1)) ixD) (consF (bin2 (varF 0) (conF (.int 2)) ixD) (consF (bin2 (varF 0) (conF (.int 3)) ixD) nilF))) fd__law_mixed) addD)))
theorem put_at (j : Nat) {fk fv : FE} {env e1 e2 : List D} {v : D} {k : Int} {ds : List D} {n : Nat} (h1 : fv env = some (v, e1)) (h2 : fk e1 = some (.int k, e2)) (h3 : e2[j]? = some (.lst ds)) (h4 : L2.ixN ds.length k = some n) :
    putF j fk fv env = some (.nx (e2.set j (.lst (ds.set n v)))) := by
  have : setItF j fk fv env = some (.nx (e2.set j (.lst (ds.set n v)))) := by
    unfold setItF
    simp only [h1, h2, h3, h4, Option.bind_some, Option.map_some]
  unfold putF
  rw [this]
theorem step_ok {a b e f m : Int} {c : Nat} {x y : D} (hb : Bd 64 b) (hc : c + 1 < 2 ^ 64) (he : Bd 64 e) {n : Nat} (hf : Bd n f) (hn : n ≤ 100000) : ∃ f', stepS [purse a b c e, .int m, x, .int f, y] = some (.nx [purse a b (c + 1 : Nat) e, .int m, x, .int f', y]) ∧ Bd (n + 64) f' := by
  have hcb : Bd 64 ((c + 1 : Nat) : Int) := by unfold Bd; rw [Int.natAbs_natCast]; exact hc
  obtain ⟨z, hz, z0, z1⟩ := mixed_ok (a := b) (b := ((c + 1 : Nat) : Int)) (c := e) hb hcb he
  have k1 : mulOk f 2147483587 = true := mul_ok hf (Bd.const (n := 32) (by decide)) (by omega)
  refine ⟨f * 2147483587 + z, ?_, ((hf.mul (Bd.const (n := 32) (by decide))).add z1).mono (by omega)⟩
  have p1 : putF 0 (conF (.int 2)) (bin2 (bin2 (varF 0) (conF (.int 2)) ixD) (conF (.int 1)) addD) [purse a b c e, .int m, x, .int f, y] = some (.nx [purse a b (c + 1 : Nat) e, .int m, x, .int f, y]) :=
    put_at 0 (e1 := [purse a b c e, .int m, x, .int f, y]) (e2 := [purse a b c e, .int m, x, .int f, y]) (v := .int ((c + 1 : Nat) : Int)) (k := 2) (n := 2) (by simp only [Int.natCast_add, Int.natCast_one, bin2, varF, conF, List.getElem?_cons_zero, Option.map_some, Option.bind_some, ix2, addD]) rfl rfl rfl
  simp only [stepS, seqF, p1, Option.bind_some, setF, bin2, varF, conF, ucallF, consF, nilF, ix1, ix2, ix3, hz, intOp, k1, addD, List.getElem?_cons_zero, List.getElem?_cons_succ, Option.map_some, if_true, List.set_cons_zero, List.set_cons_succ]
theorem rest_ok {m : Int} {a b e : Int} (hb : Bd 64 b) (he : Bd 64 e) (l : List D) : ∀ {c : Nat} {f : Int} {x y : D} {n : Nat}, c + l.length < 2 ^ 64 → Bd n f → n + 64 * l.length ≤ 100000 →
    ∃ f' y', loopF (nameG 4) stepS l [purse a b c e, .int m, x, .int f, y] = some (.nx [purse a b (c + l.length : Nat) e, .int m, x, .int f', y']) := by
  induction l with
  | nil => exact fun {c f x y n} _ _ _ => ⟨f, y, rfl⟩
  | cons d l ih =>
    intro c f x y n h1 h2 h3
    rw [List.length_cons] at h1 h3
    obtain ⟨f1, s1, s2⟩ := step_ok (a := a) (m := m) (x := x) (y := d) (c := c) hb (by omega) he h2 (by omega)
    obtain ⟨f', y', i1⟩ := ih (c := c + 1) (f := f1) (x := x) (y := d) (n := n + 64) (by omega) s2 (by omega)
    refine ⟨f', y', ?_⟩
    rw [List.length_cons, show c + (l.length + 1) = c + 1 + l.length by omega, ← i1]
    unfold loopF
    show ((nameG 4 d [purse a b c e, .int m, x, .int f, y]).bind _) = _
    have e0 : nameG 4 d [purse a b c e, .int m, x, .int f, y] = some [purse a b c e, .int m, x, .int f, d] := rfl
    rw [e0, Option.bind_some, s1, Option.bind_some]
    cases l <;> rfl
theorem intOp_t {C : Int → Int → Bool} {h : Int → Int → Int} {i j : Int} (k : C i j = true) : intOp C h (.int i) (.int j) = some (.int (h i j)) := if_pos k
theorem bits_le {m : Int} {n : Nat} (h : Bd n m) : Builtin.Int.intBits m ≤ n := PyProof.Rows.intBits_le h
theorem draw_ok {n : Nat} {p : D} {m : Int} (h : Pu (n + 40) p) (hm : 0 < m) (hb : Bd 1000 m) : ∃ d p', fd__law_draw [p, .int m] = some (.int d, [p', .int m]) ∧ 0 ≤ d ∧ d < m ∧ Pu n p' := by
  obtain ⟨a, b, e, c, rfl, h2, h3, h4, h5⟩ := h
  have m0 : ∀ a, modOk a m = true := fun _ => mod_ok hm
  by_cases z : 0 < a
  · refine ⟨a % m, purse (a / m) b c e, ?_, Int.emod_nonneg _ (by omega), Int.emod_lt_of_pos _ hm, _, _, _, _, rfl, Int.ediv_nonneg h2 (by omega), h3, by omega, h5⟩
    have f0 : fdivOk a m = true := fdiv_ok hm hb (by decide)
    have g : gtI a 0 = true := decide_eq_true z
    have p1 : ∀ x y w, putF 0 (conF (.int 0)) (bin2 (bin2 (varF 0) (conF (.int 0)) ixD) (varF 1) (intOp fdivOk fun i j => i / j)) [purse a b c e, .int m, x, y, w] = some (.nx [purse (a / m) b c e, .int m, x, y, w]) := fun x y w =>
      put_at 0 (e1 := [purse a b c e, .int m, x, y, w]) (e2 := [purse a b c e, .int m, x, y, w]) (v := .int (a / m)) (k := 0) (n := 0)
        (by simp only [bin2, varF, conF, List.getElem?_cons_zero, List.getElem?_cons_succ, Option.map_some, Option.bind_some, ix0, intOp_t f0]) rfl rfl rfl
    have c1 : tstF (bin2 (bin2 (varF 0) (conF (.int 0)) ixD) (conF (.int 0)) (cmpD gtI gtS)) [purse a b c e, .int m, .non, .non, .non] = some (true, [purse a b c e, .int m, .non, .non, .non]) := by
      simp only [tstF, bin2, varF, conF, List.getElem?_cons_zero, Option.map_some, Option.bind_some, ix0, cmpD, g]
    have s1 : setF 2 (bin2 (callF (consF (bin2 (varF 0) (conF (.int 0)) ixD) nilF) (one intD)) (varF 1) (intOp modOk fun i j => i % j)) [purse a b c e, .int m, .non, .non, .non] = some (.nx [purse a b c e, .int m, .int (a % m), .non, .non]) := by
      simp only [setF, bin2, callF, consF, nilF, one, intD, varF, conF, List.getElem?_cons_zero, List.getElem?_cons_succ, Option.map_some, Option.bind_some, ix0, intOp_t (m0 a), List.set_cons_zero, List.set_cons_succ]
    simp only [fd__law_draw, defF, g__law_draw, List.cons_append, List.nil_append, List.replicate, seqF, iteF', c1, Option.bind_some, if_true, s1, p1, retF, varF, List.getElem?_cons_zero, List.getElem?_cons_succ, Option.map_some, backD]
  · have z0 : a = 0 := by omega
    subst z0
    have g : gtI 0 0 = false := rfl
    have c1 : tstF (bin2 (bin2 (varF 0) (conF (.int 0)) ixD) (conF (.int 0)) (cmpD gtI gtS)) [purse 0 b c e, .int m, .non, .non, .non] = some (false, [purse 0 b c e, .int m, .non, .non, .non]) := by
      simp only [tstF, bin2, varF, conF, List.getElem?_cons_zero, Option.map_some, Option.bind_some, ix0, cmpD, g]
    obtain ⟨k, ek⟩ : ∃ k : Nat, 1 + (Builtin.Int.intBits m : Int) / 28 = (k : Int) := ⟨1 + Builtin.Int.intBits m / 28, by omega⟩
    have hk : k ≤ 40 := by
      have := bits_le hb
      omega
    have f1 : fdivOk (Builtin.Int.intBits m : Int) 28 = true := fdiv_ok (by decide) (Bd.const (n := 8) (by decide)) (by decide)
    have r1 : rng1F (consF (bin2 (conF (.int 1)) (bin2 (un1 (varF 1) bitsD) (conF (.int 28)) (intOp fdivOk fun i j => i / j)) addD) nilF) [purse 0 b c e, .int m, .non, .int 0, .non] = some (rangeD 0 k, [purse 0 b c e, .int m, .non, .int 0, .non]) := by
      simp only [rng1F, consF, nilF, bin2, un1, bitsD, varF, conF, List.getElem?_cons_zero, List.getElem?_cons_succ, Option.map_some, Option.bind_some, intOp_t f1, addD, ek, Int.natAbs_natCast, Int.toNat_natCast]
      rw [if_pos (by omega)]
    obtain ⟨f', y', q1⟩ := rest_ok (m := m) (a := 0) (b := b) (e := e) h3 h5 (rangeD 0 k) (c := c) (f := 0) (x := .non) (y := .non) (n := 1) (by rw [rangeD_length]; omega) (by unfold Bd; decide) (by rw [rangeD_length]; omega)
    rw [rangeD_length] at q1
    refine ⟨f' % m, purse 0 b (c + k : Nat) e, ?_, Int.emod_nonneg _ (by omega), Int.emod_lt_of_pos _ hm, _, _, _, _, rfl, by decide, h3, by omega, h5⟩
    have fo : forF (rng1F (consF (bin2 (conF (.int 1)) (bin2 (un1 (varF 1) bitsD) (conF (.int 28)) (intOp fdivOk fun i j => i / j)) addD) nilF)) (nameG 4) stepS [purse 0 b c e, .int m, .non, .int 0, .non] = some (.nx [purse 0 b (c + k : Nat) e, .int m, .non, .int f', y']) := by
      unfold forF
      rw [r1, Option.bind_some]
      exact q1
    have s0 : setF 3 (conF (.int 0)) [purse 0 b c e, .int m, .non, .non, .non] = some (.nx [purse 0 b c e, .int m, .non, .int 0, .non]) := rfl
    have e0 : g__law_draw = (seqF (iteF' (tstF (bin2 (bin2 (varF 0) (conF (.int 0)) ixD) (conF (.int 0)) (cmpD gtI gtS))) (seqF (setF 2 (bin2 (callF (consF (bin2 (varF 0) (conF (.int 0)) ixD) nilF) (one intD)) (varF 1) (intOp modOk fun i j => i % j)))
  (seqF (putF 0 (conF (.int 0)) (bin2 (bin2 (varF 0) (conF (.int 0)) ixD) (varF 1) (intOp fdivOk fun i j => i / j)))
  (retF (varF 2)))) skipF)
  (seqF (setF 3 (conF (.int 0)))
  (seqF (forF (rng1F (consF (bin2 (conF (.int 1)) (bin2 (un1 (varF 1) bitsD) (conF (.int 28)) (intOp fdivOk fun i j => i / j)) addD) nilF)) (nameG 4) stepS)
  (retF (bin2 (callF (consF (varF 3) nilF) (one intD)) (varF 1) (intOp modOk fun i j => i % j)))))) := rfl
    simp only [fd__law_draw, defF, e0, List.cons_append, List.nil_append, List.replicate, seqF, iteF', c1, Option.bind_some, if_false, Bool.false_eq_true, skipF, s0, fo, retF, bin2, callF, consF, nilF, one, intD, varF, List.getElem?_cons_zero, List.getElem?_cons_succ, Option.map_some, intOp_t (m0 f'), backD]
/-! ### comprehensions whose steps change nothing but their own names -/
theorem lcF_pure {b : FG} {gt : FT} {fe : FE} {E : D → List D} {c : D → Bool} {x : D → D} : ∀ {items : List D} {env : List D}, (∀ d ∈ items, b d env = some (E d)) → (∀ d ∈ items, ∀ d' ∈ items, b d (E d') = some (E d)) →
    (∀ d ∈ items, gt (E d) = some (c d, E d)) → (∀ d ∈ items, c d = true → fe (E d) = some (x d, E d)) → ∃ env', lcF b gt fe items env = some ((items.filter c).map x, env') ∧ (env' = env ∨ ∃ d ∈ items, env' = E d)
  | [], env, _, _, _, _ => ⟨env, rfl, .inl rfl⟩
  | d :: items, env, h1, h2, h3, h4 => by
    obtain ⟨env', i1, i2⟩ := lcF_pure (items := items) (env := E d) (b := b) (gt := gt) (fe := fe) (E := E) (c := c) (x := x) (fun d' hd => h2 d' (List.mem_cons_of_mem _ hd) d List.mem_cons_self) (fun d' hd d2 hd2 => h2 d' (List.mem_cons_of_mem _ hd) d2 (List.mem_cons_of_mem _ hd2)) (fun d' hd => h3 d' (List.mem_cons_of_mem _ hd)) (fun d' hd => h4 d' (List.mem_cons_of_mem _ hd))
    refine ⟨env', ?_, .inr (i2.elim (fun z => ⟨d, List.mem_cons_self, z⟩) fun ⟨d', hd, z⟩ => ⟨d', List.mem_cons_of_mem _ hd, z⟩)⟩
    unfold lcF
    rw [h1 d List.mem_cons_self, Option.bind_some, h3 d List.mem_cons_self, Option.bind_some]
    cases hc : c d with
    | true =>
      have := h4 d List.mem_cons_self hc
      simp only [if_true]
      rw [this, Option.bind_some, i1, List.filter_cons_of_pos hc]
      rfl
    | false =>
      simp only [Bool.false_eq_true, if_false]
      rw [i1, List.filter_cons_of_neg (by rw [hc]; exact Bool.false_ne_true)]
theorem comp_pure {f : FA} {own : List Nat} {b : FG} {gt : FT} {fe : FE} (E : D → List D) (c : D → Bool) (x : D → D) {items : List D} {env env1 : List D} (hf : f env = some (items, env1)) (h1 : ∀ d ∈ items, b d env1 = some (E d)) (h2 : ∀ d ∈ items, ∀ d' ∈ items, b d (E d') = some (E d))
    (h3 : ∀ d ∈ items, gt (E d) = some (c d, E d)) (h4 : ∀ d ∈ items, c d = true → fe (E d) = some (x d, E d)) (r0 : restD env1 env1 own = env1) (r1 : ∀ d ∈ items, restD env1 (E d) own = env1) : compF f own b gt fe env = some (.lst ((items.filter c).map x), env1) := by
  obtain ⟨env', i1, i2⟩ := lcF_pure h1 h2 h3 h4
  unfold compF
  rw [hf, Option.bind_some, i1]
  rcases i2 with rfl | ⟨d, hd, rfl⟩
  · rw [Option.map_some, r0]
  · rw [Option.map_some, r1 d hd]
/-! ### one of, shuffled -/
theorem draw_io {n : Nat} {p : D} {m : Int} {fs : FA} {env env1 : List D} (h : Pu (n + 40) p) (hm : 0 < m) (hb : Bd 1000 m) (hf : fs env = some ([.int m], env1)) (h0 : env1[0]? = some p) : ∃ d p', ucallIO 0 fs fd__law_draw env = some (.int d, env1.set 0 p') ∧ 0 ≤ d ∧ d < m ∧ Pu n p' := by
  obtain ⟨d, p', e1, e2, e3, e4⟩ := draw_ok h hm hb
  refine ⟨d, p', ?_, e2, e3, e4⟩
  unfold ucallIO
  simp only [hf, Option.bind_some, h0, e1]
theorem bd_len {n : Nat} (h : n < 2 ^ 64) : Bd 1000 (n : Int) := (show Bd 64 (n : Int) by unfold Bd; rw [Int.natAbs_natCast]; exact h).mono (by decide)
theorem atI_of {α : Type} {xs : List α} {i : Int} (h0 : 0 ≤ i) (h1 : i < xs.length) : ∃ x, L2.atI xs i = some x ∧ x ∈ xs ∧ xs[i.toNat]? = some x := by
  have hk : i.toNat < xs.length := by omega
  refine ⟨xs[i.toNat], ?_, List.getElem_mem hk, by simp [hk]⟩
  have : i = ((i.toNat : Nat) : Int) := by omega
  have e := L2.atI_nat (xs := xs) (show xs[i.toNat]? = some xs[i.toNat] by simp [hk])
  rw [← this] at e
  exact e
theorem consF_t {fa : FE} {fs : FA} {env e1 e2 : List D} {d : D} {ds : List D} (h1 : fa env = some (d, e1)) (h2 : fs e1 = some (ds, e2)) : consF fa fs env = some (d :: ds, e2) := by
  unfold consF
  rw [h1, Option.bind_some, h2, Option.bind_some]
theorem one_of_ok {n : Nat} {p : D} {ds : List D} (h : Pu (n + 40) p) (h0 : ds ≠ []) (hl : ds.length < 2 ^ 20) : ∃ d p', fd__law_one_of [p, .lst ds] = some (d, [p', .lst ds]) ∧ d ∈ ds ∧ Pu n p' := by
  have hp : 0 < ds.length := List.length_pos_iff.mpr h0
  have f1 : consF (callF (consF (varF 1) nilF) (one lenD)) nilF [p, .lst ds] = some ([.int (ds.length : Int)], [p, .lst ds]) := rfl
  obtain ⟨i, p', e1, e2, e3, e4⟩ := draw_io (m := (ds.length : Int)) h (by omega) (bd_len (by omega)) f1 rfl
  obtain ⟨d, a1, a2, _⟩ := atI_of e2 e3
  refine ⟨d, p', ?_, a2, e4⟩
  simp only [fd__law_one_of, defF, g__law_one_of, List.cons_append, List.nil_append, List.replicate, List.append_nil, retF, bin2, varF, List.getElem?_cons_succ, List.getElem?_cons_zero, Option.map_some, Option.bind_some, e1, ixD, a1, backD, List.set_cons_zero]
theorem shuf_loop {n : Nat} {all : D} : ∀ (l acc : List D) (p y : D), Pu (n + 40 * l.length) p → acc.length + l.length < 2 ^ 20 → ∃ out p' y', loopF (nameG 3) (dropF (mutE 2 (consF (ucallIO 0 (consF (bin2 (callF (consF (varF 2) nilF) (one lenD)) (conF (.int 1)) addD) nilF) fd__law_draw) (consF (varF 3) nilF)) insD)) l [p, all, .lst acc, y] =
      some (.nx [p', all, .lst out, y']) ∧ out.Perm (acc ++ l) ∧ Pu n p'
  | [], acc, p, y, h, _ => ⟨acc, p, y, rfl, by simp, h.mono (by omega)⟩
  | d :: l, acc, p, y, h, hl => by
    rw [List.length_cons] at h hl
    have f1 : consF (bin2 (callF (consF (varF 2) nilF) (one lenD)) (conF (.int 1)) addD) nilF [p, all, .lst acc, d] = some ([.int ((acc.length : Int) + 1)], [p, all, .lst acc, d]) := rfl
    obtain ⟨i, p1, e1, e2, e3, e4⟩ := draw_io (n := n + 40 * l.length) (p := p) (m := (acc.length : Int) + 1) (h.mono (by omega)) (by omega) (by have := bd_len (n := acc.length + 1) (by omega); push_cast at this; exact this) f1 rfl
    have hz : acc.length < 16777216 ∧ 0 ≤ i ∧ i.natAbs < 2 ^ 63 := ⟨by omega, e2, by omega⟩
    obtain ⟨out, p', y', i1, i2, i3⟩ := shuf_loop (n := n) (all := all) l (acc.take i.toNat ++ [d] ++ acc.drop i.toNat) p1 d e4 (by simp only [List.length_append, List.length_take, List.length_drop, List.length_singleton]; omega)
    refine ⟨out, p', y', ?_, ?_, i3⟩
    · unfold loopF
      show ((nameG 3 d [p, all, .lst acc, y]).bind _) = _
      have e0 : nameG 3 d [p, all, .lst acc, y] = some [p, all, .lst acc, d] := rfl
      have m1 : dropF (mutE 2 (consF (ucallIO 0 (consF (bin2 (callF (consF (varF 2) nilF) (one lenD)) (conF (.int 1)) addD) nilF) fd__law_draw) (consF (varF 3) nilF)) insD) [p, all, .lst acc, d] = some (.nx [p1, all, .lst (acc.take i.toNat ++ [d] ++ acc.drop i.toNat), d]) := by
        have c1 : consF (ucallIO 0 (consF (bin2 (callF (consF (varF 2) nilF) (one lenD)) (conF (.int 1)) addD) nilF) fd__law_draw) (consF (varF 3) nilF) [p, all, .lst acc, d] = some ([.int i, d], [p1, all, .lst acc, d]) := consF_t e1 rfl
        have q : mutE 2 (consF (ucallIO 0 (consF (bin2 (callF (consF (varF 2) nilF) (one lenD)) (conF (.int 1)) addD) nilF) fd__law_draw) (consF (varF 3) nilF)) insD [p, all, .lst acc, d] = some (.non, [p1, all, .lst (acc.take i.toNat ++ [d] ++ acc.drop i.toNat), d]) := by
          show mutF 2 _ insD [p, all, .lst acc, d] = _
          unfold mutF
          rw [c1, Option.bind_some]
          have iz : insD acc [.int i, d] = some (acc.take i.toNat ++ [d] ++ acc.drop i.toNat, .non) := if_pos hz
          show ((insD acc [.int i, d]).map _) = _
          rw [iz]
          rfl
        unfold dropF
        rw [q]
        rfl
      rw [e0, Option.bind_some, m1, Option.bind_some]
      exact i1
    · refine i2.trans ?_
      have : (acc.take i.toNat ++ [d] ++ acc.drop i.toNat).Perm (acc ++ [d]) := by
        rw [List.append_assoc]
        refine (List.perm_append_comm_assoc _ _ _).trans ?_
        rw [List.take_append_drop]
        exact (List.perm_append_singleton d acc).symm
      have h2 := this.append_right l
      rw [show acc ++ [d] ++ l = acc ++ d :: l by simp] at h2
      exact h2
theorem shuffled_ok {n : Nat} {p : D} {ds : List D} (h : Pu (n + 40 * ds.length) p) (hl : ds.length < 2 ^ 20) : ∃ out p', fd__law_shuffled [p, .lst ds] = some (.lst out, [p', .lst ds]) ∧ out.Perm ds ∧ Pu n p' := by
  obtain ⟨out, p', y', i1, i2, i3⟩ := shuf_loop (n := n) (all := .lst ds) ds [] p .non h (by simpa using hl)
  refine ⟨out, p', ?_, by simpa using i2, i3⟩
  have f1 : forF (seqIF (varF 1)) (nameG 3) (dropF (mutE 2 (consF (ucallIO 0 (consF (bin2 (callF (consF (varF 2) nilF) (one lenD)) (conF (.int 1)) addD) nilF) fd__law_draw) (consF (varF 3) nilF)) insD)) [p, .lst ds, .lst [], .non] = some (.nx [p', .lst ds, .lst out, y']) := i1
  have s0 : setF 2 (callF nilF lstD) [p, .lst ds, .non, .non] = some (.nx [p, .lst ds, .lst [], .non]) := rfl
  simp only [fd__law_shuffled, defF, g__law_shuffled, List.cons_append, List.nil_append, List.replicate, seqF, s0, f1, Option.bind_some, retF, varF, List.getElem?_cons_succ, List.getElem?_cons_zero, Option.map_some, backD]
/-! ### the purses of a script -/
theorem intsD_map : ∀ ns : List Int, intsD (ns.map D.int) = some ns
  | [] => rfl
  | n :: ns => by rw [List.map_cons, intsD, intsD_map ns]; rfl
theorem purse_ok {ns : List Int} {at_ : Nat} (ha : at_ < 2 ^ 20) : ∃ p, fd__law_purse [.scr ns, .int at_] = some (p, [.scr ns, .int at_]) ∧ Pu (2 ^ 59) p := by
  let seed : Int := (cutD ns (some (at_ : Int)) (some ((at_ : Int) + 1))).sum
  have s1 : setF 2 (callF (consF (sliceF (varF 0) (partF (varF 1)) (partF (bin2 (varF 1) (conF (.int 1)) addD)) sliceD) nilF) (one sumD)) [.scr ns, .int at_, .non] = some (.nx [.scr ns, .int at_, .int seed]) := by
    have c : sliceF (varF 0) (partF (varF 1)) (partF (bin2 (varF 1) (conF (.int 1)) addD)) sliceD [.scr ns, .int at_, .non] = some (.lst ((cutD ns (some (at_ : Int)) (some ((at_ : Int) + 1))).map D.int), [.scr ns, .int at_, .non]) := rfl
    simp only [setF, callF, consF, nilF, c, Option.bind_some, one, sumD, intsD_map, Option.map_some, List.set_cons_zero, List.set_cons_succ]
    rfl
  obtain ⟨big, eb⟩ : ∃ big : Int, big = (10 ^ (60 : Int).toNat) ^ (8 : Int).toNat := ⟨_, rfl⟩
  have hbig : 0 < big := by rw [eb]; exact Int.pow_pos (Int.pow_pos (by decide))
  have k1 : powOk 10 18 = true := by decide +kernel
  have k2 : powOk 10 60 = true := by decide +kernel
  have k3 : powOk (10 ^ (60 : Int).toNat) 8 = true := by decide +kernel
  obtain ⟨t, et⟩ : ∃ t : Int, t = (if 0 > seed - 10 ^ (18 : Int).toNat then 0 else seed - 10 ^ (18 : Int).toNat) := ⟨_, rfl⟩
  have m1 : modOk t big = true := mod_ok hbig
  have m2 : modOk seed 2147483629 = true := mod_ok (by decide)
  refine ⟨purse (t % big) (seed % 2147483629) 0 at_, ?_, _, _, _, 0, rfl, Int.emod_nonneg _ (by omega), mod_bd (by decide) (Bd.const (by decide)), by decide, by unfold Bd; rw [Int.natAbs_natCast]; omega⟩
  simp only [fd__law_purse, defF, g__law_purse, List.cons_append, List.nil_append, List.replicate, seqF, s1, Option.bind_some, retF, callF, consF, nilF, bin2, varF, conF, List.getElem?_cons_succ, List.getElem?_cons_zero, Option.map_some, intOp_t k1, intOp_t k2, intOp_t k3, intOp0, two, maxD2, one, intD, ← et, ← eb, intOp_t m1, intOp_t m2, lstD, backD, purse]
theorem purses_ok {ns : List Int} {k : Nat} (hk : k < 2 ^ 19) : ∃ ps, fd__law_purses [.scr ns, .int k] = some (.lst ps, [.scr ns, .int k]) ∧ ps.length ≤ k + 1 ∧ ∀ p ∈ ps, Pu (2 ^ 59) p := by
  obtain ⟨j, ej⟩ : ∃ j : Nat, (if (if (ns.length : Int) < (k : Int) then (ns.length : Int) else (k : Int)) > 1 then (if (ns.length : Int) < (k : Int) then (ns.length : Int) else (k : Int)) else 1) = (j : Int) := by
    refine ⟨max 1 (min k ns.length), ?_⟩
    split <;> split <;> omega
  have hj : j ≤ k + 1 := by
    split at ej <;> split at ej <;> omega
  have r1 : rng1F (consF (callF (consF (conF (.int 1)) (consF (callF (consF (varF 1) (consF (callF (consF (varF 0) nilF) (one lenD)) nilF)) (two minD2)) nilF)) (two maxD2)) nilF) [.scr ns, .int k, .non] = some (rangeD 0 j, [.scr ns, .int k, .non]) := by
    simp only [rng1F, consF, nilF, callF, varF, conF, List.getElem?_cons_zero, List.getElem?_cons_succ, Option.map_some, Option.bind_some, one, lenD, two, minD2, maxD2, ej, Int.natAbs_natCast, Int.toNat_natCast]
    rw [if_pos (by omega)]
  have each : ∀ d ∈ rangeD 0 j, ∃ p, fd__law_purse [.scr ns, d] = some (p, [.scr ns, d]) ∧ Pu (2 ^ 59) p := fun d hd => by
    unfold rangeD at hd
    obtain ⟨i, hi, rfl⟩ := List.mem_map.mp hd
    have hi' := List.mem_range.mp hi
    have := purse_ok (ns := ns) (at_ := i) (by omega)
    simpa using this
  let x : D → D := fun d => ((fd__law_purse [.scr ns, d]).map (·.1)).getD .non
  have hx : ∀ d ∈ rangeD 0 j, fd__law_purse [.scr ns, d] = some (x d, [.scr ns, d]) ∧ Pu (2 ^ 59) (x d) := fun d hd => by
    obtain ⟨p, h1, h2⟩ := each d hd
    have : x d = p := by show ((fd__law_purse [.scr ns, d]).map (·.1)).getD .non = p; rw [h1]; rfl
    rw [this]; exact ⟨h1, h2⟩
  have c := comp_pure (f := rng1F (consF (callF (consF (conF (.int 1)) (consF (callF (consF (varF 1) (consF (callF (consF (varF 0) nilF) (one lenD)) nilF)) (two minD2)) nilF)) (two maxD2)) nilF)) (own := [2]) (b := nameG 2) (gt := yesF) (fe := ucallF (consF (varF 0) (consF (varF 2) nilF)) fd__law_purse)
    (fun d => [.scr ns, .int k, d]) (fun _ => true) x r1 (fun _ _ => rfl) (fun _ _ _ _ => rfl) (fun _ _ => rfl) (fun d hd _ => by
      simp only [ucallF, consF, nilF, varF, List.getElem?_cons_zero, List.getElem?_cons_succ, Option.map_some, Option.bind_some, (hx d hd).1]) rfl (fun _ _ => rfl)
  refine ⟨(rangeD 0 j).map x, ?_, by rw [List.length_map, rangeD_length]; exact hj, fun p hp => ?_⟩
  · have fl : (rangeD 0 j).filter (fun _ => true) = rangeD 0 j := List.filter_eq_self.mpr fun _ _ => rfl
    rw [fl] at c
    simp only [fd__law_purses, defF, g__law_purses, List.cons_append, List.nil_append, List.replicate, retF, c, Option.map_some, backD]
  · obtain ⟨d, hd, rfl⟩ := List.mem_map.mp hp
    exact (hx d hd).2
/-! ### exactly the same -/
mutual
/-- plain data, at most n deep -/
def okX : Nat → D → Prop
  | _, .non => True
  | _, .bl _ => True
  | _, .int _ => True
  | _, .str x => PyData.strOk x = true
  | n + 1, .lst ds => okXs n ds
  | n + 1, .tup ds => okXs n ds
  | _, _ => False
def okXs : Nat → List D → Prop
  | _, [] => True
  | n, d :: ds => okX n d ∧ okXs n ds
end
theorem okXs_mem {n : Nat} : ∀ {ds : List D}, okXs n ds → ∀ d ∈ ds, okX n d
  | [], _, d, h => nomatch h
  | x :: ds, h, d, hd => by
    rw [okXs] at h
    rcases List.mem_cons.mp hd with rfl | z
    · exact h.1
    · exact okXs_mem h.2 d z
theorem okXs_of {n : Nat} : ∀ {ds : List D}, (∀ d ∈ ds, okX n d) → okXs n ds
  | [], _ => by rw [okXs]; trivial
  | x :: ds, h => by
    rw [okXs]
    exact ⟨h x List.mem_cons_self, okXs_of fun d hd => h d (List.mem_cons_of_mem _ hd)⟩
theorem okX.mono {n : Nat} : ∀ {m : Nat} {d : D}, okX n d → n ≤ m → okX m d := by
  induction n with
  | zero => intro m d h _; cases d <;> simp [okX] at h ⊢ <;> exact h
  | succ n ih =>
    intro m d h hm
    cases m with
    | zero => omega
    | succ m =>
      cases d with
      | lst ds => rw [okX] at h ⊢; exact okXs_of fun d hd => ih (okXs_mem h d hd) (by omega)
      | tup ds => rw [okX] at h ⊢; exact okXs_of fun d hd => ih (okXs_mem h d hd) (by omega)
      | non => rw [okX]; trivial
      | bl b => rw [okX]; trivial
      | int b => rw [okX]; trivial
      | str b => rw [okX] at h ⊢; exact h
      | _ => exact absurd h (by simp [okX])
theorem zipD_self : ∀ ds : List D, zipD ds ds = ds.map fun d => .tup [d, d]
  | [] => rfl
  | d :: ds => by rw [zipD, zipD_self ds]; rfl
theorem bolsD_true : ∀ {ds : List D}, (∀ d ∈ ds, d = .bl true) → bolsD ds = some (ds.map fun _ => true)
  | [], _ => rfl
  | d :: ds, h => by
    rw [h d List.mem_cons_self, bolsD, bolsD_true fun x hx => h x (List.mem_cons_of_mem _ hx)]
    rfl
theorem eq_bl (b c : Bool) : eqD (.bl b) (.bl c) = some (.bl (b == c)) := by cases b <;> cases c <;> rfl
theorem ne_bl (b c : Bool) : neD (.bl b) (.bl c) = some (.bl (!(b == c))) := by cases b <;> cases c <;> rfl
theorem eq_int (i : Int) : eqD (.int i) (.int i) = some (.bl true) := by
  simp [eqD, eqDD, toPy, SeqAt.shaped, PyData.canLay0, PyData.depth, PyData.eqv]
theorem eq_str {i : Str} (h : PyData.strOk i = true) : eqD (.str i) (.str i) = some (.bl true) := by
  simp [eqD, eqDD, toPy, SeqAt.shaped, PyData.canLay0, PyData.depth, PyData.eqv, h]
theorem bolsD_map : ∀ bs : List Bool, bolsD (bs.map D.bl) = some bs
  | [] => rfl
  | b :: bs => by rw [List.map_cons, bolsD, bolsD_map bs]; rfl
theorem all_bl (bs : List Bool) : one allD [.lst (bs.map D.bl)] = some (.bl (bs.all id)) := by
  show ((bolsD (bs.map D.bl)).map _) = _
  rw [bolsD_map]; rfl
theorem all_true {ds : List D} (h : ∀ d ∈ ds, d = .bl true) : one allD [.lst ds] = some (.bl true) := by
  have e : ds = (ds.map fun _ => true).map D.bl := by
    rw [List.map_map]
    conv => lhs; rw [← List.map_id ds]
    exact List.map_congr_left fun d hd => h d hd
  rw [e, all_bl]
  simp
theorem exact_sc (n : Nat) {d : D} (h : okX 0 d) : fd__law_exact (n + 1) [d, d] = some (.bl true, [d, d]) := by
  have e : eqD d d = some (.bl true) := by
    cases d with
    | non => rfl
    | bl b => rw [eq_bl]; simp
    | int i => exact eq_int i
    | str i => rw [okX] at h; exact eq_str h
    | _ => simp [okX] at h
  have t1 : ∃ b, un1 (varF 0) (isiTD ["list", "tuple"]) [d, d, .non, .non, .non, .non] = some (.bl b, [d, d, .non, .non, .non, .non]) ∧ un1 (varF 1) (isiTD ["list", "tuple"]) [d, d, .non, .non, .non, .non] = some (.bl b, [d, d, .non, .non, .non, .non]) ∧ b = false := by
    cases d with
    | non => exact ⟨_, rfl, rfl, rfl⟩
    | bl b => exact ⟨_, rfl, rfl, rfl⟩
    | int i => exact ⟨_, rfl, rfl, rfl⟩
    | str i => exact ⟨_, rfl, rfl, rfl⟩
    | _ => simp [okX] at h
  have i1 : ∀ (n : String) (x y : D), ∃ b, un1 (varF 0) (isiD n) [d, d, .non, x, y, .non] = some (.bl b, [d, d, .non, x, y, .non]) ∧ un1 (varF 1) (isiD n) [d, d, .non, x, y, .non] = some (.bl b, [d, d, .non, x, y, .non]) := fun n x y => by
    cases d with
    | non => exact ⟨_, rfl, rfl⟩
    | bl b => exact ⟨_, rfl, rfl⟩
    | int i => exact ⟨_, rfl, rfl⟩
    | str i => exact ⟨_, rfl, rfl⟩
    | _ => simp [okX] at h
  obtain ⟨b0, a1, a2, rfl⟩ := t1
  obtain ⟨b1, c1, c2⟩ := i1 "int" .non .non
  obtain ⟨b2, c3, c4⟩ := i1 "str" .non .non
  obtain ⟨b3, c5, c6⟩ := i1 "bool" (.bl true) .non
  have n1 : ∀ env : List D, bin2 (varF 0) (conF .non) isNoneD [d, d, .non, .non, .non, .non] = some (.bl (isN d), [d, d, .non, .non, .non, .non]) := fun _ => rfl
  have n2 : ∀ env : List D, bin2 (varF 1) (conF .non) isNoneD [d, d, .non, .non, .non, .non] = some (.bl (isN d), [d, d, .non, .non, .non, .non]) := fun _ => rfl
  have q0 : tstF (un1 (varF 0) (isiTD ["list", "tuple"])) [d, d, .non, .non, .non, .non] = some (false, [d, d, .non, .non, .non, .non]) := by unfold tstF; rw [a1]; rfl
  have q1 : tstF (un1 (varF 1) (isiTD ["list", "tuple"])) [d, d, .non, .non, .non, .non] = some (false, [d, d, .non, .non, .non, .non]) := by unfold tstF; rw [a2]; rfl
  have q2 : tstF (bin2 (bin2 (varF 0) (conF .non) isNoneD) (bin2 (varF 1) (conF .non) isNoneD) neD) [d, d, .non, .non, .non, .non] = some (false, [d, d, .non, .non, .non, .non]) := by
    unfold tstF
    rw [show bin2 (bin2 (varF 0) (conF .non) isNoneD) (bin2 (varF 1) (conF .non) isNoneD) neD [d, d, .non, .non, .non, .non] = some (.bl false, [d, d, .non, .non, .non, .non]) by
      rw [bin2, n1 [], Option.bind_some, n2 [], Option.bind_some, ne_bl]; simp]
    rfl
  have q3 : setF 3 (andV (bin2 (un1 (varF 0) (isiD "int")) (un1 (varF 1) (isiD "int")) eqD) (bin2 (un1 (varF 0) (isiD "str")) (un1 (varF 1) (isiD "str")) eqD)) [d, d, .non, .non, .non, .non] = some (.nx [d, d, .non, .bl true, .non, .non]) := by
    have z1 : bin2 (un1 (varF 0) (isiD "int")) (un1 (varF 1) (isiD "int")) eqD [d, d, .non, .non, .non, .non] = some (.bl true, [d, d, .non, .non, .non, .non]) := by
      rw [bin2, c1, Option.bind_some, c2, Option.bind_some, eq_bl]; simp
    have z2 : bin2 (un1 (varF 0) (isiD "str")) (un1 (varF 1) (isiD "str")) eqD [d, d, .non, .non, .non, .non] = some (.bl true, [d, d, .non, .non, .non, .non]) := by
      rw [bin2, c3, Option.bind_some, c4, Option.bind_some, eq_bl]; simp
    unfold setF andV tstF
    rw [z1]
    simp only [Option.bind_some, if_true, z2]
    rfl
  have q4 : andV (varF 3) (andV (bin2 (un1 (varF 0) (isiD "bool")) (un1 (varF 1) (isiD "bool")) eqD) (bin2 (varF 0) (varF 1) eqD)) [d, d, .non, .bl true, .non, .non] = some (.bl true, [d, d, .non, .bl true, .non, .non]) := by
    have z1 : bin2 (un1 (varF 0) (isiD "bool")) (un1 (varF 1) (isiD "bool")) eqD [d, d, .non, .bl true, .non, .non] = some (.bl true, [d, d, .non, .bl true, .non, .non]) := by
      rw [bin2, c5, Option.bind_some, c6, Option.bind_some, eq_bl]; simp
    have z2 : bin2 (varF 0) (varF 1) eqD [d, d, .non, .bl true, .non, .non] = some (.bl true, [d, d, .non, .bl true, .non, .non]) := by
      simp only [bin2, varF, List.getElem?_cons_zero, List.getElem?_cons_succ, Option.map_some, Option.bind_some, e]
    unfold andV tstF
    rw [show varF 3 [d, d, .non, .bl true, .non, .non] = some (.bl true, [d, d, .non, .bl true, .non, .non]) from rfl]
    simp only [Option.bind_some, if_true, z1, z2]
  rw [fd__law_exact]
  simp only [defF, List.cons_append, List.nil_append, List.replicate, seqF, iteF', q0, Option.bind_some, Bool.false_eq_true, if_false, skipF, orF, q1, q2, q3, retF, q4, Option.map_some, backD]
def pairE (x y a b : D) : D → List D
  | .tup [u, v] => [x, y, a, b, u, v]
  | _ => []
theorem exact_all {n : Nat} {x a b : D} {ds : List D} (hx : x = .lst ds ∨ x = .tup ds) (ih : ∀ d ∈ ds, fd__law_exact n [d, d] = some (.bl true, [d, d])) :
    callF (consF (compF (zipAF (consF (varF 0) (consF (varF 1) nilF))) [4, 5] (tupG 2 (consG (nameG 4) (consG (nameG 5) nilG))) yesF (ucallF (consF (varF 4) (consF (varF 5) nilF)) (fd__law_exact n))) nilF) (one allD) [x, x, a, b, .non, .non] = some (.bl true, [x, x, a, b, .non, .non]) := by
  have z : zipAF (consF (varF 0) (consF (varF 1) nilF)) [x, x, a, b, .non, .non] = some (ds.map fun d => .tup [d, d], [x, x, a, b, .non, .non]) := by
    rcases hx with rfl | rfl
    · rw [← zipD_self]; rfl
    · rw [← zipD_self]; rfl
  have c := comp_pure (f := zipAF (consF (varF 0) (consF (varF 1) nilF))) (own := [4, 5]) (b := tupG 2 (consG (nameG 4) (consG (nameG 5) nilG))) (gt := yesF) (fe := ucallF (consF (varF 4) (consF (varF 5) nilF)) (fd__law_exact n))
    (pairE x x a b) (fun _ => true) (fun _ => .bl true) z
    (fun d hd => by obtain ⟨u, hu, rfl⟩ := List.mem_map.mp hd; rfl) (fun d hd d' hd' => by obtain ⟨u, hu, rfl⟩ := List.mem_map.mp hd; obtain ⟨u', hu', rfl⟩ := List.mem_map.mp hd'; rfl)
    (fun d hd => rfl) (fun d hd _ => by
      obtain ⟨u, hu, rfl⟩ := List.mem_map.mp hd
      simp only [pairE, ucallF, consF, nilF, varF, List.getElem?_cons_zero, List.getElem?_cons_succ, Option.map_some, Option.bind_some, ih u hu]) rfl
    (fun d hd => by obtain ⟨u, hu, rfl⟩ := List.mem_map.mp hd; rfl)
  unfold callF
  rw [consF_t c rfl, Option.bind_some]
  show ((one allD [.lst _]).map _) = _
  have al : one allD [.lst (((ds.map fun d => D.tup [d, d]).filter fun _ => true).map fun _ => .bl true)] = some (.bl true) := all_true fun d hd => by obtain ⟨_, _, e⟩ := List.mem_map.mp hd; exact e.symm
  rw [al]
  rfl
theorem exact_ok : ∀ (n : Nat) (d : D), okX n d → fd__law_exact (n + 1) [d, d] = some (.bl true, [d, d])
  | 0, d, h => exact_sc 0 h
  | n + 1, d, h => by
    by_cases hs : okX 0 d
    · exact exact_sc (n + 1) hs
    · have key : ∃ ds, (d = .lst ds ∨ d = .tup ds) ∧ okXs n ds := by
        cases d with
        | lst ds => rw [okX] at h; exact ⟨ds, .inl rfl, h⟩
        | tup ds => rw [okX] at h; exact ⟨ds, .inr rfl, h⟩
        | non => exact absurd (by rw [okX]; trivial) hs
        | bl b => exact absurd (by rw [okX]; trivial) hs
        | int b => exact absurd (by rw [okX]; trivial) hs
        | str b => exact absurd (by rw [okX] at h ⊢; exact h) hs
        | _ => exact absurd h (by simp [okX])
      obtain ⟨ds, hd, ho⟩ := key
      have al := exact_all (n := n + 1) (x := d) (a := .bl true) (b := .bl true) hd fun u hu => exact_ok n u (okXs_mem ho u hu)
      have le : bin2 (callF (consF (varF 0) nilF) (one lenD)) (callF (consF (varF 1) nilF) (one lenD)) eqD [d, d, .bl true, .bl true, .non, .non] = some (.bl true, [d, d, .bl true, .bl true, .non, .non]) := by
        rcases hd with rfl | rfl <;> simp only [bin2, callF, consF, nilF, varF, one, lenD, List.getElem?_cons_zero, List.getElem?_cons_succ, Option.map_some, Option.bind_some, eq_int]
      have t1 : tstF (un1 (varF 0) (isiTD ["list", "tuple"])) [d, d, .non, .non, .non, .non] = some (true, [d, d, .non, .non, .non, .non]) := by
        rcases hd with rfl | rfl <;> rfl
      have s1 : setF 2 (bin2 (un1 (varF 1) (isiD "list")) (un1 (varF 0) (isiD "list")) eqD) [d, d, .non, .non, .non, .non] = some (.nx [d, d, .bl true, .non, .non, .non]) := by
        rcases hd with rfl | rfl <;> rfl
      have s2 : setF 3 (andV (varF 2) (bin2 (un1 (varF 1) (isiD "tuple")) (un1 (varF 0) (isiD "tuple")) eqD)) [d, d, .bl true, .non, .non, .non] = some (.nx [d, d, .bl true, .bl true, .non, .non]) := by
        rcases hd with rfl | rfl <;> rfl
      have v3 : tstF (varF 3) [d, d, .bl true, .bl true, .non, .non] = some (true, [d, d, .bl true, .bl true, .non, .non]) := rfl
      have le2 : tstF (bin2 (callF (consF (varF 0) nilF) (one lenD)) (callF (consF (varF 1) nilF) (one lenD)) eqD) [d, d, .bl true, .bl true, .non, .non] = some (true, [d, d, .bl true, .bl true, .non, .non]) := by
        unfold tstF
        rw [le]
        rfl
      rw [fd__law_exact]
      simp only [defF, List.cons_append, List.nil_append, List.replicate, seqF, iteF', t1, Option.bind_some, if_true, s1, s2, retF, andV, v3, le2, al, Option.map_some, backD]
end LH
namespace LH
open PySem DL
theorem tstF_t {f : FE} {env e1 : List D} {b : Bool} (h : f env = some (.bl b, e1)) : tstF f env = some (b, e1) := by unfold tstF; rw [h]; rfl
theorem callF_t {fs : FA} {g : List D → Option D} {env e1 : List D} {ds : List D} {d : D} (h : fs env = some (ds, e1)) (k : g ds = some d) : callF fs g env = some (d, e1) := by unfold callF; rw [h, Option.bind_some, k]; rfl
theorem call1_t {f : FE} {g : List D → Option D} {env e1 : List D} {x d : D} (h : f env = some (x, e1)) (k : g [x] = some d) : callF (consF f nilF) g env = some (d, e1) := callF_t (consF_t h rfl) k
theorem bin2_t {fa fb : FE} {g : D → D → Option D} {env e1 e2 : List D} {x y d : D} (h1 : fa env = some (x, e1)) (h2 : fb e1 = some (y, e2)) (k : g x y = some d) : bin2 fa fb g env = some (d, e2) := by unfold bin2; rw [h1, Option.bind_some, h2, Option.bind_some, k]; rfl
theorem setF_t {i : Nat} {f : FE} {env e1 : List D} {d : D} (h : f env = some (d, e1)) : setF i f env = some (.nx (e1.set i d)) := by unfold setF; rw [h]; rfl
theorem retF_t {f : FE} {env e1 : List D} {d : D} (h : f env = some (d, e1)) : retF f env = some (.rt d e1) := by unfold retF; rw [h]; rfl
theorem dropF_t {f : FE} {env e1 : List D} {d : D} (h : f env = some (d, e1)) : dropF f env = some (.nx e1) := by unfold dropF; rw [h]; rfl
theorem seqF_t {a b : FS} {env e1 : List D} {o : Out} (h1 : a env = some (.nx e1)) (h2 : b e1 = some o) : seqF a b env = some o := by unfold seqF; rw [h1, Option.bind_some]; exact h2
theorem seqF_r {a b : FS} {env e1 : List D} {d : D} (h1 : a env = some (.rt d e1)) : seqF a b env = some (.rt d e1) := by unfold seqF; rw [h1]; rfl
theorem ite_t {c : FT} {a b : FS} {env e1 : List D} {o : Out} (h1 : c env = some (true, e1)) (h2 : a e1 = some o) : iteF' c a b env = some o := by unfold iteF'; rw [h1, Option.bind_some, if_pos rfl]; exact h2
theorem ite_f {c : FT} {a b : FS} {env e1 : List D} {o : Out} (h1 : c env = some (false, e1)) (h2 : b e1 = some o) : iteF' c a b env = some o := by unfold iteF'; rw [h1, Option.bind_some, if_neg Bool.false_ne_true]; exact h2
theorem notF_t {c : FT} {env e1 : List D} {b : Bool} (h : c env = some (b, e1)) : notF c env = some (!b, e1) := by unfold notF; rw [h]; rfl
theorem or_f {a b : FT} {env e1 : List D} {r : Option (Bool × List D)} (h : a env = some (false, e1)) (k : b e1 = r) : orF a b env = r := by unfold orF; rw [h, Option.bind_some, if_neg Bool.false_ne_true]; exact k
theorem or_t {a b : FT} {env e1 : List D} (h : a env = some (true, e1)) : orF a b env = some (true, e1) := by unfold orF; rw [h, Option.bind_some, if_pos rfl]
theorem ucall_t {fs : FA} {F : FD} {env e1 : List D} {ds ds' : List D} {d : D} (h : fs env = some (ds, e1)) (k : F ds = some (d, ds')) : ucallF fs F env = some (d, e1) := by unfold ucallF; rw [h, Option.bind_some, k]; rfl
theorem forF_t {f : FA} {b : FG} {g : FS} {env e1 : List D} {l : List D} {o : Out} (h : f env = some (l, e1)) (k : loopF b g l e1 = some o) : forF f b g env = some o := by unfold forF; rw [h, Option.bind_some]; exact k
/-- one turn of a loop, then the rest -/
theorem loop_t {b : FG} {g : FS} {d : D} {l : List D} {env e1 e2 : List D} {o : Out} (h1 : b d env = some e1) (h2 : g e1 = some (.nx e2)) (h3 : loopF b g l e2 = some o) : loopF b g (d :: l) env = some o := by
  unfold loopF; rw [h1, Option.bind_some, h2, Option.bind_some]; exact h3
theorem loop_r {b : FG} {g : FS} {d x : D} {l : List D} {env e1 e2 : List D} (h1 : b d env = some e1) (h2 : g e1 = some (.rt x e2)) : loopF b g (d :: l) env = some (.rt x e2) := by
  unfold loopF; rw [h1, Option.bind_some, h2]; rfl
theorem defF_r {pms : List M} {k : Nat} {g : FS} {ds e1 : List D} {d : D} (h : g (ds ++ List.replicate k .non) = some (.rt d e1)) : defF pms k g ds = some (d, backD pms ds e1) := by unfold defF; rw [h]; rfl
theorem defF_n {pms : List M} {k : Nat} {g : FS} {ds e1 : List D} (h : g (ds ++ List.replicate k .non) = some (.nx e1)) : defF pms k g ds = some (.non, backD pms ds e1) := by unfold defF; rw [h]; rfl
/-! ### comprehensions over encoded lists -/
theorem lcF_ty {τ : Type} {enc : τ → D} {b : FG} {gt : FT} {fe : FE} {E : τ → List D} {c : τ → Bool} {x : τ → D} : ∀ {ts : List τ} {env : List D}, (∀ t ∈ ts, b (enc t) env = some (E t)) → (∀ t ∈ ts, ∀ t' ∈ ts, b (enc t) (E t') = some (E t)) →
    (∀ t ∈ ts, gt (E t) = some (c t, E t)) → (∀ t ∈ ts, c t = true → fe (E t) = some (x t, E t)) → ∃ env', lcF b gt fe (ts.map enc) env = some ((ts.filter c).map x, env') ∧ (env' = env ∨ ∃ t ∈ ts, env' = E t)
  | [], env, _, _, _, _ => ⟨env, rfl, .inl rfl⟩
  | d :: ts, env, h1, h2, h3, h4 => by
    obtain ⟨env', i1, i2⟩ := lcF_ty (enc := enc) (ts := ts) (env := E d) (b := b) (gt := gt) (fe := fe) (E := E) (c := c) (x := x) (fun d' hd => h2 d' (List.mem_cons_of_mem _ hd) d List.mem_cons_self) (fun d' hd d2 hd2 => h2 d' (List.mem_cons_of_mem _ hd) d2 (List.mem_cons_of_mem _ hd2)) (fun d' hd => h3 d' (List.mem_cons_of_mem _ hd)) (fun d' hd => h4 d' (List.mem_cons_of_mem _ hd))
    refine ⟨env', ?_, .inr (i2.elim (fun z => ⟨d, List.mem_cons_self, z⟩) fun ⟨d', hd, z⟩ => ⟨d', List.mem_cons_of_mem _ hd, z⟩)⟩
    rw [List.map_cons]
    unfold lcF
    rw [h1 d List.mem_cons_self, Option.bind_some, h3 d List.mem_cons_self, Option.bind_some]
    cases hc : c d with
    | true =>
      have := h4 d List.mem_cons_self hc
      simp only [if_true]
      rw [this, Option.bind_some, i1, List.filter_cons_of_pos hc]
      rfl
    | false =>
      simp only [Bool.false_eq_true, if_false]
      rw [i1, List.filter_cons_of_neg (by rw [hc]; exact Bool.false_ne_true)]
theorem comp_ty {τ : Type} (enc : τ → D) {f : FA} {own : List Nat} {b : FG} {gt : FT} {fe : FE} (E : τ → List D) (c : τ → Bool) (x : τ → D) {ts : List τ} {env env1 : List D} (hf : f env = some (ts.map enc, env1)) (h1 : ∀ t ∈ ts, b (enc t) env1 = some (E t)) (h2 : ∀ t ∈ ts, ∀ t' ∈ ts, b (enc t) (E t') = some (E t))
    (h3 : ∀ t ∈ ts, gt (E t) = some (c t, E t)) (h4 : ∀ t ∈ ts, c t = true → fe (E t) = some (x t, E t)) (r0 : restD env1 env1 own = env1) (r1 : ∀ t ∈ ts, restD env1 (E t) own = env1) : compF f own b gt fe env = some (.lst ((ts.filter c).map x), env1) := by
  obtain ⟨env', i1, i2⟩ := lcF_ty h1 h2 h3 h4
  unfold compF
  rw [hf, Option.bind_some, i1]
  rcases i2 with rfl | ⟨d, hd, rfl⟩
  · rw [Option.map_some, r0]
  · rw [Option.map_some, r1 d hd]
/-- the same without a test -/
theorem comp_all {τ : Type} (enc : τ → D) {f : FA} {own : List Nat} {b : FG} {fe : FE} (E : τ → List D) (x : τ → D) {ts : List τ} {env env1 : List D} (hf : f env = some (ts.map enc, env1)) (h1 : ∀ t ∈ ts, b (enc t) env1 = some (E t)) (h2 : ∀ t ∈ ts, ∀ t' ∈ ts, b (enc t) (E t') = some (E t))
    (h4 : ∀ t ∈ ts, fe (E t) = some (x t, E t)) (r0 : restD env1 env1 own = env1) (r1 : ∀ t ∈ ts, restD env1 (E t) own = env1) : compF f own b yesF fe env = some (.lst (ts.map x), env1) := by
  have := comp_ty (gt := yesF) enc E (fun _ => true) x hf h1 h2 (fun _ _ => rfl) (fun t ht _ => h4 t ht) r0 r1
  rw [List.filter_eq_self.mpr fun _ _ => rfl] at this
  exact this
/-! ### tables with texts for keys -/
section
variable {α : Type} (enc : α → D)
def lookA {α : Type} : List (Str × α) → Str → Option α
  | [], _ => none
  | (k, v) :: r, n => if k = n then some v else lookA r n
def kvs (c : List (Str × α)) : List (L2.Key × D) := c.map fun p => (.inr p.1, enc p.2)
def tabD (c : List (Str × α)) : D := .dK (c.map fun p => .inr p.1) (c.map fun p => enc p.2)
theorem tab_zip (c : List (Str × α)) : (c.map fun p => (Sum.inr p.1 : L2.Key)).zip (c.map fun p => enc p.2) = kvs enc c := by
  unfold kvs
  induction c with
  | nil => rfl
  | cons p c ih => rw [List.map_cons, List.map_cons, List.zip_cons_cons, ih]; rfl
theorem kvs_tab (c : List (Str × α)) : D.dK ((kvs enc c).map (·.1)) ((kvs enc c).map (·.2)) = tabD enc c := by
  unfold kvs tabD
  rw [List.map_map, List.map_map]
  rfl
theorem look_tab (c : List (Str × α)) (n : Str) : lookK (c.map fun p => (Sum.inr p.1 : L2.Key)) (c.map fun p => enc p.2) (.inr n) = (lookA c n).map enc := by
  induction c with
  | nil => rfl
  | cons p c ih =>
    rw [List.map_cons, List.map_cons, lookK, lookA]
    by_cases h : p.1 = n
    · rw [if_pos (by rw [h]), if_pos h]; rfl
    · rw [if_neg (fun z => h (Sum.inr.inj z)), if_neg h, ih]
theorem ix_tab (c : List (Str × α)) (n : Str) : ixD (tabD enc c) (.str n) = (lookA c n).map enc := look_tab enc c n
theorem in_tab (c : List (Str × α)) (n : Str) : inAD (.str n) (tabD enc c) = some (.bl (lookA c n).isSome) := by
  have h : inD (.str n) (tabD enc c) = some (lookA c n).isSome := by
    show some (lookK (c.map fun p => (Sum.inr p.1 : L2.Key)) (c.map fun p => enc p.2) (Sum.inr n)).isSome = _
    rw [look_tab, Option.isSome_map]
  unfold inAD
  rw [h]
theorem notIn_tab (c : List (Str × α)) (n : Str) : notInAD (.str n) (tabD enc c) = some (.bl (!(lookA c n).isSome)) := by
  have h : inD (.str n) (tabD enc c) = some (lookA c n).isSome := by
    show some (lookK (c.map fun p => (Sum.inr p.1 : L2.Key)) (c.map fun p => enc p.2) (Sum.inr n)).isSome = _
    rw [look_tab, Option.isSome_map]
  unfold notInAD
  rw [h]
theorem get_tab (c : List (Str × α)) (n : Str) : getD (tabD enc c) (.str n) = some ((lookA c n).map enc) := by
  show some (lookK (c.map fun p => (Sum.inr p.1 : L2.Key)) (c.map fun p => enc p.2) (Sum.inr n)) = _
  rw [look_tab]
theorem put_kvs (c : List (Str × α)) (n : Str) (v : α) : putG (kvs enc c) (.inr n) (enc v) = kvs enc (putG c n v) := by
  have any : ((kvs enc c).any fun kv => decide (kv.1 = (Sum.inr n : L2.Key))) = c.any fun kv => decide (kv.1 = n) := by
    unfold kvs
    rw [List.any_map]
    congr 1
    funext p
    show decide ((Sum.inr p.1 : L2.Key) = .inr n) = decide (p.1 = n)
    by_cases h : p.1 = n
    · rw [h]; simp
    · rw [decide_eq_false h, decide_eq_false fun z => h (Sum.inr.inj z)]
  unfold putG
  rw [any]
  split
  · unfold kvs
    rw [List.map_map, List.map_map]
    refine List.map_congr_left fun p _ => ?_
    show (if (Sum.inr p.1 : L2.Key) = .inr n then (Sum.inr p.1, enc v) else (Sum.inr p.1, enc p.2)) = _
    by_cases h : p.1 = n
    · rw [if_pos (by rw [h])]
      show _ = (Sum.inr (if p.1 = n then (p.1, v) else p).1, enc (if p.1 = n then (p.1, v) else p).2)
      rw [if_pos h]
    · rw [if_neg (fun z => h (Sum.inr.inj z))]
      show _ = (Sum.inr (if p.1 = n then (p.1, v) else p).1, enc (if p.1 = n then (p.1, v) else p).2)
      rw [if_neg h]
  · unfold kvs
    rw [List.map_append]
    rfl
theorem put_tab (c : List (Str × α)) (n : Str) (v : α) (h : c.length < 16777216) : putDD (tabD enc c) (.str n) (enc v) = some (tabD enc (putG c n v)) := by
  have : putDD (tabD enc c) (.str n) (enc v) = some (.dK ((putG (kvs enc c) (.inr n) (enc v)).map (·.1)) ((putG (kvs enc c) (.inr n) (enc v)).map (·.2))) := by
    rw [← tab_zip]
    show (if (c.map fun p => (Sum.inr p.1 : L2.Key)).length < 16777216 then _ else none) = _
    rw [if_pos (by rw [List.length_map]; exact h)]
    rfl
  rw [this, put_kvs, kvs_tab]
end
theorem lookA_cons {α : Type} (p : Str × α) (c : List (Str × α)) (m : Str) : lookA (p :: c) m = if p.1 = m then some p.2 else lookA c m := rfl
theorem lookA_map_ne {α : Type} {n m : Str} {v : α} (h : m ≠ n) : ∀ c : List (Str × α), lookA (c.map fun kv => if kv.1 = n then (kv.1, v) else kv) m = lookA c m
  | [] => rfl
  | p :: c => by
    rw [List.map_cons, lookA_cons, lookA_cons, lookA_map_ne h c]
    by_cases hp : p.1 = n
    · simp [hp, Ne.symm h]
    · simp [hp]
theorem lookA_map_eq {α : Type} {n : Str} {v : α} : ∀ c : List (Str × α), (c.any fun kv => decide (kv.1 = n)) = true → lookA (c.map fun kv => if kv.1 = n then (kv.1, v) else kv) n = some v
  | [], h => by simp at h
  | p :: c, h => by
    rw [List.map_cons, lookA_cons]
    by_cases hp : p.1 = n
    · simp [hp]
    · have h' : (c.any fun kv => decide (kv.1 = n)) = true := by simpa [hp] using h
      simp [hp, lookA_map_eq c h']
theorem lookA_app {α : Type} (m : Str) (d : List (Str × α)) : ∀ c : List (Str × α), lookA (c ++ d) m = (lookA c m).or (lookA d m)
  | [] => by simp [lookA]
  | p :: c => by
    rw [List.cons_append, lookA_cons, lookA_cons, lookA_app m d c]
    by_cases hp : p.1 = m
    · simp [hp]
    · simp [hp]
theorem lookA_none {α : Type} {n : Str} : ∀ c : List (Str × α), ¬ (c.any fun kv => decide (kv.1 = n)) = true → lookA c n = none
  | [], _ => rfl
  | p :: c, h => by
    have h1 : ¬ p.1 = n := fun z => h (by simp [z])
    have h2 : ¬ (c.any fun kv => decide (kv.1 = n)) = true := fun z => h (by rw [List.any_cons, z]; simp)
    rw [lookA_cons, if_neg h1, lookA_none c h2]
theorem lookA_put {α : Type} (c : List (Str × α)) (n m : Str) (v : α) : lookA (putG c n v) m = if m = n then some v else lookA c m := by
  unfold putG
  by_cases h : (c.any fun kv => decide (kv.1 = n)) = true
  · rw [if_pos h]
    by_cases hm : m = n
    · rw [if_pos hm, hm, lookA_map_eq c h]
    · rw [if_neg hm, lookA_map_ne hm]
  · rw [if_neg h, lookA_app]
    by_cases hm : m = n
    · rw [if_pos hm, hm, lookA_none c h]
      simp [lookA]
    · rw [if_neg hm]
      have : lookA [(n, v)] m = none := by rw [lookA_cons, if_neg (Ne.symm hm)]; rfl
      rw [this, Option.or_none]
/-- a dict comprehension over an encoded list -/
theorem dcF_ty {τ α : Type} {enc : τ → D} {en : α → D} {b : FG} {fk fe : FE} {E : τ → List D} {k : τ → Str} {x : τ → α} : ∀ {ts : List τ} {acc : List (Str × α)} {env : List D}, (∀ t ∈ ts, b (enc t) env = some (E t)) → (∀ t ∈ ts, ∀ t' ∈ ts, b (enc t) (E t') = some (E t)) →
    (∀ t ∈ ts, fk (E t) = some (.str (k t), E t)) → (∀ t ∈ ts, fe (E t) = some (en (x t), E t)) → ∃ env', dcF b yesF fk fe (ts.map enc) (kvs en acc) env = some (kvs en (ts.foldl (fun a t => putG a (k t) (x t)) acc), env') ∧ (env' = env ∨ ∃ t ∈ ts, env' = E t)
  | [], acc, env, _, _, _, _ => ⟨env, rfl, .inl rfl⟩
  | d :: ts, acc, env, h1, h2, h3, h4 => by
    obtain ⟨env', i1, i2⟩ := dcF_ty (enc := enc) (en := en) (ts := ts) (acc := putG acc (k d) (x d)) (env := E d) (b := b) (fk := fk) (fe := fe) (E := E) (k := k) (x := x) (fun d' hd => h2 d' (List.mem_cons_of_mem _ hd) d List.mem_cons_self) (fun d' hd d2 hd2 => h2 d' (List.mem_cons_of_mem _ hd) d2 (List.mem_cons_of_mem _ hd2)) (fun d' hd => h3 d' (List.mem_cons_of_mem _ hd)) (fun d' hd => h4 d' (List.mem_cons_of_mem _ hd))
    refine ⟨env', ?_, .inr (i2.elim (fun z => ⟨d, List.mem_cons_self, z⟩) fun ⟨d', hd, z⟩ => ⟨d', List.mem_cons_of_mem _ hd, z⟩)⟩
    rw [List.map_cons, List.foldl_cons]
    unfold dcF
    rw [h1 d List.mem_cons_self, Option.bind_some]
    show ((some (true, E d)).bind _) = _
    rw [Option.bind_some]
    simp only [if_true]
    rw [h3 d List.mem_cons_self, Option.bind_some]
    show ((some (Sum.inr (k d) : L2.Key)).bind _) = _
    rw [Option.bind_some, h4 d List.mem_cons_self, Option.bind_some, put_kvs]
    exact i1
theorem dcomp_ty {τ α : Type} (enc : τ → D) (en : α → D) {f : FA} {own : List Nat} {b : FG} {fk fe : FE} (E : τ → List D) (k : τ → Str) (x : τ → α) {ts : List τ} {env env1 : List D} (hf : f env = some (ts.map enc, env1)) (h1 : ∀ t ∈ ts, b (enc t) env1 = some (E t)) (h2 : ∀ t ∈ ts, ∀ t' ∈ ts, b (enc t) (E t') = some (E t))
    (h3 : ∀ t ∈ ts, fk (E t) = some (.str (k t), E t)) (h4 : ∀ t ∈ ts, fe (E t) = some (en (x t), E t)) (r0 : restD env1 env1 own = env1) (r1 : ∀ t ∈ ts, restD env1 (E t) own = env1) : dcompF f own b yesF fk fe env = some (tabD en (ts.foldl (fun a t => putG a (k t) (x t)) []), env1) := by
  obtain ⟨env', i1, i2⟩ := dcF_ty (acc := []) h1 h2 h3 h4
  unfold dcompF
  rw [hf, Option.bind_some]
  have i1' : dcF b yesF fk fe (ts.map enc) [] env1 = _ := i1
  rw [i1', Option.map_some, kvs_tab]
  rcases i2 with rfl | ⟨d, hd, rfl⟩
  · rw [r0]
  · rw [r1 d hd]
end LH
namespace K71
open PySem PySem.Spec PyProof.Rows L2 DL LH
def top (i : Nat) : Stmt := PySem.Challenge.pw_eachdelay_k71_whole_times_of_webs.main.body.getD i (.Pass ⟨0, 0, 0, 0⟩)
abbrev fuel : Nat := 1000
/-- what the top holds -/
structure Top (K : PySem.W.Frag) (mg : Str → Option Value) : Prop where
  m_all : mg "all" = none
  m_bool : mg "bool" = none
  m_dict : mg "dict" = none
  m_enumerate : mg "enumerate" = none
  m_int : mg "int" = none
  m_isinstance : mg "isinstance" = none
  m_len : mg "len" = none
  m_list : mg "list" = none
  m_max : mg "max" = none
  m_min : mg "min" = none
  m_range : mg "range" = none
  m_repr : mg "repr" = none
  m_sorted : mg "sorted" = none
  m_str : mg "str" = none
  m_sum : mg "sum" = none
  m_tuple : mg "tuple" = none
  m_zip : mg "zip" = none
  f_is_whole : ∃ (f : Addr) (fd : FuncData), mg "is_whole" = some (.ref f) ∧ FunD K "is_whole" "is_whole" (defArgs (top 4)) (defBody (top 4)) (defScope (top 4)) [] [] f fd
  f_is_count : ∃ (f : Addr) (fd : FuncData), mg "is_count" = some (.ref f) ∧ FunD K "is_count" "is_count" (defArgs (top 5)) (defBody (top 5)) (defScope (top 5)) [V.int 0] [] f fd
  f_is_word : ∃ (f : Addr) (fd : FuncData), mg "is_word" = some (.ref f) ∧ FunD K "is_word" "is_word" (defArgs (top 6)) (defBody (top 6)) (defScope (top 6)) [] [] f fd
  f_is_tuple_of : ∃ (f : Addr) (fd : FuncData), mg "is_tuple_of" = some (.ref f) ∧ FunD K "is_tuple_of" "is_tuple_of" (defArgs (top 7)) (defBody (top 7)) (defScope (top 7)) [] [] f fd
  f_is_said : ∃ (f : Addr) (fd : FuncData), mg "is_said" = some (.ref f) ∧ FunD K "is_said" "is_said" (defArgs (top 8)) (defBody (top 8)) (defScope (top 8)) [] [] f fd
  f_is_web_flight : ∃ (f : Addr) (fd : FuncData), mg "is_web_flight" = some (.ref f) ∧ FunD K "is_web_flight" "is_web_flight" (defArgs (top 12)) (defBody (top 12)) (defScope (top 12)) [] [] f fd
  f_is_web_link : ∃ (f : Addr) (fd : FuncData), mg "is_web_link" = some (.ref f) ∧ FunD K "is_web_link" "is_web_link" (defArgs (top 13)) (defBody (top 13)) (defScope (top 13)) [] [] f fd
  f_flights_in_order : ∃ (f : Addr) (fd : FuncData), mg "flights_in_order" = some (.ref f) ∧ FunD K "flights_in_order" "flights_in_order" (defArgs (top 14)) (defBody (top 14)) (defScope (top 14)) [] [] f fd
  f_names_of_web : ∃ (f : Addr) (fd : FuncData), mg "names_of_web" = some (.ref f) ∧ FunD K "names_of_web" "names_of_web" (defArgs (top 15)) (defBody (top 15)) (defScope (top 15)) [] [] f fd
  f_is_web : ∃ (f : Addr) (fd : FuncData), mg "is_web" = some (.ref f) ∧ FunD K "is_web" "is_web" (defArgs (top 16)) (defBody (top 16)) (defScope (top 16)) [] [] f fd
  f_check_web : ∃ (f : Addr) (fd : FuncData), mg "check_web" = some (.ref f) ∧ FunD K "check_web" "check_web" (defArgs (top 17)) (defBody (top 17)) (defScope (top 17)) [] [] f fd
  f_is_run_of_web : ∃ (f : Addr) (fd : FuncData), mg "is_run_of_web" = some (.ref f) ∧ FunD K "is_run_of_web" "is_run_of_web" (defArgs (top 18)) (defBody (top 18)) (defScope (top 18)) [] [] f fd
  f_is_web_course : ∃ (f : Addr) (fd : FuncData), mg "is_web_course" = some (.ref f) ∧ FunD K "is_web_course" "is_web_course" (defArgs (top 19)) (defBody (top 19)) (defScope (top 19)) [] [] f fd
  f_web_times_by : ∃ (f : Addr) (fd : FuncData), mg "web_times_by" = some (.ref f) ∧ FunD K "web_times_by" "web_times_by" (defArgs (top 20)) (defBody (top 20)) (defScope (top 20)) [] [] f fd
  f_web_times : ∃ (f : Addr) (fd : FuncData), mg "web_times" = some (.ref f) ∧ FunD K "web_times" "web_times" (defArgs (top 21)) (defBody (top 21)) (defScope (top 21)) [] [] f fd
  f__law_purse : ∃ (f : Addr) (fd : FuncData), mg "_law_purse" = some (.ref f) ∧ FunD K "_law_purse" "_law_purse" (defArgs (top 23)) (defBody (top 23)) (defScope (top 23)) [] [] f fd
  f__law_mixed : ∃ (f : Addr) (fd : FuncData), mg "_law_mixed" = some (.ref f) ∧ FunD K "_law_mixed" "_law_mixed" (defArgs (top 24)) (defBody (top 24)) (defScope (top 24)) [] [] f fd
  f__law_draw : ∃ (f : Addr) (fd : FuncData), mg "_law_draw" = some (.ref f) ∧ FunD K "_law_draw" "_law_draw" (defArgs (top 25)) (defBody (top 25)) (defScope (top 25)) [] [] f fd
  f__law_purses : ∃ (f : Addr) (fd : FuncData), mg "_law_purses" = some (.ref f) ∧ FunD K "_law_purses" "_law_purses" (defArgs (top 26)) (defBody (top 26)) (defScope (top 26)) [] [] f fd
  f__law_one_of : ∃ (f : Addr) (fd : FuncData), mg "_law_one_of" = some (.ref f) ∧ FunD K "_law_one_of" "_law_one_of" (defArgs (top 27)) (defBody (top 27)) (defScope (top 27)) [] [] f fd
  f__law_shuffled : ∃ (f : Addr) (fd : FuncData), mg "_law_shuffled" = some (.ref f) ∧ FunD K "_law_shuffled" "_law_shuffled" (defArgs (top 28)) (defBody (top 28)) (defScope (top 28)) [] [] f fd
  f__law_exact : ∃ (f : Addr) (fd : FuncData), mg "_law_exact" = some (.ref f) ∧ FunD K "_law_exact" "_law_exact" (defArgs (top 29)) (defBody (top 29)) (defScope (top 29)) [] [] f fd
  f__law_names : ∃ (f : Addr) (fd : FuncData), mg "_law_names" = some (.ref f) ∧ FunD K "_law_names" "_law_names" (defArgs (top 30)) (defBody (top 30)) (defScope (top 30)) [] [] f fd
  f__law_web : ∃ (f : Addr) (fd : FuncData), mg "_law_web" = some (.ref f) ∧ FunD K "_law_web" "_law_web" (defArgs (top 31)) (defBody (top 31)) (defScope (top 31)) [] [] f fd
  f__law_times : ∃ (f : Addr) (fd : FuncData), mg "_law_times" = some (.ref f) ∧ FunD K "_law_times" "_law_times" (defArgs (top 32)) (defBody (top 32)) (defScope (top 32)) [] [] f fd
  f__law_drawn_course : ∃ (f : Addr) (fd : FuncData), mg "_law_drawn_course" = some (.ref f) ∧ FunD K "_law_drawn_course" "_law_drawn_course" (defArgs (top 33)) (defBody (top 33)) (defScope (top 33)) [] [] f fd
  f__law_told_right : ∃ (f : Addr) (fd : FuncData), mg "_law_told_right" = some (.ref f) ∧ FunD K "_law_told_right" "_law_told_right" (defArgs (top 34)) (defBody (top 34)) (defScope (top 34)) [] [] f fd
  f__law_turned_right : ∃ (f : Addr) (fd : FuncData), mg "_law_turned_right" = some (.ref f) ∧ FunD K "_law_turned_right" "_law_turned_right" (defArgs (top 35)) (defBody (top 35)) (defScope (top 35)) [] [] f fd
  f__law_linked_right : ∃ (f : Addr) (fd : FuncData), mg "_law_linked_right" = some (.ref f) ∧ FunD K "_law_linked_right" "_law_linked_right" (defArgs (top 36)) (defBody (top 36)) (defScope (top 36)) [] [] f fd
  f_law : ∃ (f : Addr) (fd : FuncData), mg "law" = some (.ref f) ∧ FunD K "law" "law" (defArgs (top 37)) (defBody (top 37)) (defScope (top 37)) [] [] f fd
/-! is_whole -/
theorem sc_is_whole : FnScope ["value"] ["value"] (defScope (top 4)) := ⟨rfl, rfl, rfl, by decide +kernel, rfl, by decide +kernel, by decide +kernel⟩
def g_is_whole : FS := (retF (andV (un1 (varF 0) (isiD "int")) (notV (un1 (varF 0) (isiD "bool")))))
def fd_is_whole : FD := defF [.sh] 0 g_is_whole
theorem ok_is_whole {P : Program} {w : World} {K : PySem.W.Frag} {mg : Str → Option Value} {base : Heap} {f : Addr} {fd : FuncData} (T : Top K mg) (F : FunD K "is_whole" "is_whole" (defArgs (top 4)) (defBody (top 4)) (defScope (top 4)) [] [] f fd) :
    FnG P w K mg base CX0 1 f fd ["value"] (Prom K [.sh] (.sh) fd_is_whole) :=
  body_okD (lv := 0) (pms := [.sh]) (k := 0) (g := g_is_whole) (ms' := (rmsOf [.sh] 0)) F sc_is_whole rfl rfl (by simp) (by rfl) (.inl rfl) (.inl rfl)
  (bv_one (sv_ret (ev_and (ev_isi T.m_isinstance T.m_int PyProof.Rows.boot_int kit_int (ev_var 0)) (ev_one (ev_not (ev_isi T.m_isinstance T.m_bool PyProof.Rows.boot_bool kit_bool (ev_var 0)))))))
theorem def_is_whole {P : Program} {w : World} {K : PySem.W.Frag} {mg : Str → Option Value} {base : Heap} (T : Top K mg) : Def P w K mg base "is_whole" 1 ["value"] [.sh] (.sh)  fd_is_whole := by
  obtain ⟨f, fd, h1, F⟩ := T.f_is_whole
  exact ⟨f, fd, h1, F.kp, ok_is_whole T F, F.bindsN (ps := ["value"]) fun kV dc pm an cdv ct us hl => match us, hl with | [_], _ => rfl⟩
/-! is_count -/
theorem sc_is_count : FnScope ["value", "least"] ["value", "least"] (defScope (top 5)) := ⟨rfl, rfl, rfl, by decide +kernel, rfl, by decide +kernel, by decide +kernel⟩
def g_is_count : FS := (retF (andV (ucallF (consF (varF 0) nilF) fd_is_whole) (bin2 (varF 0) (callF (consF (varF 1) (consF (conF (.int 0)) nilF)) (two maxD2)) (cmpD geI geS))))
def fd_is_count : FD := defF [.sh, .sh] 0 g_is_count
theorem ok_is_count {P : Program} {w : World} {K : PySem.W.Frag} {mg : Str → Option Value} {base : Heap} {f : Addr} {fd : FuncData} (T : Top K mg) (F : FunD K "is_count" "is_count" (defArgs (top 5)) (defBody (top 5)) (defScope (top 5)) [V.int 0] [] f fd) :
    FnG P w K mg base CX0 2 f fd ["value", "least"] (Prom K [.sh, .sh] (.sh) fd_is_count) :=
  body_okD (lv := 1) (pms := [.sh, .sh]) (k := 0) (g := g_is_count) (ms' := (rmsOf [.sh, .sh] 0)) F sc_is_count rfl rfl (by simp) (by rfl) (.inl rfl) (.inl rfl)
  (bv_one (sv_ret (ev_and (ev_call (def_is_whole T) (av_cons (ev_var 0) av_nil)) (ev_one (ev_cmpK k_ge (ev_var 0) (ev_blt (b_max2 T.m_max) (av_cons (ev_var 1) (av_cons ev_int av_nil))))))))
theorem def_is_count0 {P : Program} {w : World} {K : PySem.W.Frag} {mg : Str → Option Value} {base : Heap} (T : Top K mg) : DefD P w K mg base "is_count" 2 ["value", "least"] [.sh, .sh] (.sh)  fd_is_count [] := by
  obtain ⟨f, fd, h1, F⟩ := T.f_is_count
  obtain ⟨ds, hv, hb⟩ := F.binds1 (ps := ["value", "least"]) 2 1 (by exact fun z => nomatch z) rfl fun _ _ _ _ _ _ _ us its h1 h2 => match us, h1, its, h2 with | [_, _], _, [_], _ => ⟨_, rfl, rfl⟩
  exact ⟨f, fd, ds, _, h1, F.kp, ok_is_count T F, hb, hv, fun G => .nil⟩
theorem def_is_count {P : Program} {w : World} {K : PySem.W.Frag} {mg : Str → Option Value} {base : Heap} (T : Top K mg) : Def P w K mg base "is_count" 2 ["value", "least"] [.sh, .sh] (.sh)  fd_is_count := (def_is_count0 T).def
theorem def_is_count_d1 {P : Program} {w : World} {K : PySem.W.Frag} {mg : Str → Option Value} {base : Heap} (T : Top K mg) : DefD P w K mg base "is_count" 2 ["value", "least"] [.sh, .sh] (.sh)  fd_is_count [.int 0] := by
  obtain ⟨f, fd, h1, F⟩ := T.f_is_count
  obtain ⟨ds, hv, hb⟩ := F.binds1 (ps := ["value", "least"]) 1 0 (by exact fun z => nomatch z) rfl fun _ _ _ _ _ _ _ us its h1 h2 => match us, h1, its, h2 with | [_], _, [_], _ => ⟨_, rfl, rfl⟩
  exact ⟨f, fd, ds, _, h1, F.kp, ok_is_count T F, hb, hv, fun G => .cons (by unfold Rep; rfl) (.nil)⟩
/-! is_word -/
theorem sc_is_word : FnScope ["value", "sign"] ["value"] (defScope (top 6)) := ⟨rfl, rfl, rfl, by decide +kernel, rfl, by decide +kernel, by decide +kernel⟩
def g_is_word : FS := (retF (andV (un1 (varF 0) (isiD "str")) (andV (chainF (conF (.int 0)) (callF (consF (varF 0) nilF) (one lenD)) (conF (.int 13)) ltD ltD) (callF (consF (compF (seqIF (varF 0)) [1] (nameG 1) yesF (chainF (conF (.str "a")) (varF 1) (conF (.str "z")) (cmpD leI leS) (cmpD leI leS))) nilF) (one allD)))))
def fd_is_word : FD := defF [.sh] 1 g_is_word
theorem ok_is_word {P : Program} {w : World} {K : PySem.W.Frag} {mg : Str → Option Value} {base : Heap} {f : Addr} {fd : FuncData} (T : Top K mg) (F : FunD K "is_word" "is_word" (defArgs (top 6)) (defBody (top 6)) (defScope (top 6)) [] [] f fd) :
    FnG P w K mg base CX0 1 f fd ["value"] (Prom K [.sh] (.sh) fd_is_word) :=
  body_okD (lv := 0) (pms := [.sh]) (k := 1) (g := g_is_word) (ms' := (rmsOf [.sh] 1)) F sc_is_word rfl rfl (by simp) (by rfl) (.inl rfl) (.inl rfl)
  (bv_one (sv_ret (ev_and (ev_isi T.m_isinstance T.m_str PyProof.Rows.boot_str kit_str (ev_var 0)) (ev_and (ev_chainK k_lt k_lt ev_int (ev_blt (b_len T.m_len) (av_cons (ev_var 0) av_nil)) ev_int) (ev_one (ev_blt (b_all T.m_all) (av_cons (ev_vw (ev_lc (own := [("sign", 1)]) (iv_seq (ev_var 0)) (gv_name 1) cv_nil (ev_chainK k_le k_le ev_str (ev_var 1) ev_str))) av_nil)))))))
theorem def_is_word {P : Program} {w : World} {K : PySem.W.Frag} {mg : Str → Option Value} {base : Heap} (T : Top K mg) : Def P w K mg base "is_word" 1 ["value"] [.sh] (.sh)  fd_is_word := by
  obtain ⟨f, fd, h1, F⟩ := T.f_is_word
  exact ⟨f, fd, h1, F.kp, ok_is_word T F, F.bindsN (ps := ["value"]) fun kV dc pm an cdv ct us hl => match us, hl with | [_], _ => rfl⟩
/-! is_tuple_of -/
theorem sc_is_tuple_of : FnScope ["value", "size"] ["value", "size"] (defScope (top 7)) := ⟨rfl, rfl, rfl, by decide +kernel, rfl, by decide +kernel, by decide +kernel⟩
def g_is_tuple_of : FS := (retF (andV (un1 (varF 0) (isiD "tuple")) (bin2 (callF (consF (varF 0) nilF) (one lenD)) (varF 1) eqD)))
def fd_is_tuple_of : FD := defF [.sh, .sh] 0 g_is_tuple_of
theorem ok_is_tuple_of {P : Program} {w : World} {K : PySem.W.Frag} {mg : Str → Option Value} {base : Heap} {f : Addr} {fd : FuncData} (T : Top K mg) (F : FunD K "is_tuple_of" "is_tuple_of" (defArgs (top 7)) (defBody (top 7)) (defScope (top 7)) [] [] f fd) :
    FnG P w K mg base CX0 1 f fd ["value", "size"] (Prom K [.sh, .sh] (.sh) fd_is_tuple_of) :=
  body_okD (lv := 0) (pms := [.sh, .sh]) (k := 0) (g := g_is_tuple_of) (ms' := (rmsOf [.sh, .sh] 0)) F sc_is_tuple_of rfl rfl (by simp) (by rfl) (.inl rfl) (.inl rfl)
  (bv_one (sv_ret (ev_and (ev_isi T.m_isinstance T.m_tuple PyProof.Rows.boot_tuple kit_tuple (ev_var 0)) (ev_one (ev_cmpK k_eq (ev_blt (b_len T.m_len) (av_cons (ev_var 0) av_nil)) (ev_var 1))))))
theorem def_is_tuple_of {P : Program} {w : World} {K : PySem.W.Frag} {mg : Str → Option Value} {base : Heap} (T : Top K mg) : Def P w K mg base "is_tuple_of" 1 ["value", "size"] [.sh, .sh] (.sh)  fd_is_tuple_of := by
  obtain ⟨f, fd, h1, F⟩ := T.f_is_tuple_of
  exact ⟨f, fd, h1, F.kp, ok_is_tuple_of T F, F.bindsN (ps := ["value", "size"]) fun kV dc pm an cdv ct us hl => match us, hl with | [_, _], _ => rfl⟩
/-! is_said -/
theorem sc_is_said : FnScope ["value", "word", "size"] ["value", "word", "size"] (defScope (top 8)) := ⟨rfl, rfl, rfl, by decide +kernel, rfl, by decide +kernel, by decide +kernel⟩
def g_is_said : FS := (retF (andV (ucallF (consF (varF 0) (consF (varF 2) nilF)) fd_is_tuple_of) (andV (un1 (bin2 (varF 0) (conF (.int 0)) ixD) (isiD "str")) (bin2 (bin2 (varF 0) (conF (.int 0)) ixD) (varF 1) eqD))))
def fd_is_said : FD := defF [.sh, .sh, .sh] 0 g_is_said
theorem ok_is_said {P : Program} {w : World} {K : PySem.W.Frag} {mg : Str → Option Value} {base : Heap} {f : Addr} {fd : FuncData} (T : Top K mg) (F : FunD K "is_said" "is_said" (defArgs (top 8)) (defBody (top 8)) (defScope (top 8)) [] [] f fd) :
    FnG P w K mg base CX0 2 f fd ["value", "word", "size"] (Prom K [.sh, .sh, .sh] (.sh) fd_is_said) :=
  body_okD (lv := 1) (pms := [.sh, .sh, .sh]) (k := 0) (g := g_is_said) (ms' := (rmsOf [.sh, .sh, .sh] 0)) F sc_is_said rfl rfl (by simp) (by rfl) (.inl rfl) (.inl rfl)
  (bv_one (sv_ret (ev_and (ev_call (def_is_tuple_of T) (av_cons (ev_var 0) (av_cons (ev_var 2) av_nil))) (ev_and (ev_isi T.m_isinstance T.m_str PyProof.Rows.boot_str kit_str (ev_ix (ev_var 0) ev_int)) (ev_one (ev_cmpK k_eq (ev_ix (ev_var 0) ev_int) (ev_var 1)))))))
theorem def_is_said {P : Program} {w : World} {K : PySem.W.Frag} {mg : Str → Option Value} {base : Heap} (T : Top K mg) : Def P w K mg base "is_said" 2 ["value", "word", "size"] [.sh, .sh, .sh] (.sh)  fd_is_said := by
  obtain ⟨f, fd, h1, F⟩ := T.f_is_said
  exact ⟨f, fd, h1, F.kp, ok_is_said T F, F.bindsN (ps := ["value", "word", "size"]) fun kV dc pm an cdv ct us hl => match us, hl with | [_, _, _], _ => rfl⟩
/-! is_web_flight -/
theorem sc_is_web_flight : FnScope ["value"] ["value"] (defScope (top 12)) := ⟨rfl, rfl, rfl, by decide +kernel, rfl, by decide +kernel, by decide +kernel⟩
def g_is_web_flight : FS := (seqF (iteF' (orF (notF (tstF (ucallF (consF (varF 0) (consF (conF (.int 4)) nilF)) fd_is_tuple_of))) (orF (notF (tstF (ucallF (consF (bin2 (varF 0) (conF (.int 0)) ixD) nilF) fd_is_word))) (notF (tstF (ucallF (consF (bin2 (varF 0) (conF (.int 1)) ixD) nilF) fd_is_whole))))) (retF (conF (.bl false))) skipF)
  (retF (andV (ucallF (consF (bin2 (varF 0) (conF (.int 2)) ixD) (consF (conF (.int 1)) nilF)) fd_is_count) (ucallF (consF (bin2 (varF 0) (conF (.int 3)) ixD) (consF (bin2 (varF 0) (conF (.int 2)) ixD) nilF)) fd_is_count))))
def fd_is_web_flight : FD := defF [.sh] 0 g_is_web_flight
theorem ok_is_web_flight {P : Program} {w : World} {K : PySem.W.Frag} {mg : Str → Option Value} {base : Heap} {f : Addr} {fd : FuncData} (T : Top K mg) (F : FunD K "is_web_flight" "is_web_flight" (defArgs (top 12)) (defBody (top 12)) (defScope (top 12)) [] [] f fd) :
    FnG P w K mg base CX0 3 f fd ["value"] (Prom K [.sh] (.sh) fd_is_web_flight) :=
  body_okD (lv := 2) (pms := [.sh]) (k := 0) (g := g_is_web_flight) (ms' := (rmsOf [.sh] 0)) F sc_is_web_flight rfl rfl (by simp) (by rfl) (.inl rfl) (.inl rfl)
  (bv_cons (sv_if (tv_w (wv_or (tv_not (tv_val (ev_call (def_is_tuple_of T) (av_cons (ev_var 0) (av_cons ev_int av_nil))))) (wv_or (tv_not (tv_val (ev_call (def_is_word T) (av_cons (ev_ix (ev_var 0) ev_int) av_nil)))) (wv_or1 (tv_not (tv_val (ev_call (def_is_whole T) (av_cons (ev_ix (ev_var 0) ev_int) av_nil)))))))) (bv_one (sv_ret ev_bl)) bv_nil)
  (bv_one (sv_ret (ev_and (ev_call (def_is_count T) (av_cons (ev_ix (ev_var 0) ev_int) (av_cons ev_int av_nil))) (ev_one (ev_call (def_is_count T) (av_cons (ev_ix (ev_var 0) ev_int) (av_cons (ev_ix (ev_var 0) ev_int) av_nil))))))))
theorem def_is_web_flight {P : Program} {w : World} {K : PySem.W.Frag} {mg : Str → Option Value} {base : Heap} (T : Top K mg) : Def P w K mg base "is_web_flight" 3 ["value"] [.sh] (.sh)  fd_is_web_flight := by
  obtain ⟨f, fd, h1, F⟩ := T.f_is_web_flight
  exact ⟨f, fd, h1, F.kp, ok_is_web_flight T F, F.bindsN (ps := ["value"]) fun kV dc pm an cdv ct us hl => match us, hl with | [_], _ => rfl⟩
/-! is_web_link -/
theorem sc_is_web_link : FnScope ["names", "value"] ["names", "value"] (defScope (top 13)) := ⟨rfl, rfl, rfl, by decide +kernel, rfl, by decide +kernel, by decide +kernel⟩
def g_is_web_link : FS := (seqF (iteF' (orF (notF (tstF (ucallF (consF (varF 1) (consF (conF (.int 3)) nilF)) fd_is_tuple_of))) (orF (notF (tstF (ucallF (consF (bin2 (varF 1) (conF (.int 0)) ixD) nilF) fd_is_word))) (orF (notF (tstF (ucallF (consF (bin2 (varF 1) (conF (.int 1)) ixD) nilF) fd_is_word))) (notF (tstF (ucallF (withF (consF (bin2 (varF 1) (conF (.int 2)) ixD) nilF) [.int 0]) fd_is_count)))))) (retF (conF (.bl false))) skipF)
  (retF (andV (bin2 (bin2 (varF 1) (conF (.int 0)) ixD) (varF 0) inAD) (bin2 (bin2 (varF 1) (conF (.int 1)) ixD) (varF 0) inAD))))
def fd_is_web_link : FD := defF [.sh, .sh] 0 g_is_web_link
theorem ok_is_web_link {P : Program} {w : World} {K : PySem.W.Frag} {mg : Str → Option Value} {base : Heap} {f : Addr} {fd : FuncData} (T : Top K mg) (F : FunD K "is_web_link" "is_web_link" (defArgs (top 13)) (defBody (top 13)) (defScope (top 13)) [] [] f fd) :
    FnG P w K mg base CX0 3 f fd ["names", "value"] (Prom K [.sh, .sh] (.sh) fd_is_web_link) :=
  body_okD (lv := 2) (pms := [.sh, .sh]) (k := 0) (g := g_is_web_link) (ms' := (rmsOf [.sh, .sh] 0)) F sc_is_web_link rfl rfl (by simp) (by rfl) (.inl rfl) (.inl rfl)
  (bv_cons (sv_if (tv_w (wv_or (tv_not (tv_val (ev_call (def_is_tuple_of T) (av_cons (ev_var 1) (av_cons ev_int av_nil))))) (wv_or (tv_not (tv_val (ev_call (def_is_word T) (av_cons (ev_ix (ev_var 1) ev_int) av_nil)))) (wv_or (tv_not (tv_val (ev_call (def_is_word T) (av_cons (ev_ix (ev_var 1) ev_int) av_nil)))) (wv_or1 (tv_not (tv_val (ev_callD (def_is_count_d1 T) (av_cons (ev_ix (ev_var 1) ev_int) av_nil))))))))) (bv_one (sv_ret ev_bl)) bv_nil)
  (bv_one (sv_ret (ev_and (ev_cmpK k_in (ev_ix (ev_var 1) ev_int) (ev_var 0)) (ev_one (ev_cmpK k_in (ev_ix (ev_var 1) ev_int) (ev_var 0)))))))
theorem def_is_web_link {P : Program} {w : World} {K : PySem.W.Frag} {mg : Str → Option Value} {base : Heap} (T : Top K mg) : Def P w K mg base "is_web_link" 3 ["names", "value"] [.sh, .sh] (.sh)  fd_is_web_link := by
  obtain ⟨f, fd, h1, F⟩ := T.f_is_web_link
  exact ⟨f, fd, h1, F.kp, ok_is_web_link T F, F.bindsN (ps := ["names", "value"]) fun kV dc pm an cdv ct us hl => match us, hl with | [_, _], _ => rfl⟩
/-! flights_in_order -/
theorem sc_flights_in_order : FnScope ["names", "links", "found", "turn", "ready", "name", "link"] ["names", "links"] (defScope (top 14)) := ⟨rfl, rfl, rfl, by decide +kernel, rfl, by decide +kernel, by decide +kernel⟩
def g_flights_in_order : FS := (seqF (setF 2 (callF nilF lstD))
  (seqF (forF (rng1F (consF (callF (consF (varF 0) nilF) (one lenD)) nilF)) (nameG 3) (seqF (setF 4 (compF (seqIF (varF 0)) [5] (nameG 5) (tstF (bin2 (varF 5) (varF 2) notInAD)) (varF 5)))
  (seqF (setF 4 (compF (seqIF (varF 4)) [5] (nameG 5) (tstF (callF (consF (compF (seqIF (varF 1)) [6] (nameG 6) (tstF (bin2 (bin2 (varF 6) (conF (.int 1)) ixD) (varF 5) eqD)) (bin2 (bin2 (varF 6) (conF (.int 0)) ixD) (varF 2) inAD)) nilF) (one allD))) (varF 5)))
  (setF 2 (bin2 (varF 2) (varF 4) addD)))))
  (retF (ifF (tstF (bin2 (callF (consF (varF 2) nilF) (one lenD)) (callF (consF (varF 0) nilF) (one lenD)) eqD)) (varF 2) (conF .non)))))
def fd_flights_in_order : FD := defF [.sh, .sh] 5 g_flights_in_order
theorem ok_flights_in_order {P : Program} {w : World} {K : PySem.W.Frag} {mg : Str → Option Value} {base : Heap} {f : Addr} {fd : FuncData} (T : Top K mg) (F : FunD K "flights_in_order" "flights_in_order" (defArgs (top 14)) (defBody (top 14)) (defScope (top 14)) [] [] f fd) :
    FnG P w K mg base CX0 1 f fd ["names", "links"] (Prom K [.sh, .sh] (.sh) fd_flights_in_order) :=
  body_okD (lv := 0) (pms := [.sh, .sh]) (k := 5) (g := g_flights_in_order) (ms' := (rmsOf [.sh, .sh] 5)) F sc_flights_in_order rfl rfl (by simp) (by rfl) (.inl rfl) (.inl rfl)
  (bv_cons (sv_set' 2 (ev_fz (ev_lst av_nil)))
  (bv_cons (sv_for (iv_range1 T.m_range (av_cons (ev_blt (b_len T.m_len) (av_cons (ev_var 0) av_nil)) av_nil)) (gv_name 3) (bv_post (ms2 := [.sh, .sh, .sh, .un, .un, .un, .un]) (bv_cons (sv_freezeEnd 4 (sv_setL (own := [("name", 5)]) 4 (iv_seq (ev_var 0)) (gv_name 5) (cv_one (tv_cmpK k_notIn (ev_var 5) (ev_var 2))) (ev_var 5)))
  (bv_cons (sv_freezeEnd 4 (sv_setL (own := [("name", 5)]) 4 (iv_seq (ev_var 4)) (gv_name 5) (cv_one (tv_val (ev_blt (b_all T.m_all) (av_cons (ev_vw (ev_lc (own := [("link", 6)]) (iv_seq (ev_var 1)) (gv_name 6) (cv_one (tv_cmpK k_eq (ev_ix (ev_var 6) ev_int) (ev_var 5))) (ev_cmpK k_in (ev_ix (ev_var 6) ev_int) (ev_var 2)))) av_nil)))) (ev_var 5)))
  (bv_one (sv_set' 2 (ev_add (ev_var 2) (ev_var 4))))))))
  (bv_one (sv_ret (ev_if (tv_cmpK k_eq (ev_blt (b_len T.m_len) (av_cons (ev_var 2) av_nil)) (ev_blt (b_len T.m_len) (av_cons (ev_var 0) av_nil))) (ev_var 2) ev_non)))))
theorem def_flights_in_order {P : Program} {w : World} {K : PySem.W.Frag} {mg : Str → Option Value} {base : Heap} (T : Top K mg) : Def P w K mg base "flights_in_order" 1 ["names", "links"] [.sh, .sh] (.sh)  fd_flights_in_order := by
  obtain ⟨f, fd, h1, F⟩ := T.f_flights_in_order
  exact ⟨f, fd, h1, F.kp, ok_flights_in_order T F, F.bindsN (ps := ["names", "links"]) fun kV dc pm an cdv ct us hl => match us, hl with | [_, _], _ => rfl⟩
/-! names_of_web -/
theorem sc_names_of_web : FnScope ["web", "flight"] ["web"] (defScope (top 15)) := ⟨rfl, rfl, rfl, by decide +kernel, rfl, by decide +kernel, by decide +kernel⟩
def g_names_of_web : FS := (retF (compF (seqIF (bin2 (varF 0) (conF (.int 1)) ixD)) [1] (nameG 1) yesF (bin2 (varF 1) (conF (.int 0)) ixD)))
def fd_names_of_web : FD := defF [.sh] 1 g_names_of_web
theorem ok_names_of_web {P : Program} {w : World} {K : PySem.W.Frag} {mg : Str → Option Value} {base : Heap} {f : Addr} {fd : FuncData} (T : Top K mg) (F : FunD K "names_of_web" "names_of_web" (defArgs (top 15)) (defBody (top 15)) (defScope (top 15)) [] [] f fd) :
    FnG P w K mg base CX0 1 f fd ["web"] (Prom K [.sh] (.ow 1) fd_names_of_web) :=
  body_okD (lv := 0) (pms := [.sh]) (k := 1) (g := g_names_of_web) (ms' := (rmsOf [.sh] 1)) F sc_names_of_web rfl rfl (by simp) (by rfl) (.inr ⟨_, rfl⟩) (.inr nn_ret)
  (bv_one (sv_ret (ev_lc (own := [("flight", 1)]) (iv_seq (ev_ix (ev_var 0) ev_int)) (gv_name 1) cv_nil (ev_ix (ev_var 1) ev_int))))
theorem def_names_of_web {P : Program} {w : World} {K : PySem.W.Frag} {mg : Str → Option Value} {base : Heap} (T : Top K mg) : Def P w K mg base "names_of_web" 1 ["web"] [.sh] (.ow 1)  fd_names_of_web := by
  obtain ⟨f, fd, h1, F⟩ := T.f_names_of_web
  exact ⟨f, fd, h1, F.kp, ok_names_of_web T F, F.bindsN (ps := ["web"]) fun kV dc pm an cdv ct us hl => match us, hl with | [_], _ => rfl⟩
/-! is_web -/
theorem sc_is_web : FnScope ["value", "names", "links", "flight", "at", "link"] ["value"] (defScope (top 16)) := ⟨rfl, rfl, rfl, by decide +kernel, rfl, by decide +kernel, by decide +kernel⟩
def g_is_web : FS := (seqF (iteF' (orF (notF (tstF (ucallF (consF (varF 0) (consF (conF (.str "web")) (consF (conF (.int 3)) nilF))) fd_is_said))) (orF (notF (tstF (un1 (bin2 (varF 0) (conF (.int 1)) ixD) (isiD "list")))) (notF (tstF (un1 (bin2 (varF 0) (conF (.int 2)) ixD) (isiD "list")))))) (retF (conF (.bl false))) skipF)
  (seqF (iteF' (orF (tstF (bin2 (callF (consF (bin2 (varF 0) (conF (.int 1)) ixD) nilF) (one lenD)) (conF (.int 0)) eqD)) (notF (tstF (callF (consF (compF (seqIF (bin2 (varF 0) (conF (.int 1)) ixD)) [3] (nameG 3) yesF (ucallF (consF (varF 3) nilF) fd_is_web_flight)) nilF) (one allD))))) (retF (conF (.bl false))) skipF)
  (seqF (parF [1, 2] (consF (ucallF (consF (varF 0) nilF) fd_names_of_web) (consF (bin2 (varF 0) (conF (.int 2)) ixD) nilF)))
  (seqF (iteF' (notF (tstF (callF (consF (compF (rng2F (consF (conF (.int 1)) (consF (callF (consF (varF 1) nilF) (one lenD)) nilF))) [4] (nameG 4) yesF (bin2 (bin2 (varF 1) (bin2 (varF 4) (conF (.int 1)) (intOp0 fun i j => i - j)) ixD) (bin2 (varF 1) (varF 4) ixD) ltD)) nilF) (one allD)))) (retF (conF (.bl false))) skipF)
  (seqF (iteF' (notF (tstF (callF (consF (compF (seqIF (varF 2)) [5] (nameG 5) yesF (ucallF (consF (varF 1) (consF (varF 5) nilF)) fd_is_web_link)) nilF) (one allD)))) (retF (conF (.bl false))) skipF)
  (seqF (iteF' (notF (tstF (callF (consF (compF (rng2F (consF (conF (.int 1)) (consF (callF (consF (varF 2) nilF) (one lenD)) nilF))) [4] (nameG 4) yesF (bin2 (sliceF (bin2 (varF 2) (bin2 (varF 4) (conF (.int 1)) (intOp0 fun i j => i - j)) ixD) nopF (partF (conF (.int 2))) sliceD) (sliceF (bin2 (varF 2) (varF 4) ixD) nopF (partF (conF (.int 2))) sliceD) ltD)) nilF) (one allD)))) (retF (conF (.bl false))) skipF)
  (retF (bin2 (ucallF (consF (varF 1) (consF (varF 2) nilF)) fd_flights_in_order) (conF .non) isNotD))))))))
def fd_is_web : FD := defF [.sh] 5 g_is_web
theorem ok_is_web {P : Program} {w : World} {K : PySem.W.Frag} {mg : Str → Option Value} {base : Heap} {f : Addr} {fd : FuncData} (T : Top K mg) (F : FunD K "is_web" "is_web" (defArgs (top 16)) (defBody (top 16)) (defScope (top 16)) [] [] f fd) :
    FnG P w K mg base CX0 4 f fd ["value"] (Prom K [.sh] (.sh) fd_is_web) :=
  body_okD (lv := 3) (pms := [.sh]) (k := 5) (g := g_is_web) (ms' := (rmsOf [.sh] 5)) F sc_is_web rfl rfl (by simp) (by rfl) (.inl rfl) (.inl rfl)
  (bv_cons (sv_if (tv_w (wv_or (tv_not (tv_val (ev_call (def_is_said T) (av_cons (ev_var 0) (av_cons ev_str (av_cons ev_int av_nil)))))) (wv_or (tv_not (tv_val (ev_isi T.m_isinstance T.m_list PyProof.Rows.boot_list kit_list (ev_ix (ev_var 0) ev_int)))) (wv_or1 (tv_not (tv_val (ev_isi T.m_isinstance T.m_list PyProof.Rows.boot_list kit_list (ev_ix (ev_var 0) ev_int)))))))) (bv_one (sv_ret ev_bl)) bv_nil)
  (bv_cons (sv_if (tv_w (wv_or (tv_cmpK k_eq (ev_blt (b_len T.m_len) (av_cons (ev_ix (ev_var 0) ev_int) av_nil)) ev_int) (wv_or1 (tv_not (tv_val (ev_blt (b_all T.m_all) (av_cons (ev_vw (ev_lc (own := [("flight", 3)]) (iv_seq (ev_ix (ev_var 0) ev_int)) (gv_name 3) cv_nil (ev_call (def_is_web_flight T) (av_cons (ev_var 3) av_nil)))) av_nil))))))) (bv_one (sv_ret ev_bl)) bv_nil)
  (bv_cons (sv_parT (pv_cons (ev_fz (ev_call (def_names_of_web T) (av_cons (ev_var 0) av_nil))) (pv_cons (ev_ix (ev_var 0) ev_int) pv_nil)) (nm_cons 1 (nm_cons 2 nm_nil)))
  (bv_cons (sv_if (tv_not (tv_val (ev_blt (b_all T.m_all) (av_cons (ev_vw (ev_lc (own := [("at", 4)]) (iv_range2 T.m_range (av_cons ev_int (av_cons (ev_blt (b_len T.m_len) (av_cons (ev_var 1) av_nil)) av_nil))) (gv_name 4) cv_nil (ev_cmpK k_lt (ev_ix (ev_var 1) (ev_sub (ev_var 4) ev_int)) (ev_ix (ev_var 1) (ev_var 4))))) av_nil)))) (bv_one (sv_ret ev_bl)) bv_nil)
  (bv_cons (sv_if (tv_not (tv_val (ev_blt (b_all T.m_all) (av_cons (ev_vw (ev_lc (own := [("link", 5)]) (iv_seq (ev_var 2)) (gv_name 5) cv_nil (ev_call (def_is_web_link T) (av_cons (ev_var 1) (av_cons (ev_var 5) av_nil))))) av_nil)))) (bv_one (sv_ret ev_bl)) bv_nil)
  (bv_cons (sv_if (tv_not (tv_val (ev_blt (b_all T.m_all) (av_cons (ev_vw (ev_lc (own := [("at", 4)]) (iv_range2 T.m_range (av_cons ev_int (av_cons (ev_blt (b_len T.m_len) (av_cons (ev_var 2) av_nil)) av_nil))) (gv_name 4) cv_nil (ev_cmpK k_lt (ev_slice (ev_ix (ev_var 2) (ev_sub (ev_var 4) ev_int)) ov_none (ov_some ev_int)) (ev_slice (ev_ix (ev_var 2) (ev_var 4)) ov_none (ov_some ev_int))))) av_nil)))) (bv_one (sv_ret ev_bl)) bv_nil)
  (bv_one (sv_ret (ev_cmpK k_isnot (ev_call (def_flights_in_order T) (av_cons (ev_var 1) (av_cons (ev_var 2) av_nil))) ev_non)))))))))
theorem def_is_web {P : Program} {w : World} {K : PySem.W.Frag} {mg : Str → Option Value} {base : Heap} (T : Top K mg) : Def P w K mg base "is_web" 4 ["value"] [.sh] (.sh)  fd_is_web := by
  obtain ⟨f, fd, h1, F⟩ := T.f_is_web
  exact ⟨f, fd, h1, F.kp, ok_is_web T F, F.bindsN (ps := ["value"]) fun kV dc pm an cdv ct us hl => match us, hl with | [_], _ => rfl⟩
/-! check_web -/
theorem sc_check_web : FnScope ["value"] ["value"] (defScope (top 17)) := ⟨rfl, rfl, rfl, by decide +kernel, rfl, by decide +kernel, by decide +kernel⟩
def g_check_web : FS := (iteF' (notF (tstF (ucallF (consF (varF 0) nilF) fd_is_web))) (fun _ => none) skipF)
def fd_check_web : FD := defF [.sh] 0 g_check_web
theorem ok_check_web {P : Program} {w : World} {K : PySem.W.Frag} {mg : Str → Option Value} {base : Heap} {f : Addr} {fd : FuncData} (T : Top K mg) (F : FunD K "check_web" "check_web" (defArgs (top 17)) (defBody (top 17)) (defScope (top 17)) [] [] f fd) :
    FnG P w K mg base CX0 5 f fd ["value"] (Prom K [.sh] (.sh) fd_check_web) :=
  body_okD (lv := 4) (pms := [.sh]) (k := 0) (g := g_check_web) (ms' := [.sh]) F sc_check_web rfl rfl (by simp) (by rfl) (.inl rfl) (.inl rfl)
  (bv_one (sv_if (tv_not (tv_val (ev_call (def_is_web T) (av_cons (ev_var 0) av_nil)))) (bv_one sv_never) bv_nil))
theorem def_check_web {P : Program} {w : World} {K : PySem.W.Frag} {mg : Str → Option Value} {base : Heap} (T : Top K mg) : Def P w K mg base "check_web" 5 ["value"] [.sh] (.sh)  fd_check_web := by
  obtain ⟨f, fd, h1, F⟩ := T.f_check_web
  exact ⟨f, fd, h1, F.kp, ok_check_web T F, F.bindsN (ps := ["value"]) fun kV dc pm an cdv ct us hl => match us, hl with | [_], _ => rfl⟩
/-! is_run_of_web -/
theorem sc_is_run_of_web : FnScope ["web", "value", "name", "planned", "low", "high"] ["web", "value"] (defScope (top 18)) := ⟨rfl, rfl, rfl, by decide +kernel, rfl, by decide +kernel, by decide +kernel⟩
def g_is_run_of_web : FS := (seqF (iteF' (orF (notF (tstF (un1 (varF 1) (isiD "dict")))) (tstF (bin2 (callF (consF (varF 1) nilF) (one lenD)) (callF (consF (bin2 (varF 0) (conF (.int 1)) ixD) nilF) (one lenD)) neD))) (retF (conF (.bl false))) skipF)
  (seqF (forF (seqIF (bin2 (varF 0) (conF (.int 1)) ixD)) (tupG 4 (consG (nameG 2) (consG (nameG 3) (consG (nameG 4) (consG (nameG 5) nilG))))) (iteF' (orF (tstF (bin2 (varF 2) (varF 1) notInAD)) (orF (notF (tstF (ucallF (consF (bin2 (varF 1) (varF 2) ixD) (consF (varF 4) nilF)) fd_is_count))) (tstF (bin2 (bin2 (varF 1) (varF 2) ixD) (varF 5) (cmpD gtI gtS))))) (retF (conF (.bl false))) skipF))
  (retF (conF (.bl true)))))
def fd_is_run_of_web : FD := defF [.sh, .sh] 4 g_is_run_of_web
theorem ok_is_run_of_web {P : Program} {w : World} {K : PySem.W.Frag} {mg : Str → Option Value} {base : Heap} {f : Addr} {fd : FuncData} (T : Top K mg) (F : FunD K "is_run_of_web" "is_run_of_web" (defArgs (top 18)) (defBody (top 18)) (defScope (top 18)) [] [] f fd) :
    FnG P w K mg base CX0 3 f fd ["web", "value"] (Prom K [.sh, .sh] (.sh) fd_is_run_of_web) :=
  body_okD (lv := 2) (pms := [.sh, .sh]) (k := 4) (g := g_is_run_of_web) (ms' := (rmsOf [.sh, .sh] 4)) F sc_is_run_of_web rfl rfl (by simp) (by rfl) (.inl rfl) (.inl rfl)
  (bv_cons (sv_if (tv_w (wv_or (tv_not (tv_val (ev_isi T.m_isinstance T.m_dict PyProof.Rows.boot_dict kit_dict (ev_var 1)))) (wv_or1 (tv_cmpK k_ne (ev_blt (b_len T.m_len) (av_cons (ev_var 1) av_nil)) (ev_blt (b_len T.m_len) (av_cons (ev_ix (ev_var 0) ev_int) av_nil)))))) (bv_one (sv_ret ev_bl)) bv_nil)
  (bv_cons (sv_for (iv_seq (ev_ix (ev_var 0) ev_int)) (gv_tup (gsv_cons (gv_name 2) (gsv_cons (gv_name 3) (gsv_cons (gv_name 4) (gsv_cons (gv_name 5) gsv_nil))))) (bv_post (ms2 := [.sh, .sh, .un, .un, .un, .un]) (bv_one (sv_if (tv_w (wv_or (tv_cmpK k_notIn (ev_var 2) (ev_var 1)) (wv_or (tv_not (tv_val (ev_call (def_is_count T) (av_cons (ev_ix (ev_var 1) (ev_var 2)) (av_cons (ev_var 4) av_nil))))) (wv_or1 (tv_cmpK k_gt (ev_ix (ev_var 1) (ev_var 2)) (ev_var 5)))))) (bv_one (sv_ret ev_bl)) bv_nil))))
  (bv_one (sv_ret ev_bl))))
theorem def_is_run_of_web {P : Program} {w : World} {K : PySem.W.Frag} {mg : Str → Option Value} {base : Heap} (T : Top K mg) : Def P w K mg base "is_run_of_web" 3 ["web", "value"] [.sh, .sh] (.sh)  fd_is_run_of_web := by
  obtain ⟨f, fd, h1, F⟩ := T.f_is_run_of_web
  exact ⟨f, fd, h1, F.kp, ok_is_run_of_web T F, F.bindsN (ps := ["web", "value"]) fun kV dc pm an cdv ct us hl => match us, hl with | [_, _], _ => rfl⟩
/-! is_web_course -/
theorem sc_is_web_course : FnScope ["web", "value"] ["web", "value"] (defScope (top 19)) := ⟨rfl, rfl, rfl, by decide +kernel, rfl, by decide +kernel, by decide +kernel⟩
def g_is_web_course : FS := (seqF (dropF (ucallF (consF (varF 0) nilF) fd_check_web))
  (retF (ucallF (consF (varF 0) (consF (varF 1) nilF)) fd_is_run_of_web)))
def fd_is_web_course : FD := defF [.sh, .sh] 0 g_is_web_course
theorem ok_is_web_course {P : Program} {w : World} {K : PySem.W.Frag} {mg : Str → Option Value} {base : Heap} {f : Addr} {fd : FuncData} (T : Top K mg) (F : FunD K "is_web_course" "is_web_course" (defArgs (top 19)) (defBody (top 19)) (defScope (top 19)) [] [] f fd) :
    FnG P w K mg base CX0 6 f fd ["web", "value"] (Prom K [.sh, .sh] (.sh) fd_is_web_course) :=
  body_okD (lv := 5) (pms := [.sh, .sh]) (k := 0) (g := g_is_web_course) (ms' := (rmsOf [.sh, .sh] 0)) F sc_is_web_course rfl rfl (by simp) (by rfl) (.inl rfl) (.inl rfl)
  (bv_cons (sv_expr (ev_call (def_check_web T) (av_cons (ev_var 0) av_nil)))
  (bv_one (sv_ret (ev_call (def_is_run_of_web T) (av_cons (ev_var 0) (av_cons (ev_var 1) av_nil))))))
theorem def_is_web_course {P : Program} {w : World} {K : PySem.W.Frag} {mg : Str → Option Value} {base : Heap} (T : Top K mg) : Def P w K mg base "is_web_course" 6 ["web", "value"] [.sh, .sh] (.sh)  fd_is_web_course := by
  obtain ⟨f, fd, h1, F⟩ := T.f_is_web_course
  exact ⟨f, fd, h1, F.kp, ok_is_web_course T F, F.bindsN (ps := ["web", "value"]) fun kV dc pm an cdv ct us hl => match us, hl with | [_, _], _ => rfl⟩
/-! web_times_by -/
theorem sc_web_times_by : FnScope ["web", "course", "found", "planned", "name", "waits", "goes", "flight", "one", "other", "many"] ["web", "course"] (defScope (top 20)) := ⟨rfl, rfl, rfl, by decide +kernel, rfl, by decide +kernel, by decide +kernel⟩
def g_web_times_by : FS := (seqF (parF [2, 3] (consF (conF (.dK [] [])) (consF (dcompF (seqIF (bin2 (varF 0) (conF (.int 1)) ixD)) [7] (nameG 7) yesF (bin2 (varF 7) (conF (.int 0)) ixD) (bin2 (varF 7) (conF (.int 1)) ixD)) nilF)))
  (seqF (forF (seqIF (ucallF (consF (ucallF (consF (varF 0) nilF) fd_names_of_web) (consF (bin2 (varF 0) (conF (.int 2)) ixD) nilF)) fd_flights_in_order)) (nameG 4) (seqF (setF 5 (compF (seqIF (bin2 (varF 0) (conF (.int 2)) ixD)) [8, 9, 10] (tupG 3 (consG (nameG 8) (consG (nameG 9) (consG (nameG 10) nilG)))) (tstF (bin2 (varF 9) (varF 4) eqD)) (bin2 (bin2 (bin2 (varF 2) (varF 8) ixD) (conF (.int 1)) ixD) (varF 10) addD)))
  (seqF (setF 6 (callF (consF (bin2 (callF (consF (bin2 (varF 3) (varF 4) ixD) nilF) lstD) (varF 5) addD) nilF) (one maxD1)))
  (putF 2 (varF 4) (callF (consF (varF 6) (consF (bin2 (varF 6) (bin2 (varF 1) (varF 4) ixD) addD) nilF)) tupD)))))
  (retF (varF 2))))
def fd_web_times_by : FD := defF [.sh, .sh] 9 g_web_times_by
theorem ok_web_times_by {P : Program} {w : World} {K : PySem.W.Frag} {mg : Str → Option Value} {base : Heap} {f : Addr} {fd : FuncData} (T : Top K mg) (F : FunD K "web_times_by" "web_times_by" (defArgs (top 20)) (defBody (top 20)) (defScope (top 20)) [] [] f fd) :
    FnG P w K mg base CX0 2 f fd ["web", "course"] (Prom K [.sh, .sh] (.ow 1) fd_web_times_by) :=
  body_okD (lv := 1) (pms := [.sh, .sh]) (k := 9) (g := g_web_times_by) (ms' := (rmsOf [.sh, .sh] 9)) F sc_web_times_by rfl rfl (by simp) (by rfl) (.inr ⟨_, rfl⟩) (.inr (nn_seq (nn_seq nn_ret)))
  (bv_cons (sv_parT (pv_cons ev_dnewK (pv_cons (ev_fz (ev_dc (own := [("flight", 7)]) (iv_seq (ev_ix (ev_var 0) ev_int)) (gv_name 7) cv_nil (ev_ix (ev_var 7) ev_int) (ev_ix (ev_var 7) ev_int))) pv_nil)) (nm_cons 2 (nm_cons 3 nm_nil)))
  (bv_cons (sv_for (iv_seq (ev_call (def_flights_in_order T) (av_cons (ev_fz (ev_call (def_names_of_web T) (av_cons (ev_var 0) av_nil))) (av_cons (ev_ix (ev_var 0) ev_int) av_nil)))) (gv_name 4) (bv_post (ms2 := [.sh, .sh, .ow 1, .sh, .un, .un, .un, .un, .un, .un, .un]) (bv_cons (sv_freezeEnd 5 (sv_setL (own := [("one", 8), ("other", 9), ("many", 10)]) 5 (iv_seq (ev_ix (ev_var 0) ev_int)) (gv_tup (gsv_cons (gv_name 8) (gsv_cons (gv_name 9) (gsv_cons (gv_name 10) gsv_nil)))) (cv_one (tv_cmpK k_eq (ev_var 9) (ev_var 4))) (ev_add (ev_ix (ev_ix (ev_varO 2) (ev_var 8)) ev_int) (ev_var 10))))
  (bv_cons (sv_set' 6 (ev_blt (b_max T.m_max) (av_cons (ev_add (ev_vw (ev_lst (av_cons (ev_ix (ev_var 3) (ev_var 4)) av_nil))) (ev_var 5)) av_nil)))
  (bv_one (sv_put 2 (ev_tup (av_cons (ev_var 6) (av_cons (ev_add (ev_var 6) (ev_ix (ev_var 1) (ev_var 4))) av_nil))) (ev_var 4)))))))
  (bv_one (sv_retO 2))))
theorem def_web_times_by {P : Program} {w : World} {K : PySem.W.Frag} {mg : Str → Option Value} {base : Heap} (T : Top K mg) : Def P w K mg base "web_times_by" 2 ["web", "course"] [.sh, .sh] (.ow 1)  fd_web_times_by := by
  obtain ⟨f, fd, h1, F⟩ := T.f_web_times_by
  exact ⟨f, fd, h1, F.kp, ok_web_times_by T F, F.bindsN (ps := ["web", "course"]) fun kV dc pm an cdv ct us hl => match us, hl with | [_, _], _ => rfl⟩
/-! web_times -/
theorem sc_web_times : FnScope ["web", "course", "times", "name"] ["web", "course"] (defScope (top 21)) := ⟨rfl, rfl, rfl, by decide +kernel, rfl, by decide +kernel, by decide +kernel⟩
def g_web_times : FS := (seqF (dropF (ucallF (consF (varF 0) nilF) fd_check_web))
  (seqF (iteF' (notF (tstF (ucallF (consF (varF 0) (consF (varF 1) nilF)) fd_is_run_of_web))) (fun _ => none) skipF)
  (seqF (setF 2 (ucallF (consF (varF 0) (consF (varF 1) nilF)) fd_web_times_by))
  (retF (compF (seqIF (ucallF (consF (varF 0) nilF) fd_names_of_web)) [3] (nameG 3) yesF (bin2 (callF (consF (varF 3) nilF) tupD) (bin2 (varF 2) (varF 3) ixD) addD))))))
def fd_web_times : FD := defF [.sh, .sh] 2 g_web_times
theorem ok_web_times {P : Program} {w : World} {K : PySem.W.Frag} {mg : Str → Option Value} {base : Heap} {f : Addr} {fd : FuncData} (T : Top K mg) (F : FunD K "web_times" "web_times" (defArgs (top 21)) (defBody (top 21)) (defScope (top 21)) [] [] f fd) :
    FnG P w K mg base CX0 6 f fd ["web", "course"] (Prom K [.sh, .sh] (.ow 1) fd_web_times) :=
  body_okD (lv := 5) (pms := [.sh, .sh]) (k := 2) (g := g_web_times) (ms' := (rmsOf [.sh, .sh] 2)) F sc_web_times rfl rfl (by simp) (by rfl) (.inr ⟨_, rfl⟩) (.inr (nn_seq (nn_seq (nn_seq nn_ret))))
  (bv_cons (sv_expr (ev_call (def_check_web T) (av_cons (ev_var 0) av_nil)))
  (bv_cons (sv_if (tv_not (tv_val (ev_call (def_is_run_of_web T) (av_cons (ev_var 0) (av_cons (ev_var 1) av_nil))))) (bv_one sv_never) bv_nil)
  (bv_cons (sv_set' 2 (ev_fz (ev_call (def_web_times_by T) (av_cons (ev_var 0) (av_cons (ev_var 1) av_nil)))))
  (bv_one (sv_ret (ev_lc (own := [("name", 3)]) (iv_seq (ev_fz (ev_call (def_names_of_web T) (av_cons (ev_var 0) av_nil)))) (gv_name 3) cv_nil (ev_add (ev_tup (av_cons (ev_var 3) av_nil)) (ev_ix (ev_var 2) (ev_var 3)))))))))
theorem def_web_times {P : Program} {w : World} {K : PySem.W.Frag} {mg : Str → Option Value} {base : Heap} (T : Top K mg) : Def P w K mg base "web_times" 6 ["web", "course"] [.sh, .sh] (.ow 1)  fd_web_times := by
  obtain ⟨f, fd, h1, F⟩ := T.f_web_times
  exact ⟨f, fd, h1, F.kp, ok_web_times T F, F.bindsN (ps := ["web", "course"]) fun kV dc pm an cdv ct us hl => match us, hl with | [_, _], _ => rfl⟩
theorem def_web_times_k_course_web {P : Program} {w : World} {K : PySem.W.Frag} {mg : Str → Option Value} {base : Heap} (T : Top K mg) : DefK P w K mg base "web_times" 6 ["web", "course"] [.sh, .sh] (.ow 1)  fd_web_times 0 ["course", "web"] [1, 0] := by
  obtain ⟨f, fd, h1, F⟩ := T.f_web_times
  exact ⟨f, fd, h1, F.kp, ok_web_times T F, DL.FunD.kpick F 0 ["course", "web"] [1, 0] fun kV dc pm an cdv ct us ws l1 l2 => match us, l1, ws, l2 with | [], _, [_, _], _ => rfl⟩
/-! _law_purse -/
theorem sc__law_purse : FnScope ["script", "at", "seed"] ["script", "at"] (defScope (top 23)) := ⟨rfl, rfl, rfl, by decide +kernel, rfl, by decide +kernel, by decide +kernel⟩
theorem ok__law_purse {P : Program} {w : World} {K : PySem.W.Frag} {mg : Str → Option Value} {base : Heap} {f : Addr} {fd : FuncData} (T : Top K mg) (F : FunD K "_law_purse" "_law_purse" (defArgs (top 23)) (defBody (top 23)) (defScope (top 23)) [] [] f fd) :
    FnG P w K mg base CX0 1 f fd ["script", "at"] (Prom K [.sh, .sh] (.ow 1) fd__law_purse) :=
  body_okD (lv := 0) (pms := [.sh, .sh]) (k := 1) (g := g__law_purse) (ms' := (rmsOf [.sh, .sh] 1)) F sc__law_purse rfl rfl (by simp) (by rfl) (.inr ⟨_, rfl⟩) (.inr (nn_seq nn_ret))
  (bv_cons (sv_set' 2 (ev_blt (b_sum T.m_sum) (av_cons (ev_slice (ev_var 0) (ov_some (ev_var 1)) (ov_some (ev_add (ev_var 1) ev_int))) av_nil)))
  (bv_one (sv_ret (ev_lst (av_cons (ev_mod (ev_blt (b_int T.m_int) (av_cons (ev_blt (b_max2 T.m_max) (av_cons (ev_sub (ev_var 2) (ev_pow ev_int ev_int)) (av_cons ev_int av_nil))) av_nil)) (ev_pow (ev_pow ev_int ev_int) ev_int)) (av_cons (ev_mod (ev_blt (b_int T.m_int) (av_cons (ev_var 2) av_nil)) ev_int) (av_cons ev_int (av_cons (ev_var 1) av_nil))))))))
theorem def__law_purse {P : Program} {w : World} {K : PySem.W.Frag} {mg : Str → Option Value} {base : Heap} (T : Top K mg) : Def P w K mg base "_law_purse" 1 ["script", "at"] [.sh, .sh] (.ow 1)  fd__law_purse := by
  obtain ⟨f, fd, h1, F⟩ := T.f__law_purse
  exact ⟨f, fd, h1, F.kp, ok__law_purse T F, F.bindsN (ps := ["script", "at"]) fun kV dc pm an cdv ct us hl => match us, hl with | [_, _], _ => rfl⟩
/-! _law_mixed -/
theorem sc__law_mixed : FnScope ["seed", "spin", "at", "mixed"] ["seed", "spin", "at"] (defScope (top 24)) := ⟨rfl, rfl, rfl, by decide +kernel, rfl, by decide +kernel, by decide +kernel⟩
theorem ok__law_mixed {P : Program} {w : World} {K : PySem.W.Frag} {mg : Str → Option Value} {base : Heap} {f : Addr} {fd : FuncData} (T : Top K mg) (F : FunD K "_law_mixed" "_law_mixed" (defArgs (top 24)) (defBody (top 24)) (defScope (top 24)) [] [] f fd) :
    FnG P w K mg base CX0 1 f fd ["seed", "spin", "at"] (Prom K [.sh, .sh, .sh] (.sh) fd__law_mixed) :=
  body_okD (lv := 0) (pms := [.sh, .sh, .sh]) (k := 1) (g := g__law_mixed) (ms' := (rmsOf [.sh, .sh, .sh] 1)) F sc__law_mixed rfl rfl (by simp) (by rfl) (.inl rfl) (.inl rfl)
  (bv_cons (sv_set' 3 (ev_add (ev_mul (ev_var 0) ev_int) (ev_mul (ev_mul ev_int (ev_var 1)) (ev_var 1))))
  (bv_cons (sv_set' 3 (ev_mod (ev_blt (b_int T.m_int) (av_cons (ev_add (ev_add (ev_var 3) (ev_mul ev_int (ev_var 2))) (ev_var 1)) av_nil)) ev_int))
  (bv_cons (sv_set' 3 (ev_mod (ev_blt (b_int T.m_int) (av_cons (ev_add (ev_mul (ev_var 3) (ev_var 3)) ev_int) av_nil)) ev_int))
  (bv_one (sv_ret (ev_mod (ev_blt (b_int T.m_int) (av_cons (ev_mul (ev_var 3) ev_int) av_nil)) ev_int))))))
theorem def__law_mixed {P : Program} {w : World} {K : PySem.W.Frag} {mg : Str → Option Value} {base : Heap} (T : Top K mg) : Def P w K mg base "_law_mixed" 1 ["seed", "spin", "at"] [.sh, .sh, .sh] (.sh)  fd__law_mixed := by
  obtain ⟨f, fd, h1, F⟩ := T.f__law_mixed
  exact ⟨f, fd, h1, F.kp, ok__law_mixed T F, F.bindsN (ps := ["seed", "spin", "at"]) fun kV dc pm an cdv ct us hl => match us, hl with | [_, _, _], _ => rfl⟩
/-! _law_draw -/
theorem sc__law_draw : FnScope ["purse", "many", "drawn", "found", "piece"] ["purse", "many"] (defScope (top 25)) := ⟨rfl, rfl, rfl, by decide +kernel, rfl, by decide +kernel, by decide +kernel⟩
theorem ok__law_draw {P : Program} {w : World} {K : PySem.W.Frag} {mg : Str → Option Value} {base : Heap} {f : Addr} {fd : FuncData} (T : Top K mg) (F : FunD K "_law_draw" "_law_draw" (defArgs (top 25)) (defBody (top 25)) (defScope (top 25)) [] [] f fd) :
    FnG P w K mg base CX0 2 f fd ["purse", "many"] (Prom K [.ow 1, .sh] (.sh) fd__law_draw) :=
  body_okD (lv := 1) (pms := [.ow 1, .sh]) (k := 3) (g := g__law_draw) (ms' := (rmsOf [.ow 1, .sh] 3)) F sc__law_draw rfl rfl (by simp) (by rfl) (.inl rfl) (.inl rfl)
  (bv_cons (sv_if (tv_cmpK k_gt (ev_ix (ev_varO 0) ev_int) ev_int) (bv_cons (sv_set' 2 (ev_mod (ev_blt (b_int T.m_int) (av_cons (ev_ix (ev_varO 0) ev_int) av_nil)) (ev_var 1)))
  (bv_cons (sv_put 0 (ev_fdiv (ev_ix (ev_varO 0) ev_int) (ev_var 1)) ev_int)
  (bv_one (sv_ret (ev_var 2))))) bv_nil)
  (bv_cons (sv_set' 3 ev_int)
  (bv_cons (sv_for (iv_range1 T.m_range (av_cons (ev_add ev_int (ev_fdiv (ev_bits (ev_var 1)) ev_int)) av_nil)) (gv_name 4) (bv_post (ms2 := [.ow 1, .sh, .un, .sh, .un]) (bv_cons (sv_put 0 (ev_add (ev_ix (ev_varO 0) ev_int) ev_int) ev_int)
  (bv_one (sv_set' 3 (ev_add (ev_mul (ev_var 3) ev_int) (ev_call (def__law_mixed T) (av_cons (ev_ix (ev_varO 0) ev_int) (av_cons (ev_ix (ev_varO 0) ev_int) (av_cons (ev_ix (ev_varO 0) ev_int) av_nil))))))))))
  (bv_one (sv_ret (ev_mod (ev_blt (b_int T.m_int) (av_cons (ev_var 3) av_nil)) (ev_var 1)))))))
theorem def__law_draw {P : Program} {w : World} {K : PySem.W.Frag} {mg : Str → Option Value} {base : Heap} (T : Top K mg) : Def P w K mg base "_law_draw" 2 ["purse", "many"] [.ow 1, .sh] (.sh)  fd__law_draw := by
  obtain ⟨f, fd, h1, F⟩ := T.f__law_draw
  exact ⟨f, fd, h1, F.kp, ok__law_draw T F, F.bindsN (ps := ["purse", "many"]) fun kV dc pm an cdv ct us hl => match us, hl with | [_, _], _ => rfl⟩
/-! _law_purses -/
theorem sc__law_purses : FnScope ["script", "few", "at"] ["script", "few"] (defScope (top 26)) := ⟨rfl, rfl, rfl, by decide +kernel, rfl, by decide +kernel, by decide +kernel⟩
theorem ok__law_purses {P : Program} {w : World} {K : PySem.W.Frag} {mg : Str → Option Value} {base : Heap} {f : Addr} {fd : FuncData} (T : Top K mg) (F : FunD K "_law_purses" "_law_purses" (defArgs (top 26)) (defBody (top 26)) (defScope (top 26)) [] [] f fd) :
    FnG P w K mg base CX0 2 f fd ["script", "few"] (Prom K [.sh, .sh] (.ow 2) fd__law_purses) :=
  body_okD (lv := 1) (pms := [.sh, .sh]) (k := 1) (g := g__law_purses) (ms' := (rmsOf [.sh, .sh] 1)) F sc__law_purses rfl rfl (by simp) (by rfl) (.inr ⟨_, rfl⟩) (.inr nn_ret)
  (bv_one (sv_ret (ev_lcO (own := [("at", 2)]) (iv_range1 T.m_range (av_cons (ev_blt (b_max2 T.m_max) (av_cons ev_int (av_cons (ev_blt (b_min2 T.m_min) (av_cons (ev_var 1) (av_cons (ev_blt (b_len T.m_len) (av_cons (ev_var 0) av_nil)) av_nil))) av_nil))) av_nil)) (gv_name 2) cv_nil (ev_call (def__law_purse T) (av_cons (ev_var 0) (av_cons (ev_var 2) av_nil))))))
theorem def__law_purses {P : Program} {w : World} {K : PySem.W.Frag} {mg : Str → Option Value} {base : Heap} (T : Top K mg) : Def P w K mg base "_law_purses" 2 ["script", "few"] [.sh, .sh] (.ow 2)  fd__law_purses := by
  obtain ⟨f, fd, h1, F⟩ := T.f__law_purses
  exact ⟨f, fd, h1, F.kp, ok__law_purses T F, F.bindsN (ps := ["script", "few"]) fun kV dc pm an cdv ct us hl => match us, hl with | [_, _], _ => rfl⟩
/-! _law_one_of -/
theorem sc__law_one_of : FnScope ["purse", "some"] ["purse", "some"] (defScope (top 27)) := ⟨rfl, rfl, rfl, by decide +kernel, rfl, by decide +kernel, by decide +kernel⟩
theorem ok__law_one_of {P : Program} {w : World} {K : PySem.W.Frag} {mg : Str → Option Value} {base : Heap} {f : Addr} {fd : FuncData} (T : Top K mg) (F : FunD K "_law_one_of" "_law_one_of" (defArgs (top 27)) (defBody (top 27)) (defScope (top 27)) [] [] f fd) :
    FnG P w K mg base CX0 3 f fd ["purse", "some"] (Prom K [.ow 1, .sh] (.sh) fd__law_one_of) :=
  body_okD (lv := 2) (pms := [.ow 1, .sh]) (k := 0) (g := g__law_one_of) (ms' := (rmsOf [.ow 1, .sh] 0)) F sc__law_one_of rfl rfl (by simp) (by rfl) (.inl rfl) (.inl rfl)
  (bv_one (sv_ret (ev_ix (ev_var 1) (ev_callIO 0 (def__law_draw T) (av_cons (ev_blt (b_len T.m_len) (av_cons (ev_var 1) av_nil)) av_nil)))))
theorem def__law_one_of {P : Program} {w : World} {K : PySem.W.Frag} {mg : Str → Option Value} {base : Heap} (T : Top K mg) : Def P w K mg base "_law_one_of" 3 ["purse", "some"] [.ow 1, .sh] (.sh)  fd__law_one_of := by
  obtain ⟨f, fd, h1, F⟩ := T.f__law_one_of
  exact ⟨f, fd, h1, F.kp, ok__law_one_of T F, F.bindsN (ps := ["purse", "some"]) fun kV dc pm an cdv ct us hl => match us, hl with | [_, _], _ => rfl⟩
/-! _law_shuffled -/
theorem sc__law_shuffled : FnScope ["purse", "some", "found", "item"] ["purse", "some"] (defScope (top 28)) := ⟨rfl, rfl, rfl, by decide +kernel, rfl, by decide +kernel, by decide +kernel⟩
theorem ok__law_shuffled {P : Program} {w : World} {K : PySem.W.Frag} {mg : Str → Option Value} {base : Heap} {f : Addr} {fd : FuncData} (T : Top K mg) (F : FunD K "_law_shuffled" "_law_shuffled" (defArgs (top 28)) (defBody (top 28)) (defScope (top 28)) [] [] f fd) :
    FnG P w K mg base CX0 3 f fd ["purse", "some"] (Prom K [.ow 1, .sh] (.ow 1) fd__law_shuffled) :=
  body_okD (lv := 2) (pms := [.ow 1, .sh]) (k := 2) (g := g__law_shuffled) (ms' := (rmsOf [.ow 1, .sh] 2)) F sc__law_shuffled rfl rfl (by simp) (by rfl) (.inr ⟨_, rfl⟩) (.inr (nn_seq (nn_seq nn_ret)))
  (bv_cons (sv_set' 2 (ev_lst av_nil))
  (bv_cons (sv_for (iv_seq (ev_var 1)) (gv_name 3) (bv_post (ms2 := [.ow 1, .sh, .ow 1, .un]) (bv_one (sv_expr (ev_mut 2 lm_insert (av_cons (ev_callIO 0 (def__law_draw T) (av_cons (ev_add (ev_blt (b_len T.m_len) (av_cons (ev_varO 2) av_nil)) ev_int) av_nil)) (av_cons (ev_var 3) av_nil)))))))
  (bv_one (sv_retO 2))))
theorem def__law_shuffled {P : Program} {w : World} {K : PySem.W.Frag} {mg : Str → Option Value} {base : Heap} (T : Top K mg) : Def P w K mg base "_law_shuffled" 3 ["purse", "some"] [.ow 1, .sh] (.ow 1)  fd__law_shuffled := by
  obtain ⟨f, fd, h1, F⟩ := T.f__law_shuffled
  exact ⟨f, fd, h1, F.kp, ok__law_shuffled T F, F.bindsN (ps := ["purse", "some"]) fun kV dc pm an cdv ct us hl => match us, hl with | [_, _], _ => rfl⟩
/-! _law_exact -/
theorem sc__law_exact : FnScope ["mine", "theirs", "is_list", "is_like", "a", "b"] ["mine", "theirs"] (defScope (top 29)) := ⟨rfl, rfl, rfl, by decide +kernel, rfl, by decide +kernel, by decide +kernel⟩
theorem def__law_exact {P : Program} {w : World} {K : PySem.W.Frag} {mg : Str → Option Value} {base : Heap} (T : Top K mg) : ∀ n : Nat, Def P w K mg base "_law_exact" (1 + n) ["mine", "theirs"] [.sh, .sh] (.sh)  (fd__law_exact n)
  | 0 => by
    obtain ⟨f, fd, h1, F⟩ := T.f__law_exact
    exact ⟨f, fd, h1, F.kp, FnG.no fun vs H Q E h => (by obtain ⟨_, _, _, _, _, _, e, _⟩ := h; cases e), F.bindsN (ps := ["mine", "theirs"]) fun kV dc pm an cdv ct us hl => match us, hl with | [_, _], _ => rfl⟩
  | n + 1 => by
    have ih := def__law_exact (P := P) (w := w) (base := base) T n
    obtain ⟨f, fd, h1, F⟩ := T.f__law_exact
    refine ⟨f, fd, h1, F.kp, ?_, F.bindsN (ps := ["mine", "theirs"]) fun kV dc pm an cdv ct us hl => match us, hl with | [_, _], _ => rfl⟩
    exact body_okD (lv := 1 + n) (pms := [.sh, .sh]) (k := 4) (ms' := (rmsOf [.sh, .sh] 4)) F sc__law_exact rfl rfl (by simp) (by rfl) (.inl rfl) (.inl rfl)
      (bv_cons (sv_if (tv_val (ev_isiT T.m_isinstance (tn_cons T.m_list PyProof.Rows.boot_list (tn_cons T.m_tuple PyProof.Rows.boot_tuple tn_nil)) (by decide +kernel) (ev_var 0))) (bv_cons (sv_set' 2 (ev_cmpK k_eq (ev_isi T.m_isinstance T.m_list PyProof.Rows.boot_list kit_list (ev_var 1)) (ev_isi T.m_isinstance T.m_list PyProof.Rows.boot_list kit_list (ev_var 0))))
      (bv_cons (sv_set' 3 (ev_and (ev_var 2) (ev_one (ev_cmpK k_eq (ev_isi T.m_isinstance T.m_tuple PyProof.Rows.boot_tuple kit_tuple (ev_var 1)) (ev_isi T.m_isinstance T.m_tuple PyProof.Rows.boot_tuple kit_tuple (ev_var 0))))))
      (bv_one (sv_ret (ev_and (ev_var 3) (ev_and (ev_cmpK k_eq (ev_blt (b_len T.m_len) (av_cons (ev_var 0) av_nil)) (ev_blt (b_len T.m_len) (av_cons (ev_var 1) av_nil))) (ev_one (ev_blt (b_all T.m_all) (av_cons (ev_vw (ev_lc (own := [("a", 4), ("b", 5)]) (iv_zipA T.m_zip (av_cons (ev_var 0) (av_cons (ev_var 1) av_nil))) (gv_tup (gsv_cons (gv_name 4) (gsv_cons (gv_name 5) gsv_nil))) cv_nil (ev_call ih (av_cons (ev_var 4) (av_cons (ev_var 5) av_nil))))) av_nil))))))))) bv_nil)
      (bv_cons (sv_if (tv_w (wv_or (tv_val (ev_isiT T.m_isinstance (tn_cons T.m_list PyProof.Rows.boot_list (tn_cons T.m_tuple PyProof.Rows.boot_tuple tn_nil)) (by decide +kernel) (ev_var 1))) (wv_or1 (tv_cmpK k_ne (ev_cmpK k_is (ev_var 0) ev_non) (ev_cmpK k_is (ev_var 1) ev_non))))) (bv_one (sv_ret ev_bl)) bv_nil)
      (bv_cons (sv_set' 3 (ev_and (ev_cmpK k_eq (ev_isi T.m_isinstance T.m_int PyProof.Rows.boot_int kit_int (ev_var 0)) (ev_isi T.m_isinstance T.m_int PyProof.Rows.boot_int kit_int (ev_var 1))) (ev_one (ev_cmpK k_eq (ev_isi T.m_isinstance T.m_str PyProof.Rows.boot_str kit_str (ev_var 0)) (ev_isi T.m_isinstance T.m_str PyProof.Rows.boot_str kit_str (ev_var 1))))))
      (bv_one (sv_ret (ev_and (ev_var 3) (ev_and (ev_cmpK k_eq (ev_isi T.m_isinstance T.m_bool PyProof.Rows.boot_bool kit_bool (ev_var 0)) (ev_isi T.m_isinstance T.m_bool PyProof.Rows.boot_bool kit_bool (ev_var 1))) (ev_one (ev_cmpK k_eq (ev_var 0) (ev_var 1))))))))))
/-! _law_names -/
theorem sc__law_names : FnScope ["purse", "many", "pool", "found"] ["purse", "many"] (defScope (top 30)) := ⟨rfl, rfl, rfl, by decide +kernel, rfl, by decide +kernel, by decide +kernel⟩
def g__law_names : FS := (seqF (setF 2 (ucallIO 0 (consF (callF (consF (callF (consF (conF (.str "ada")) (consF (conF (.str "bob")) (consF (conF (.str "cid")) (consF (conF (.str "dan")) (consF (conF (.str "eve")) (consF (conF (.str "fox")) (consF (conF (.str "gus")) (consF (conF (.str "hal")) (consF (conF (.str "ida")) (consF (conF (.str "jon")) nilF)))))))))) lstD) (consF (callF (consF (conF (.str "abcdefghij")) nilF) (one listD)) (consF (callF (consF (conF (.str "a")) (consF (conF (.str "ab")) (consF (conF (.str "abc")) (consF (conF (.str "b")) (consF (conF (.str "ba")) (consF (conF (.str "c")) (consF (conF (.str "cab")) (consF (conF (.str "d")) (consF (conF (.str "dab")) (consF (conF (.str "e")) nilF)))))))))) lstD) nilF))) lstD) nilF) fd__law_one_of))
  (seqF (setF 3 (callF (consF (varF 2) nilF) (one listD)))
  (seqF (whileF (tstF (bin2 (callF (consF (varF 3) nilF) (one lenD)) (varF 1) (cmpD gtI gtS))) (dropF (mutE 3 (consF (ucallIO 0 (consF (callF (consF (varF 3) nilF) (one lenD)) nilF) fd__law_draw) nilF) popAtD)) fuel)
  (retF (varF 3)))))
def fd__law_names : FD := defF [.ow 1, .sh] 2 g__law_names
theorem ok__law_names {P : Program} {w : World} {K : PySem.W.Frag} {mg : Str → Option Value} {base : Heap} {f : Addr} {fd : FuncData} (T : Top K mg) (F : FunD K "_law_names" "_law_names" (defArgs (top 30)) (defBody (top 30)) (defScope (top 30)) [] [] f fd) :
    FnG P w K mg base CX0 4 f fd ["purse", "many"] (Prom K [.ow 1, .sh] (.ow 1) fd__law_names) :=
  body_okD (lv := 3) (pms := [.ow 1, .sh]) (k := 2) (g := g__law_names) (ms' := (rmsOf [.ow 1, .sh] 2)) F sc__law_names rfl rfl (by simp) (by rfl) (.inr ⟨_, rfl⟩) (.inr (nn_seq (nn_seq (nn_seq nn_ret))))
  (bv_cons (sv_set' 2 (ev_callIO 0 (def__law_one_of T) (av_cons (ev_fz (ev_lst (av_cons (ev_fz (ev_lst (av_cons ev_str (av_cons ev_str (av_cons ev_str (av_cons ev_str (av_cons ev_str (av_cons ev_str (av_cons ev_str (av_cons ev_str (av_cons ev_str (av_cons ev_str av_nil)))))))))))) (av_cons (ev_fz (ev_blt (b_list T.m_list) (av_cons ev_str av_nil))) (av_cons (ev_fz (ev_lst (av_cons ev_str (av_cons ev_str (av_cons ev_str (av_cons ev_str (av_cons ev_str (av_cons ev_str (av_cons ev_str (av_cons ev_str (av_cons ev_str (av_cons ev_str av_nil)))))))))))) av_nil))))) av_nil)))
  (bv_cons (sv_set' 3 (ev_blt (b_list T.m_list) (av_cons (ev_var 2) av_nil)))
  (bv_cons (sv_while fuel (tv_cmpK k_gt (ev_blt (b_len T.m_len) (av_cons (ev_varO 3) av_nil)) (ev_var 1)) (bv_one (sv_expr (ev_mut 3 lm_pop (av_cons (ev_callIO 0 (def__law_draw T) (av_cons (ev_blt (b_len T.m_len) (av_cons (ev_varO 3) av_nil)) av_nil)) av_nil)))))
  (bv_one (sv_retO 3)))))
theorem def__law_names {P : Program} {w : World} {K : PySem.W.Frag} {mg : Str → Option Value} {base : Heap} (T : Top K mg) : Def P w K mg base "_law_names" 4 ["purse", "many"] [.ow 1, .sh] (.ow 1)  fd__law_names := by
  obtain ⟨f, fd, h1, F⟩ := T.f__law_names
  exact ⟨f, fd, h1, F.kp, ok__law_names T F, F.bindsN (ps := ["purse", "many"]) fun kV dc pm an cdv ct us hl => match us, hl with | [_, _], _ => rfl⟩
/-! _law_web -/
theorem sc__law_web : FnScope ["purse", "many", "wide", "far", "names", "flights", "links", "order", "name", "low", "at", "other", "one"] ["purse", "many", "wide", "far"] (defScope (top 31)) := ⟨rfl, rfl, rfl, by decide +kernel, rfl, by decide +kernel, by decide +kernel⟩
def g__law_web : FS := (seqF (parF [4, 5, 6] (consF (ucallIO 0 (consF (varF 1) nilF) fd__law_names) (consF (callF nilF lstD) (consF (callF nilF lstD) nilF))))
  (seqF (setF 7 (ucallIO 0 (consF (varF 4) nilF) fd__law_shuffled))
  (seqF (forF (seqIF (varF 4)) (nameG 8) (seqF (setF 9 (bin2 (conF (.int 1)) (ucallIO 0 (consF (ucallIO 0 (consF (callF (consF (conF (.int 3)) (consF (conF (.int 30)) (consF (varF 3) nilF))) lstD) nilF) fd__law_one_of) nilF) fd__law_draw) addD))
  (dropF (mutE 5 (consF (callF (consF (varF 8) (consF (bin2 (ucallIO 0 (consF (conF (.int 60)) nilF) fd__law_draw) (conF (.int 20)) (intOp0 fun i j => i - j)) (consF (varF 9) (consF (bin2 (varF 9) (ucallIO 0 (consF (varF 2) nilF) fd__law_draw) addD) nilF)))) tupD) nilF) appD))))
  (seqF (forF (enumF (consF (varF 7) nilF)) (tupG 2 (consG (nameG 10) (consG (nameG 11) nilG))) (forF (seqIF (sliceF (varF 7) nopF (partF (varF 10)) sliceD)) (nameG 12) (iteF' (tstF (bin2 (ucallIO 0 (consF (conF (.int 3)) nilF) fd__law_draw) (conF (.int 0)) eqD)) (dropF (mutE 6 (consF (callF (consF (varF 12) (consF (varF 11) (consF (ucallIO 0 (consF (ucallIO 0 (consF (callF (consF (conF (.int 1)) (consF (conF (.int 9)) (consF (conF (.int 40)) nilF))) lstD) nilF) fd__law_one_of) nilF) fd__law_draw) nilF))) tupD) nilF) appD)) skipF)))
  (retF (callF (consF (conF (.str "web")) (consF (varF 5) (consF (callF (consF (sliceF (ucallIO 0 (consF (varF 6) nilF) fd__law_shuffled) nopF (partF (conF (.int 24))) sliceD) nilF) (one sortD)) nilF))) tupD))))))
def fd__law_web : FD := defF [.ow 1, .sh, .sh, .sh] 9 g__law_web
theorem ok__law_web {P : Program} {w : World} {K : PySem.W.Frag} {mg : Str → Option Value} {base : Heap} {f : Addr} {fd : FuncData} (T : Top K mg) (F : FunD K "_law_web" "_law_web" (defArgs (top 31)) (defBody (top 31)) (defScope (top 31)) [] [] f fd) :
    FnG P w K mg base CX0 5 f fd ["purse", "many", "wide", "far"] (Prom K [.ow 1, .sh, .sh, .sh] (.sh) fd__law_web) :=
  body_okD (lv := 4) (pms := [.ow 1, .sh, .sh, .sh]) (k := 9) (g := g__law_web) (ms' := (rmsOf [.ow 1, .sh, .sh, .sh] 9)) F sc__law_web rfl rfl (by simp) (by rfl) (.inl rfl) (.inl rfl)
  (bv_cons (sv_par3S 4 5 6 (pv_cons (ev_fz (ev_callIO 0 (def__law_names T) (av_cons (ev_var 1) av_nil))) (pv_cons (ev_lst av_nil) (pv_cons (ev_lst av_nil) pv_nil))))
  (bv_cons (sv_set' 7 (ev_fz (ev_callIO 0 (def__law_shuffled T) (av_cons (ev_var 4) av_nil))))
  (bv_cons (sv_for (iv_seq (ev_var 4)) (gv_name 8) (bv_post (ms2 := [.ow 1, .sh, .sh, .sh, .sh, .ow 1, .ow 1, .sh, .un, .un, .un, .un, .un]) (bv_cons (sv_set' 9 (ev_add ev_int (ev_callIO 0 (def__law_draw T) (av_cons (ev_callIO 0 (def__law_one_of T) (av_cons (ev_fz (ev_lst (av_cons ev_int (av_cons ev_int (av_cons (ev_var 3) av_nil))))) av_nil)) av_nil))))
  (bv_one (sv_expr (ev_mut 5 lm_append (av_cons (ev_tup (av_cons (ev_var 8) (av_cons (ev_sub (ev_callIO 0 (def__law_draw T) (av_cons ev_int av_nil)) ev_int) (av_cons (ev_var 9) (av_cons (ev_add (ev_var 9) (ev_callIO 0 (def__law_draw T) (av_cons (ev_var 2) av_nil))) av_nil))))) av_nil)))))))
  (bv_cons (sv_for (iv_enum T.m_enumerate (av_cons (ev_var 7) av_nil)) (gv_tup (gsv_cons (gv_name 10) (gsv_cons (gv_name 11) gsv_nil))) (bv_post (ms2 := [.ow 1, .sh, .sh, .sh, .sh, .ow 1, .ow 1, .sh, .un, .un, .un, .un, .un]) (bv_one (sv_for (iv_seq (ev_slice (ev_var 7) ov_none (ov_some (ev_var 10)))) (gv_name 12) (bv_post (ms2 := [.ow 1, .sh, .sh, .sh, .sh, .ow 1, .ow 1, .sh, .un, .un, .sh, .sh, .un]) (bv_one (sv_if (tv_cmpK k_eq (ev_callIO 0 (def__law_draw T) (av_cons ev_int av_nil)) ev_int) (bv_one (sv_expr (ev_mut 6 lm_append (av_cons (ev_tup (av_cons (ev_var 12) (av_cons (ev_var 11) (av_cons (ev_callIO 0 (def__law_draw T) (av_cons (ev_callIO 0 (def__law_one_of T) (av_cons (ev_fz (ev_lst (av_cons ev_int (av_cons ev_int (av_cons ev_int av_nil))))) av_nil)) av_nil)) av_nil)))) av_nil)))) bv_nil)))))))
  (bv_one (sv_freeze 5 (sv_freeze 6 (sv_ret (ev_tup (av_cons ev_str (av_cons (ev_var 5) (av_cons (ev_fz (ev_blt (b_sorted T.m_sorted) (av_cons (ev_slice (ev_vw (ev_callIO 0 (def__law_shuffled T) (av_cons (ev_var 6) av_nil))) ov_none (ov_some ev_int)) av_nil))) av_nil))))))))))))
theorem def__law_web {P : Program} {w : World} {K : PySem.W.Frag} {mg : Str → Option Value} {base : Heap} (T : Top K mg) : Def P w K mg base "_law_web" 5 ["purse", "many", "wide", "far"] [.ow 1, .sh, .sh, .sh] (.sh)  fd__law_web := by
  obtain ⟨f, fd, h1, F⟩ := T.f__law_web
  exact ⟨f, fd, h1, F.kp, ok__law_web T F, F.bindsN (ps := ["purse", "many", "wide", "far"]) fun kV dc pm an cdv ct us hl => match us, hl with | [_, _, _, _], _ => rfl⟩
/-! _law_times -/
theorem sc__law_times : FnScope ["web", "course", "goes", "flights", "spin", "name", "waits", "flight", "one", "other", "many"] ["web", "course"] (defScope (top 32)) := ⟨rfl, rfl, rfl, by decide +kernel, rfl, by decide +kernel, by decide +kernel⟩
def g__law_times : FS := (seqF (parF [2, 3] (consF (conF (.dK [] [])) (consF (callF (consF (compF (seqIF (bin2 (varF 0) (conF (.int 1)) ixD)) [7] (nameG 7) yesF (callF (consF (bin2 (varF 7) (conF (.int 0)) ixD) (consF (varF 7) nilF)) tupD)) nilF) (one dictD)) nilF)))
  (seqF (needK 3 (forF (keysF 3) (nameG 4) (forF (keysF 3) (nameG 5) (seqF (setF 6 (compF (seqIF (bin2 (varF 0) (conF (.int 2)) ixD)) [8, 9, 10] (tupG 3 (consG (nameG 8) (consG (nameG 9) (consG (nameG 10) nilG)))) (andF (tstF (bin2 (varF 9) (varF 5) eqD)) (tstF (bin2 (varF 8) (varF 2) inAD))) (bin2 (bin2 (get2F (varF 2) (varF 8) (conF (.int 0))) (bin2 (varF 1) (varF 8) ixD) addD) (varF 10) addD)))
  (putF 2 (varF 5) (callF (consF (bin2 (callF (consF (bin2 (bin2 (varF 3) (varF 5) ixD) (conF (.int 1)) ixD) nilF) lstD) (varF 6) addD) nilF) (one maxD1)))))))
  (needK 3 (retF (callF (consF (compF (keysF 3) [5] (nameG 5) yesF (callF (consF (varF 5) (consF (callF (consF (bin2 (varF 2) (varF 5) ixD) (consF (bin2 (bin2 (varF 2) (varF 5) ixD) (bin2 (varF 1) (varF 5) ixD) addD) nilF)) tupD) nilF)) tupD)) nilF) (one dictD))))))
def fd__law_times : FD := defF [.sh, .sh] 9 g__law_times
theorem ok__law_times {P : Program} {w : World} {K : PySem.W.Frag} {mg : Str → Option Value} {base : Heap} {f : Addr} {fd : FuncData} (T : Top K mg) (F : FunD K "_law_times" "_law_times" (defArgs (top 32)) (defBody (top 32)) (defScope (top 32)) [] [] f fd) :
    FnG P w K mg base CX0 1 f fd ["web", "course"] (Prom K [.sh, .sh] (.ow 1) fd__law_times) :=
  body_okD (lv := 0) (pms := [.sh, .sh]) (k := 9) (g := g__law_times) (ms' := (rmsOf [.sh, .sh] 9)) F sc__law_times rfl rfl (by simp) (by rfl) (.inr ⟨_, rfl⟩) (.inr (nn_seq (nn_seq (nn_need nn_ret))))
  (bv_cons (sv_parT (pv_cons ev_dnewK (pv_cons (ev_fz (ev_blt (b_dict T.m_dict) (av_cons (ev_vw (ev_lc (own := [("flight", 7)]) (iv_seq (ev_ix (ev_var 0) ev_int)) (gv_name 7) cv_nil (ev_tup (av_cons (ev_ix (ev_var 7) ev_int) (av_cons (ev_var 7) av_nil))))) av_nil))) pv_nil)) (nm_cons 2 (nm_cons 3 nm_nil)))
  (bv_cons (sv_lock 3 (msA := [.sh, .sh, .ow 1, .lk, .un, .un, .un, .un, .un, .un, .un]) (ms1 := [.sh, .sh, .ow 1, .lk, .un, .un, .un, .un, .un, .un, .un]) (ms2 := [.sh, .sh, .ow 1, .sh, .un, .un, .un, .un, .un, .un, .un]) (sv_for (iv_keys 3) (gv_name 4) (bv_post (ms2 := [.sh, .sh, .ow 1, .lk, .un, .un, .un, .un, .un, .un, .un]) (bv_one (sv_for (iv_keys 3) (gv_name 5) (bv_post (ms2 := [.sh, .sh, .ow 1, .lk, .sh, .un, .un, .un, .un, .un, .un]) (bv_cons (sv_freezeEnd 6 (sv_setL (own := [("one", 8), ("other", 9), ("many", 10)]) 6 (iv_seq (ev_ix (ev_var 0) ev_int)) (gv_tup (gsv_cons (gv_name 8) (gsv_cons (gv_name 9) (gsv_cons (gv_name 10) gsv_nil)))) (cv_one (tv_w (wv_and (tv_cmpK k_eq (ev_var 9) (ev_var 5)) (wv_and1 (tv_cmpK k_in (ev_var 8) (ev_varO 2)))))) (ev_add (ev_add (ev_get2 (ev_varO 2) (ev_var 8) ev_int) (ev_ix (ev_var 1) (ev_var 8))) (ev_var 10))))
  (bv_one (sv_put 2 (ev_blt (b_max T.m_max) (av_cons (ev_add (ev_vw (ev_lst (av_cons (ev_ix (ev_ix (ev_varL 3) (ev_var 5)) ev_int) av_nil))) (ev_var 6)) av_nil)) (ev_var 5))))))))))
  (bv_one (sv_nx (sv_lock 3 (msA := [.sh, .sh, .ow 1, .lk, .un, .un, .un, .un, .un, .un, .un]) (ms1 := [.sh, .sh, .ow 1, .lk, .un, .un, .un, .un, .un, .un, .un]) (ms2 := [.sh, .sh, .ow 1, .sh, .un, .un, .un, .un, .un, .un, .un]) (sv_ret (ev_blt (b_dict T.m_dict) (av_cons (ev_vw (ev_lc (own := [("name", 5)]) (iv_keys 3) (gv_name 5) cv_nil (ev_tup (av_cons (ev_var 5) (av_cons (ev_tup (av_cons (ev_ix (ev_varO 2) (ev_var 5)) (av_cons (ev_add (ev_ix (ev_varO 2) (ev_var 5)) (ev_ix (ev_var 1) (ev_var 5))) av_nil))) av_nil))))) av_nil)))) (nn_need nn_ret)))))
theorem def__law_times {P : Program} {w : World} {K : PySem.W.Frag} {mg : Str → Option Value} {base : Heap} (T : Top K mg) : Def P w K mg base "_law_times" 1 ["web", "course"] [.sh, .sh] (.ow 1)  fd__law_times := by
  obtain ⟨f, fd, h1, F⟩ := T.f__law_times
  exact ⟨f, fd, h1, F.kp, ok__law_times T F, F.bindsN (ps := ["web", "course"]) fun kV dc pm an cdv ct us hl => match us, hl with | [_, _], _ => rfl⟩
/-! _law_drawn_course -/
theorem sc__law_drawn_course : FnScope ["purse", "web", "name", "planned", "low", "high"] ["purse", "web"] (defScope (top 33)) := ⟨rfl, rfl, rfl, by decide +kernel, rfl, by decide +kernel, by decide +kernel⟩
def g__law_drawn_course : FS := (retF (callF (consF (compF (seqIF (bin2 (varF 1) (conF (.int 1)) ixD)) [2, 3, 4, 5] (tupG 4 (consG (nameG 2) (consG (nameG 3) (consG (nameG 4) (consG (nameG 5) nilG))))) yesF (callF (consF (varF 2) (consF (bin2 (varF 4) (ucallIO 0 (consF (bin2 (bin2 (varF 5) (varF 4) (intOp0 fun i j => i - j)) (conF (.int 1)) addD) nilF) fd__law_draw) addD) nilF)) tupD)) nilF) (one dictD)))
def fd__law_drawn_course : FD := defF [.ow 1, .sh] 4 g__law_drawn_course
theorem ok__law_drawn_course {P : Program} {w : World} {K : PySem.W.Frag} {mg : Str → Option Value} {base : Heap} {f : Addr} {fd : FuncData} (T : Top K mg) (F : FunD K "_law_drawn_course" "_law_drawn_course" (defArgs (top 33)) (defBody (top 33)) (defScope (top 33)) [] [] f fd) :
    FnG P w K mg base CX0 3 f fd ["purse", "web"] (Prom K [.ow 1, .sh] (.ow 1) fd__law_drawn_course) :=
  body_okD (lv := 2) (pms := [.ow 1, .sh]) (k := 4) (g := g__law_drawn_course) (ms' := (rmsOf [.ow 1, .sh] 4)) F sc__law_drawn_course rfl rfl (by simp) (by rfl) (.inr ⟨_, rfl⟩) (.inr nn_ret)
  (bv_one (sv_ret (ev_blt (b_dict T.m_dict) (av_cons (ev_vw (ev_lc (own := [("name", 2), ("planned", 3), ("low", 4), ("high", 5)]) (iv_seq (ev_ix (ev_var 1) ev_int)) (gv_tup (gsv_cons (gv_name 2) (gsv_cons (gv_name 3) (gsv_cons (gv_name 4) (gsv_cons (gv_name 5) gsv_nil))))) cv_nil (ev_tup (av_cons (ev_var 2) (av_cons (ev_add (ev_var 4) (ev_callIO 0 (def__law_draw T) (av_cons (ev_add (ev_sub (ev_var 5) (ev_var 4)) ev_int) av_nil))) av_nil))))) av_nil))))
theorem def__law_drawn_course {P : Program} {w : World} {K : PySem.W.Frag} {mg : Str → Option Value} {base : Heap} (T : Top K mg) : Def P w K mg base "_law_drawn_course" 3 ["purse", "web"] [.ow 1, .sh] (.ow 1)  fd__law_drawn_course := by
  obtain ⟨f, fd, h1, F⟩ := T.f__law_drawn_course
  exact ⟨f, fd, h1, F.kp, ok__law_drawn_course T F, F.bindsN (ps := ["purse", "web"]) fun kV dc pm an cdv ct us hl => match us, hl with | [_, _], _ => rfl⟩
/-! _law_told_right -/
theorem sc__law_told_right : FnScope ["web", "course", "times", "due", "told", "flight"] ["web", "course"] (defScope (top 34)) := ⟨rfl, rfl, rfl, by decide +kernel, rfl, by decide +kernel, by decide +kernel⟩
def g__law_told_right : FS := (seqF (setF 2 (ucallF (consF (varF 0) (consF (varF 1) nilF)) fd__law_times))
  (seqF (setF 3 (compF (seqIF (bin2 (varF 0) (conF (.int 1)) ixD)) [5] (nameG 5) yesF (bin2 (callF (consF (bin2 (varF 5) (conF (.int 0)) ixD) nilF) tupD) (bin2 (varF 2) (bin2 (varF 5) (conF (.int 0)) ixD) ixD) addD)))
  (seqF (setF 4 (ucallF (consF (varF 0) (consF (varF 1) nilF)) fd_web_times))
  (seqF (iteF' (orF (notF (tstF (ucallF (consF (callF (consF (varF 3) (consF (varF 3) nilF)) lstD) (consF (callF (consF (varF 4) (consF (ucallF (pickF [1, 0] (consF (varF 1) (consF (varF 0) nilF))) fd_web_times) nilF)) lstD) nilF)) (fd__law_exact 6)))) (tstF (bin2 (ucallF (consF (varF 0) (consF (varF 1) nilF)) fd_is_web_course) (conF (.bl true)) isNotD))) (retF (conF (.bl false))) skipF)
  (seqF (dropF (mutE 4 (consF (conF .non) nilF) appD))
  (retF (ucallF (consF (varF 3) (consF (ucallF (consF (varF 0) (consF (varF 1) nilF)) fd_web_times) nilF)) (fd__law_exact 6))))))))
def fd__law_told_right : FD := defF [.sh, .sh] 4 g__law_told_right
theorem ok__law_told_right {P : Program} {w : World} {K : PySem.W.Frag} {mg : Str → Option Value} {base : Heap} {f : Addr} {fd : FuncData} (T : Top K mg) (F : FunD K "_law_told_right" "_law_told_right" (defArgs (top 34)) (defBody (top 34)) (defScope (top 34)) [] [] f fd) :
    FnG P w K mg base CX0 8 f fd ["web", "course"] (Prom K [.sh, .sh] (.sh) fd__law_told_right) :=
  body_okD (lv := 7) (pms := [.sh, .sh]) (k := 4) (g := g__law_told_right) (ms' := (rmsOf [.sh, .sh] 4)) F sc__law_told_right rfl rfl (by simp) (by rfl) (.inl rfl) (.inl rfl)
  (bv_cons (sv_set' 2 (ev_fz (ev_call (def__law_times T) (av_cons (ev_var 0) (av_cons (ev_var 1) av_nil)))))
  (bv_cons (sv_freezeEnd 3 (sv_setL (own := [("flight", 5)]) 3 (iv_seq (ev_ix (ev_var 0) ev_int)) (gv_name 5) cv_nil (ev_add (ev_tup (av_cons (ev_ix (ev_var 5) ev_int) av_nil)) (ev_ix (ev_var 2) (ev_ix (ev_var 5) ev_int)))))
  (bv_cons (sv_set' 4 (ev_call (def_web_times T) (av_cons (ev_var 0) (av_cons (ev_var 1) av_nil))))
  (bv_cons (sv_if (tv_w (wv_or (tv_not (tv_val (ev_callBo (def__law_exact T 6) (av_cons (ev_vw (ev_lst (av_cons (ev_var 3) (av_cons (ev_var 3) av_nil)))) (av_cons (ev_lstB (av_cons (ev_varO 4) (av_cons (ev_vw (ev_callAK (def_web_times_k_course_web T) (kv_cons (ev_var 1) (kv_cons (ev_var 0) kv_nil)))) av_nil))) av_nil))))) (wv_or1 (tv_cmpK k_isnot (ev_call (def_is_web_course T) (av_cons (ev_var 0) (av_cons (ev_var 1) av_nil))) ev_bl)))) (bv_one (sv_ret ev_bl)) bv_nil)
  (bv_cons (sv_expr (ev_mut 4 lm_append (av_cons ev_non av_nil)))
  (bv_one (sv_ret (ev_call (def__law_exact T 6) (av_cons (ev_var 3) (av_cons (ev_fz (ev_call (def_web_times T) (av_cons (ev_var 0) (av_cons (ev_var 1) av_nil)))) av_nil))))))))))
theorem def__law_told_right {P : Program} {w : World} {K : PySem.W.Frag} {mg : Str → Option Value} {base : Heap} (T : Top K mg) : Def P w K mg base "_law_told_right" 8 ["web", "course"] [.sh, .sh] (.sh)  fd__law_told_right := by
  obtain ⟨f, fd, h1, F⟩ := T.f__law_told_right
  exact ⟨f, fd, h1, F.kp, ok__law_told_right T F, F.bindsN (ps := ["web", "course"]) fun kV dc pm an cdv ct us hl => match us, hl with | [_, _], _ => rfl⟩
/-! _law_turned_right -/
theorem sc__law_turned_right : FnScope ["purse", "web", "course", "name", "low", "high", "longer", "behind", "spin", "rows", "one", "other", "more", "alone", "planned", "flight", "many", "link", "row"] ["purse", "web", "course"] (defScope (top 35)) := ⟨rfl, rfl, rfl, by decide +kernel, rfl, by decide +kernel, by decide +kernel⟩
def g__law_turned_right : FS := (seqF (setF 3 (ucallIO 0 (consF (compF (seqIF (bin2 (varF 1) (conF (.int 1)) ixD)) [15] (nameG 15) yesF (bin2 (varF 15) (conF (.int 0)) ixD)) nilF) fd__law_one_of))
  (seqF (asgF (bin2 (compF (seqIF (bin2 (varF 1) (conF (.int 1)) ixD)) [15] (nameG 15) (tstF (bin2 (bin2 (varF 15) (conF (.int 0)) ixD) (varF 3) eqD)) (callF (consF (bin2 (varF 15) (conF (.int 2)) ixD) (consF (bin2 (varF 15) (conF (.int 3)) ixD) nilF)) tupD)) (conF (.int 0)) ixD) (tupG 2 (consG (nameG 4) (consG (nameG 5) nilG))))
  (seqF (parF [6, 7] (consF (callF (consF (varF 2) nilF) (one dictD)) (consF (callF (consF (varF 3) nilF) lstD) nilF)))
  (seqF (putF 6 (varF 3) (bin2 (bin2 (varF 2) (varF 3) ixD) (ucallIO 0 (consF (bin2 (bin2 (varF 5) (bin2 (varF 2) (varF 3) ixD) (intOp0 fun i j => i - j)) (conF (.int 1)) addD) nilF) fd__law_draw) addD))
  (seqF (forF (seqIF (bin2 (varF 1) (conF (.int 1)) ixD)) (nameG 8) (setF 7 (bin2 (varF 7) (compF (seqIF (bin2 (varF 1) (conF (.int 2)) ixD)) [10, 11, 16] (tupG 3 (consG (nameG 10) (consG (nameG 11) (consG (nameG 16) nilG)))) (andF (tstF (bin2 (varF 10) (varF 7) inAD)) (tstF (bin2 (varF 11) (varF 7) notInAD))) (varF 11)) addD)))
  (seqF (setF 9 (callF (consF (ucallF (consF (varF 1) (consF (varF 2) nilF)) fd_web_times) (consF (ucallF (consF (varF 1) (consF (varF 6) nilF)) fd_web_times) nilF)) (two lzipD)))
  (seqF (forF (seqIF (varF 9)) (tupG 2 (consG (nameG 10) (consG (nameG 11) nilG))) (seqF (setF 12 (ifF (tstF (bin2 (bin2 (varF 10) (conF (.int 0)) ixD) (varF 7) inAD)) (bin2 (bin2 (varF 6) (varF 3) ixD) (bin2 (varF 2) (varF 3) ixD) (intOp0 fun i j => i - j)) (conF (.int 0))))
  (iteF' (orF (notF (tstF (chainF (conF (.int 0)) (bin2 (bin2 (varF 11) (conF (.int 2)) ixD) (bin2 (varF 10) (conF (.int 2)) ixD) (intOp0 fun i j => i - j)) (varF 12) (cmpD leI leS) (cmpD leI leS)))) (notF (tstF (chainF (conF (.int 0)) (bin2 (bin2 (varF 11) (conF (.int 1)) ixD) (bin2 (varF 10) (conF (.int 1)) ixD) (intOp0 fun i j => i - j)) (varF 12) (cmpD leI leS) (cmpD leI leS))))) (retF (conF (.bl false))) skipF)))
  (seqF (setF 13 (compF (seqIF (bin2 (varF 1) (conF (.int 1)) ixD)) [15] (nameG 15) (tstF (bin2 (compF (seqIF (bin2 (varF 1) (conF (.int 2)) ixD)) [17] (nameG 17) (tstF (bin2 (bin2 (varF 17) (conF (.int 1)) ixD) (bin2 (varF 15) (conF (.int 0)) ixD) eqD)) (varF 17)) (callF nilF lstD) eqD)) (bin2 (varF 15) (conF (.int 0)) ixD)))
  (seqF (setF 14 (callF (consF (compF (seqIF (bin2 (varF 1) (conF (.int 1)) ixD)) [15] (nameG 15) yesF (callF (consF (bin2 (varF 15) (conF (.int 0)) ixD) (consF (bin2 (varF 15) (conF (.int 1)) ixD) nilF)) tupD)) nilF) (one dictD)))
  (retF (bin2 (compF (seqIF (ucallF (consF (varF 1) (consF (varF 2) nilF)) fd_web_times)) [18] (nameG 18) (andF (tstF (bin2 (bin2 (varF 18) (conF (.int 0)) ixD) (varF 13) inAD)) (tstF (bin2 (bin2 (varF 18) (conF (.int 1)) ixD) (bin2 (varF 14) (bin2 (varF 18) (conF (.int 0)) ixD) ixD) neD))) (varF 18)) (callF nilF lstD) eqD)))))))))))
def fd__law_turned_right : FD := defF [.ow 1, .sh, .sh] 16 g__law_turned_right
theorem ok__law_turned_right {P : Program} {w : World} {K : PySem.W.Frag} {mg : Str → Option Value} {base : Heap} {f : Addr} {fd : FuncData} (T : Top K mg) (F : FunD K "_law_turned_right" "_law_turned_right" (defArgs (top 35)) (defBody (top 35)) (defScope (top 35)) [] [] f fd) :
    FnG P w K mg base CX0 7 f fd ["purse", "web", "course"] (Prom K [.ow 1, .sh, .sh] (.sh) fd__law_turned_right) :=
  body_okD (lv := 6) (pms := [.ow 1, .sh, .sh]) (k := 16) (g := g__law_turned_right) (ms' := (rmsOf [.ow 1, .sh, .sh] 16)) F sc__law_turned_right rfl rfl (by simp) (by rfl) (.inl rfl) (.inl rfl)
  (bv_cons (sv_set' 3 (ev_callIO 0 (def__law_one_of T) (av_cons (ev_fz (ev_lc (own := [("flight", 15)]) (iv_seq (ev_ix (ev_var 1) ev_int)) (gv_name 15) cv_nil (ev_ix (ev_var 15) ev_int))) av_nil)))
  (bv_cons (sv_asg (ev_ix (ev_vw (ev_lc (own := [("flight", 15)]) (iv_seq (ev_ix (ev_var 1) ev_int)) (gv_name 15) (cv_one (tv_cmpK k_eq (ev_ix (ev_var 15) ev_int) (ev_var 3))) (ev_tup (av_cons (ev_ix (ev_var 15) ev_int) (av_cons (ev_ix (ev_var 15) ev_int) av_nil))))) ev_int) (gv_tup (gsv_cons (gv_name 4) (gsv_cons (gv_name 5) gsv_nil))))
  (bv_cons (sv_parT (pv_cons (ev_blt (b_dict T.m_dict) (av_cons (ev_var 2) av_nil)) (pv_cons (ev_fz (ev_lst (av_cons (ev_var 3) av_nil))) pv_nil)) (nm_cons 6 (nm_cons 7 nm_nil)))
  (bv_cons (sv_put 6 (ev_add (ev_ix (ev_var 2) (ev_var 3)) (ev_callIO 0 (def__law_draw T) (av_cons (ev_add (ev_sub (ev_var 5) (ev_ix (ev_var 2) (ev_var 3))) ev_int) av_nil))) (ev_var 3))
  (bv_cons (sv_for (iv_seq (ev_ix (ev_var 1) ev_int)) (gv_name 8) (bv_post (ms2 := [.ow 1, .sh, .sh, .sh, .sh, .sh, .ow 1, .sh, .un, .un, .un, .un, .un, .un, .un, .un, .un, .un, .un]) (bv_one (sv_set' 7 (ev_add (ev_var 7) (ev_vw (ev_lc (own := [("one", 10), ("other", 11), ("many", 16)]) (iv_seq (ev_ix (ev_var 1) ev_int)) (gv_tup (gsv_cons (gv_name 10) (gsv_cons (gv_name 11) (gsv_cons (gv_name 16) gsv_nil)))) (cv_one (tv_w (wv_and (tv_cmpK k_in (ev_var 10) (ev_var 7)) (wv_and1 (tv_cmpK k_notIn (ev_var 11) (ev_var 7)))))) (ev_var 11))))))))
  (bv_cons (sv_freeze 6 (sv_set' 9 (ev_fz (ev_lzip T.m_list T.m_zip (av_cons (ev_vw (ev_call (def_web_times T) (av_cons (ev_var 1) (av_cons (ev_var 2) av_nil)))) (av_cons (ev_vw (ev_call (def_web_times T) (av_cons (ev_var 1) (av_cons (ev_var 6) av_nil)))) av_nil))))))
  (bv_cons (sv_for (iv_seq (ev_var 9)) (gv_tup (gsv_cons (gv_name 10) (gsv_cons (gv_name 11) gsv_nil))) (bv_post (ms2 := [.ow 1, .sh, .sh, .sh, .sh, .sh, .sh, .sh, .un, .sh, .un, .un, .un, .un, .un, .un, .un, .un, .un]) (bv_cons (sv_set' 12 (ev_if (tv_cmpK k_in (ev_ix (ev_var 10) ev_int) (ev_var 7)) (ev_sub (ev_ix (ev_var 6) (ev_var 3)) (ev_ix (ev_var 2) (ev_var 3))) ev_int))
  (bv_one (sv_if (tv_w (wv_or (tv_not (tv_chainK k_le k_le ev_int (ev_sub (ev_ix (ev_var 11) ev_int) (ev_ix (ev_var 10) ev_int)) (ev_var 12))) (wv_or1 (tv_not (tv_chainK k_le k_le ev_int (ev_sub (ev_ix (ev_var 11) ev_int) (ev_ix (ev_var 10) ev_int)) (ev_var 12)))))) (bv_one (sv_ret ev_bl)) bv_nil)))))
  (bv_cons (sv_set' 13 (ev_fz (ev_lc (own := [("flight", 15)]) (iv_seq (ev_ix (ev_var 1) ev_int)) (gv_name 15) (cv_one (tv_cmpK k_eq (ev_vw (ev_lc (own := [("link", 17)]) (iv_seq (ev_ix (ev_var 1) ev_int)) (gv_name 17) (cv_one (tv_cmpK k_eq (ev_ix (ev_var 17) ev_int) (ev_ix (ev_var 15) ev_int))) (ev_var 17))) (ev_vw (ev_lst av_nil)))) (ev_ix (ev_var 15) ev_int))))
  (bv_cons (sv_set' 14 (ev_fz (ev_blt (b_dict T.m_dict) (av_cons (ev_vw (ev_lc (own := [("flight", 15)]) (iv_seq (ev_ix (ev_var 1) ev_int)) (gv_name 15) cv_nil (ev_tup (av_cons (ev_ix (ev_var 15) ev_int) (av_cons (ev_ix (ev_var 15) ev_int) av_nil))))) av_nil))))
  (bv_one (sv_ret (ev_cmpK k_eq (ev_vw (ev_lc (own := [("row", 18)]) (iv_seq (ev_fz (ev_call (def_web_times T) (av_cons (ev_var 1) (av_cons (ev_var 2) av_nil))))) (gv_name 18) (cv_one (tv_w (wv_and (tv_cmpK k_in (ev_ix (ev_var 18) ev_int) (ev_var 13)) (wv_and1 (tv_cmpK k_ne (ev_ix (ev_var 18) ev_int) (ev_ix (ev_var 14) (ev_ix (ev_var 18) ev_int))))))) (ev_var 18))) (ev_vw (ev_lst av_nil))))))))))))))
theorem def__law_turned_right {P : Program} {w : World} {K : PySem.W.Frag} {mg : Str → Option Value} {base : Heap} (T : Top K mg) : Def P w K mg base "_law_turned_right" 7 ["purse", "web", "course"] [.ow 1, .sh, .sh] (.sh)  fd__law_turned_right := by
  obtain ⟨f, fd, h1, F⟩ := T.f__law_turned_right
  exact ⟨f, fd, h1, F.kp, ok__law_turned_right T F, F.bindsN (ps := ["purse", "web", "course"]) fun kV dc pm an cdv ct us hl => match us, hl with | [_, _, _], _ => rfl⟩
/-! _law_linked_right -/
theorem sc__law_linked_right : FnScope ["purse", "web", "course", "names", "pairs", "one", "other", "more", "flight", "many", "row", "late"] ["purse", "web", "course"] (defScope (top 36)) := ⟨rfl, rfl, rfl, by decide +kernel, rfl, by decide +kernel, by decide +kernel⟩
def g__law_linked_right : FS := (seqF (setF 3 (compF (seqIF (bin2 (varF 1) (conF (.int 1)) ixD)) [8] (nameG 8) yesF (bin2 (varF 8) (conF (.int 0)) ixD)))
  (seqF (setF 4 (compF (seqIF (bin2 (varF 1) (conF (.int 2)) ixD)) [5, 6, 9] (tupG 3 (consG (nameG 5) (consG (nameG 6) (consG (nameG 9) nilG)))) yesF (callF (consF (varF 5) (consF (varF 6) nilF)) tupD)))
  (seqF (parF [5, 6] (consF (ucallIO 0 (consF (varF 3) nilF) fd__law_one_of) (consF (ucallIO 0 (consF (varF 3) nilF) fd__law_one_of) nilF)))
  (seqF (setF 7 (ifF (andF (tstF (bin2 (callF (consF (varF 5) (consF (varF 6) nilF)) tupD) (varF 4) notInAD)) (tstF (bin2 (varF 5) (varF 6) neD))) (callF (consF (conF (.str "web")) (consF (bin2 (varF 1) (conF (.int 1)) ixD) (consF (callF (consF (bin2 (bin2 (varF 1) (conF (.int 2)) ixD) (callF (consF (callF (consF (varF 5) (consF (varF 6) (consF (ucallIO 0 (consF (conF (.int 99)) nilF) fd__law_draw) nilF))) tupD) nilF) lstD) addD) nilF) (one sortD)) nilF))) tupD) (varF 1)))
  (seqF (iteF' (tstF (bin2 (ucallF (consF (varF 7) nilF) fd_is_web) (conF (.bl true)) isNotD)) (retF (conF (.bl true))) skipF)
  (retF (andV (bin2 (compF (zipAF (consF (ucallF (consF (varF 1) (consF (varF 2) nilF)) fd_web_times) (consF (ucallF (consF (varF 7) (consF (varF 2) nilF)) fd_web_times) nilF))) [10, 11] (tupG 2 (consG (nameG 10) (consG (nameG 11) nilG))) (tstF (bin2 (bin2 (varF 11) (conF (.int 1)) ixD) (bin2 (varF 10) (conF (.int 1)) ixD) ltD)) (conF (.int 1))) (callF nilF lstD) eqD) (ucallF (consF (varF 7) (consF (varF 2) nilF)) fd__law_told_right))))))))
def fd__law_linked_right : FD := defF [.ow 1, .sh, .sh] 9 g__law_linked_right
theorem ok__law_linked_right {P : Program} {w : World} {K : PySem.W.Frag} {mg : Str → Option Value} {base : Heap} {f : Addr} {fd : FuncData} (T : Top K mg) (F : FunD K "_law_linked_right" "_law_linked_right" (defArgs (top 36)) (defBody (top 36)) (defScope (top 36)) [] [] f fd) :
    FnG P w K mg base CX0 9 f fd ["purse", "web", "course"] (Prom K [.ow 1, .sh, .sh] (.sh) fd__law_linked_right) :=
  body_okD (lv := 8) (pms := [.ow 1, .sh, .sh]) (k := 9) (g := g__law_linked_right) (ms' := (rmsOf [.ow 1, .sh, .sh] 9)) F sc__law_linked_right rfl rfl (by simp) (by rfl) (.inl rfl) (.inl rfl)
  (bv_cons (sv_freezeEnd 3 (sv_setL (own := [("flight", 8)]) 3 (iv_seq (ev_ix (ev_var 1) ev_int)) (gv_name 8) cv_nil (ev_ix (ev_var 8) ev_int)))
  (bv_cons (sv_freezeEnd 4 (sv_setL (own := [("one", 5), ("other", 6), ("many", 9)]) 4 (iv_seq (ev_ix (ev_var 1) ev_int)) (gv_tup (gsv_cons (gv_name 5) (gsv_cons (gv_name 6) (gsv_cons (gv_name 9) gsv_nil)))) cv_nil (ev_tup (av_cons (ev_var 5) (av_cons (ev_var 6) av_nil)))))
  (bv_cons (sv_parS 5 6 (pv_cons (ev_callIO 0 (def__law_one_of T) (av_cons (ev_var 3) av_nil)) (pv_cons (ev_callIO 0 (def__law_one_of T) (av_cons (ev_var 3) av_nil)) pv_nil)))
  (bv_cons (sv_set' 7 (ev_if (tv_w (wv_and (tv_cmpK k_notIn (ev_tup (av_cons (ev_var 5) (av_cons (ev_var 6) av_nil))) (ev_var 4)) (wv_and1 (tv_cmpK k_ne (ev_var 5) (ev_var 6))))) (ev_tup (av_cons ev_str (av_cons (ev_ix (ev_var 1) ev_int) (av_cons (ev_fz (ev_blt (b_sorted T.m_sorted) (av_cons (ev_add (ev_ix (ev_var 1) ev_int) (ev_vw (ev_lst (av_cons (ev_tup (av_cons (ev_var 5) (av_cons (ev_var 6) (av_cons (ev_callIO 0 (def__law_draw T) (av_cons ev_int av_nil)) av_nil)))) av_nil)))) av_nil))) av_nil)))) (ev_var 1)))
  (bv_cons (sv_if (tv_cmpK k_isnot (ev_call (def_is_web T) (av_cons (ev_var 7) av_nil)) ev_bl) (bv_one (sv_ret ev_bl)) bv_nil)
  (bv_one (sv_ret (ev_and (ev_cmpK k_eq (ev_vw (ev_lc (own := [("row", 10), ("late", 11)]) (iv_zipA T.m_zip (av_cons (ev_fz (ev_call (def_web_times T) (av_cons (ev_var 1) (av_cons (ev_var 2) av_nil)))) (av_cons (ev_fz (ev_call (def_web_times T) (av_cons (ev_var 7) (av_cons (ev_var 2) av_nil)))) av_nil))) (gv_tup (gsv_cons (gv_name 10) (gsv_cons (gv_name 11) gsv_nil))) (cv_one (tv_cmpK k_lt (ev_ix (ev_var 11) ev_int) (ev_ix (ev_var 10) ev_int))) ev_int)) (ev_vw (ev_lst av_nil))) (ev_one (ev_call (def__law_told_right T) (av_cons (ev_var 7) (av_cons (ev_var 2) av_nil))))))))))))
theorem def__law_linked_right {P : Program} {w : World} {K : PySem.W.Frag} {mg : Str → Option Value} {base : Heap} (T : Top K mg) : Def P w K mg base "_law_linked_right" 9 ["purse", "web", "course"] [.ow 1, .sh, .sh] (.sh)  fd__law_linked_right := by
  obtain ⟨f, fd, h1, F⟩ := T.f__law_linked_right
  exact ⟨f, fd, h1, F.kp, ok__law_linked_right T F, F.bindsN (ps := ["purse", "web", "course"]) fun kV dc pm an cdv ct us hl => match us, hl with | [_, _, _], _ => rfl⟩
/-! law -/
theorem sc_law : FnScope ["script", "purse", "web", "kept", "courses", "course", "shown", "known", "flight"] ["script"] (defScope (top 37)) := ⟨rfl, rfl, rfl, by decide +kernel, rfl, by decide +kernel, by decide +kernel⟩
def g_law : FS := (seqF (forOF (ucallF (consF (varF 0) (consF (conF (.int 3)) nilF)) fd__law_purses) 1 (seqF (setF 2 (ucallIO 1 (consF (bin2 (conF (.int 1)) (ucallIO 1 (consF (conF (.int 10)) nilF) fd__law_draw) addD) (consF (ucallIO 1 (consF (callF (consF (conF (.int 1)) (consF (conF (.int 9)) (consF (bin2 (conF (.int 10)) (conF (.int 5)) (intOp powOk fun i j => i ^ j.toNat)) nilF))) lstD) nilF) fd__law_one_of) (consF (ucallIO 1 (consF (callF (consF (conF (.int 60)) (consF (conF (.int 800000)) nilF)) lstD) nilF) fd__law_one_of) nilF))) fd__law_web))
  (seqF (setF 3 (callF (consF (varF 2) nilF) (one reprD)))
  (seqF (setF 4 (callF (consF (callF (consF (ucallIO 1 (consF (un1 (ucallIO 1 (consF (varF 2) nilF) fd__law_drawn_course) itemsD) nilF) fd__law_shuffled) nilF) (one dictD)) (consF (callF (consF (compF (seqIF (bin2 (varF 2) (conF (.int 1)) ixD)) [8] (nameG 8) yesF (callF (consF (bin2 (varF 8) (conF (.int 0)) ixD) (consF (bin2 (varF 8) (conF (.int 2)) ixD) nilF)) tupD)) nilF) (one dictD)) (consF (callF (consF (compF (seqIF (bin2 (varF 2) (conF (.int 1)) ixD)) [8] (nameG 8) yesF (callF (consF (bin2 (varF 8) (conF (.int 0)) ixD) (consF (bin2 (varF 8) (conF (.int 3)) ixD) nilF)) tupD)) nilF) (one dictD)) nilF))) lstD))
  (seqF (forF (seqIF (varF 4)) (nameG 5) (seqF (setF 6 (callF (consF (varF 5) nilF) (one reprD)))
  (seqF (iteF' (orF (notF (tstF (ucallF (consF (varF 2) (consF (varF 5) nilF)) fd__law_told_right))) (orF (notF (tstF (ucallIO 1 (consF (varF 2) (consF (varF 5) nilF)) fd__law_turned_right))) (notF (tstF (ucallIO 1 (consF (varF 2) (consF (varF 5) nilF)) fd__law_linked_right))))) (retF (conF (.bl false))) skipF)
  (iteF' (tstF (bin2 (callF (consF (varF 5) nilF) (one reprD)) (varF 6) neD)) (retF (conF (.bl false))) skipF))))
  (iteF' (tstF (bin2 (callF (consF (varF 2) nilF) (one reprD)) (varF 3) neD)) (retF (conF (.bl false))) skipF))))))
  (seqF (setF 7 (callF (consF (conF (.str "web")) (consF (callF (consF (callF (consF (conF (.str "inbound")) (consF (conF (.int 0)) (consF (conF (.int 60)) (consF (conF (.int 90)) nilF)))) tupD) (consF (callF (consF (conF (.str "outward")) (consF (conF (.int 100)) (consF (conF (.int 120)) (consF (conF (.int 150)) nilF)))) tupD) (consF (callF (consF (conF (.str "shuttle")) (consF (conF (.int 10)) (consF (conF (.int 30)) (consF (conF (.int 100)) nilF)))) tupD) nilF))) lstD) (consF (callF (consF (callF (consF (conF (.str "shuttle")) (consF (conF (.str "outward")) (consF (conF (.int 20)) nilF))) tupD) nilF) lstD) nilF))) tupD))
  (retF (ucallF (consF (callF (consF (callF (consF (conF (.str "inbound")) (consF (conF (.int 0)) (consF (conF (.int 90)) nilF))) tupD) (consF (callF (consF (conF (.str "outward")) (consF (conF (.int 130)) (consF (conF (.int 250)) nilF))) tupD) (consF (callF (consF (conF (.str "shuttle")) (consF (conF (.int 10)) (consF (conF (.int 110)) nilF))) tupD) nilF))) lstD) (consF (ucallF (consF (varF 7) (consF (dispF (consF (conF (.str "inbound")) (consF (conF (.int 90)) (consF (conF (.str "outward")) (consF (conF (.int 120)) (consF (conF (.str "shuttle")) (consF (conF (.int 100)) nilF))))))) nilF)) fd_web_times) nilF)) (fd__law_exact 6)))))
def fd_law : FD := defF [.sh] 8 g_law
theorem ok_law {P : Program} {w : World} {K : PySem.W.Frag} {mg : Str → Option Value} {base : Heap} {f : Addr} {fd : FuncData} (T : Top K mg) (F : FunD K "law" "law" (defArgs (top 37)) (defBody (top 37)) (defScope (top 37)) [] [] f fd) :
    FnG P w K mg base CX0 10 f fd ["script"] (Prom K [.sh] (.sh) fd_law) :=
  body_okD (lv := 9) (pms := [.sh]) (k := 8) (g := g_law) (ms' := (rmsOf [.sh] 8)) F sc_law rfl rfl (by simp) (by rfl) (.inl rfl) (.inl rfl)
  (bv_cons (sv_forO 1 (ev_call (def__law_purses T) (av_cons (ev_var 0) (av_cons ev_int av_nil))) (bv_post (ms2 := [.sh, .un, .un, .un, .un, .un, .un, .un, .un]) (bv_cons (sv_set' 2 (ev_callIO 1 (def__law_web T) (av_cons (ev_add ev_int (ev_callIO 1 (def__law_draw T) (av_cons ev_int av_nil))) (av_cons (ev_callIO 1 (def__law_one_of T) (av_cons (ev_fz (ev_lst (av_cons ev_int (av_cons ev_int (av_cons (ev_pow ev_int ev_int) av_nil))))) av_nil)) (av_cons (ev_callIO 1 (def__law_one_of T) (av_cons (ev_fz (ev_lst (av_cons ev_int (av_cons ev_int av_nil)))) av_nil)) av_nil)))))
  (bv_cons (sv_set' 3 (ev_blt (b_repr T.m_repr) (av_cons (ev_var 2) av_nil)))
  (bv_cons (sv_set' 4 (ev_fz (ev_lst (av_cons (ev_fz (ev_blt (b_dict T.m_dict) (av_cons (ev_vw (ev_callIO 1 (def__law_shuffled T) (av_cons (ev_fz (ev_items T.m_list (ev_vw (ev_callIO 1 (def__law_drawn_course T) (av_cons (ev_var 2) av_nil))))) av_nil))) av_nil))) (av_cons (ev_fz (ev_blt (b_dict T.m_dict) (av_cons (ev_vw (ev_lc (own := [("flight", 8)]) (iv_seq (ev_ix (ev_var 2) ev_int)) (gv_name 8) cv_nil (ev_tup (av_cons (ev_ix (ev_var 8) ev_int) (av_cons (ev_ix (ev_var 8) ev_int) av_nil))))) av_nil))) (av_cons (ev_fz (ev_blt (b_dict T.m_dict) (av_cons (ev_vw (ev_lc (own := [("flight", 8)]) (iv_seq (ev_ix (ev_var 2) ev_int)) (gv_name 8) cv_nil (ev_tup (av_cons (ev_ix (ev_var 8) ev_int) (av_cons (ev_ix (ev_var 8) ev_int) av_nil))))) av_nil))) av_nil))))))
  (bv_cons (sv_for (iv_seq (ev_var 4)) (gv_name 5) (bv_post (ms2 := [.sh, .ow 1, .sh, .sh, .sh, .un, .un, .un, .un]) (bv_cons (sv_set' 6 (ev_blt (b_repr T.m_repr) (av_cons (ev_var 5) av_nil)))
  (bv_cons (sv_if (tv_w (wv_or (tv_not (tv_val (ev_call (def__law_told_right T) (av_cons (ev_var 2) (av_cons (ev_var 5) av_nil))))) (wv_or (tv_not (tv_val (ev_callIO 1 (def__law_turned_right T) (av_cons (ev_var 2) (av_cons (ev_var 5) av_nil))))) (wv_or1 (tv_not (tv_val (ev_callIO 1 (def__law_linked_right T) (av_cons (ev_var 2) (av_cons (ev_var 5) av_nil))))))))) (bv_one (sv_ret ev_bl)) bv_nil)
  (bv_one (sv_if (tv_cmpK k_ne (ev_blt (b_repr T.m_repr) (av_cons (ev_var 5) av_nil)) (ev_var 6)) (bv_one (sv_ret ev_bl)) bv_nil))))))
  (bv_one (sv_if (tv_cmpK k_ne (ev_blt (b_repr T.m_repr) (av_cons (ev_var 2) av_nil)) (ev_var 3)) (bv_one (sv_ret ev_bl)) bv_nil))))))))
  (bv_cons (sv_set' 7 (ev_tup (av_cons ev_str (av_cons (ev_fz (ev_lst (av_cons (ev_tup (av_cons ev_str (av_cons ev_int (av_cons ev_int (av_cons ev_int av_nil))))) (av_cons (ev_tup (av_cons ev_str (av_cons ev_int (av_cons ev_int (av_cons ev_int av_nil))))) (av_cons (ev_tup (av_cons ev_str (av_cons ev_int (av_cons ev_int (av_cons ev_int av_nil))))) av_nil))))) (av_cons (ev_fz (ev_lst (av_cons (ev_tup (av_cons ev_str (av_cons ev_str (av_cons ev_int av_nil)))) av_nil))) av_nil)))))
  (bv_one (sv_ret (ev_call (def__law_exact T 6) (av_cons (ev_fz (ev_lst (av_cons (ev_tup (av_cons ev_str (av_cons ev_int (av_cons ev_int av_nil)))) (av_cons (ev_tup (av_cons ev_str (av_cons ev_int (av_cons ev_int av_nil)))) (av_cons (ev_tup (av_cons ev_str (av_cons ev_int (av_cons ev_int av_nil)))) av_nil))))) (av_cons (ev_fz (ev_call (def_web_times T) (av_cons (ev_var 7) (av_cons (ev_fz (ev_disp (dv_cons ev_str ev_int (dv_cons ev_str ev_int (dv_cons ev_str ev_int dv_nil))))) av_nil)))) av_nil)))))))
theorem def_law {P : Program} {w : World} {K : PySem.W.Frag} {mg : Str → Option Value} {base : Heap} (T : Top K mg) : Def P w K mg base "law" 10 ["script"] [.sh] (.sh)  fd_law := by
  obtain ⟨f, fd, h1, F⟩ := T.f_law
  exact ⟨f, fd, h1, F.kp, ok_law T F, F.bindsN (ps := ["script"]) fun kV dc pm an cdv ct us hl => match us, hl with | [_], _ => rfl⟩
end K71
namespace K71
open PySem DL LH
/-! ### webs as data -/
abbrev Fl := Str × Int × Int × Int
abbrev Lk := Str × Str × Int
def encF (f : Fl) : D := .tup [.str f.1, .int f.2.1, .int f.2.2.1, .int f.2.2.2]
def encL (l : Lk) : D := .tup [.str l.1, .str l.2.1, .int l.2.2]
def webD (fl : List Fl) (lk : List Lk) : D := .tup [.str "web", .lst (fl.map encF), .lst (lk.map encL)]
/-- a word that the doors let in -/
def WordOk (s : Str) : Prop := fd_is_word [.str s] = some (.bl true, [.str s]) ∧ PyData.strOk s = true
theorem eq_int2 (i j : Int) : eqD (.int i) (.int j) = some (.bl (i == j)) := by
  simp [eqD, eqDD, toPy, SeqAt.shaped, PyData.canLay0, PyData.depth, PyData.eqv]
theorem eq_str2 {x y : Str} (h : PyData.strOk x = true) (k : PyData.strOk y = true) : eqD (.str x) (.str y) = some (.bl (x == y)) := by
  simp [eqD, eqDD, toPy, SeqAt.shaped, PyData.canLay0, PyData.depth, PyData.eqv, h, k]
theorem whole_int (v : Int) : fd_is_whole [.int v] = some (.bl true, [.int v]) := rfl
theorem count_int (v l : Int) : fd_is_count [.int v, .int l] = some (.bl (geI v (if 0 > l then 0 else l)), [.int v, .int l]) := by
  simp only [defF, seqF, iteF', setF, retF, dropF, skipF, bin2, un1, callF, ucallF, withF, consF, nilF, varF, conF, one, two, tstF, andF, orF, notF, andV, orV, notV, ifF, chainF, asgF, List.cons_append, List.nil_append, List.replicate, List.getElem?_cons_zero, List.getElem?_cons_succ, Option.map_some, Option.bind_some, if_true, if_false, Bool.false_eq_true, List.set_cons_zero, List.set_cons_succ, Bool.not_true, Bool.not_false, backD, fd_is_count, g_is_count, whole_int, maxD2, cmpD]
theorem tuple_of (ds : List D) (n : Int) : fd_is_tuple_of [.tup ds, .int n] = some (.bl ((ds.length : Int) == n), [.tup ds, .int n]) := by
  have t : isiD "tuple" (.tup ds) = some (.bl true) := rfl
  simp only [defF, seqF, iteF', setF, retF, dropF, skipF, bin2, un1, callF, ucallF, withF, consF, nilF, varF, conF, one, two, tstF, andF, orF, notF, andV, orV, notV, ifF, chainF, asgF, List.cons_append, List.nil_append, List.replicate, List.getElem?_cons_zero, List.getElem?_cons_succ, Option.map_some, Option.bind_some, if_true, if_false, Bool.false_eq_true, List.set_cons_zero, List.set_cons_succ, Bool.not_true, Bool.not_false, backD, fd_is_tuple_of, g_is_tuple_of, t, lenD, eq_int2]
theorem ixt (ds : List D) (n : Nat) : ixD (.tup ds) (.int n) = ds[n]? := by
  show L2.atI ds n = _
  cases e : ds[n]? with
  | some d => exact L2.atI_nat e
  | none =>
    unfold L2.atI
    have : L2.ixN ds.length (n : Int) = none := by
      have hl := List.getElem?_eq_none_iff.mp e
      unfold L2.ixN
      simp
      omega
    rw [this]; rfl
theorem flight_ok {f : Fl} (hw : WordOk f.1) (h1 : 1 ≤ f.2.2.1) (h2 : f.2.2.1 ≤ f.2.2.2) : fd_is_web_flight [encF f] = some (.bl true, [encF f]) := by
  obtain ⟨nm, pl, lo, hi⟩ := f
  have c1 : geI lo (if (0 : Int) > 1 then 0 else 1) = true := decide_eq_true h1
  have c2 : geI hi (if (0 : Int) > lo then 0 else lo) = true := decide_eq_true (by split <;> simp at * <;> omega)
  have i0 : ixD (encF (nm, pl, lo, hi)) (.int 0) = some (.str nm) := rfl
  have i1 : ixD (encF (nm, pl, lo, hi)) (.int 1) = some (.int pl) := rfl
  have i2 : ixD (encF (nm, pl, lo, hi)) (.int 2) = some (.int lo) := rfl
  have i3 : ixD (encF (nm, pl, lo, hi)) (.int 3) = some (.int hi) := rfl
  have t4 : fd_is_tuple_of [encF (nm, pl, lo, hi), .int 4] = some (.bl true, [encF (nm, pl, lo, hi), .int 4]) := tuple_of _ _
  have w0 := hw.1
  simp only [defF, seqF, iteF', setF, retF, dropF, skipF, bin2, un1, callF, ucallF, withF, consF, nilF, varF, conF, one, two, tstF, andF, orF, notF, andV, orV, notV, ifF, chainF, asgF, List.cons_append, List.nil_append, List.replicate, List.getElem?_cons_zero, List.getElem?_cons_succ, Option.map_some, Option.bind_some, if_true, if_false, Bool.false_eq_true, List.set_cons_zero, List.set_cons_succ, Bool.not_true, Bool.not_false, backD, fd_is_web_flight, g_is_web_flight, t4, i0, i1, i2, i3, w0, whole_int, count_int, c1, c2]
theorem flat_in {s : Str} {names : List Str} : inAD (.str s) (.lst (names.map D.str)) = some (.bl (names.contains s)) := by
  have h : inD (.str s) (.lst (names.map D.str)) = some (names.contains s) := by
    have fl : (flatD (.str s) && (names.map D.str).all flatD) = true := by
      rw [Bool.and_eq_true]
      refine ⟨rfl, ?_⟩
      rw [List.all_map]
      exact List.all_eq_true.mpr fun _ _ => rfl
    show (if (flatD (.str s) && (names.map D.str).all flatD) = true then some ((names.map D.str).any fun z => flatEq z (.str s)) else none) = _
    rw [if_pos fl, List.any_map]
    congr 1
    induction names with
    | nil => rfl
    | cons n names ih =>
      rw [List.any_cons, List.contains_cons, ih (by rw [Bool.and_eq_true, List.all_eq_true] at fl ⊢; exact ⟨fl.1, fun d hd => fl.2 d (List.mem_cons_of_mem _ hd)⟩)]
      congr 1
      show (n == s) = (s == n)
      by_cases h : n = s
      · rw [h]
      · rw [beq_eq_false_iff_ne.mpr h, beq_eq_false_iff_ne.mpr (Ne.symm h)]
  unfold inAD
  rw [h]
theorem flat_notIn {s : Str} {names : List Str} : notInAD (.str s) (.lst (names.map D.str)) = some (.bl (!names.contains s)) := by
  have h := flat_in (s := s) (names := names)
  unfold inAD at h
  unfold notInAD
  cases e : inD (.str s) (.lst (names.map D.str)) with
  | some b => rw [e] at h; simp only [Option.some.injEq, D.bl.injEq] at h ⊢; rw [h]
  | none =>
    rw [e] at h
    simp only at h ⊢
    cases e2 : deepIn (.str s) (.lst (names.map D.str)) with
    | none => rw [e2] at h; cases h
    | some b => rw [e2] at h; simp only [Option.map_some, Option.some.injEq, D.bl.injEq] at h ⊢; rw [h]
theorem link_ok {names : List Str} {l : Lk} (hw : WordOk l.1) (hw2 : WordOk l.2.1) (hm : 0 ≤ l.2.2) (h1 : l.1 ∈ names) (h2 : l.2.1 ∈ names) : fd_is_web_link [.lst (names.map D.str), encL l] = some (.bl true, [.lst (names.map D.str), encL l]) := by
  obtain ⟨a, b, m⟩ := l
  have c1 : geI m (if (0 : Int) > 0 then 0 else 0) = true := decide_eq_true (by simpa using hm)
  have i0 : ixD (encL (a, b, m)) (.int 0) = some (.str a) := rfl
  have i1 : ixD (encL (a, b, m)) (.int 1) = some (.str b) := rfl
  have i2 : ixD (encL (a, b, m)) (.int 2) = some (.int m) := rfl
  have t4 : fd_is_tuple_of [encL (a, b, m), .int 3] = some (.bl true, [encL (a, b, m), .int 3]) := tuple_of _ _
  have w0 := hw.1
  have w1 := hw2.1
  have n1 : inAD (.str a) (.lst (names.map D.str)) = some (.bl true) := by rw [flat_in]; simp; exact h1
  have n2 : inAD (.str b) (.lst (names.map D.str)) = some (.bl true) := by rw [flat_in]; simp; exact h2
  simp only [defF, seqF, iteF', setF, retF, dropF, skipF, bin2, un1, callF, ucallF, withF, consF, nilF, varF, conF, one, two, tstF, andF, orF, notF, andV, orV, notV, ifF, chainF, asgF, List.cons_append, List.nil_append, List.replicate, List.getElem?_cons_zero, List.getElem?_cons_succ, Option.map_some, Option.bind_some, if_true, if_false, Bool.false_eq_true, List.set_cons_zero, List.set_cons_succ, Bool.not_true, Bool.not_false, backD, fd_is_web_link, g_is_web_link, t4, i0, i1, i2, w0, w1, count_int, c1, n1, n2]
def nmD (names : List Str) : D := .lst (names.map D.str)
def lkD (lk : List Lk) : D := .lst (lk.map encL)
theorem web1 (fl : List Fl) (lk : List Lk) : ixD (webD fl lk) (.int 1) = some (.lst (fl.map encF)) := rfl
theorem web2 (fl : List Fl) (lk : List Lk) : ixD (webD fl lk) (.int 2) = some (lkD lk) := rfl
theorem names_ok (fl : List Fl) (lk : List Lk) : fd_names_of_web [webD fl lk] = some (nmD (fl.map (·.1)), [webD fl lk]) := by
  have it : seqIF (bin2 (varF 0) (conF (.int 1)) ixD) [webD fl lk, .non] = some (fl.map encF, [webD fl lk, .non]) := rfl
  have c := comp_all (own := [1]) (b := nameG 1) (fe := bin2 (varF 1) (conF (.int 0)) ixD) encF (fun f => [webD fl lk, encF f]) (fun f => .str f.1) it (fun _ _ => rfl) (fun _ _ _ _ => rfl) (fun _ _ => rfl) rfl (fun _ _ => rfl)
  simp only [defF, seqF, iteF', setF, retF, dropF, skipF, bin2, un1, callF, ucallF, withF, consF, nilF, varF, conF, one, two, tstF, andF, orF, notF, andV, orV, notV, ifF, chainF, asgF, List.cons_append, List.nil_append, List.replicate, List.getElem?_cons_zero, List.getElem?_cons_succ, Option.map_some, Option.bind_some, if_true, if_false, Bool.false_eq_true, List.set_cons_zero, List.set_cons_succ, Bool.not_true, Bool.not_false, backD, fd_names_of_web, g_names_of_web, c]
  rw [nmD, List.map_map]; rfl
/-! ### the order of flights -/
def ready1 (names found : List Str) : List Str := names.filter fun n => !found.contains n
def predsIn (lk : List Lk) (found : List Str) (n : Str) : Bool := (lk.filter fun l => l.2.1 == n).all fun l => found.contains l.1
def ready2 (lk : List Lk) (found rs : List Str) : List Str := rs.filter (predsIn lk found)
def roundO (names : List Str) (lk : List Lk) (found : List Str) : List Str := found ++ ready2 lk found (ready1 names found)
def roundsO (names : List Str) (lk : List Lk) : Nat → List Str → List Str
  | 0, found => found
  | k + 1, found => roundsO names lk k (roundO names lk found)
theorem ready_len (names : List Str) (lk : List Lk) (found : List Str) : (ready2 lk found (ready1 names found)).length ≤ names.length :=
  Nat.le_trans (List.length_filter_le _ _) (List.length_filter_le _ _)
section
variable {names : List Str} {lk : List Lk} (hs : ∀ n ∈ names, PyData.strOk n = true) (hl : ∀ l ∈ lk, PyData.strOk l.2.1 = true)
include hs hl
theorem order_step {found : List Str} {t a : D} (hz : found.length + names.length ≤ 16777216) :
    (seqF (setF 4 (compF (seqIF (varF 0)) [5] (nameG 5) (tstF (bin2 (varF 5) (varF 2) notInAD)) (varF 5)))
  (seqF (setF 4 (compF (seqIF (varF 4)) [5] (nameG 5) (tstF (callF (consF (compF (seqIF (varF 1)) [6] (nameG 6) (tstF (bin2 (bin2 (varF 6) (conF (.int 1)) ixD) (varF 5) eqD)) (bin2 (bin2 (varF 6) (conF (.int 0)) ixD) (varF 2) inAD)) nilF) (one allD))) (varF 5)))
  (setF 2 (bin2 (varF 2) (varF 4) addD)))) [nmD names, lkD lk, nmD found, t, a, .non, .non] = some (.nx [nmD names, lkD lk, nmD (roundO names lk found), t, nmD (ready2 lk found (ready1 names found)), .non, .non]) := by
  have c1 : compF (seqIF (varF 0)) [5] (nameG 5) (tstF (bin2 (varF 5) (varF 2) notInAD)) (varF 5) [nmD names, lkD lk, nmD found, t, a, .non, .non] = some (nmD (ready1 names found), [nmD names, lkD lk, nmD found, t, a, .non, .non]) := by
    refine comp_ty D.str (fun n => [nmD names, lkD lk, nmD found, t, a, .str n, .non]) (fun n => !found.contains n) D.str rfl (fun _ _ => rfl) (fun _ _ _ _ => rfl) (fun n _ => ?_) (fun _ _ _ => rfl) rfl (fun _ _ => rfl)
    have := flat_notIn (s := n) (names := found)
    simp only [defF, seqF, iteF', setF, retF, dropF, skipF, bin2, un1, callF, ucallF, withF, consF, nilF, varF, conF, one, two, tstF, andF, orF, notF, andV, orV, notV, ifF, chainF, asgF, List.cons_append, List.nil_append, List.replicate, List.getElem?_cons_zero, List.getElem?_cons_succ, Option.map_some, Option.bind_some, if_true, if_false, Bool.false_eq_true, List.set_cons_zero, List.set_cons_succ, Bool.not_true, Bool.not_false, backD, nmD, this]
  have c2 : compF (seqIF (varF 4)) [5] (nameG 5) (tstF (callF (consF (compF (seqIF (varF 1)) [6] (nameG 6) (tstF (bin2 (bin2 (varF 6) (conF (.int 1)) ixD) (varF 5) eqD)) (bin2 (bin2 (varF 6) (conF (.int 0)) ixD) (varF 2) inAD)) nilF) (one allD))) (varF 5) [nmD names, lkD lk, nmD found, t, nmD (ready1 names found), .non, .non] =
      some (nmD (ready2 lk found (ready1 names found)), [nmD names, lkD lk, nmD found, t, nmD (ready1 names found), .non, .non]) := by
    refine comp_ty D.str (fun n => [nmD names, lkD lk, nmD found, t, nmD (ready1 names found), .str n, .non]) (predsIn lk found) D.str rfl (fun _ _ => rfl) (fun _ _ _ _ => rfl) (fun n hn => ?_) (fun _ _ _ => rfl) rfl (fun _ _ => rfl)
    have hn' : PyData.strOk n = true := hs n ((List.mem_filter.mp hn).1)
    have c3 : compF (seqIF (varF 1)) [6] (nameG 6) (tstF (bin2 (bin2 (varF 6) (conF (.int 1)) ixD) (varF 5) eqD)) (bin2 (bin2 (varF 6) (conF (.int 0)) ixD) (varF 2) inAD) [nmD names, lkD lk, nmD found, t, nmD (ready1 names found), .str n, .non] =
        some (.lst ((lk.filter fun l => l.2.1 == n).map fun l => .bl (found.contains l.1)), [nmD names, lkD lk, nmD found, t, nmD (ready1 names found), .str n, .non]) := by
      refine comp_ty encL (fun l => [nmD names, lkD lk, nmD found, t, nmD (ready1 names found), .str n, encL l]) (fun l => l.2.1 == n) (fun l => .bl (found.contains l.1)) rfl (fun _ _ => rfl) (fun _ _ _ _ => rfl) (fun l h => ?_) (fun l h _ => ?_) rfl (fun _ _ => rfl)
      · have i1 : ixD (encL l) (.int 1) = some (.str l.2.1) := rfl
        simp only [defF, seqF, iteF', setF, retF, dropF, skipF, bin2, un1, callF, ucallF, withF, consF, nilF, varF, conF, one, two, tstF, andF, orF, notF, andV, orV, notV, ifF, chainF, asgF, List.cons_append, List.nil_append, List.replicate, List.getElem?_cons_zero, List.getElem?_cons_succ, Option.map_some, Option.bind_some, if_true, if_false, Bool.false_eq_true, List.set_cons_zero, List.set_cons_succ, Bool.not_true, Bool.not_false, backD, i1, eq_str2 (hl l h) hn']
      · have i0 : ixD (encL l) (.int 0) = some (.str l.1) := rfl
        have := flat_in (s := l.1) (names := found)
        simp only [defF, seqF, iteF', setF, retF, dropF, skipF, bin2, un1, callF, ucallF, withF, consF, nilF, varF, conF, one, two, tstF, andF, orF, notF, andV, orV, notV, ifF, chainF, asgF, List.cons_append, List.nil_append, List.replicate, List.getElem?_cons_zero, List.getElem?_cons_succ, Option.map_some, Option.bind_some, if_true, if_false, Bool.false_eq_true, List.set_cons_zero, List.set_cons_succ, Bool.not_true, Bool.not_false, backD, i0, nmD, this]
    have al := all_bl ((lk.filter fun l => l.2.1 == n).map fun l => found.contains l.1)
    rw [List.map_map] at al
    have al' : one allD [.lst ((lk.filter fun l => l.2.1 == n).map fun l => D.bl (found.contains l.1))] = some (.bl ((lk.filter fun l => l.2.1 == n).all fun l => found.contains l.1)) := by
      rw [show ((lk.filter fun l => l.2.1 == n).map fun l => D.bl (found.contains l.1)) = (lk.filter fun l => l.2.1 == n).map (D.bl ∘ fun l => found.contains l.1) from rfl, al]
      simp
    have q : callF (consF (compF (seqIF (varF 1)) [6] (nameG 6) (tstF (bin2 (bin2 (varF 6) (conF (.int 1)) ixD) (varF 5) eqD)) (bin2 (bin2 (varF 6) (conF (.int 0)) ixD) (varF 2) inAD)) nilF) (one allD) [nmD names, lkD lk, nmD found, t, nmD (ready1 names found), .str n, .non] =
        some (.bl ((lk.filter fun l => l.2.1 == n).all fun l => found.contains l.1), [nmD names, lkD lk, nmD found, t, nmD (ready1 names found), .str n, .non]) := by
      unfold callF
      rw [consF_t c3 rfl, Option.bind_some]
      show ((one allD [.lst _]).map _) = _
      rw [al']; rfl
    exact tstF_t q
  have ad : addD (nmD found) (nmD (ready2 lk found (ready1 names found))) = some (nmD (roundO names lk found)) := by
    have := ready_len names lk found
    show (if (found.map D.str).length + ((ready2 lk found (ready1 names found)).map D.str).length ≤ 16777216 then some _ else none) = _
    rw [if_pos (by rw [List.length_map, List.length_map]; omega), ← List.map_append]
    rfl
  simp only [defF, seqF, iteF', setF, retF, dropF, skipF, bin2, un1, callF, ucallF, withF, consF, nilF, varF, conF, one, two, tstF, andF, orF, notF, andV, orV, notV, ifF, chainF, asgF, List.cons_append, List.nil_append, List.replicate, List.getElem?_cons_zero, List.getElem?_cons_succ, Option.map_some, Option.bind_some, if_true, if_false, Bool.false_eq_true, List.set_cons_zero, List.set_cons_succ, Bool.not_true, Bool.not_false, backD, c1, c2, ad]
theorem order_loop : ∀ (l : List D) (found : List Str) (t a : D), found.length + l.length * names.length + names.length ≤ 16777216 → ∃ t' a', loopF (nameG 3) (seqF (setF 4 (compF (seqIF (varF 0)) [5] (nameG 5) (tstF (bin2 (varF 5) (varF 2) notInAD)) (varF 5)))
  (seqF (setF 4 (compF (seqIF (varF 4)) [5] (nameG 5) (tstF (callF (consF (compF (seqIF (varF 1)) [6] (nameG 6) (tstF (bin2 (bin2 (varF 6) (conF (.int 1)) ixD) (varF 5) eqD)) (bin2 (bin2 (varF 6) (conF (.int 0)) ixD) (varF 2) inAD)) nilF) (one allD))) (varF 5)))
  (setF 2 (bin2 (varF 2) (varF 4) addD)))) l [nmD names, lkD lk, nmD found, t, a, .non, .non] = some (.nx [nmD names, lkD lk, nmD (roundsO names lk l.length found), t', a', .non, .non])
  | [], found, t, a, _ => ⟨t, a, rfl⟩
  | d :: l, found, t, a, hz => by
    rw [List.length_cons, Nat.succ_mul] at hz
    have hr : (roundO names lk found).length ≤ found.length + names.length := by
      unfold roundO
      rw [List.length_append]
      have := ready_len names lk found
      omega
    obtain ⟨t', a', h⟩ := order_loop l (roundO names lk found) d (nmD (ready2 lk found (ready1 names found))) (by omega)
    refine ⟨t', a', ?_⟩
    unfold loopF
    rw [show nameG 3 d [nmD names, lkD lk, nmD found, t, a, .non, .non] = some [nmD names, lkD lk, nmD found, d, a, .non, .non] from rfl, Option.bind_some, order_step hs hl (by omega), Option.bind_some]
    exact h
/-- what flights_in_order answers -/
def inOrd (names : List Str) (lk : List Lk) : Option (List Str) := if (roundsO names lk names.length []).length = names.length then some (roundsO names lk names.length []) else none
def ordD : Option (List Str) → D
  | some o => nmD o
  | none => .non
theorem order_ok (hz : names.length ≤ 1000) : fd_flights_in_order [nmD names, lkD lk] = some (ordD (inOrd names lk), [nmD names, lkD lk]) := by
  have hm : names.length * names.length ≤ 1000 * 1000 := Nat.mul_le_mul hz hz
  obtain ⟨t', a', h⟩ := order_loop hs hl (rangeD 0 names.length) [] .non .non (by rw [rangeD_length]; simp only [List.length_nil]; omega)
  rw [rangeD_length] at h
  have s0 : setF 2 (callF nilF lstD) [nmD names, lkD lk, .non, .non, .non, .non, .non] = some (.nx [nmD names, lkD lk, nmD [], .non, .non, .non, .non]) := rfl
  have r1 : rng1F (consF (callF (consF (varF 0) nilF) (one lenD)) nilF) [nmD names, lkD lk, nmD [], .non, .non, .non, .non] = some (rangeD 0 names.length, [nmD names, lkD lk, nmD [], .non, .non, .non, .non]) := by
    have ln : lenD (nmD names) = some (.int names.length) := by show some (D.int ((names.map D.str).length : Int)) = _; rw [List.length_map]
    simp only [defF, seqF, iteF', setF, retF, dropF, skipF, bin2, un1, callF, ucallF, withF, consF, nilF, varF, conF, one, two, tstF, andF, orF, notF, andV, orV, notV, ifF, chainF, asgF, List.cons_append, List.nil_append, List.replicate, List.getElem?_cons_zero, List.getElem?_cons_succ, Option.map_some, Option.bind_some, if_true, if_false, Bool.false_eq_true, List.set_cons_zero, List.set_cons_succ, Bool.not_true, Bool.not_false, backD, rng1F, ln, Int.natAbs_natCast, Int.toNat_natCast]
    rw [if_pos (by omega)]
  have fo : ∀ body, loopF (nameG 3) body (rangeD 0 names.length) [nmD names, lkD lk, nmD [], .non, .non, .non, .non] = some (.nx [nmD names, lkD lk, nmD (roundsO names lk names.length []), t', a', .non, .non]) → forF (rng1F (consF (callF (consF (varF 0) nilF) (one lenD)) nilF)) (nameG 3) body [nmD names, lkD lk, nmD [], .non, .non, .non, .non] = some (.nx [nmD names, lkD lk, nmD (roundsO names lk names.length []), t', a', .non, .non]) := fun body hb => by
    unfold forF
    rw [r1, Option.bind_some]
    exact hb
  have fo2 := fo _ h
  have ln : ∀ l : List Str, lenD (nmD l) = some (.int l.length) := fun l => by show some (D.int ((l.map D.str).length : Int)) = _; rw [List.length_map]
  simp only [fd_flights_in_order, defF, g_flights_in_order, List.cons_append, List.nil_append, List.replicate, seqF, s0, Option.bind_some, fo2]
  by_cases c : (roundsO names lk names.length []).length = names.length
  · have e : (((roundsO names lk names.length []).length : Int) == (names.length : Int)) = true := by rw [c]; simp
    rw [inOrd, if_pos c]
    simp only [defF, seqF, iteF', setF, retF, dropF, skipF, bin2, un1, callF, ucallF, withF, consF, nilF, varF, conF, one, two, tstF, andF, orF, notF, andV, orV, notV, ifF, chainF, asgF, List.cons_append, List.nil_append, List.replicate, List.getElem?_cons_zero, List.getElem?_cons_succ, Option.map_some, Option.bind_some, if_true, if_false, Bool.false_eq_true, List.set_cons_zero, List.set_cons_succ, Bool.not_true, Bool.not_false, backD, ifF, ln, eq_int2, e, ordD]
  · have e : (((roundsO names lk names.length []).length : Int) == (names.length : Int)) = false := beq_eq_false_iff_ne.mpr fun z => c (by exact_mod_cast z)
    rw [inOrd, if_neg c]
    simp only [defF, seqF, iteF', setF, retF, dropF, skipF, bin2, un1, callF, ucallF, withF, consF, nilF, varF, conF, one, two, tstF, andF, orF, notF, andV, orV, notV, ifF, chainF, asgF, List.cons_append, List.nil_append, List.replicate, List.getElem?_cons_zero, List.getElem?_cons_succ, Option.map_some, Option.bind_some, if_true, if_false, Bool.false_eq_true, List.set_cons_zero, List.set_cons_succ, Bool.not_true, Bool.not_false, backD, ifF, ln, eq_int2, e, ordD]
end
/-! ### is_web -/
structure PreWeb (fl : List Fl) (lk : List Lk) : Prop where
  ne : 0 < fl.length
  fz : fl.length ≤ 1000
  lz : lk.length ≤ 1000
  fo : ∀ f ∈ fl, WordOk f.1 ∧ 1 ≤ f.2.2.1 ∧ f.2.2.1 ≤ f.2.2.2
  asc : ∀ (i : Nat) (a b : Fl), fl[i]? = some a → fl[i + 1]? = some b → ltD (.str a.1) (.str b.1) = some (.bl true)
  lo : ∀ l ∈ lk, l.1 ∈ fl.map (·.1) ∧ l.2.1 ∈ fl.map (·.1) ∧ 0 ≤ l.2.2
  lasc : ∀ (i : Nat) (a b : Lk), lk[i]? = some a → lk[i + 1]? = some b → ltD (.tup [.str a.1, .str a.2.1]) (.tup [.str b.1, .str b.2.1]) = some (.bl true)
theorem PreWeb.word {fl : List Fl} {lk : List Lk} (h : PreWeb fl lk) {n : Str} (hn : n ∈ fl.map (·.1)) : WordOk n := by
  obtain ⟨f, hf, rfl⟩ := List.mem_map.mp hn
  exact (h.fo f hf).1
theorem ixl {α : Type} (enc : α → D) (l : List α) (i : Nat) : ixD (.lst (l.map enc)) (.int i) = (l[i]?).map enc := by
  show L2.atI (l.map enc) i = _
  cases e : l[i]? with
  | some d => exact L2.atI_nat (by rw [List.getElem?_map, e]; rfl)
  | none =>
    unfold L2.atI
    have : L2.ixN (l.map enc).length (i : Int) = none := by
      have hl := List.getElem?_eq_none_iff.mp e
      unfold L2.ixN
      simp
      omega
    rw [this]; rfl
/-- all([p(l[at - 1], l[at]) for at in range(1, len(l))]) -/
theorem rng_mem {n : Nat} {d : D} (h : d ∈ rangeD 1 n) : ∃ i : Nat, i < n ∧ d = .int ((i + 1 : Nat) : Int) := by
  unfold rangeD at h
  obtain ⟨i, hi, rfl⟩ := List.mem_map.mp h
  exact ⟨i, List.mem_range.mp hi, by congr 1; omega⟩
theorem said_ok (fl : List Fl) (lk : List Lk) : fd_is_said [webD fl lk, .str "web", .int 3] = some (.bl true, [webD fl lk, .str "web", .int 3]) := by
  have t : fd_is_tuple_of [webD fl lk, .int 3] = some (.bl true, [webD fl lk, .int 3]) := tuple_of _ _
  have i0 : ixD (webD fl lk) (.int 0) = some (.str "web") := rfl
  have s : isiD "str" (.str "web") = some (.bl true) := rfl
  have e : eqD (.str "web") (.str "web") = some (.bl true) := eq_str (by decide +kernel)
  simp only [defF, seqF, iteF', setF, retF, dropF, skipF, bin2, un1, callF, ucallF, withF, consF, nilF, varF, conF, one, two, tstF, andF, orF, notF, andV, orV, notV, ifF, chainF, asgF, List.cons_append, List.nil_append, List.replicate, List.getElem?_cons_zero, List.getElem?_cons_succ, Option.map_some, Option.bind_some, if_true, if_false, Bool.false_eq_true, List.set_cons_zero, List.set_cons_succ, Bool.not_true, Bool.not_false, backD, fd_is_said, g_is_said, t, i0, s, e]
theorem sub1 (i : Nat) : ((i + 1 : Nat) : Int) - 1 = (i : Int) := by omega
section
variable {fl : List Fl} {lk : List Lk} (h : PreWeb fl lk)
include h
theorem web_flights {a b : D} : callF (consF (compF (seqIF (bin2 (varF 0) (conF (.int 1)) ixD)) [3] (nameG 3) yesF (ucallF (consF (varF 3) nilF) fd_is_web_flight)) nilF) (one allD) [webD fl lk, a, b, .non, .non, .non] = some (.bl true, [webD fl lk, a, b, .non, .non, .non]) := by
  have c := comp_all (own := [3]) (b := nameG 3) (f := seqIF (bin2 (varF 0) (conF (.int 1)) ixD)) (fe := ucallF (consF (varF 3) nilF) fd_is_web_flight) (env := [webD fl lk, a, b, .non, .non, .non]) encF (fun f => [webD fl lk, a, b, encF f, .non, .non]) (fun _ => .bl true) rfl (fun _ _ => rfl) (fun _ _ _ _ => rfl)
    (fun f hf => ucall_t rfl (flight_ok (h.fo f hf).1 (h.fo f hf).2.1 (h.fo f hf).2.2)) rfl (fun _ _ => rfl)
  exact call1_t c (all_true fun d hd => by obtain ⟨_, _, e⟩ := List.mem_map.mp hd; exact e.symm)
theorem web_asc {y : D} : callF (consF (compF (rng2F (consF (conF (.int 1)) (consF (callF (consF (varF 1) nilF) (one lenD)) nilF))) [4] (nameG 4) yesF (bin2 (bin2 (varF 1) (bin2 (varF 4) (conF (.int 1)) (intOp0 fun i j => i - j)) ixD) (bin2 (varF 1) (varF 4) ixD) ltD)) nilF) (one allD) [y, nmD (fl.map (·.1)), lkD lk, .non, .non, .non] =
    some (.bl true, [y, nmD (fl.map (·.1)), lkD lk, .non, .non, .non]) := by
  have hz := h.fz
  have hn := h.ne
  have ln : lenD (nmD (fl.map (·.1))) = some (.int fl.length) := by show some (D.int (((fl.map (·.1)).map D.str).length : Int)) = _; rw [List.length_map, List.length_map]
  have it : rng2F (consF (conF (.int 1)) (consF (callF (consF (varF 1) nilF) (one lenD)) nilF)) [y, nmD (fl.map (·.1)), lkD lk, .non, .non, .non] = some (rangeD 1 (fl.length - 1), [y, nmD (fl.map (·.1)), lkD lk, .non, .non, .non]) := by
    simp only [defF, seqF, iteF', setF, retF, dropF, skipF, bin2, un1, callF, ucallF, withF, consF, nilF, varF, conF, one, two, tstF, andF, orF, notF, andV, orV, notV, ifF, chainF, asgF, List.cons_append, List.nil_append, List.replicate, List.getElem?_cons_zero, List.getElem?_cons_succ, Option.map_some, Option.bind_some, if_true, if_false, Bool.false_eq_true, List.set_cons_zero, List.set_cons_succ, Bool.not_true, Bool.not_false, backD, rng2F, ln, Int.natAbs_natCast]
    rw [if_pos (by omega), show ((fl.length : Int) - 1).toNat = fl.length - 1 by omega]
  have c := comp_pure (own := [4]) (b := nameG 4) (gt := yesF) (fe := bin2 (bin2 (varF 1) (bin2 (varF 4) (conF (.int 1)) (intOp0 fun i j => i - j)) ixD) (bin2 (varF 1) (varF 4) ixD) ltD) (fun d => [y, nmD (fl.map (·.1)), lkD lk, .non, d, .non]) (fun _ => true) (fun _ => .bl true) it
    (fun _ _ => rfl) (fun _ _ _ _ => rfl) (fun _ _ => rfl) (fun d hd _ => by
      obtain ⟨i, hi, rfl⟩ := rng_mem hd
      have h1 : i < fl.length := by omega
      have h2 : i + 1 < fl.length := by omega
      have x1 : ixD (nmD (fl.map (·.1))) (.int ((i : Nat) : Int)) = some (.str fl[i].1) := by rw [nmD, ixl, List.getElem?_map, List.getElem?_eq_getElem h1]; rfl
      have x2 : ixD (nmD (fl.map (·.1))) (.int ((i + 1 : Nat) : Int)) = some (.str fl[i + 1].1) := by rw [nmD, ixl, List.getElem?_map, List.getElem?_eq_getElem h2]; rfl
      have l := h.asc i fl[i] fl[i + 1] (List.getElem?_eq_getElem h1) (List.getElem?_eq_getElem h2)
      simp only [defF, seqF, iteF', setF, retF, dropF, skipF, bin2, un1, callF, ucallF, withF, consF, nilF, varF, conF, one, two, tstF, andF, orF, notF, andV, orV, notV, ifF, chainF, asgF, List.cons_append, List.nil_append, List.replicate, List.getElem?_cons_zero, List.getElem?_cons_succ, Option.map_some, Option.bind_some, if_true, if_false, Bool.false_eq_true, List.set_cons_zero, List.set_cons_succ, Bool.not_true, Bool.not_false, backD, intOp0, sub1, x1, x2, l]) rfl (fun _ _ => rfl)
  exact call1_t c (all_true fun d hd => by obtain ⟨_, _, e⟩ := List.mem_map.mp hd; exact e.symm)
theorem web_links {y : D} : callF (consF (compF (seqIF (varF 2)) [5] (nameG 5) yesF (ucallF (consF (varF 1) (consF (varF 5) nilF)) fd_is_web_link)) nilF) (one allD) [y, nmD (fl.map (·.1)), lkD lk, .non, .non, .non] = some (.bl true, [y, nmD (fl.map (·.1)), lkD lk, .non, .non, .non]) := by
  have c := comp_all (own := [5]) (b := nameG 5) (f := seqIF (varF 2)) (fe := ucallF (consF (varF 1) (consF (varF 5) nilF)) fd_is_web_link) (env := [y, nmD (fl.map (·.1)), lkD lk, .non, .non, .non]) encL (fun l => [y, nmD (fl.map (·.1)), lkD lk, .non, .non, encL l]) (fun _ => .bl true) rfl (fun _ _ => rfl) (fun _ _ _ _ => rfl)
    (fun l hl => ucall_t rfl (link_ok (h.word (h.lo l hl).1) (h.word (h.lo l hl).2.1) (h.lo l hl).2.2 (h.lo l hl).1 (h.lo l hl).2.1)) rfl (fun _ _ => rfl)
  exact call1_t c (all_true fun d hd => by obtain ⟨_, _, e⟩ := List.mem_map.mp hd; exact e.symm)
theorem web_lasc {y : D} : callF (consF (compF (rng2F (consF (conF (.int 1)) (consF (callF (consF (varF 2) nilF) (one lenD)) nilF))) [4] (nameG 4) yesF (bin2 (sliceF (bin2 (varF 2) (bin2 (varF 4) (conF (.int 1)) (intOp0 fun i j => i - j)) ixD) nopF (partF (conF (.int 2))) sliceD) (sliceF (bin2 (varF 2) (varF 4) ixD) nopF (partF (conF (.int 2))) sliceD) ltD)) nilF) (one allD) [y, nmD (fl.map (·.1)), lkD lk, .non, .non, .non] =
    some (.bl true, [y, nmD (fl.map (·.1)), lkD lk, .non, .non, .non]) := by
  have hz := h.lz
  have ln : lenD (lkD lk) = some (.int lk.length) := by show some (D.int ((lk.map encL).length : Int)) = _; rw [List.length_map]
  have it : rng2F (consF (conF (.int 1)) (consF (callF (consF (varF 2) nilF) (one lenD)) nilF)) [y, nmD (fl.map (·.1)), lkD lk, .non, .non, .non] = some (rangeD 1 (lk.length - 1), [y, nmD (fl.map (·.1)), lkD lk, .non, .non, .non]) := by
    simp only [defF, seqF, iteF', setF, retF, dropF, skipF, bin2, un1, callF, ucallF, withF, consF, nilF, varF, conF, one, two, tstF, andF, orF, notF, andV, orV, notV, ifF, chainF, asgF, List.cons_append, List.nil_append, List.replicate, List.getElem?_cons_zero, List.getElem?_cons_succ, Option.map_some, Option.bind_some, if_true, if_false, Bool.false_eq_true, List.set_cons_zero, List.set_cons_succ, Bool.not_true, Bool.not_false, backD, rng2F, ln, Int.natAbs_natCast]
    rw [if_pos (by omega), show ((lk.length : Int) - 1).toNat = lk.length - 1 by omega]
  have c := comp_pure (own := [4]) (b := nameG 4) (gt := yesF) (fe := bin2 (sliceF (bin2 (varF 2) (bin2 (varF 4) (conF (.int 1)) (intOp0 fun i j => i - j)) ixD) nopF (partF (conF (.int 2))) sliceD) (sliceF (bin2 (varF 2) (varF 4) ixD) nopF (partF (conF (.int 2))) sliceD) ltD) (fun d => [y, nmD (fl.map (·.1)), lkD lk, .non, d, .non]) (fun _ => true) (fun _ => .bl true) it
    (fun _ _ => rfl) (fun _ _ _ _ => rfl) (fun _ _ => rfl) (fun d hd _ => by
      obtain ⟨i, hi, rfl⟩ := rng_mem hd
      have h1 : i < lk.length := by omega
      have h2 : i + 1 < lk.length := by omega
      have x1 : ixD (lkD lk) (.int ((i : Nat) : Int)) = some (encL lk[i]) := by rw [lkD, ixl, List.getElem?_eq_getElem h1]; rfl
      have x2 : ixD (lkD lk) (.int ((i + 1 : Nat) : Int)) = some (encL lk[i + 1]) := by rw [lkD, ixl, List.getElem?_eq_getElem h2]; rfl
      have s : ∀ l : Lk, sliceD none (some 2) (encL l) = some (.tup [.str l.1, .str l.2.1]) := fun _ => rfl
      have l := h.lasc i lk[i] lk[i + 1] (List.getElem?_eq_getElem h1) (List.getElem?_eq_getElem h2)
      simp only [defF, seqF, iteF', setF, retF, dropF, skipF, bin2, un1, callF, ucallF, withF, consF, nilF, varF, conF, one, two, tstF, andF, orF, notF, andV, orV, notV, ifF, chainF, asgF, List.cons_append, List.nil_append, List.replicate, List.getElem?_cons_zero, List.getElem?_cons_succ, Option.map_some, Option.bind_some, if_true, if_false, Bool.false_eq_true, List.set_cons_zero, List.set_cons_succ, Bool.not_true, Bool.not_false, backD, intOp0, sliceF, nopF, partF, sub1, x1, x2, s, l]) rfl (fun _ _ => rfl)
  exact call1_t c (all_true fun d hd => by obtain ⟨_, _, e⟩ := List.mem_map.mp hd; exact e.symm)
theorem is_web_ok : fd_is_web [webD fl lk] = some (.bl (inOrd (fl.map (·.1)) lk).isSome, [webD fl lk]) := by
  have l1 : isiD "list" (.lst (fl.map encF)) = some (.bl true) := rfl
  have l2 : isiD "list" (lkD lk) = some (.bl true) := rfl
  have ln : lenD (.lst (fl.map encF)) = some (.int fl.length) := by show some (D.int ((fl.map encF).length : Int)) = _; rw [List.length_map]
  have hn := h.ne
  have n0 : ((fl.length : Int) == 0) = false := beq_eq_false_iff_ne.mpr (by omega)
  have so := said_ok fl lk
  have nk := names_ok fl lk
  have t2 := web_flights h (a := .non) (b := .non)
  have t4 := web_asc h (y := webD fl lk)
  have t5 := web_links h (y := webD fl lk)
  have t6 := web_lasc h (y := webD fl lk)
  have od := order_ok (names := fl.map (·.1)) (lk := lk) (fun n hn => (h.word hn).2) (fun l hl => (h.word (h.lo l hl).2.1).2) (by rw [List.length_map]; exact h.fz)
  refine defF_r (e1 := [webD fl lk, nmD (fl.map (·.1)), lkD lk, .non, .non, .non]) ?_
  show g_is_web [webD fl lk, .non, .non, .non, .non, .non] = _
  refine seqF_t (e1 := [webD fl lk, .non, .non, .non, .non, .non]) (ite_f (e1 := [webD fl lk, .non, .non, .non, .non, .non]) ?_ rfl) ?_
  · simp only [defF, seqF, iteF', setF, retF, dropF, skipF, bin2, un1, callF, ucallF, withF, consF, nilF, varF, conF, one, two, tstF, andF, orF, notF, andV, orV, notV, ifF, chainF, asgF, List.cons_append, List.nil_append, List.replicate, List.getElem?_cons_zero, List.getElem?_cons_succ, Option.map_some, Option.bind_some, if_true, if_false, Bool.false_eq_true, List.set_cons_zero, List.set_cons_succ, Bool.not_true, Bool.not_false, backD, so, web1, web2, l1, l2]
  refine seqF_t (e1 := [webD fl lk, .non, .non, .non, .non, .non]) (ite_f (e1 := [webD fl lk, .non, .non, .non, .non, .non]) ?_ rfl) ?_
  · refine (or_f (e1 := [webD fl lk, .non, .non, .non, .non, .non]) ?_ (notF_t (b := true) (tstF_t t2)))
    simp only [defF, seqF, iteF', setF, retF, dropF, skipF, bin2, un1, callF, ucallF, withF, consF, nilF, varF, conF, one, two, tstF, andF, orF, notF, andV, orV, notV, ifF, chainF, asgF, List.cons_append, List.nil_append, List.replicate, List.getElem?_cons_zero, List.getElem?_cons_succ, Option.map_some, Option.bind_some, if_true, if_false, Bool.false_eq_true, List.set_cons_zero, List.set_cons_succ, Bool.not_true, Bool.not_false, backD, web1, ln, eq_int2, n0]
  refine seqF_t (e1 := [webD fl lk, nmD (fl.map (·.1)), lkD lk, .non, .non, .non]) ?_ ?_
  · simp only [defF, seqF, iteF', setF, retF, dropF, skipF, bin2, un1, callF, ucallF, withF, consF, nilF, varF, conF, one, two, tstF, andF, orF, notF, andV, orV, notV, ifF, chainF, asgF, List.cons_append, List.nil_append, List.replicate, List.getElem?_cons_zero, List.getElem?_cons_succ, Option.map_some, Option.bind_some, if_true, if_false, Bool.false_eq_true, List.set_cons_zero, List.set_cons_succ, Bool.not_true, Bool.not_false, backD, parF, nk, web2, setsF]
  refine seqF_t (e1 := [webD fl lk, nmD (fl.map (·.1)), lkD lk, .non, .non, .non]) (ite_f (notF_t (b := true) (tstF_t t4)) rfl) ?_
  refine seqF_t (e1 := [webD fl lk, nmD (fl.map (·.1)), lkD lk, .non, .non, .non]) (ite_f (notF_t (b := true) (tstF_t t5)) rfl) ?_
  refine seqF_t (e1 := [webD fl lk, nmD (fl.map (·.1)), lkD lk, .non, .non, .non]) (ite_f (notF_t (b := true) (tstF_t t6)) rfl) ?_
  refine retF_t (bin2_t (ucall_t (ds := [nmD (fl.map (·.1)), lkD lk]) rfl od) rfl ?_)
  cases inOrd (fl.map (·.1)) lk <;> rfl
theorem check_ok (ho : (inOrd (fl.map (·.1)) lk).isSome = true) : fd_check_web [webD fl lk] = some (.non, [webD fl lk]) := by
  have w := is_web_ok h
  rw [ho] at w
  simp only [defF, seqF, iteF', setF, retF, dropF, skipF, bin2, un1, callF, ucallF, withF, consF, nilF, varF, conF, one, two, tstF, andF, orF, notF, andV, orV, notV, ifF, chainF, asgF, List.cons_append, List.nil_append, List.replicate, List.getElem?_cons_zero, List.getElem?_cons_succ, Option.map_some, Option.bind_some, if_true, if_false, Bool.false_eq_true, List.set_cons_zero, List.set_cons_succ, Bool.not_true, Bool.not_false, backD, fd_check_web, g_check_web, w]
end
/-! ### courses -/
abbrev Crs := List (Str × Int)
def crs (c : Crs) : D := tabD D.int c
structure RunOk (fl : List Fl) (c : Crs) : Prop where
  len : c.length = fl.length
  at_ : ∀ f ∈ fl, ∃ v, lookA c f.1 = some v ∧ f.2.2.1 ≤ v ∧ v ≤ f.2.2.2
theorem len_crs (c : Crs) : lenD (crs c) = some (.int c.length) := by show some (D.int ((c.map fun p => D.int p.2).length : Int)) = _; rw [List.length_map]
def runBody : FS := (iteF' (orF (tstF (bin2 (varF 2) (varF 1) notInAD)) (orF (notF (tstF (ucallF (consF (bin2 (varF 1) (varF 2) ixD) (consF (varF 4) nilF)) fd_is_count))) (tstF (bin2 (bin2 (varF 1) (varF 2) ixD) (varF 5) (cmpD gtI gtS))))) (retF (conF (.bl false))) skipF)
theorem run_loop {c : Crs} {y : D} : ∀ (fs : List Fl), (∀ f ∈ fs, (∃ v, lookA c f.1 = some v ∧ f.2.2.1 ≤ v ∧ v ≤ f.2.2.2) ∧ 1 ≤ f.2.2.1) → ∀ p q r s : D, ∃ p' q' r' s', loopF (tupG 4 (consG (nameG 2) (consG (nameG 3) (consG (nameG 4) (consG (nameG 5) nilG))))) runBody (fs.map encF) [y, crs c, p, q, r, s] = some (.nx [y, crs c, p', q', r', s'])
  | [], _, p, q, r, s => ⟨p, q, r, s, rfl⟩
  | f :: fs, h, p, q, r, s => by
    obtain ⟨nm, pl, lo, hi⟩ := f
    obtain ⟨⟨v, h1, h2, h3⟩, h4⟩ := h _ List.mem_cons_self
    simp only at h1 h2 h3 h4
    obtain ⟨p', q', r', s', i1⟩ := run_loop (c := c) (y := y) fs (fun f hf => h f (List.mem_cons_of_mem _ hf)) (.str nm) (.int pl) (.int lo) (.int hi)
    refine ⟨p', q', r', s', ?_⟩
    rw [List.map_cons]
    refine loop_t (e1 := [y, crs c, .str nm, .int pl, .int lo, .int hi]) (e2 := [y, crs c, .str nm, .int pl, .int lo, .int hi]) rfl ?_ i1
    have n1 : notInAD (.str nm) (crs c) = some (.bl false) := by rw [crs, notIn_tab, h1]; rfl
    have x1 : ixD (crs c) (.str nm) = some (.int v) := by rw [crs, ix_tab, h1]; rfl
    have g1 : geI v (if (0 : Int) > lo then 0 else lo) = true := decide_eq_true (by split <;> omega)
    have g2 : gtI v hi = false := decide_eq_false (by omega)
    refine ite_f (e1 := [y, crs c, .str nm, .int pl, .int lo, .int hi]) ?_ rfl
    simp only [defF, seqF, iteF', setF, retF, dropF, skipF, bin2, un1, callF, ucallF, withF, consF, nilF, varF, conF, one, two, tstF, andF, orF, notF, andV, orV, notV, ifF, chainF, asgF, List.cons_append, List.nil_append, List.replicate, List.getElem?_cons_zero, List.getElem?_cons_succ, Option.map_some, Option.bind_some, if_true, if_false, Bool.false_eq_true, List.set_cons_zero, List.set_cons_succ, Bool.not_true, Bool.not_false, backD, n1, x1, count_int, g1, cmpD, g2]
section
variable {fl : List Fl} {lk : List Lk} {c : Crs} (h : PreWeb fl lk)
include h
theorem run_ok (hr : RunOk fl c) : fd_is_run_of_web [webD fl lk, crs c] = some (.bl true, [webD fl lk, crs c]) := by
  obtain ⟨p', q', r', s', i1⟩ := run_loop (c := c) (y := webD fl lk) fl (fun f hf => ⟨hr.at_ f hf, (h.fo f hf).2.1⟩) .non .non .non .non
  have d1 : isiD "dict" (crs c) = some (.bl true) := rfl
  have l1 := len_crs c
  have ln : lenD (.lst (fl.map encF)) = some (.int fl.length) := by show some (D.int ((fl.map encF).length : Int)) = _; rw [List.length_map]
  have e1 : neD (.int c.length) (.int fl.length) = some (.bl false) := by
    rw [hr.len]
    simp [neD, neDD, toPy, SeqAt.shaped, PyData.canLay0, PyData.depth, PyData.eqv]
  refine defF_r (e1 := [webD fl lk, crs c, p', q', r', s']) ?_
  show g_is_run_of_web [webD fl lk, crs c, .non, .non, .non, .non] = _
  refine seqF_t (e1 := [webD fl lk, crs c, .non, .non, .non, .non]) (ite_f (e1 := [webD fl lk, crs c, .non, .non, .non, .non]) ?_ rfl) ?_
  · simp only [defF, seqF, iteF', setF, retF, dropF, skipF, bin2, un1, callF, ucallF, withF, consF, nilF, varF, conF, one, two, tstF, andF, orF, notF, andV, orV, notV, ifF, chainF, asgF, List.cons_append, List.nil_append, List.replicate, List.getElem?_cons_zero, List.getElem?_cons_succ, Option.map_some, Option.bind_some, if_true, if_false, Bool.false_eq_true, List.set_cons_zero, List.set_cons_succ, Bool.not_true, Bool.not_false, backD, d1, l1, web1, ln, e1]
  · exact seqF_t (e1 := [webD fl lk, crs c, p', q', r', s']) (forF_t (l := fl.map encF) (e1 := [webD fl lk, crs c, .non, .non, .non, .non]) rfl i1) rfl
theorem course_ok (ho : (inOrd (fl.map (·.1)) lk).isSome = true) (hr : RunOk fl c) : fd_is_web_course [webD fl lk, crs c] = some (.bl true, [webD fl lk, crs c]) := by
  have k := check_ok h ho
  have r := run_ok h hr
  simp only [defF, seqF, iteF', setF, retF, dropF, skipF, bin2, un1, callF, ucallF, withF, consF, nilF, varF, conF, one, two, tstF, andF, orF, notF, andV, orV, notV, ifF, chainF, asgF, List.cons_append, List.nil_append, List.replicate, List.getElem?_cons_zero, List.getElem?_cons_succ, Option.map_some, Option.bind_some, if_true, if_false, Bool.false_eq_true, List.set_cons_zero, List.set_cons_succ, Bool.not_true, Bool.not_false, backD, fd_is_web_course, g_is_web_course, k, r]
end
/-! ### the times -/
/-- gate and end of each flight, as far as known -/
abbrev Tm := List (Str × (Int × Int))
def encT (p : Int × Int) : D := .tup [.int p.1, .int p.2]
def tmD (t : Tm) : D := tabD encT t
def endOf (t : Tm) (n : Str) : Int := ((lookA t n).map (·.2)).getD 0
def valOf (c : Crs) (n : Str) : Int := (lookA c n).getD 0
def waitsOf (lk : List Lk) (t : Tm) (n : Str) : List Int := (lk.filter fun l => l.2.1 == n).map fun l => endOf t l.1 + l.2.2
def stepT (lk : List Lk) (pl c : Crs) (t : Tm) (n : Str) : Tm := putG t n (maxI (valOf pl n) (waitsOf lk t n), maxI (valOf pl n) (waitsOf lk t n) + valOf c n)
/-- all that is asked of an order's next flight -/
def Nx (lk : List Lk) (pl c : Crs) (t : Tm) (n : Str) : Prop := (∀ l ∈ lk, l.2.1 = n → (lookA t l.1).isSome = true) ∧ (lookA pl n).isSome = true ∧ (lookA c n).isSome = true
def timesBody : FS := (seqF (setF 5 (compF (seqIF (bin2 (varF 0) (conF (.int 2)) ixD)) [8, 9, 10] (tupG 3 (consG (nameG 8) (consG (nameG 9) (consG (nameG 10) nilG)))) (tstF (bin2 (varF 9) (varF 4) eqD)) (bin2 (bin2 (bin2 (varF 2) (varF 8) ixD) (conF (.int 1)) ixD) (varF 10) addD)))
  (seqF (setF 6 (callF (consF (bin2 (callF (consF (bin2 (varF 3) (varF 4) ixD) nilF) lstD) (varF 5) addD) nilF) (one maxD1)))
  (putF 2 (varF 4) (callF (consF (varF 6) (consF (bin2 (varF 6) (bin2 (varF 1) (varF 4) ixD) addD) nilF)) tupD))))
theorem isSome_val {c : Crs} {n : Str} (h : (lookA c n).isSome = true) : lookA c n = some (valOf c n) := by
  obtain ⟨v, e⟩ := Option.isSome_iff_exists.mp h
  rw [valOf, e]; rfl
theorem isSome_end {t : Tm} {n : Str} (h : (lookA t n).isSome = true) : ∃ g, lookA t n = some (g, endOf t n) := by
  obtain ⟨v, e⟩ := Option.isSome_iff_exists.mp h
  exact ⟨v.1, by rw [endOf, e]; rfl⟩
theorem dput_at (j : Nat) {fk fv : FE} {env e1 e2 : List D} {v k d d' : D} (h1 : fv env = some (v, e1)) (h2 : fk e1 = some (k, e2)) (h3 : e2[j]? = some d) (hd : ∀ ds, d ≠ .lst ds) (h4 : putDD d k v = some d') : DL.putF j fk fv env = some (.nx (e2.set j d')) := by
  have n1 : setItF j fk fv env = none := by
    unfold setItF
    simp only [h1, h2, h3, Option.bind_some]
    cases d with
    | lst ds => exact absurd rfl (hd ds)
    | _ => rfl
  have n2 : dputF j fk fv env = some (.nx (e2.set j d')) := by
    unfold dputF
    simp only [h1, h2, h3, h4, Option.bind_some, Option.map_some]
  unfold DL.putF
  rw [n1]
  exact n2
theorem max_ok (v : Int) (l : List Int) (hl : l.length < 16777216) : callF (consF (bin2 (callF (consF (conF (.int v)) nilF) lstD) (conF (.lst (l.map D.int))) addD) nilF) (one maxD1) [] = some (.int (maxI v l), []) := by
  have a : addD (.lst [.int v]) (.lst (l.map D.int)) = some (.lst ((v :: l).map D.int)) := by
    show (if [D.int v].length + (l.map D.int).length ≤ 16777216 then some _ else none) = _
    rw [if_pos (by rw [List.length_map]; simp only [List.length_singleton]; omega)]
    rfl
  have mx : maxD1 (.lst ((v :: l).map D.int)) = some (.int (maxI v l)) := by
    show ((intsD ((v :: l).map D.int)).bind _) = _
    rw [intsD_map]; rfl
  simp only [defF, seqF, iteF', setF, retF, dropF, skipF, bin2, un1, callF, ucallF, withF, consF, nilF, varF, conF, one, two, tstF, andF, orF, notF, andV, orV, notV, ifF, chainF, asgF, List.cons_append, List.nil_append, List.replicate, List.getElem?_cons_zero, List.getElem?_cons_succ, Option.map_some, Option.bind_some, if_true, if_false, Bool.false_eq_true, List.set_cons_zero, List.set_cons_succ, Bool.not_true, Bool.not_false, backD, lstD, a, mx]
theorem times_step {fl : List Fl} {lk : List Lk} {pl c : Crs} {t : Tm} {n : Str} {a5 a6 a7 : D} (hlk : ∀ l ∈ lk, PyData.strOk l.2.1 = true) (hn : PyData.strOk n = true) (hlz : lk.length ≤ 1000) (htz : t.length < 16777216) (hx : Nx lk pl c t n) :
    timesBody [webD fl lk, crs c, tmD t, crs pl, .str n, a5, a6, a7, .non, .non, .non] = some (.nx [webD fl lk, crs c, tmD (stepT lk pl c t n), crs pl, .str n, .lst ((waitsOf lk t n).map D.int), .int (maxI (valOf pl n) (waitsOf lk t n)), a7, .non, .non, .non]) := by
  have c1 : compF (seqIF (bin2 (varF 0) (conF (.int 2)) ixD)) [8, 9, 10] (tupG 3 (consG (nameG 8) (consG (nameG 9) (consG (nameG 10) nilG)))) (tstF (bin2 (varF 9) (varF 4) eqD)) (bin2 (bin2 (bin2 (varF 2) (varF 8) ixD) (conF (.int 1)) ixD) (varF 10) addD) [webD fl lk, crs c, tmD t, crs pl, .str n, a5, a6, a7, .non, .non, .non] =
      some (.lst ((lk.filter fun l => l.2.1 == n).map fun l => .int (endOf t l.1 + l.2.2)), [webD fl lk, crs c, tmD t, crs pl, .str n, a5, a6, a7, .non, .non, .non]) := by
    refine comp_ty encL (fun l => [webD fl lk, crs c, tmD t, crs pl, .str n, a5, a6, a7, .str l.1, .str l.2.1, .int l.2.2]) (fun l => l.2.1 == n) (fun l => .int (endOf t l.1 + l.2.2)) rfl (fun _ _ => rfl) (fun _ _ _ _ => rfl) (fun l hl => ?_) (fun l hl hc => ?_) rfl (fun _ _ => rfl)
    · simp only [defF, seqF, iteF', setF, retF, dropF, skipF, bin2, un1, callF, ucallF, withF, consF, nilF, varF, conF, one, two, tstF, andF, orF, notF, andV, orV, notV, ifF, chainF, asgF, List.cons_append, List.nil_append, List.replicate, List.getElem?_cons_zero, List.getElem?_cons_succ, Option.map_some, Option.bind_some, if_true, if_false, Bool.false_eq_true, List.set_cons_zero, List.set_cons_succ, Bool.not_true, Bool.not_false, backD, eq_str2 (hlk l hl) hn]
    · obtain ⟨g, e⟩ := isSome_end (hx.1 l hl (by simpa using hc))
      have x1 : ixD (tmD t) (.str l.1) = some (encT (g, endOf t l.1)) := by rw [tmD, ix_tab, e]; rfl
      have x2 : ixD (encT (g, endOf t l.1)) (.int 1) = some (.int (endOf t l.1)) := rfl
      simp only [defF, seqF, iteF', setF, retF, dropF, skipF, bin2, un1, callF, ucallF, withF, consF, nilF, varF, conF, one, two, tstF, andF, orF, notF, andV, orV, notV, ifF, chainF, asgF, List.cons_append, List.nil_append, List.replicate, List.getElem?_cons_zero, List.getElem?_cons_succ, Option.map_some, Option.bind_some, if_true, if_false, Bool.false_eq_true, List.set_cons_zero, List.set_cons_succ, Bool.not_true, Bool.not_false, backD, x1, x2, addD]
  have w : ((lk.filter fun l => l.2.1 == n).map fun l => D.int (endOf t l.1 + l.2.2)) = (waitsOf lk t n).map D.int := by rw [waitsOf, List.map_map]; rfl
  rw [w] at c1
  have wl : (waitsOf lk t n).length ≤ lk.length := by rw [waitsOf, List.length_map]; exact List.length_filter_le _ _
  have x3 : ixD (crs pl) (.str n) = some (.int (valOf pl n)) := by rw [crs, ix_tab, isSome_val hx.2.1]; rfl
  have x4 : ixD (crs c) (.str n) = some (.int (valOf c n)) := by rw [crs, ix_tab, isSome_val hx.2.2]; rfl
  have a1 : addD (.lst [.int (valOf pl n)]) (.lst ((waitsOf lk t n).map D.int)) = some (.lst ((valOf pl n :: waitsOf lk t n).map D.int)) := by
    show (if [D.int (valOf pl n)].length + ((waitsOf lk t n).map D.int).length ≤ 16777216 then some _ else none) = _
    rw [if_pos (by rw [List.length_map]; simp only [List.length_singleton]; omega)]
    rfl
  have mx : maxD1 (.lst ((valOf pl n :: waitsOf lk t n).map D.int)) = some (.int (maxI (valOf pl n) (waitsOf lk t n))) := by
    show ((intsD ((valOf pl n :: waitsOf lk t n).map D.int)).bind _) = _
    rw [intsD_map]; rfl
  refine seqF_t (setF_t c1) (seqF_t (e1 := [webD fl lk, crs c, tmD t, crs pl, .str n, .lst ((waitsOf lk t n).map D.int), .int (maxI (valOf pl n) (waitsOf lk t n)), a7, .non, .non, .non]) ?_ ?_)
  · show setF 6 _ [webD fl lk, crs c, tmD t, crs pl, .str n, .lst ((waitsOf lk t n).map D.int), a6, a7, .non, .non, .non] = _
    simp only [defF, seqF, iteF', setF, retF, dropF, skipF, bin2, un1, callF, ucallF, withF, consF, nilF, varF, conF, one, two, tstF, andF, orF, notF, andV, orV, notV, ifF, chainF, asgF, List.cons_append, List.nil_append, List.replicate, List.getElem?_cons_zero, List.getElem?_cons_succ, Option.map_some, Option.bind_some, if_true, if_false, Bool.false_eq_true, List.set_cons_zero, List.set_cons_succ, Bool.not_true, Bool.not_false, backD, x3, lstD, a1, mx]
  · refine dput_at 2 (e1 := [webD fl lk, crs c, tmD t, crs pl, .str n, .lst ((waitsOf lk t n).map D.int), .int (maxI (valOf pl n) (waitsOf lk t n)), a7, .non, .non, .non]) (e2 := [webD fl lk, crs c, tmD t, crs pl, .str n, .lst ((waitsOf lk t n).map D.int), .int (maxI (valOf pl n) (waitsOf lk t n)), a7, .non, .non, .non]) (v := encT (maxI (valOf pl n) (waitsOf lk t n), maxI (valOf pl n) (waitsOf lk t n) + valOf c n)) (k := .str n) (d := tmD t) ?_ rfl rfl (fun ds z => by cases z) (put_tab encT t n _ htz)
    simp only [defF, seqF, iteF', setF, retF, dropF, skipF, bin2, un1, callF, ucallF, withF, consF, nilF, varF, conF, one, two, tstF, andF, orF, notF, andV, orV, notV, ifF, chainF, asgF, List.cons_append, List.nil_append, List.replicate, List.getElem?_cons_zero, List.getElem?_cons_succ, Option.map_some, Option.bind_some, if_true, if_false, Bool.false_eq_true, List.set_cons_zero, List.set_cons_succ, Bool.not_true, Bool.not_false, backD, x4, addD, tupD, encT]
end K71
namespace K71
open PySem DL LH
/-! ### orders -/
def TopoR (lk : List Lk) : List Str → List Str → Prop
  | _, [] => True
  | seen, n :: os => (∀ l ∈ lk, l.2.1 = n → l.1 ∈ seen) ∧ TopoR lk (n :: seen) os
theorem topo_mono {lk : List Lk} : ∀ {os seen seen' : List Str}, (∀ x ∈ seen, x ∈ seen') → TopoR lk seen os → TopoR lk seen' os
  | [], _, _, _, _ => trivial
  | n :: os, seen, seen', h, t => ⟨fun l hl e => h _ (t.1 l hl e), topo_mono (fun x hx => by
      cases hx with
      | head => exact List.mem_cons_self
      | tail _ hx => exact List.mem_cons_of_mem _ (h x hx)) t.2⟩
theorem topo_all {lk : List Lk} : ∀ {os seen : List Str}, (∀ n ∈ os, ∀ l ∈ lk, l.2.1 = n → l.1 ∈ seen) → TopoR lk seen os
  | [], _, _ => trivial
  | n :: os, seen, h => ⟨h n List.mem_cons_self, topo_all fun m hm l hl e => List.mem_cons_of_mem _ (h m (List.mem_cons_of_mem _ hm) l hl e)⟩
theorem topo_app {lk : List Lk} : ∀ {a b seen : List Str}, TopoR lk seen a → TopoR lk (a.reverse ++ seen) b → TopoR lk seen (a ++ b)
  | [], _, _, _, h => by simpa using h
  | n :: a, b, seen, h1, h2 => ⟨h1.1, topo_app h1.2 (by simpa using h2)⟩
structure Found (names : List Str) (lk : List Lk) (F : List Str) : Prop where
  nd : F.Nodup
  sub : ∀ n ∈ F, n ∈ names
  topo : TopoR lk [] F
theorem found_round {names : List Str} {lk : List Lk} (hn : names.Nodup) {F : List Str} (h : Found names lk F) : Found names lk (roundO names lk F) := by
  have mem : ∀ n ∈ ready2 lk F (ready1 names F), n ∈ names ∧ n ∉ F ∧ predsIn lk F n = true := fun n h => by
    obtain ⟨h1, h2⟩ := List.mem_filter.mp h
    obtain ⟨h3, h4⟩ := List.mem_filter.mp h1
    exact ⟨h3, by simpa using h4, h2⟩
  refine ⟨List.nodup_append.mpr ⟨h.nd, (hn.filter _).filter _, fun a ha b hb e => (mem b hb).2.1 (e ▸ ha)⟩, fun n hm => ?_, topo_app h.topo (topo_all fun n hm l hl e => ?_)⟩
  · rcases List.mem_append.mp hm with a | a
    · exact h.sub n a
    · exact (mem n a).1
  · have := (mem n hm).2.2
    unfold predsIn at this
    have := List.all_eq_true.mp this l (List.mem_filter.mpr ⟨hl, by simpa using e⟩)
    simpa using this
theorem found_rounds {names : List Str} {lk : List Lk} (hn : names.Nodup) : ∀ (k : Nat) {F : List Str}, Found names lk F → Found names lk (roundsO names lk k F)
  | 0, _, h => h
  | k + 1, _, h => found_rounds hn k (found_round hn h)
theorem nodup_full : ∀ {a b : List Str}, a.Nodup → (∀ x ∈ a, x ∈ b) → b.length ≤ a.length → ∀ x ∈ b, x ∈ a
  | [], b, _, _, h, x, hx => by
    have : b = [] := List.eq_nil_of_length_eq_zero (Nat.le_zero.mp h)
    subst this; exact hx
  | y :: a, b, hn, hs, hl, x, hx => by
    have hy := hs y List.mem_cons_self
    obtain ⟨n1, n2⟩ := List.nodup_cons.mp hn
    have p := List.perm_cons_erase hy
    have l1 : (b.erase y).length ≤ a.length := by
      have := p.length_eq
      simp only [List.length_cons] at this hl
      omega
    have s1 : ∀ z ∈ a, z ∈ b.erase y := fun z hz => by
      have hz' := p.mem_iff.mp (hs z (List.mem_cons_of_mem _ hz))
      rcases List.mem_cons.mp hz' with e | e
      · subst e; exact absurd hz n1
      · exact e
    rcases List.mem_cons.mp (p.mem_iff.mp hx) with e | e
    · subst e; exact List.mem_cons_self
    · exact List.mem_cons_of_mem _ (nodup_full n2 s1 l1 x e)
theorem inOrd_facts {names : List Str} {lk : List Lk} (hn : names.Nodup) {o : List Str} (h : inOrd names lk = some o) : o.Nodup ∧ TopoR lk [] o ∧ (∀ n, n ∈ o ↔ n ∈ names) := by
  unfold inOrd at h
  split at h
  · next e =>
    obtain rfl := Option.some.inj h
    have f : Found names lk (roundsO names lk names.length []) := found_rounds hn _ ⟨List.nodup_nil, fun n hn => absurd hn (by simp), trivial⟩
    exact ⟨f.nd, f.topo, fun n => ⟨f.sub n, nodup_full f.nd f.sub (by omega) n⟩⟩
  · cases h
/-! ### the times of a web -/
def timesOf (lk : List Lk) (pl c : Crs) (os : List Str) : Tm := os.foldl (stepT lk pl c) []
theorem step_has {lk : List Lk} {pl c : Crs} {t : Tm} {n m : Str} (h : m = n ∨ (lookA t m).isSome = true) : (lookA (stepT lk pl c t n) m).isSome = true := by
  unfold stepT
  rw [lookA_put]
  split
  · rfl
  · next e => exact h.resolve_left e
theorem put_len {α : Type} (c : List (Str × α)) (n : Str) (v : α) : (putG c n v).length ≤ c.length + 1 := by
  unfold putG
  split
  · rw [List.length_map]; omega
  · rw [List.length_append]; simp
theorem times_loop {fl : List Fl} {lk : List Lk} {pl c : Crs} (hlk : ∀ l ∈ lk, PyData.strOk l.2.1 = true) (hlz : lk.length ≤ 1000) :
    ∀ (os : List Str) (t : Tm) (seen : List Str) (a4 a5 a6 a7 : D), (∀ n ∈ os, PyData.strOk n = true) → (∀ n ∈ os, (lookA pl n).isSome = true ∧ (lookA c n).isSome = true) → (∀ n ∈ seen, (lookA t n).isSome = true) → TopoR lk seen os → t.length + os.length < 16777216 →
      ∃ a4' a5' a6' a7', loopF (nameG 4) timesBody (os.map D.str) [webD fl lk, crs c, tmD t, crs pl, a4, a5, a6, a7, .non, .non, .non] = some (.nx [webD fl lk, crs c, tmD (os.foldl (stepT lk pl c) t), crs pl, a4', a5', a6', a7', .non, .non, .non])
  | [], t, seen, a4, a5, a6, a7, _, _, _, _, _ => ⟨a4, a5, a6, a7, rfl⟩
  | n :: os, t, seen, a4, a5, a6, a7, hs, hc, hseen, ht, hz => by
    have hz' : t.length + os.length + 1 < 16777216 := by simp only [List.length_cons] at hz; omega
    have st := times_step (fl := fl) (a5 := a5) (a6 := a6) (a7 := a7) (pl := pl) (c := c) (t := t) (n := n) hlk (hs n List.mem_cons_self) hlz (by omega) ⟨fun l hl e => hseen _ (ht.1 l hl e), hc n List.mem_cons_self⟩
    have pz := put_len t n (maxI (valOf pl n) (waitsOf lk t n), maxI (valOf pl n) (waitsOf lk t n) + valOf c n)
    obtain ⟨b4, b5, b6, b7, i1⟩ := times_loop (fl := fl) hlk hlz os (stepT lk pl c t n) (n :: seen) (.str n) (.lst ((waitsOf lk t n).map D.int)) (.int (maxI (valOf pl n) (waitsOf lk t n))) a7
      (fun m hm => hs m (List.mem_cons_of_mem _ hm)) (fun m hm => hc m (List.mem_cons_of_mem _ hm)) (fun m hm => step_has (by
        rcases List.mem_cons.mp hm with e | e
        · exact .inl e
        · exact .inr (hseen m e))) ht.2 (by unfold stepT; omega)
    exact ⟨b4, b5, b6, b7, loop_t (e1 := [webD fl lk, crs c, tmD t, crs pl, .str n, a5, a6, a7, .non, .non, .non]) rfl st i1⟩
theorem foldl_has {lk : List Lk} {pl c : Crs} : ∀ (os : List Str) (t : Tm) (m : Str), (m ∈ os ∨ (lookA t m).isSome = true) → (lookA (os.foldl (stepT lk pl c) t) m).isSome = true
  | [], t, m, h => h.resolve_left (by simp)
  | n :: os, t, m, h => by
    refine foldl_has os _ m ?_
    rcases h with h | h
    · rcases List.mem_cons.mp h with e | e
      · exact .inr (step_has (.inl e))
      · exact .inl e
    · exact .inr (step_has (.inr h))
/-- the planned gates as a table -/
def planOf (fl : List Fl) : Crs := fl.foldl (fun a f => putG a f.1 f.2.1) []
theorem plan_fold_has : ∀ (fl : List Fl) (a : Crs) (m : Str), (m ∈ fl.map (·.1) ∨ (lookA a m).isSome = true) → (lookA (fl.foldl (fun a f => putG a f.1 f.2.1) a) m).isSome = true
  | [], a, m, h => h.resolve_left (by simp)
  | f :: fl, a, m, h => by
    refine plan_fold_has fl _ m ?_
    rw [lookA_put]
    rcases h with h | h
    · rw [List.map_cons] at h
      rcases List.mem_cons.mp h with e | e
      · exact .inr (by rw [if_pos e]; rfl)
      · exact .inl e
    · right; split
      · rfl
      · exact h
def rowOf (t : Tm) (n : Str) : D := .tup [.str n, .int ((lookA t n).getD (0, 0)).1, .int ((lookA t n).getD (0, 0)).2]
def rowsOf (t : Tm) (ns : List Str) : D := .lst (ns.map (rowOf t))
section
variable {fl : List Fl} {lk : List Lk} {c : Crs} (h : PreWeb fl lk) (hnd : (fl.map (·.1)).Nodup) {o : List Str} (ho : inOrd (fl.map (·.1)) lk = some o)
include h hnd ho
theorem times_by_ok (hc : ∀ n ∈ fl.map (·.1), (lookA c n).isSome = true) : fd_web_times_by [webD fl lk, crs c] = some (tmD (timesOf lk (planOf fl) c o), [webD fl lk, crs c]) := by
  obtain ⟨f1, f2, f3⟩ := inOrd_facts hnd ho
  have nk := names_ok fl lk
  have od := order_ok (names := fl.map (·.1)) (lk := lk) (fun n hn => (h.word hn).2) (fun l hl => (h.word (h.lo l hl).2.1).2) (by rw [List.length_map]; exact h.fz)
  rw [ho] at od
  have hol : o.length ≤ 1000 := by
    unfold inOrd at ho
    split at ho
    · next e =>
      obtain rfl := Option.some.inj ho
      rw [e, List.length_map]; exact h.fz
    · cases ho
  have dc : dcompF (seqIF (bin2 (varF 0) (conF (.int 1)) ixD)) [7] (nameG 7) yesF (bin2 (varF 7) (conF (.int 0)) ixD) (bin2 (varF 7) (conF (.int 1)) ixD) [webD fl lk, crs c, .non, .non, .non, .non, .non, .non, .non, .non, .non] =
      some (crs (planOf fl), [webD fl lk, crs c, .non, .non, .non, .non, .non, .non, .non, .non, .non]) := by
    refine dcomp_ty encF D.int (fun f => [webD fl lk, crs c, .non, .non, .non, .non, .non, encF f, .non, .non, .non]) (fun f => f.1) (fun f => f.2.1) rfl (fun _ _ => rfl) (fun _ _ _ _ => rfl) (fun _ _ => rfl) (fun _ _ => rfl) rfl (fun _ _ => rfl)
  obtain ⟨a4, a5, a6, a7, lp⟩ := times_loop (fl := fl) (pl := planOf fl) (c := c) (fun l hl => (h.word (h.lo l hl).2.1).2) h.lz o [] [] .non .non .non .non
    (fun n hn => (h.word ((f3 n).mp hn)).2) (fun n hn => ⟨plan_fold_has fl [] n (.inl ((f3 n).mp hn)), hc n ((f3 n).mp hn)⟩) (fun n hn => absurd hn (by simp)) f2 (by simp only [List.length_nil]; omega)
  refine defF_r (e1 := [webD fl lk, crs c, tmD (timesOf lk (planOf fl) c o), crs (planOf fl), a4, a5, a6, a7, .non, .non, .non]) ?_
  show g_web_times_by [webD fl lk, crs c, .non, .non, .non, .non, .non, .non, .non, .non, .non] = _
  refine seqF_t (e1 := [webD fl lk, crs c, tmD [], crs (planOf fl), .non, .non, .non, .non, .non, .non, .non]) ?_ (seqF_t (forF_t (l := o.map D.str) (e1 := [webD fl lk, crs c, tmD [], crs (planOf fl), .non, .non, .non, .non, .non, .non, .non]) ?_ lp) rfl)
  · simp only [defF, seqF, iteF', setF, retF, dropF, skipF, bin2, un1, callF, ucallF, withF, consF, nilF, varF, conF, one, two, tstF, andF, orF, notF, andV, orV, notV, ifF, chainF, asgF, List.cons_append, List.nil_append, List.replicate, List.getElem?_cons_zero, List.getElem?_cons_succ, Option.map_some, Option.bind_some, if_true, if_false, Bool.false_eq_true, List.set_cons_zero, List.set_cons_succ, Bool.not_true, Bool.not_false, backD, parF, dc, setsF]
    rfl
  · have uc : ucallF (consF (ucallF (consF (varF 0) nilF) fd_names_of_web) (consF (bin2 (varF 0) (conF (.int 2)) ixD) nilF)) fd_flights_in_order [webD fl lk, crs c, tmD [], crs (planOf fl), .non, .non, .non, .non, .non, .non, .non] = some (nmD o, [webD fl lk, crs c, tmD [], crs (planOf fl), .non, .non, .non, .non, .non, .non, .non]) := by
      simp only [defF, seqF, iteF', setF, retF, dropF, skipF, bin2, un1, callF, ucallF, withF, consF, nilF, varF, conF, one, two, tstF, andF, orF, notF, andV, orV, notV, ifF, chainF, asgF, List.cons_append, List.nil_append, List.replicate, List.getElem?_cons_zero, List.getElem?_cons_succ, Option.map_some, Option.bind_some, if_true, if_false, Bool.false_eq_true, List.set_cons_zero, List.set_cons_succ, Bool.not_true, Bool.not_false, backD, nk, web2, od, ordD]
    unfold seqIF
    rw [uc]
    rfl
theorem has_all (n : Str) (hn : n ∈ fl.map (·.1)) : ∃ p, lookA (timesOf lk (planOf fl) c o) n = some p := by
  obtain ⟨f1, f2, f3⟩ := inOrd_facts hnd ho
  exact Option.isSome_iff_exists.mp (foldl_has o [] n (.inl ((f3 n).mpr hn)))
theorem web_times_ok (hr : RunOk fl c) : fd_web_times [webD fl lk, crs c] = some (rowsOf (timesOf lk (planOf fl) c o) (fl.map (·.1)), [webD fl lk, crs c]) := by
  have hs : (inOrd (fl.map (·.1)) lk).isSome = true := by rw [ho]; rfl
  have k := check_ok h hs
  have r := run_ok h hr
  have nk := names_ok fl lk
  have tb := times_by_ok (c := c) h hnd ho (fun n hn => by
    obtain ⟨f, hf, rfl⟩ := List.mem_map.mp hn
    obtain ⟨v, hv, _⟩ := hr.at_ f hf
    rw [hv]; rfl)
  have ha := has_all (c := c) h hnd ho
  refine defF_r (e1 := [webD fl lk, crs c, tmD (timesOf lk (planOf fl) c o), .non]) ?_
  show g_web_times [webD fl lk, crs c, .non, .non] = _
  refine seqF_t (e1 := [webD fl lk, crs c, .non, .non]) ?_ (seqF_t (e1 := [webD fl lk, crs c, .non, .non]) (ite_f (e1 := [webD fl lk, crs c, .non, .non]) ?_ rfl) (seqF_t (e1 := [webD fl lk, crs c, tmD (timesOf lk (planOf fl) c o), .non]) ?_ (retF_t ?_)))
  · simp only [defF, seqF, iteF', setF, retF, dropF, skipF, bin2, un1, callF, ucallF, withF, consF, nilF, varF, conF, one, two, tstF, andF, orF, notF, andV, orV, notV, ifF, chainF, asgF, List.cons_append, List.nil_append, List.replicate, List.getElem?_cons_zero, List.getElem?_cons_succ, Option.map_some, Option.bind_some, if_true, if_false, Bool.false_eq_true, List.set_cons_zero, List.set_cons_succ, Bool.not_true, Bool.not_false, backD, k]
  · simp only [defF, seqF, iteF', setF, retF, dropF, skipF, bin2, un1, callF, ucallF, withF, consF, nilF, varF, conF, one, two, tstF, andF, orF, notF, andV, orV, notV, ifF, chainF, asgF, List.cons_append, List.nil_append, List.replicate, List.getElem?_cons_zero, List.getElem?_cons_succ, Option.map_some, Option.bind_some, if_true, if_false, Bool.false_eq_true, List.set_cons_zero, List.set_cons_succ, Bool.not_true, Bool.not_false, backD, r]
  · simp only [defF, seqF, iteF', setF, retF, dropF, skipF, bin2, un1, callF, ucallF, withF, consF, nilF, varF, conF, one, two, tstF, andF, orF, notF, andV, orV, notV, ifF, chainF, asgF, List.cons_append, List.nil_append, List.replicate, List.getElem?_cons_zero, List.getElem?_cons_succ, Option.map_some, Option.bind_some, if_true, if_false, Bool.false_eq_true, List.set_cons_zero, List.set_cons_succ, Bool.not_true, Bool.not_false, backD, tb]
  · have sq : seqIF (ucallF (consF (varF 0) nilF) fd_names_of_web) [webD fl lk, crs c, tmD (timesOf lk (planOf fl) c o), .non] = some ((fl.map (·.1)).map D.str, [webD fl lk, crs c, tmD (timesOf lk (planOf fl) c o), .non]) := by
      have uc : ucallF (consF (varF 0) nilF) fd_names_of_web [webD fl lk, crs c, tmD (timesOf lk (planOf fl) c o), .non] = some (nmD (fl.map (·.1)), [webD fl lk, crs c, tmD (timesOf lk (planOf fl) c o), .non]) := by simp only [defF, seqF, iteF', setF, retF, dropF, skipF, bin2, un1, callF, ucallF, withF, consF, nilF, varF, conF, one, two, tstF, andF, orF, notF, andV, orV, notV, ifF, chainF, asgF, List.cons_append, List.nil_append, List.replicate, List.getElem?_cons_zero, List.getElem?_cons_succ, Option.map_some, Option.bind_some, if_true, if_false, Bool.false_eq_true, List.set_cons_zero, List.set_cons_succ, Bool.not_true, Bool.not_false, backD, nk]
      unfold seqIF
      rw [uc]
      rfl
    refine comp_all (own := [3]) (b := nameG 3) D.str (fun n => [webD fl lk, crs c, tmD (timesOf lk (planOf fl) c o), .str n]) (rowOf (timesOf lk (planOf fl) c o)) sq (fun _ _ => rfl) (fun _ _ _ _ => rfl) (fun n hn => ?_) rfl (fun _ _ => rfl)
    obtain ⟨p, hp⟩ := ha n hn
    have x1 : ixD (tmD (timesOf lk (planOf fl) c o)) (.str n) = some (encT p) := by rw [tmD, ix_tab, hp]; rfl
    have x2 : addD (.tup [.str n]) (encT p) = some (rowOf (timesOf lk (planOf fl) c o) n) := by rw [rowOf, hp]; rfl
    simp only [defF, seqF, iteF', setF, retF, dropF, skipF, bin2, un1, callF, ucallF, withF, consF, nilF, varF, conF, one, two, tstF, andF, orF, notF, andV, orV, notV, ifF, chainF, asgF, List.cons_append, List.nil_append, List.replicate, List.getElem?_cons_zero, List.getElem?_cons_succ, Option.map_some, Option.bind_some, if_true, if_false, Bool.false_eq_true, List.set_cons_zero, List.set_cons_succ, Bool.not_true, Bool.not_false, backD, tupD, x1, x2]
end
end K71
namespace K71
open PySem DL LH
/-! ### the times are the one solution -/
/-- flight n stands in t with the gate that its links ask for -/
def Fix (lk : List Lk) (pl c : Crs) (t : Tm) (n : Str) : Prop := lookA t n = some (maxI (valOf pl n) (waitsOf lk t n), maxI (valOf pl n) (waitsOf lk t n) + valOf c n)
theorem waits_congr {lk : List Lk} {t t' : Tm} {n : Str} (h : ∀ l ∈ lk, l.2.1 = n → lookA t' l.1 = lookA t l.1) : waitsOf lk t' n = waitsOf lk t n := by
  unfold waitsOf
  refine List.map_congr_left fun l hl => ?_
  obtain ⟨h1, h2⟩ := List.mem_filter.mp hl
  have := h l h1 (by simpa using h2)
  unfold endOf
  rw [this]
theorem step_other {lk : List Lk} {pl c : Crs} {t : Tm} {n m : Str} (h : m ≠ n) : lookA (stepT lk pl c t n) m = lookA t m := by
  unfold stepT
  rw [lookA_put, if_neg h]
theorem times_fix {lk : List Lk} {pl c : Crs} : ∀ (os : List Str) (t : Tm) (seen : List Str), TopoR lk seen os → os.Nodup → (∀ x ∈ seen, x ∉ os) → (∀ n ∈ seen, ∀ l ∈ lk, l.2.1 = n → l.1 ∈ seen) → (∀ n ∈ seen, Fix lk pl c t n) →
    ∀ n, n ∈ seen ∨ n ∈ os → Fix lk pl c (os.foldl (stepT lk pl c) t) n
  | [], t, seen, _, _, _, _, hf, n, hn => hf n (hn.resolve_right (by simp))
  | m :: os, t, seen, ht, hd, ha, hp, hf, n, hn => by
    obtain ⟨d1, d2⟩ := List.nodup_cons.mp hd
    have ms : m ∉ seen := fun z => ha m z List.mem_cons_self
    have ne : ∀ x ∈ seen, x ≠ m := fun x hx e => ms (e ▸ hx)
    refine times_fix os (stepT lk pl c t m) (m :: seen) ht.2 d2 (fun x hx => ?_) (fun k hk l hl e => ?_) (fun k hk => ?_) n ?_
    · rcases List.mem_cons.mp hx with e | e
      · subst e; exact d1
      · exact fun z => ha x e (List.mem_cons_of_mem _ z)
    · rcases List.mem_cons.mp hk with z | z
      · subst z; exact List.mem_cons_of_mem _ (ht.1 l hl e)
      · exact List.mem_cons_of_mem _ (hp k z l hl e)
    · rcases List.mem_cons.mp hk with z | z
      · subst z
        have w : waitsOf lk (stepT lk pl c t k) k = waitsOf lk t k := waits_congr fun l hl e => step_other (ne _ (ht.1 l hl e))
        unfold Fix
        rw [w]
        unfold stepT
        rw [lookA_put, if_pos rfl]
      · have w : waitsOf lk (stepT lk pl c t m) k = waitsOf lk t k := waits_congr fun l hl e => step_other (ne _ (hp k z l hl e))
        have f := hf k z
        unfold Fix at f ⊢
        rw [w, step_other (ne k z)]
        exact f
    · rcases hn with z | z
      · exact .inl (List.mem_cons_of_mem _ z)
      · rcases List.mem_cons.mp z with e | e
        · exact .inl (e ▸ List.mem_cons_self)
        · exact .inr e
theorem timesOf_fix {lk : List Lk} {pl c : Crs} {o : List Str} (ht : TopoR lk [] o) (hd : o.Nodup) : ∀ n ∈ o, Fix lk pl c (timesOf lk pl c o) n := fun n hn =>
  times_fix o [] [] ht hd (fun x hx => absurd hx (by simp)) (fun x hx => absurd hx (by simp)) (fun x hx => absurd hx (by simp)) n (.inr hn)
/-! ### the law's own times: as many rounds as flights -/
def lwaits (lk : List Lk) (c go : Crs) (n : Str) : List Int := (lk.filter fun l => l.2.1 == n && (lookA go l.1).isSome).map fun l => valOf go l.1 + valOf c l.1 + l.2.2
def lawStep (lk : List Lk) (pl c : Crs) (go : Crs) (n : Str) : Crs := putG go n (maxI (valOf pl n) (lwaits lk c go n))
def gateOf (t : Tm) (n : Str) : Int := ((lookA t n).map (·.1)).getD 0
def Right (t : Tm) (go : Crs) (n : Str) : Prop := lookA go n = some (gateOf t n)
theorem fix_gate {lk : List Lk} {pl c : Crs} {t : Tm} {n : Str} (h : Fix lk pl c t n) : gateOf t n = maxI (valOf pl n) (waitsOf lk t n) ∧ endOf t n = gateOf t n + valOf c n := by
  unfold Fix at h
  unfold gateOf endOf
  rw [h]
  exact ⟨rfl, rfl⟩
theorem lwaits_right {lk : List Lk} {pl c go : Crs} {t : Tm} {n : Str} (h : ∀ l ∈ lk, l.2.1 = n → Right t go l.1 ∧ Fix lk pl c t l.1) : lwaits lk c go n = waitsOf lk t n := by
  unfold lwaits waitsOf
  have f : (lk.filter fun l => l.2.1 == n && (lookA go l.1).isSome) = lk.filter fun l => l.2.1 == n := List.filter_congr fun l hl => by
    by_cases e : l.2.1 = n
    · have r := (h l hl e).1
      unfold Right at r
      rw [r]; simp
    · have e' : (l.2.1 == n) = false := beq_eq_false_iff_ne.mpr e
      rw [e']; rfl
  rw [f]
  refine List.map_congr_left fun l hl => ?_
  obtain ⟨h1, h2⟩ := List.mem_filter.mp hl
  obtain ⟨r, fx⟩ := h l h1 (by simpa using h2)
  have ve : valOf go l.1 = gateOf t l.1 := by unfold Right at r; unfold valOf; rw [r]; rfl
  rw [ve, (fix_gate fx).2]
theorem lstep_new {lk : List Lk} {pl c go : Crs} {t : Tm} {n : Str} (hx : Fix lk pl c t n) (h : ∀ l ∈ lk, l.2.1 = n → Right t go l.1 ∧ Fix lk pl c t l.1) : Right t (lawStep lk pl c go n) n := by
  unfold Right lawStep
  rw [lookA_put, if_pos rfl, lwaits_right h, (fix_gate hx).1]
theorem lstep_keep {lk : List Lk} {pl c go : Crs} {t : Tm} {S : List Str} (hc : ∀ n ∈ S, ∀ l ∈ lk, l.2.1 = n → l.1 ∈ S) (hf : ∀ n ∈ S, Fix lk pl c t n) (hr : ∀ n ∈ S, Right t go n) (m : Str) : ∀ n ∈ S, Right t (lawStep lk pl c go m) n := fun n hn => by
  by_cases e : n = m
  · subst e
    exact lstep_new (hf n hn) fun l hl e => ⟨hr _ (hc n hn l hl e), hf _ (hc n hn l hl e)⟩
  · unfold Right lawStep
    rw [lookA_put, if_neg e]
    exact hr n hn
theorem lround_keep {lk : List Lk} {pl c : Crs} {t : Tm} {S : List Str} (hc : ∀ n ∈ S, ∀ l ∈ lk, l.2.1 = n → l.1 ∈ S) (hf : ∀ n ∈ S, Fix lk pl c t n) : ∀ (names : List Str) (go : Crs), (∀ n ∈ S, Right t go n) → ∀ n ∈ S, Right t (names.foldl (lawStep lk pl c) go) n
  | [], go, hr => hr
  | m :: names, go, hr => lround_keep hc hf names _ (lstep_keep hc hf hr m)
theorem lround_new {lk : List Lk} {pl c : Crs} {t : Tm} {S : List Str} {x : Str} (hc : ∀ n ∈ S, ∀ l ∈ lk, l.2.1 = n → l.1 ∈ S) (hf : ∀ n ∈ S, Fix lk pl c t n) (hx : Fix lk pl c t x) (hp : ∀ l ∈ lk, l.2.1 = x → l.1 ∈ S) :
    ∀ (names : List Str) (go : Crs), x ∈ names → (∀ n ∈ S, Right t go n) → ∀ n ∈ x :: S, Right t (names.foldl (lawStep lk pl c) go) n
  | [], go, hm, _ => absurd hm (by simp)
  | m :: names, go, hm, hr => by
    have cl : ∀ n ∈ x :: S, ∀ l ∈ lk, l.2.1 = n → l.1 ∈ x :: S := fun n hn l hl e => by
      rcases List.mem_cons.mp hn with z | z
      · subst z; exact List.mem_cons_of_mem _ (hp l hl e)
      · exact List.mem_cons_of_mem _ (hc n z l hl e)
    have ff : ∀ n ∈ x :: S, Fix lk pl c t n := fun n hn => by
      rcases List.mem_cons.mp hn with z | z
      · subst z; exact hx
      · exact hf n z
    by_cases e : x = m
    · subst e
      refine lround_keep cl ff names _ fun n hn => ?_
      rcases List.mem_cons.mp hn with z | z
      · subst z; exact lstep_new hx fun l hl e => ⟨hr _ (hp l hl e), hf _ (hp l hl e)⟩
      · exact lstep_keep hc hf hr x n z
    · exact lround_new hc hf hx hp names _ ((List.mem_cons.mp hm).resolve_left e) (lstep_keep hc hf hr m)
def lawRounds (lk : List Lk) (pl c : Crs) (names : List Str) : Nat → Crs → Crs
  | 0, go => go
  | k + 1, go => lawRounds lk pl c names k (names.foldl (lawStep lk pl c) go)
theorem lrounds {lk : List Lk} {pl c : Crs} {t : Tm} {names : List Str} : ∀ (os S : List Str) (go : Crs), TopoR lk S os → (∀ n ∈ os, n ∈ names) → (∀ n ∈ S, ∀ l ∈ lk, l.2.1 = n → l.1 ∈ S) → (∀ n ∈ S, Fix lk pl c t n) → (∀ n ∈ os, Fix lk pl c t n) → (∀ n ∈ S, Right t go n) →
    ∀ n, n ∈ S ∨ n ∈ os → Right t (lawRounds lk pl c names os.length go) n
  | [], S, go, _, _, _, _, _, hr, n, hn => hr n (hn.resolve_right (by simp))
  | x :: os, S, go, ht, hs, hc, hf, ho, hr, n, hn => by
    have hx := ho x List.mem_cons_self
    refine lrounds os (x :: S) _ ht.2 (fun n hn => hs n (List.mem_cons_of_mem _ hn)) (fun n hn l hl e => ?_) (fun n hn => ?_) (fun n hn => ho n (List.mem_cons_of_mem _ hn)) (lround_new hc hf hx ht.1 names go (hs x List.mem_cons_self) hr) n ?_
    · rcases List.mem_cons.mp hn with z | z
      · subst z; exact List.mem_cons_of_mem _ (ht.1 l hl e)
      · exact List.mem_cons_of_mem _ (hc n z l hl e)
    · rcases List.mem_cons.mp hn with z | z
      · subst z; exact hx
      · exact hf n z
    · rcases hn with z | z
      · exact .inl (List.mem_cons_of_mem _ z)
      · rcases List.mem_cons.mp z with e | e
        · exact .inl (e ▸ List.mem_cons_self)
        · exact .inr e
/-- as many rounds as flights give every gate -/
theorem law_gates {lk : List Lk} {pl c : Crs} {names o : List Str} (ht : TopoR lk [] o) (hd : o.Nodup) (hs : ∀ n, n ∈ o ↔ n ∈ names) (hl : o.length = names.length) :
    ∀ n ∈ names, lookA (lawRounds lk pl c names names.length []) n = some (gateOf (timesOf lk pl c o) n) := fun n hn => by
  rw [← hl]
  exact lrounds (t := timesOf lk pl c o) o [] [] ht (fun n hn => (hs n).mp hn) (fun x hx => absurd hx (by simp)) (fun x hx => absurd hx (by simp)) (timesOf_fix ht hd) (fun x hx => absurd hx (by simp)) n (.inr ((hs n).mpr hn))
end K71
namespace K71
open PySem DL LH
/-! ### dict(list of pairs) -/
theorem pairs_kvs {α : Type} (enc : α → D) : ∀ ps : List (Str × α), pairsD (ps.map fun p => D.tup [.str p.1, enc p.2]) = some (kvs enc ps)
  | [] => rfl
  | p :: ps => by
    have ih := pairs_kvs enc ps
    show (keyD (.str p.1)).bind (fun k => (pairsD (ps.map fun p => D.tup [.str p.1, enc p.2])).map fun l => (k, enc p.2) :: l) = _
    rw [ih]
    rfl
theorem merge_new {α : Type} : ∀ (kds acc : List (L2.Key × α)), (kds.map (·.1)).Nodup → (∀ k ∈ kds.map (·.1), k ∉ acc.map (·.1)) → mergeG acc kds = acc ++ kds
  | [], acc, _, _ => by simp [mergeG]
  | kd :: kds, acc, hn, ha => by
    rw [List.map_cons] at hn ha
    obtain ⟨n1, n2⟩ := List.nodup_cons.mp hn
    have pz : putG acc kd.1 kd.2 = acc ++ [kd] := by
      unfold putG
      rw [if_neg]
      intro z
      obtain ⟨x, hx, e⟩ := List.any_eq_true.mp z
      exact ha kd.1 List.mem_cons_self (List.mem_map.mpr ⟨x, hx, by simpa using e⟩)
    have ih := merge_new kds (acc ++ [kd]) n2 (fun k hk hz => by
      rw [List.map_append, List.mem_append] at hz
      rcases hz with z | z
      · exact ha k (List.mem_cons_of_mem _ hk) z
      · have : k = kd.1 := by simpa using z
        subst this
        exact n1 hk)
    show mergeG (putG acc kd.1 kd.2) kds = _
    rw [pz, ih, List.append_assoc]
    rfl
theorem dict_tab {α : Type} (enc : α → D) (ps : List (Str × α)) (hn : (ps.map (·.1)).Nodup) : dictD (.lst (ps.map fun p => D.tup [.str p.1, enc p.2])) = some (tabD enc ps) := by
  show ((pairsD (ps.map fun p => D.tup [.str p.1, enc p.2])).map fun kds => D.dK ((mergeG [] kds).map (·.1)) ((mergeG [] kds).map (·.2))) = _
  rw [pairs_kvs, Option.map_some]
  have hk : ((kvs enc ps).map (·.1)).Nodup := by
    have e : (kvs enc ps).map (·.1) = (ps.map (·.1)).map fun n => (Sum.inr n : L2.Key) := by
      unfold kvs
      rw [List.map_map, List.map_map]
      rfl
    rw [e]
    exact List.Pairwise.map _ (fun a b h z => h (by cases z; rfl)) hn
  rw [merge_new (kvs enc ps) [] hk (fun k _ z => by simp at z), List.nil_append, kvs_tab]
theorem keys_tab {α : Type} (enc : α → D) (ps : List (Str × α)) {env : List D} {j : Nat} (h : env[j]? = some (tabD enc ps)) : keysF j env = some ((ps.map (·.1)).map D.str, env) := by
  unfold keysF
  rw [h]
  show some ((ps.map fun p => (Sum.inr p.1 : L2.Key)).map kD, env) = _
  rw [List.map_map, List.map_map]
  rfl
/-! ### one step of the law's own times -/
def lawBody : FS := (seqF (setF 6 (compF (seqIF (bin2 (varF 0) (conF (.int 2)) ixD)) [8, 9, 10] (tupG 3 (consG (nameG 8) (consG (nameG 9) (consG (nameG 10) nilG)))) (andF (tstF (bin2 (varF 9) (varF 5) eqD)) (tstF (bin2 (varF 8) (varF 2) inAD))) (bin2 (bin2 (get2F (varF 2) (varF 8) (conF (.int 0))) (bin2 (varF 1) (varF 8) ixD) addD) (varF 10) addD)))
  (putF 2 (varF 5) (callF (consF (bin2 (callF (consF (bin2 (bin2 (varF 3) (varF 5) ixD) (conF (.int 1)) ixD) nilF) lstD) (varF 6) addD) nilF) (one maxD1))))
theorem law_step {fl : List Fl} {lk : List Lk} {pl c go : Crs} {ft : List (Str × Fl)} {n : Str} {f : Fl} {a4 a6 a7 : D} (hlk : ∀ l ∈ lk, PyData.strOk l.2.1 = true) (hn : PyData.strOk n = true) (hlz : lk.length ≤ 1000) (hgz : go.length < 16777216)
    (hc : ∀ l ∈ lk, (lookA c l.1).isSome = true) (hf : lookA ft n = some f) (hp : f.2.1 = valOf pl n) :
    lawBody [webD fl lk, crs c, crs go, tabD encF ft, a4, .str n, a6, a7, .non, .non, .non] = some (.nx [webD fl lk, crs c, crs (lawStep lk pl c go n), tabD encF ft, a4, .str n, .lst ((lwaits lk c go n).map D.int), a7, .non, .non, .non]) := by
  have c1 : compF (seqIF (bin2 (varF 0) (conF (.int 2)) ixD)) [8, 9, 10] (tupG 3 (consG (nameG 8) (consG (nameG 9) (consG (nameG 10) nilG)))) (andF (tstF (bin2 (varF 9) (varF 5) eqD)) (tstF (bin2 (varF 8) (varF 2) inAD))) (bin2 (bin2 (get2F (varF 2) (varF 8) (conF (.int 0))) (bin2 (varF 1) (varF 8) ixD) addD) (varF 10) addD) [webD fl lk, crs c, crs go, tabD encF ft, a4, .str n, a6, a7, .non, .non, .non] =
      some (.lst ((lk.filter fun l => l.2.1 == n && (lookA go l.1).isSome).map fun l => .int (valOf go l.1 + valOf c l.1 + l.2.2)), [webD fl lk, crs c, crs go, tabD encF ft, a4, .str n, a6, a7, .non, .non, .non]) := by
    refine comp_ty encL (fun l => [webD fl lk, crs c, crs go, tabD encF ft, a4, .str n, a6, a7, .str l.1, .str l.2.1, .int l.2.2]) (fun l => l.2.1 == n && (lookA go l.1).isSome) (fun l => .int (valOf go l.1 + valOf c l.1 + l.2.2)) rfl (fun _ _ => rfl) (fun _ _ _ _ => rfl) (fun l hl => ?_) (fun l hl hcnd => ?_) rfl (fun _ _ => rfl)
    · have i1 : inAD (.str l.1) (crs go) = some (.bl (lookA go l.1).isSome) := in_tab D.int go l.1
      have e1 := eq_str2 (hlk l hl) hn
      cases q : (l.2.1 == n) with
      | true =>
        rw [q] at e1
        simp only [defF, seqF, iteF', setF, retF, dropF, skipF, bin2, un1, callF, ucallF, withF, consF, nilF, varF, conF, one, two, tstF, andF, orF, notF, andV, orV, notV, ifF, chainF, asgF, List.cons_append, List.nil_append, List.replicate, List.getElem?_cons_zero, List.getElem?_cons_succ, Option.map_some, Option.bind_some, if_true, if_false, Bool.false_eq_true, List.set_cons_zero, List.set_cons_succ, Bool.not_true, Bool.not_false, backD, andF, e1, i1]
        rfl
      | false =>
        rw [q] at e1
        simp only [defF, seqF, iteF', setF, retF, dropF, skipF, bin2, un1, callF, ucallF, withF, consF, nilF, varF, conF, one, two, tstF, andF, orF, notF, andV, orV, notV, ifF, chainF, asgF, List.cons_append, List.nil_append, List.replicate, List.getElem?_cons_zero, List.getElem?_cons_succ, Option.map_some, Option.bind_some, if_true, if_false, Bool.false_eq_true, List.set_cons_zero, List.set_cons_succ, Bool.not_true, Bool.not_false, backD, andF, e1, i1]
        rfl
    · rw [Bool.and_eq_true] at hcnd
      have x0 : getD (crs go) (.str l.1) = some (some (.int (valOf go l.1))) := by rw [crs, get_tab, isSome_val hcnd.2]; rfl
      have x1 : ixD (crs c) (.str l.1) = some (.int (valOf c l.1)) := by rw [crs, ix_tab, isSome_val (hc l hl)]; rfl
      have d0 : isDict (crs go) = true := rfl
      have ad : ∀ i j : Int, addD (.int i) (.int j) = some (.int (i + j)) := fun _ _ => rfl
      simp only [defF, seqF, iteF', setF, retF, dropF, skipF, bin2, un1, callF, ucallF, withF, consF, nilF, varF, conF, one, two, tstF, andF, orF, notF, andV, orV, notV, ifF, chainF, asgF, List.cons_append, List.nil_append, List.replicate, List.getElem?_cons_zero, List.getElem?_cons_succ, Option.map_some, Option.bind_some, if_true, if_false, Bool.false_eq_true, List.set_cons_zero, List.set_cons_succ, Bool.not_true, Bool.not_false, backD, get2F, d0, x0, x1, ad, Option.getD_some]
  have w : ((lk.filter fun l => l.2.1 == n && (lookA go l.1).isSome).map fun l => D.int (valOf go l.1 + valOf c l.1 + l.2.2)) = (lwaits lk c go n).map D.int := by rw [lwaits, List.map_map]; rfl
  rw [w] at c1
  have wl : (lwaits lk c go n).length ≤ lk.length := by rw [lwaits, List.length_map]; exact List.length_filter_le _ _
  have x3 : ixD (tabD encF ft) (.str n) = some (encF f) := by rw [ix_tab, hf]; rfl
  have x4 : ixD (encF f) (.int 1) = some (.int (valOf pl n)) := by rw [← hp]; rfl
  have a1 : addD (.lst [.int (valOf pl n)]) (.lst ((lwaits lk c go n).map D.int)) = some (.lst ((valOf pl n :: lwaits lk c go n).map D.int)) := by
    show (if [D.int (valOf pl n)].length + ((lwaits lk c go n).map D.int).length ≤ 16777216 then some _ else none) = _
    rw [if_pos (by rw [List.length_map]; simp only [List.length_singleton]; omega)]
    rfl
  have mx : maxD1 (.lst ((valOf pl n :: lwaits lk c go n).map D.int)) = some (.int (maxI (valOf pl n) (lwaits lk c go n))) := by
    show ((intsD ((valOf pl n :: lwaits lk c go n).map D.int)).bind _) = _
    rw [intsD_map]; rfl
  refine seqF_t (setF_t c1) ?_
  refine dput_at 2 (e1 := [webD fl lk, crs c, crs go, tabD encF ft, a4, .str n, .lst ((lwaits lk c go n).map D.int), a7, .non, .non, .non]) (e2 := [webD fl lk, crs c, crs go, tabD encF ft, a4, .str n, .lst ((lwaits lk c go n).map D.int), a7, .non, .non, .non]) (v := .int (maxI (valOf pl n) (lwaits lk c go n))) (k := .str n) (d := crs go) ?_ rfl rfl (fun ds z => by cases z) (put_tab D.int go n _ hgz)
  simp only [defF, seqF, iteF', setF, retF, dropF, skipF, bin2, un1, callF, ucallF, withF, consF, nilF, varF, conF, one, two, tstF, andF, orF, notF, andV, orV, notV, ifF, chainF, asgF, List.cons_append, List.nil_append, List.replicate, List.getElem?_cons_zero, List.getElem?_cons_succ, Option.map_some, Option.bind_some, if_true, if_false, Bool.false_eq_true, List.set_cons_zero, List.set_cons_succ, Bool.not_true, Bool.not_false, backD, x3, x4, lstD, a1, mx]
end K71
namespace K71
open PySem DL LH
section
variable {fl : List Fl} {lk : List Lk} {pl c : Crs} {ft : List (Str × Fl)} (hlk : ∀ l ∈ lk, PyData.strOk l.2.1 = true) (hlz : lk.length ≤ 1000) (hc : ∀ l ∈ lk, (lookA c l.1).isSome = true)
include hlk hlz hc
theorem law_inner {a4 a7 : D} : ∀ (ns : List Str) (go : Crs) (a5 a6 : D), (∀ n ∈ ns, PyData.strOk n = true ∧ ∃ f, lookA ft n = some f ∧ f.2.1 = valOf pl n) → go.length + ns.length < 16777216 →
    ∃ a5' a6', loopF (nameG 5) lawBody (ns.map D.str) [webD fl lk, crs c, crs go, tabD encF ft, a4, a5, a6, a7, .non, .non, .non] = some (.nx [webD fl lk, crs c, crs (ns.foldl (lawStep lk pl c) go), tabD encF ft, a4, a5', a6', a7, .non, .non, .non])
  | [], go, a5, a6, _, _ => ⟨a5, a6, rfl⟩
  | n :: ns, go, a5, a6, h, hz => by
    obtain ⟨hn, f, hf, hp⟩ := h n List.mem_cons_self
    have hz' : go.length + ns.length + 1 < 16777216 := by simp only [List.length_cons] at hz; omega
    have st := law_step (fl := fl) (a4 := a4) (a6 := a6) (a7 := a7) (pl := pl) (go := go) hlk hn hlz (by omega) hc hf hp
    have pz := put_len go n (maxI (valOf pl n) (lwaits lk c go n))
    obtain ⟨b5, b6, i1⟩ := law_inner (a4 := a4) (a7 := a7) ns (lawStep lk pl c go n) (.str n) (.lst ((lwaits lk c go n).map D.int)) (fun m hm => h m (List.mem_cons_of_mem _ hm)) (by unfold lawStep; omega)
    exact ⟨b5, b6, loop_t (e1 := [webD fl lk, crs c, crs go, tabD encF ft, a4, .str n, a6, a7, .non, .non, .non]) rfl st i1⟩
theorem fold_len : ∀ (ns : List Str) (go : Crs), (ns.foldl (lawStep lk pl c) go).length ≤ go.length + ns.length
  | [], go => by simp
  | n :: ns, go => by
    have h1 := fold_len ns (lawStep lk pl c go n)
    have pz := put_len go n (maxI (valOf pl n) (lwaits lk c go n))
    have e : (lawStep lk pl c go n).length ≤ go.length + 1 := pz
    rw [List.foldl_cons, List.length_cons]
    omega
theorem law_outer {a7 : D} (h : ∀ n ∈ ft.map (·.1), PyData.strOk n = true ∧ ∃ f, lookA ft n = some f ∧ f.2.1 = valOf pl n) : ∀ (ks : List Str) (go : Crs) (a4 a5 a6 : D), go.length + ks.length * ft.length < 16777216 →
    ∃ a4' a5' a6', loopF (nameG 4) (forF (keysF 3) (nameG 5) lawBody) (ks.map D.str) [webD fl lk, crs c, crs go, tabD encF ft, a4, a5, a6, a7, .non, .non, .non] = some (.nx [webD fl lk, crs c, crs (lawRounds lk pl c (ft.map (·.1)) ks.length go), tabD encF ft, a4', a5', a6', a7, .non, .non, .non])
  | [], go, a4, a5, a6, _ => ⟨a4, a5, a6, rfl⟩
  | k :: ks, go, a4, a5, a6, hz => by
    have hz' : go.length + (ks.length * ft.length + ft.length) < 16777216 := by
      rw [List.length_cons, Nat.succ_mul] at hz
      exact hz
    have lf : (ft.map (·.1)).length = ft.length := List.length_map _
    obtain ⟨b5, b6, i1⟩ := law_inner (fl := fl) (a4 := .str k) (a7 := a7) (pl := pl) hlk hlz hc (ft.map (·.1)) go a5 a6 h (by omega)
    have fz := fold_len (pl := pl) hlk hlz hc (ft.map (·.1)) go
    obtain ⟨d4, d5, d6, i2⟩ := law_outer (a7 := a7) h ks ((ft.map (·.1)).foldl (lawStep lk pl c) go) (.str k) b5 b6 (by omega)
    exact ⟨d4, d5, d6, loop_t (e1 := [webD fl lk, crs c, crs go, tabD encF ft, .str k, a5, a6, a7, .non, .non, .non]) rfl (forF_t (keys_tab encF ft rfl) i1) i2⟩
end
theorem look_mem {α : Type} : ∀ (ps : List (Str × α)), (ps.map (·.1)).Nodup → ∀ p ∈ ps, lookA ps p.1 = some p.2
  | [], _, p, hp => absurd hp (by simp)
  | q :: ps, hn, p, hp => by
    rw [List.map_cons] at hn
    obtain ⟨n1, n2⟩ := List.nodup_cons.mp hn
    rw [lookA_cons]
    rcases List.mem_cons.mp hp with e | e
    · subst e; simp
    · have ne : q.1 ≠ p.1 := fun z => n1 (z ▸ List.mem_map_of_mem e)
      simp only [ne, if_false, decide_false, Bool.false_eq_true, look_mem ps n2 p e]
theorem plan_other : ∀ (fl : List Fl) (a : Crs) (m : Str), m ∉ fl.map (·.1) → lookA (fl.foldl (fun a f => putG a f.1 f.2.1) a) m = lookA a m
  | [], a, m, _ => rfl
  | f :: fl, a, m, h => by
    rw [List.map_cons, List.mem_cons, not_or] at h
    have i := plan_other fl (putG a f.1 f.2.1) m h.2
    rw [lookA_put, if_neg h.1] at i
    exact i
theorem plan_mem : ∀ (fl : List Fl) (a : Crs), (fl.map (·.1)).Nodup → ∀ f ∈ fl, lookA (fl.foldl (fun a f => putG a f.1 f.2.1) a) f.1 = some f.2.1
  | [], a, _, f, hf => absurd hf (by simp)
  | g :: fl, a, hn, f, hf => by
    rw [List.map_cons] at hn
    obtain ⟨n1, n2⟩ := List.nodup_cons.mp hn
    rcases List.mem_cons.mp hf with e | e
    · subst e
      have i := plan_other fl (putG a f.1 f.2.1) f.1 n1
      rw [lookA_put, if_pos rfl] at i
      exact i
    · exact plan_mem fl _ n2 f e
def ftOf (fl : List Fl) : List (Str × Fl) := fl.map fun f => (f.1, f)
theorem ft_names (fl : List Fl) : (ftOf fl).map (·.1) = fl.map (·.1) := by unfold ftOf; rw [List.map_map]; rfl
theorem ft_ok {fl : List Fl} {lk : List Lk} (h : PreWeb fl lk) (hnd : (fl.map (·.1)).Nodup) : ∀ n ∈ (ftOf fl).map (·.1), PyData.strOk n = true ∧ ∃ f, lookA (ftOf fl) n = some f ∧ f.2.1 = valOf (planOf fl) n := fun n hn => by
  rw [ft_names] at hn
  obtain ⟨f, hf, rfl⟩ := List.mem_map.mp hn
  refine ⟨(h.word (List.mem_map_of_mem hf)).2, f, ?_, ?_⟩
  · exact look_mem (ftOf fl) (by rw [ft_names]; exact hnd) (f.1, f) (List.mem_map.mpr ⟨f, hf, rfl⟩)
  · unfold valOf planOf
    rw [plan_mem fl [] hnd f hf]
    rfl
end K71
namespace K71
open PySem DL LH
def lawTm (c go : Crs) (names : List Str) : Tm := names.map fun n => (n, (valOf go n, valOf go n + valOf c n))
section
variable {fl : List Fl} {lk : List Lk} {c : Crs} (h : PreWeb fl lk) (hnd : (fl.map (·.1)).Nodup)
include h hnd
theorem law_times_ok {go : Crs} (hgo : go = lawRounds lk (planOf fl) c (fl.map (·.1)) (fl.map (·.1)).length []) (hc : ∀ n ∈ fl.map (·.1), (lookA c n).isSome = true) (hg : ∀ n ∈ fl.map (·.1), (lookA go n).isSome = true) :
    fd__law_times [webD fl lk, crs c] = some (tabD encT (lawTm c go (fl.map (·.1))), [webD fl lk, crs c]) := by
  have lf : (ftOf fl).length = fl.length := List.length_map _
  have hm : fl.length * fl.length ≤ 1000 * 1000 := Nat.mul_le_mul h.fz h.fz
  obtain ⟨a4, a5, a6, lp⟩ := law_outer (fl := fl) (a7 := .non) (pl := planOf fl) (c := c) (ft := ftOf fl) (fun l hl => (h.word (h.lo l hl).2.1).2) h.lz (fun l hl => hc _ (h.lo l hl).1) (ft_ok h hnd) (fl.map (·.1)) [] .non .non .non (by
    rw [List.length_map, lf]; simp only [List.length_nil]; omega)
  rw [ft_names, ← hgo] at lp
  have c1 : compF (seqIF (bin2 (varF 0) (conF (.int 1)) ixD)) [7] (nameG 7) yesF (callF (consF (bin2 (varF 7) (conF (.int 0)) ixD) (consF (varF 7) nilF)) tupD) [webD fl lk, crs c, .non, .non, .non, .non, .non, .non, .non, .non, .non] =
      some (.lst (fl.map fun f => .tup [.str f.1, encF f]), [webD fl lk, crs c, .non, .non, .non, .non, .non, .non, .non, .non, .non]) :=
    comp_all (own := [7]) (b := nameG 7) encF (fun f => [webD fl lk, crs c, .non, .non, .non, .non, .non, encF f, .non, .non, .non]) (fun f => .tup [.str f.1, encF f]) rfl (fun _ _ => rfl) (fun _ _ _ _ => rfl) (fun _ _ => rfl) rfl (fun _ _ => rfl)
  have d1 : dictD (.lst (fl.map fun f => .tup [.str f.1, encF f])) = some (tabD encF (ftOf fl)) := by
    have := dict_tab encF (ftOf fl) (by rw [ft_names]; exact hnd)
    unfold ftOf at this ⊢
    rw [List.map_map] at this
    exact this
  have c2 : compF (keysF 3) [5] (nameG 5) yesF (callF (consF (varF 5) (consF (callF (consF (bin2 (varF 2) (varF 5) ixD) (consF (bin2 (bin2 (varF 2) (varF 5) ixD) (bin2 (varF 1) (varF 5) ixD) addD) nilF)) tupD) nilF)) tupD) [webD fl lk, crs c, crs go, tabD encF (ftOf fl), a4, a5, a6, .non, .non, .non, .non] =
      some (.lst ((fl.map (·.1)).map fun n => .tup [.str n, encT (valOf go n, valOf go n + valOf c n)]), [webD fl lk, crs c, crs go, tabD encF (ftOf fl), a4, a5, a6, .non, .non, .non, .non]) := by
    have kt := keys_tab encF (ftOf fl) (env := [webD fl lk, crs c, crs go, tabD encF (ftOf fl), a4, a5, a6, .non, .non, .non, .non]) (j := 3) rfl
    rw [ft_names] at kt
    refine comp_all (own := [5]) (b := nameG 5) D.str (fun n => [webD fl lk, crs c, crs go, tabD encF (ftOf fl), a4, .str n, a6, .non, .non, .non, .non]) (fun n => .tup [.str n, encT (valOf go n, valOf go n + valOf c n)]) kt (fun _ _ => rfl) (fun _ _ _ _ => rfl) (fun n hn => ?_) rfl (fun _ _ => rfl)
    have x1 : ixD (crs c) (.str n) = some (.int (valOf c n)) := by rw [crs, ix_tab, isSome_val (hc n hn)]; rfl
    have x2 : ixD (crs go) (.str n) = some (.int (valOf go n)) := by rw [crs, ix_tab, isSome_val (hg n hn)]; rfl
    have ad : ∀ i j : Int, addD (.int i) (.int j) = some (.int (i + j)) := fun _ _ => rfl
    simp only [defF, seqF, iteF', setF, retF, dropF, skipF, bin2, un1, callF, ucallF, withF, consF, nilF, varF, conF, one, two, tstF, andF, orF, notF, andV, orV, notV, ifF, chainF, asgF, List.cons_append, List.nil_append, List.replicate, List.getElem?_cons_zero, List.getElem?_cons_succ, Option.map_some, Option.bind_some, if_true, if_false, Bool.false_eq_true, List.set_cons_zero, List.set_cons_succ, Bool.not_true, Bool.not_false, backD, x1, x2, ad, tupD, encT]
  have d2 : dictD (.lst ((fl.map (·.1)).map fun n => .tup [.str n, encT (valOf go n, valOf go n + valOf c n)])) = some (tabD encT (lawTm c go (fl.map (·.1)))) := by
    have e : (lawTm c go (fl.map (·.1))).map (·.1) = fl.map (·.1) := by unfold lawTm; rw [List.map_map]; exact List.map_id _
    have := dict_tab encT (lawTm c go (fl.map (·.1))) (by rw [e]; exact hnd)
    unfold lawTm at this ⊢
    rw [List.map_map] at this
    exact this
  refine defF_r (e1 := [webD fl lk, crs c, crs go, tabD encF (ftOf fl), a4, a5, a6, .non, .non, .non, .non]) ?_
  show g__law_times [webD fl lk, crs c, .non, .non, .non, .non, .non, .non, .non, .non, .non] = _
  refine seqF_t (e1 := [webD fl lk, crs c, crs [], tabD encF (ftOf fl), .non, .non, .non, .non, .non, .non, .non]) ?_ (seqF_t (e1 := [webD fl lk, crs c, crs go, tabD encF (ftOf fl), a4, a5, a6, .non, .non, .non, .non]) ?_ ?_)
  · simp only [defF, seqF, iteF', setF, retF, dropF, skipF, bin2, un1, callF, ucallF, withF, consF, nilF, varF, conF, one, two, tstF, andF, orF, notF, andV, orV, notV, ifF, chainF, asgF, List.cons_append, List.nil_append, List.replicate, List.getElem?_cons_zero, List.getElem?_cons_succ, Option.map_some, Option.bind_some, if_true, if_false, Bool.false_eq_true, List.set_cons_zero, List.set_cons_succ, Bool.not_true, Bool.not_false, backD, parF, c1, d1, setsF]
    rfl
  · have kt := keys_tab encF (ftOf fl) (env := [webD fl lk, crs c, crs [], tabD encF (ftOf fl), .non, .non, .non, .non, .non, .non, .non]) (j := 3) rfl
    rw [ft_names] at kt
    exact forF_t kt lp
  · show retF _ _ = _
    refine retF_t ?_
    simp only [defF, seqF, iteF', setF, retF, dropF, skipF, bin2, un1, callF, ucallF, withF, consF, nilF, varF, conF, one, two, tstF, andF, orF, notF, andV, orV, notV, ifF, chainF, asgF, List.cons_append, List.nil_append, List.replicate, List.getElem?_cons_zero, List.getElem?_cons_succ, Option.map_some, Option.bind_some, if_true, if_false, Bool.false_eq_true, List.set_cons_zero, List.set_cons_succ, Bool.not_true, Bool.not_false, backD, c2, d2]
end
end K71
namespace K71
open PySem DL LH
section
variable {fl : List Fl} {lk : List Lk} {c : Crs} (h : PreWeb fl lk) (hnd : (fl.map (·.1)).Nodup) {o : List Str} (ho : inOrd (fl.map (·.1)) lk = some o)
include h hnd ho
/-- the law's own times are those of the program -/
theorem law_times_same (hc : ∀ n ∈ fl.map (·.1), (lookA c n).isSome = true) :
    ∃ T : Tm, fd__law_times [webD fl lk, crs c] = some (tabD encT T, [webD fl lk, crs c]) ∧ ∀ n ∈ fl.map (·.1), lookA T n = lookA (timesOf lk (planOf fl) c o) n := by
  obtain ⟨f1, f2, f3⟩ := inOrd_facts hnd ho
  have hl : o.length = (fl.map (·.1)).length := by
    unfold inOrd at ho
    split at ho
    · next e => obtain rfl := Option.some.inj ho; exact e
    · cases ho
  have g := law_gates (pl := planOf fl) (c := c) f2 f1 f3 hl
  refine ⟨_, law_times_ok h hnd (c := c) rfl hc (fun n hn => by rw [g n hn]; rfl), fun n hn => ?_⟩
  have fx := timesOf_fix (pl := planOf fl) (c := c) f2 f1 n ((f3 n).mpr hn)
  obtain ⟨g1, g2⟩ := fix_gate fx
  have e : (lawTm c (lawRounds lk (planOf fl) c (fl.map (·.1)) (fl.map (·.1)).length []) (fl.map (·.1))).map (·.1) = fl.map (·.1) := by unfold lawTm; rw [List.map_map]; exact List.map_id _
  have lm := look_mem (lawTm c (lawRounds lk (planOf fl) c (fl.map (·.1)) (fl.map (·.1)).length []) (fl.map (·.1))) (by rw [e]; exact hnd) _ (List.mem_map.mpr ⟨n, hn, rfl⟩)
  have v : valOf (lawRounds lk (planOf fl) c (fl.map (·.1)) (fl.map (·.1)).length []) n = gateOf (timesOf lk (planOf fl) c o) n := by unfold valOf; rw [g n hn]; rfl
  rw [lm, v]
  unfold Fix at fx
  rw [fx, g1]
end
end K71
namespace K71
open PySem DL LH
theorem rows_ok (T : Tm) (ns : List Str) (h : ∀ n ∈ ns, PyData.strOk n = true) : okX 2 (rowsOf T ns) := by
  show okXs 1 (ns.map (rowOf T))
  refine okXs_of fun d hd => ?_
  obtain ⟨n, hn, rfl⟩ := List.mem_map.mp hd
  show okXs 0 [.str n, .int _, .int _]
  refine okXs_of fun d hd => ?_
  simp only [List.mem_cons, List.not_mem_nil, or_false] at hd
  rcases hd with rfl | rfl | rfl
  · rw [okX]; exact h n hn
  · rw [okX]; trivial
  · rw [okX]; trivial
theorem told_ok {fl : List Fl} {lk : List Lk} {c : Crs} (h : PreWeb fl lk) (hnd : (fl.map (·.1)).Nodup) {o : List Str} (ho : inOrd (fl.map (·.1)) lk = some o) (hr : RunOk fl c) : fd__law_told_right [webD fl lk, crs c] = some (.bl true, [webD fl lk, crs c]) := by
  have hc : ∀ n ∈ fl.map (·.1), (lookA c n).isSome = true := fun n hn => by
    obtain ⟨f, hf, rfl⟩ := List.mem_map.mp hn
    obtain ⟨v, hv, _⟩ := hr.at_ f hf
    rw [hv]; rfl
  obtain ⟨T, lt, same⟩ := law_times_same (c := c) h hnd ho hc
  have wt := web_times_ok (c := c) h hnd ho hr
  have ha := has_all (c := c) h hnd ho
  have co := course_ok h (by rw [ho]; rfl) hr
  have rk := rows_ok (timesOf lk (planOf fl) c o) (fl.map (·.1)) fun n hn => (h.word hn).2
  generalize hR : rowsOf (timesOf lk (planOf fl) c o) (fl.map (·.1)) = R at wt rk
  have c1 : compF (seqIF (bin2 (varF 0) (conF (.int 1)) ixD)) [5] (nameG 5) yesF (bin2 (callF (consF (bin2 (varF 5) (conF (.int 0)) ixD) nilF) tupD) (bin2 (varF 2) (bin2 (varF 5) (conF (.int 0)) ixD) ixD) addD) [webD fl lk, crs c, tabD encT T, .non, .non, .non] = some (R, [webD fl lk, crs c, tabD encT T, .non, .non, .non]) := by
    have e : R = .lst (fl.map fun f => rowOf (timesOf lk (planOf fl) c o) f.1) := by rw [← hR, rowsOf, List.map_map]; rfl
    rw [e]
    refine comp_all (own := [5]) (b := nameG 5) encF (fun f => [webD fl lk, crs c, tabD encT T, .non, .non, encF f]) (fun f => rowOf (timesOf lk (planOf fl) c o) f.1) rfl (fun _ _ => rfl) (fun _ _ _ _ => rfl) (fun f hf => ?_) rfl (fun _ _ => rfl)
    have hn : f.1 ∈ fl.map (·.1) := List.mem_map_of_mem hf
    obtain ⟨p, hp⟩ := ha f.1 hn
    have x0 : ixD (encF f) (.int 0) = some (.str f.1) := rfl
    have x1 : ixD (tabD encT T) (.str f.1) = some (encT p) := by rw [ix_tab, same f.1 hn, hp]; rfl
    have x2 : addD (.tup [.str f.1]) (encT p) = some (rowOf (timesOf lk (planOf fl) c o) f.1) := by rw [rowOf, hp]; rfl
    simp only [defF, seqF, iteF', setF, retF, dropF, skipF, bin2, un1, callF, ucallF, withF, consF, nilF, varF, conF, one, two, tstF, andF, orF, notF, andV, orV, notV, ifF, chainF, asgF, List.cons_append, List.nil_append, List.replicate, List.getElem?_cons_zero, List.getElem?_cons_succ, Option.map_some, Option.bind_some, if_true, if_false, Bool.false_eq_true, List.set_cons_zero, List.set_cons_succ, Bool.not_true, Bool.not_false, backD, tupD, x0, x1, x2]
  have e1 : fd__law_exact 6 [.lst [R, R], .lst [R, R]] = some (.bl true, [.lst [R, R], .lst [R, R]]) := exact_ok 5 _ (by
    show okXs 4 [R, R]
    refine okXs_of fun d hd => ?_
    simp only [List.mem_cons, List.not_mem_nil, or_false] at hd
    rcases hd with rfl | rfl
    · exact rk.mono (by decide)
    · exact rk.mono (by decide))
  have e2 : fd__law_exact 6 [R, R] = some (.bl true, [R, R]) := exact_ok 5 R (rk.mono (by decide))
  have ap : mutE 4 (consF (conF .non) nilF) appD [webD fl lk, crs c, tabD encT T, R, R, .non] = some (.non, [webD fl lk, crs c, tabD encT T, R, .lst (((fl.map (·.1)).map (rowOf (timesOf lk (planOf fl) c o))) ++ [.non]), .non]) := by
    subst hR
    have hz : ((fl.map (·.1)).map (rowOf (timesOf lk (planOf fl) c o))).length < 16777216 := by rw [List.length_map, List.length_map]; have := h.fz; omega
    have a1 : appD ((fl.map (·.1)).map (rowOf (timesOf lk (planOf fl) c o))) [.non] = some ((fl.map (·.1)).map (rowOf (timesOf lk (planOf fl) c o)) ++ [.non], .non) := by
      show (if ((fl.map (·.1)).map (rowOf (timesOf lk (planOf fl) c o))).length < 16777216 then some _ else none) = _
      rw [if_pos hz]
    show ((appD ((fl.map (·.1)).map (rowOf (timesOf lk (planOf fl) c o))) [.non]).map fun r => (r.2, [webD fl lk, crs c, tabD encT T, rowsOf (timesOf lk (planOf fl) c o) (fl.map (·.1)), .lst r.1, .non])) = _
    rw [a1]
    rfl
  have pk : pick [1, 0] [crs c, webD fl lk] = [webD fl lk, crs c] := rfl
  have nt : isNotD (.bl true) (.bl true) = some (.bl false) := rfl
  simp only [defF, seqF, iteF', setF, retF, dropF, skipF, bin2, un1, callF, ucallF, withF, consF, nilF, varF, conF, one, two, tstF, andF, orF, notF, andV, orV, notV, ifF, chainF, asgF, List.cons_append, List.nil_append, List.replicate, List.getElem?_cons_zero, List.getElem?_cons_succ, Option.map_some, Option.bind_some, if_true, if_false, Bool.false_eq_true, List.set_cons_zero, List.set_cons_succ, Bool.not_true, Bool.not_false, backD, fd__law_told_right, g__law_told_right, lt, c1, wt, pickF, pk, e1, co, nt, lstD, ap, e2]
end K71
namespace K71
open PySem DL LH
def knownFl : List Fl := [("inbound", 0, 60, 90), ("outward", 100, 120, 150), ("shuttle", 10, 30, 100)]
def knownLk : List Lk := [("shuttle", "outward", 20)]
def knownC : Crs := [("inbound", 90), ("outward", 120), ("shuttle", 100)]
theorem known_times : fd_web_times [webD knownFl knownLk, crs knownC] = some (.lst [.tup [.str "inbound", .int 0, .int 90], .tup [.str "outward", .int 130, .int 250], .tup [.str "shuttle", .int 10, .int 110]], [webD knownFl knownLk, crs knownC]) := by
  kernel_rfl
end K71
namespace K71
open PySem DL LH
def poolA : List Str := ["ada", "bob", "cid", "dan", "eve", "fox", "gus", "hal", "ida", "jon"]
def poolB : List Str := ["a", "b", "c", "d", "e", "f", "g", "h", "i", "j"]
def poolC : List Str := ["a", "ab", "abc", "b", "ba", "c", "cab", "d", "dab", "e"]
theorem poolA_nodup : poolA.Nodup := by decide +kernel
theorem poolB_nodup : poolB.Nodup := by decide +kernel
theorem poolC_nodup : poolC.Nodup := by decide +kernel
theorem pools_str : ∀ n ∈ poolA ++ poolB ++ poolC, PyData.strOk n = true := by decide +kernel
theorem poolB_of : listD (.str "abcdefghij") = some (.lst (poolB.map D.str)) := by kernel_rfl
theorem word_ok {s : Str} (h1 : fd_is_word [.str s] = some (.bl true, [.str s])) (h2 : PyData.strOk s = true) : WordOk s := ⟨h1, h2⟩
theorem pools_word : ∀ n ∈ poolA ++ poolB ++ poolC, WordOk n := by
  have hs := pools_str
  have key : ∀ l : List Str, (l.map fun n => fd_is_word [.str n]) = (l.map fun n => some (.bl true, [.str n])) → ∀ n ∈ l, fd_is_word [.str n] = some (.bl true, [.str n]) := by
    intro l
    induction l with
    | nil => intro _ n hn; exact absurd hn (by simp)
    | cons a l ih =>
      intro e n hn
      simp only [List.map_cons, List.cons.injEq] at e
      rcases List.mem_cons.mp hn with z | z
      · rw [z]; exact e.1
      · exact ih e.2 n z
  have all : ((poolA ++ poolB ++ poolC).map fun n => fd_is_word [.str n]) = ((poolA ++ poolB ++ poolC).map fun n => some (.bl true, [.str n])) := by kernel_rfl
  exact fun n hn => word_ok (key _ all n hn) (hs n hn)
def Asc (l : List Str) : Prop := l.Pairwise fun a b => ltD (.str a) (.str b) = some (.bl true)
theorem asc_of : ∀ (l : List Str), (∀ (t : List Str) (a : Str), (a :: t) <:+ l → (t.map fun b => ltD (.str a) (.str b)) = t.map fun _ => some (.bl true)) → Asc l
  | [], _ => List.Pairwise.nil
  | a :: l, h => by
    have h0 := h l a (List.suffix_refl _)
    refine List.Pairwise.cons (fun b hb => ?_) (asc_of l fun t x hx => h t x (hx.trans (List.suffix_cons _ _)))
    obtain ⟨i, hi⟩ := List.mem_iff_getElem?.mp hb
    have := congrArg (fun z => z[i]?) h0
    simp only [List.getElem?_map, hi, Option.map_some] at this
    exact Option.some.inj this
theorem Asc.sub {l l' : List Str} (h : Asc l) (s : l'.Sublist l) : Asc l' := List.Pairwise.sublist s h
theorem asc_cons {a : Str} {l : List Str} (h : (l.map fun b => ltD (.str a) (.str b)) = l.map fun _ => some (.bl true)) (t : Asc l) : Asc (a :: l) := by
  refine List.Pairwise.cons (fun b hb => ?_) t
  obtain ⟨i, hi⟩ := List.mem_iff_getElem?.mp hb
  have := congrArg (fun z => z[i]?) h
  simp only [List.getElem?_map, hi, Option.map_some] at this
  exact Option.some.inj this
theorem poolA_asc : Asc poolA := by
  unfold poolA
  repeat first | exact List.Pairwise.nil | refine asc_cons (by kernel_rfl) ?_
theorem poolB_asc : Asc poolB := by
  unfold poolB
  repeat first | exact List.Pairwise.nil | refine asc_cons (by kernel_rfl) ?_
theorem poolC_asc : Asc poolC := by
  unfold poolC
  repeat first | exact List.Pairwise.nil | refine asc_cons (by kernel_rfl) ?_
end K71
namespace K71
open PySem DL LH
/-! ### webs whose links follow an order have one -/
theorem mem_round {names : List Str} {lk : List Lk} {F : List Str} {n : Str} (hn : n ∈ names) (hp : ∀ l ∈ lk, l.2.1 = n → l.1 ∈ F) : n ∈ roundO names lk F := by
  unfold roundO
  by_cases h : n ∈ F
  · exact List.mem_append_left _ h
  · refine List.mem_append_right _ (List.mem_filter.mpr ⟨List.mem_filter.mpr ⟨hn, by simpa using h⟩, ?_⟩)
    unfold predsIn
    refine List.all_eq_true.mpr fun l hl => ?_
    obtain ⟨h1, h2⟩ := List.mem_filter.mp hl
    simpa using hp l h1 (by simpa using h2)
theorem rounds_all {names : List Str} {lk : List Lk} : ∀ (os seen F : List Str), TopoR lk seen os → (∀ x ∈ seen, x ∈ F) → (∀ x ∈ os, x ∈ names) → ∀ x, x ∈ seen ∨ x ∈ os → x ∈ roundsO names lk os.length F
  | [], seen, F, _, hs, _, x, hx => hs x (hx.resolve_right (by simp))
  | n :: os, seen, F, ht, hs, hm, x, hx => by
    have hF : ∀ y ∈ F, y ∈ roundO names lk F := fun y hy => List.mem_append_left _ hy
    show x ∈ roundsO names lk os.length (roundO names lk F)
    refine rounds_all os (n :: seen) _ ht.2 (fun y hy => ?_) (fun y hy => hm y (List.mem_cons_of_mem _ hy)) x ?_
    · rcases List.mem_cons.mp hy with e | e
      · subst e; exact mem_round (hm _ List.mem_cons_self) fun l hl e => hs _ (ht.1 l hl e)
      · exact hF y (hs y e)
    · rcases hx with h | h
      · exact .inl (List.mem_cons_of_mem _ h)
      · rcases List.mem_cons.mp h with e | e
        · exact .inl (e ▸ List.mem_cons_self)
        · exact .inr e
theorem nodup_len : ∀ {a b : List Str}, a.Nodup → (∀ x ∈ a, x ∈ b) → a.length ≤ b.length
  | [], b, _, _ => Nat.zero_le _
  | y :: a, b, hn, hs => by
    have hy := hs y List.mem_cons_self
    obtain ⟨n1, n2⟩ := List.nodup_cons.mp hn
    have p := List.perm_cons_erase hy
    have s1 : ∀ z ∈ a, z ∈ b.erase y := fun z hz => by
      have hz' := p.mem_iff.mp (hs z (List.mem_cons_of_mem _ hz))
      rcases List.mem_cons.mp hz' with e | e
      · subst e; exact absurd hz n1
      · exact e
    have := nodup_len n2 s1
    have l := p.length_eq
    simp only [List.length_cons] at l ⊢
    omega
theorem inOrd_some {names : List Str} {lk : List Lk} (hn : names.Nodup) {os : List Str} (hp : os.Perm names) (ht : TopoR lk [] os) : ∃ o, inOrd names lk = some o := by
  have f : Found names lk (roundsO names lk names.length []) := found_rounds hn _ ⟨List.nodup_nil, fun n hn => absurd hn (by simp), trivial⟩
  have all := rounds_all (names := names) os [] [] ht (fun x hx => absurd hx (by simp)) (fun x hx => hp.mem_iff.mp hx)
  rw [hp.length_eq] at all
  have e : (roundsO names lk names.length []).length = names.length := Nat.le_antisymm (nodup_len f.nd f.sub) (nodup_len hn fun x hx => all x (.inr (hp.mem_iff.mpr hx)))
  exact ⟨_, if_pos e⟩
/-! ### a greater course, a link more: no gate is earlier -/
theorem maxI_le {l : List Int} {m b : Int} (h : m ≤ b) (k : ∀ x ∈ l, x ≤ b) : maxI m l ≤ b := by
  rcases (maxI_is l m).1 with e | e
  · rw [e]; exact h
  · exact k _ e
theorem maxI_ge {l : List Int} {m : Int} : m ≤ maxI m l := (maxI_is l m).2.1
theorem maxI_mem {l : List Int} {m x : Int} (h : x ∈ l) : x ≤ maxI m l := (maxI_is l m).2.2 x h
theorem waits_mem {lk : List Lk} {t : Tm} {n : Str} {x : Int} : x ∈ waitsOf lk t n ↔ ∃ l ∈ lk, l.2.1 = n ∧ endOf t l.1 + l.2.2 = x := by
  unfold waitsOf
  rw [List.mem_map]
  constructor
  · rintro ⟨l, h1, h2⟩
    obtain ⟨h3, h4⟩ := List.mem_filter.mp h1
    exact ⟨l, h3, by simpa using h4, h2⟩
  · rintro ⟨l, h1, h2, h3⟩
    exact ⟨l, List.mem_filter.mpr ⟨h1, by simpa using h2⟩, h3⟩
/-- t' is nowhere earlier -/
theorem cmp_ge {lk lk' : List Lk} {pl c c' : Crs} {t t' : Tm} (hl : ∀ l ∈ lk, l ∈ lk') (hc : ∀ n, valOf c n ≤ valOf c' n) : ∀ (os seen : List Str), TopoR lk' seen os → (∀ n, n ∈ seen ∨ n ∈ os → Fix lk pl c t n ∧ Fix lk' pl c' t' n) →
    (∀ n ∈ seen, gateOf t n ≤ gateOf t' n ∧ endOf t n ≤ endOf t' n) → ∀ n, n ∈ seen ∨ n ∈ os → gateOf t n ≤ gateOf t' n ∧ endOf t n ≤ endOf t' n
  | [], seen, _, _, hs, n, hn => hs n (hn.resolve_right (by simp))
  | m :: os, seen, ht, hf, hs, n, hn => by
    refine cmp_ge hl hc os (m :: seen) ht.2 (fun k hk => hf k ?_) (fun k hk => ?_) n ?_
    · rcases hk with z | z
      · rcases List.mem_cons.mp z with e | e
        · exact .inr (e ▸ List.mem_cons_self)
        · exact .inl e
      · exact .inr (List.mem_cons_of_mem _ z)
    · rcases List.mem_cons.mp hk with e | e
      · subst e
        obtain ⟨f1, f2⟩ := hf k (.inr List.mem_cons_self)
        obtain ⟨g1, g2⟩ := fix_gate f1
        obtain ⟨g3, g4⟩ := fix_gate f2
        have g : gateOf t k ≤ gateOf t' k := by
          rw [g1, g3]
          refine maxI_le maxI_ge fun x hx => ?_
          obtain ⟨l, h1, h2, h3⟩ := waits_mem.mp hx
          have h4 : endOf t' l.1 + l.2.2 ∈ waitsOf lk' t' k := waits_mem.mpr ⟨l, hl l h1, h2, rfl⟩
          have h5 := (hs l.1 (ht.1 l (hl l h1) h2)).2
          have h6 := maxI_mem (m := valOf pl k) h4
          omega
        have := hc k
        exact ⟨g, by omega⟩
      · exact hs k e
    · rcases hn with z | z
      · exact .inl (List.mem_cons_of_mem _ z)
      · rcases List.mem_cons.mp z with e | e
        · exact .inl (e ▸ List.mem_cons_self)
        · exact .inr e
/-- what is behind a flight: the least such set -/
structure Behind (lk : List Lk) (name : Str) (S : Str → Prop) : Prop where
  own : S name
  clo : ∀ l ∈ lk, S l.1 → S l.2.1
  gen : ∀ n, S n → n = name ∨ ∃ l ∈ lk, l.2.1 = n ∧ S l.1
theorem cmp_le {lk : List Lk} {pl c c' : Crs} {t t' : Tm} {name : Str} {S : Str → Prop} [DecidablePred S] {d : Int} (hd : 0 ≤ d) (B : Behind lk name S) (hc : ∀ n, n ≠ name → valOf c' n = valOf c n) (hn : valOf c' name = valOf c name + d) :
    ∀ (os seen : List Str), TopoR lk seen os → os.Nodup → (∀ x ∈ seen, x ∉ os) → (∀ n, n ∈ seen ∨ n ∈ os → Fix lk pl c t n ∧ Fix lk pl c' t' n) → (name ∉ seen → ∀ x ∈ seen, ¬ S x) →
    (∀ n ∈ seen, gateOf t' n ≤ gateOf t n + (if S n then d else 0) ∧ endOf t' n ≤ endOf t n + (if S n then d else 0)) →
    ∀ n, n ∈ seen ∨ n ∈ os → gateOf t' n ≤ gateOf t n + (if S n then d else 0) ∧ endOf t' n ≤ endOf t n + (if S n then d else 0)
  | [], seen, _, _, _, _, _, hs, n, hn => hs n (hn.resolve_right (by simp))
  | m :: os, seen, ht, hnd, hdj, hf, hb, hs, n, hmem => by
    obtain ⟨d1, d2⟩ := List.nodup_cons.mp hnd
    have ms : m ∉ seen := fun z => hdj m z List.mem_cons_self
    obtain ⟨f1, f2⟩ := hf m (.inr List.mem_cons_self)
    obtain ⟨g1, g2⟩ := fix_gate f1
    obtain ⟨g3, g4⟩ := fix_gate f2
    refine cmp_le hd B hc hn os (m :: seen) ht.2 d2 (fun x hx => ?_) (fun k hk => hf k ?_) (fun hns x hx => ?_) (fun k hk => ?_) n ?_
    · rcases List.mem_cons.mp hx with e | e
      · subst e; exact d1
      · exact fun z => hdj x e (List.mem_cons_of_mem _ z)
    · rcases hk with z | z
      · rcases List.mem_cons.mp z with e | e
        · exact .inr (e ▸ List.mem_cons_self)
        · exact .inl e
      · exact .inr (List.mem_cons_of_mem _ z)
    · have h1 : name ≠ m := fun e => hns (e ▸ List.mem_cons_self)
      have h2 : name ∉ seen := fun e => hns (List.mem_cons_of_mem _ e)
      rcases List.mem_cons.mp hx with e | e
      · subst e
        intro hS
        rcases B.gen x hS with z | ⟨l, l1, l2, l3⟩
        · exact h1 z.symm
        · exact hb h2 _ (ht.1 l l1 l2) l3
      · exact hb h2 x e
    · rcases List.mem_cons.mp hk with e | e
      · subst e
        by_cases hm : k = name
        · subst hm
          have g : gateOf t' k ≤ gateOf t k := by
            rw [g1, g3]
            refine maxI_le maxI_ge fun x hx => ?_
            obtain ⟨l, h1, h2, h3⟩ := waits_mem.mp hx
            have hse := ht.1 l h1 h2
            have h4 : endOf t l.1 + l.2.2 ∈ waitsOf lk t k := waits_mem.mpr ⟨l, h1, h2, rfl⟩
            have h5 := (hs l.1 hse).2
            rw [if_neg (hb ms _ hse)] at h5
            have h6 := maxI_mem (m := valOf pl k) h4
            omega
          rw [if_pos B.own]
          exact ⟨by omega, by omega⟩
        · have g : gateOf t' k ≤ gateOf t k + (if S k then d else 0) := by
            rw [g1, g3]
            have h0 : 0 ≤ (if S k then d else 0) := by split <;> omega
            refine maxI_le ?_ fun x hx => ?_
            · have := maxI_ge (l := waitsOf lk t k) (m := valOf pl k)
              omega
            · obtain ⟨l, h1, h2, h3⟩ := waits_mem.mp hx
              have hse := ht.1 l h1 h2
              have h4 : endOf t l.1 + l.2.2 ∈ waitsOf lk t k := waits_mem.mpr ⟨l, h1, h2, rfl⟩
              have h5 := (hs l.1 hse).2
              have h6 := maxI_mem (m := valOf pl k) h4
              have h7 : (if S l.1 then d else 0) ≤ (if S k then d else 0) := by
                by_cases z : S l.1
                · have := B.clo l h1 z
                  rw [h2] at this
                  rw [if_pos z, if_pos this]; exact Int.le_refl _
                · rw [if_neg z]; exact h0
              omega
          have := hc k hm
          exact ⟨g, by omega⟩
      · exact hs k e
    · rcases hmem with z | z
      · exact .inl (List.mem_cons_of_mem _ z)
      · rcases List.mem_cons.mp z with e | e
        · exact .inl (e ▸ List.mem_cons_self)
        · exact .inr e
/-! ### the law's set of flights behind -/
def behStep (lk : List Lk) (b : List Str) : List Str := b ++ (lk.filter fun l => b.contains l.1 && !b.contains l.2.1).map (·.2.1)
def behN (lk : List Lk) : Nat → List Str → List Str
  | 0, b => b
  | k + 1, b => behN lk k (behStep lk b)
theorem behN_succ (lk : List Lk) : ∀ (k : Nat) (b : List Str), behN lk (k + 1) b = behStep lk (behN lk k b)
  | 0, b => rfl
  | k + 1, b => behN_succ lk k (behStep lk b)
theorem beh_mem {lk : List Lk} {b : List Str} {x : Str} : x ∈ behStep lk b ↔ x ∈ b ∨ ∃ l ∈ lk, l.2.1 = x ∧ l.1 ∈ b := by
  unfold behStep
  rw [List.mem_append, List.mem_map]
  constructor
  · rintro (h | ⟨l, h1, h2⟩)
    · exact .inl h
    · obtain ⟨h3, h4⟩ := List.mem_filter.mp h1
      rw [Bool.and_eq_true] at h4
      exact .inr ⟨l, h3, h2, by simpa using h4.1⟩
  · rintro (h | ⟨l, h1, h2, h3⟩)
    · exact .inl h
    · by_cases z : x ∈ b
      · exact .inl z
      · exact .inr ⟨l, List.mem_filter.mpr ⟨h1, by rw [h2]; simpa using ⟨h3, z⟩⟩, h2⟩
theorem beh_le (lk : List Lk) (b : List Str) {x : Str} : ∀ {k m : Nat}, k ≤ m → x ∈ behN lk k b → x ∈ behN lk m b := by
  intro k m h hx
  obtain ⟨j, rfl⟩ := Nat.exists_eq_add_of_le h
  induction j with
  | zero => exact hx
  | succ j ih =>
    rw [show k + (j + 1) = (k + j) + 1 from rfl, behN_succ]
    exact beh_mem.mpr (.inl (ih (by omega)))
theorem beh_pos {lk : List Lk} {b : List Str} : ∀ (os seen : List Str), TopoR lk seen os → (∀ x ∈ seen, ∀ k, x ∈ behN lk k b → x ∈ behN lk seen.length b) → (∀ x ∈ os, ∀ k, x ∈ behN lk k b → x ∈ behN lk (seen.length + os.length) b) ∧ ∀ x ∈ seen, ∀ k, x ∈ behN lk k b → x ∈ behN lk (seen.length + os.length) b
  | [], seen, _, h => ⟨fun x hx => absurd hx (by simp), fun x hx k hk => h x hx k hk⟩
  | n :: os, seen, ht, h => by
    have hn : ∀ k, n ∈ behN lk k b → n ∈ behN lk (seen.length + 1) b := by
      intro k
      induction k with
      | zero => exact fun hk => beh_le lk b (Nat.zero_le _) hk
      | succ k ih =>
        intro hk
        rw [behN_succ] at hk
        rcases beh_mem.mp hk with z | ⟨l, h1, h2, h3⟩
        · exact ih z
        · rw [behN_succ]
          exact beh_mem.mpr (.inr ⟨l, h1, h2, h _ (ht.1 l h1 h2) k h3⟩)
    obtain ⟨i1, i2⟩ := beh_pos (b := b) os (n :: seen) ht.2 (fun x hx k hk => by
      rcases List.mem_cons.mp hx with e | e
      · subst e; exact hn k hk
      · exact beh_le lk b (Nat.le_succ _) (h x e k hk))
    have e : (n :: seen).length + os.length = seen.length + (n :: os).length := by simp only [List.length_cons]; omega
    rw [e] at i1 i2
    refine ⟨fun x hx k hk => ?_, fun x hx k hk => i2 x (List.mem_cons_of_mem _ hx) k hk⟩
    rcases List.mem_cons.mp hx with z | z
    · exact i2 x (z ▸ List.mem_cons_self) k hk
    · exact i1 x z k hk
theorem beh_gen {lk : List Lk} {b : List Str} : ∀ (k : Nat) (x : Str), x ∈ behN lk k b → x ∈ b ∨ ∃ l ∈ lk, l.2.1 = x ∧ ∃ j, j < k ∧ l.1 ∈ behN lk j b
  | 0, x, h => .inl h
  | k + 1, x, h => by
    rw [behN_succ] at h
    rcases beh_mem.mp h with z | ⟨l, h1, h2, h3⟩
    · rcases beh_gen k x z with y | ⟨l, h1, h2, j, h3, h4⟩
      · exact .inl y
      · exact .inr ⟨l, h1, h2, j, by omega, h4⟩
    · exact .inr ⟨l, h1, h2, k, by omega, h3⟩
/-- as many rounds as flights: all that is behind -/
theorem behind_ok {lk : List Lk} {o : List Str} (ht : TopoR lk [] o) (ho : ∀ l ∈ lk, l.2.1 ∈ o) (name : Str) : Behind lk name (fun x => x ∈ behN lk o.length [name]) := by
  obtain ⟨h1, _⟩ := beh_pos (b := [name]) o [] ht (fun x hx => absurd hx (by simp))
  rw [List.length_nil, Nat.zero_add] at h1
  refine ⟨beh_le lk _ (Nat.zero_le _) (show name ∈ [name] by simp), fun l hl hS => ?_, fun n hS => ?_⟩
  · exact h1 _ (ho l hl) (o.length + 1) (by rw [behN_succ]; exact beh_mem.mpr (.inr ⟨l, hl, rfl, hS⟩))
  · rcases beh_gen _ _ hS with z | ⟨l, l1, l2, j, l3, l4⟩
    · exact .inl (by simpa using z)
    · exact .inr ⟨l, l1, l2, beh_le lk _ (Nat.le_of_lt l3) l4⟩
end K71
namespace K71
open PySem DL LH
/-! ### sorted lists of links -/
def pyL (l : Lk) : PyData := .tuple [.str l.1, .str l.2.1, .int l.2.2]
theorem toPy_L (l : Lk) : toPy (encL l) = some (pyL l) := rfl
theorem toPys_L : ∀ lk : List Lk, toPys (lk.map encL) = some (lk.map pyL)
  | [] => rfl
  | l :: lk => by
    rw [List.map_cons, List.map_cons, toPys, toPy_L, Option.bind_some, toPys_L lk]
    rfl
def leL (a b : Lk) : Bool := !PySem.W.dataLt (pyL b) (pyL a)
theorem alike_L (a b : Lk) : PySem.W.alike (pyL a) (pyL b) = true := by
  simp [pyL, PySem.W.alike, PySem.W.alikeAll]
theorem depth_L (a : Lk) : (pyL a).depth ≤ 60 := by
  simp [pyL, PyData.depth, PyData.depthAll]
theorem sortB_L (lk : List Lk) : sortB (lk.map pyL) = true := by
  unfold sortB alikeB
  rw [Bool.and_eq_true, Bool.and_eq_true, Bool.or_eq_true]
  refine ⟨?_, .inl ?_, ?_⟩
  · rw [List.all_map]
    refine List.all_eq_true.mpr fun a _ => ?_
    show ((lk.map pyL).all fun b => PySem.W.alike (pyL a) b) = true
    rw [List.all_map]
    exact List.all_eq_true.mpr fun b _ => alike_L a b
  · rw [List.all_map]
    exact List.all_eq_true.mpr fun b _ => rfl
  · rw [List.all_map]
    exact List.all_eq_true.mpr fun b _ => decide_eq_true (depth_L b)
theorem sort_L (lk : List Lk) : sortD (lkD lk) = some (lkD (lk.mergeSort leL)) := by
  show ((toPys (lk.map encL)).bind fun ps => if sortB ps = true then some (D.lst ((((lk.map encL).zip ps).mergeSort (PySem.W.dataLe false Prod.snd)).map Prod.fst)) else none) = _
  rw [toPys_L, Option.bind_some, if_pos (sortB_L lk)]
  have z : (lk.map encL).zip (lk.map pyL) = lk.map fun l => (encL l, pyL l) := by
    induction lk with
    | nil => rfl
    | cons l lk ih => simp only [List.map_cons, List.zip_cons_cons, ih]
  have m := List.map_mergeSort (r := leL) (s := PySem.W.dataLe false Prod.snd) (f := fun l : Lk => (encL l, pyL l)) (l := lk) (fun a _ b _ => rfl)
  rw [z, ← m, List.map_map]
  rfl
theorem leL_trans (a b c : Lk) (h : leL a b = true) (k : leL b c = true) : leL a c = true := by
  unfold leL at *
  rw [Bool.not_eq_true'] at *
  cases q : PySem.W.dataLt (pyL c) (pyL a) with
  | false => rfl
  | true =>
    rcases PyProof.Rows.lex_negTrans _ (PySem.W.keyToks (pyL b)) _ q with z | z
    · have : PySem.W.dataLt (pyL c) (pyL b) = true := z
      rw [k] at this; cases this
    · have : PySem.W.dataLt (pyL b) (pyL a) = true := z
      rw [h] at this; cases this
theorem leL_total (a b : Lk) : (leL a b || leL b a) = true := by
  unfold leL
  cases h : PySem.W.dataLt (pyL b) (pyL a) with
  | false => rfl
  | true =>
    cases k : PySem.W.dataLt (pyL a) (pyL b) with
    | false => rfl
    | true =>
      have := PyProof.Rows.lex_trans _ _ _ h k
      rw [PyProof.Rows.lex_irrefl] at this
      cases this
theorem str_total {x y : Str} (h : PySem.W.dataLt (.str x) (.str y) = false) (hne : x ≠ y) : PySem.W.dataLt (.str y) (.str x) = true := by
  cases k : PySem.W.dataLt (.str y) (.str x) with
  | true => rfl
  | false =>
    have := PyProof.Rows.lex_total _ _ h k
    simp only [PySem.W.keyToks, List.cons.injEq, Sum.inr.injEq, and_true] at this
    exact absurd (PySem.W.str_of_cps this) hne
theorem eqv_str (x y : Str) : PyData.eqv (.str x) (.str y) = (x == y) := by simp [PyData.eqv]
/-- in order, and not of one pair: less by the pair -/
theorem pair_lt {a b : Lk} (h : leL a b = true) (hne : (a.1, a.2.1) ≠ (b.1, b.2.1)) : ltD (.tup [.str a.1, .str a.2.1]) (.tup [.str b.1, .str b.2.1]) = some (.bl true) := by
  obtain ⟨a1, a2, a3⟩ := a
  obtain ⟨b1, b2, b3⟩ := b
  have al : ∀ x y : Str, PySem.W.alike (.str x) (.str y) = true := fun x y => by simp [PySem.W.alike]
  have h' : PySem.W.dataLt (pyL (b1, b2, b3)) (pyL (a1, a2, a3)) = false := by unfold leL at h; rw [Bool.not_eq_true'] at h; exact h
  unfold pyL at h'
  rw [PySem.W.dataLt_tuple, PySem.W.dataLt_cons (al _ _), PySem.W.dataLt_cons (al _ _), eqv_str, eqv_str] at h'
  have q : PySem.W.dataLt (.tuple [.str a1, .str a2]) (.tuple [.str b1, .str b2]) = true := by
    rw [PySem.W.dataLt_pair (al _ _) (al _ _), eqv_str, eqv_str]
    by_cases e1 : a1 = b1
    · subst e1
      have e2 : a2 ≠ b2 := fun z => hne (by rw [z])
      simp only [beq_self_eq_true, if_true] at h' ⊢
      rw [if_neg (by simpa using fun z => e2 z.symm)] at h'
      rw [if_neg (by simpa using e2)]
      exact str_total h' (Ne.symm e2)
    · rw [if_neg (by simpa using fun z => e1 z.symm)] at h'
      rw [if_neg (by simpa using e1)]
      exact str_total h' (Ne.symm e1)
  have t : ∀ x y : Str, toPy (.tup [.str x, .str y]) = some (.tuple [.str x, .str y]) := fun _ _ => rfl
  show ((toPy (.tup [.str a1, .str a2])).bind fun a => (toPy (.tup [.str b1, .str b2])).bind fun b => if (PySem.W.alike a b && (decide (a.depth ≤ 60) && ltD.flatP a)) = true then some (D.bl (PySem.W.dataLt a b)) else none) = _
  rw [t, t, Option.bind_some, Option.bind_some, q, if_pos (by simp [PySem.W.alike, PySem.W.alikeAll, PyData.depth, PyData.depthAll, ltD.flatP])]
theorem sorted_lasc {lk : List Lk} (hn : (lk.map fun l => (l.1, l.2.1)).Nodup) : ∀ (i : Nat) (a b : Lk), (lk.mergeSort leL)[i]? = some a → (lk.mergeSort leL)[i + 1]? = some b → ltD (.tup [.str a.1, .str a.2.1]) (.tup [.str b.1, .str b.2.1]) = some (.bl true) := fun i a b ha hb => by
  have s := List.pairwise_mergeSort leL_trans leL_total lk
  have p : ((lk.mergeSort leL).map fun l => (l.1, l.2.1)).Nodup := ((List.mergeSort_perm lk leL).map _).nodup_iff.mpr hn
  have hi : i + 1 < (lk.mergeSort leL).length := (List.getElem?_eq_some_iff.mp hb).1
  have ea : (lk.mergeSort leL)[i] = a := (List.getElem?_eq_some_iff.mp ha).2
  have eb : (lk.mergeSort leL)[i + 1] = b := (List.getElem?_eq_some_iff.mp hb).2
  refine pair_lt ?_ ?_
  · have := List.pairwise_iff_getElem.mp s i (i + 1) (by omega) hi (by omega)
    rw [ea, eb] at this
    exact this
  · have := List.pairwise_iff_getElem.mp p i (i + 1) (by rw [List.length_map]; omega) (by rw [List.length_map]; exact hi) (by omega)
    simp only [List.getElem_map, ea, eb] at this
    exact this
end K71
namespace K71
open PySem DL LH
theorem uio_t {j : Nat} {fs : FA} {F : FD} {env env1 ds r : List D} {d0 d d' : D} (hf : fs env = some (ds, env1)) (h0 : env1[j]? = some d0) (hF : F (d0 :: ds) = some (d, d' :: r)) : ucallIO j fs F env = some (d, env1.set j d') := by
  unfold ucallIO
  simp only [hf, Option.bind_some, h0, hF]
theorem mutE_t {j : Nat} {fs : FA} {g : List D → List D → Option (List D × D)} {env env1 es ds ds' x : List D} {d : D} (h0 : env[j]? = some (.lst x)) (hf : fs env = some (es, env1)) (h1 : env1[j]? = some (.lst ds)) (hg : g ds es = some (ds', d)) : mutE j fs g env = some (d, env1.set j (.lst ds')) := by
  unfold mutE
  rw [h0]
  show (if true = true then mutF j fs g env else none) = _
  rw [if_pos rfl]
  unfold mutF
  simp only [hf, Option.bind_some, h1, hg, Option.map_some]
/-- a draw from the purse in slot 0 -/
theorem dr {n : Nat} {p : D} {m : Int} {f : FE} {env env1 : List D} (h : Pu (n + 40) p) (hm : 0 < m) (hb : Bd 1000 m) (hf : f env = some (.int m, env1)) (h0 : env1[0]? = some p) : ∃ d p', ucallIO 0 (consF f nilF) fd__law_draw env = some (.int d, env1.set 0 p') ∧ 0 ≤ d ∧ d < m ∧ Pu n p' :=
  draw_io h hm hb (consF_t hf rfl) h0
theorem bdc {m : Int} (h0 : 0 ≤ m) (h : m < 2 ^ 60) : Bd 1000 m := (Bd.of (n := 60) h0 h).mono (by decide)
theorem idx_in {i : Int} {l : Nat} (h0 : 0 ≤ i) (h1 : i < l) : seqIndex? i l = some i.toNat := by
  unfold seqIndex?
  simp only
  have e : ¬ i < 0 := by omega
  simp only [e, if_false]
  rw [if_pos (by simp; omega)]
theorem map_erase {α β : Type} (f : α → β) : ∀ (l : List α) (i : Nat), (l.map f).eraseIdx i = (l.eraseIdx i).map f
  | [], _ => rfl
  | _ :: _, 0 => rfl
  | a :: l, i + 1 => by
    rw [List.map_cons, List.eraseIdx_cons_succ, List.eraseIdx_cons_succ, List.map_cons, map_erase f l i]
structure NamesOk (ns : List Str) : Prop where
  ne : 0 < ns.length
  le : ns.length ≤ 10
  asc : Asc ns
  nd : ns.Nodup
  word : ∀ n ∈ ns, WordOk n
def popC : FT := tstF (bin2 (callF (consF (varF 3) nilF) (one lenD)) (varF 1) (cmpD gtI gtS))
def popBody : FS := dropF (mutE 3 (consF (ucallIO 0 (consF (callF (consF (varF 3) nilF) (one lenD)) nilF) fd__law_draw) nilF) popAtD)
theorem len_nm (l : List Str) : lenD (nmD l) = some (.int l.length) := by show some (D.int ((l.map D.str).length : Int)) = _; rw [List.length_map]
theorem pop_step {n : Nat} {p m pool : D} {xs : List Str} (h : Pu (n + 40) p) (hx : 0 < xs.length) (hz : xs.length ≤ 10) : ∃ i p', popBody [p, m, pool, nmD xs] = some (.nx [p', m, pool, nmD (xs.eraseIdx i)]) ∧ Pu n p' ∧ i < xs.length := by
  have f1 : callF (consF (varF 3) nilF) (one lenD) [p, m, pool, nmD xs] = some (.int xs.length, [p, m, pool, nmD xs]) := by
    have := len_nm xs
    simp only [defF, seqF, iteF', setF, retF, dropF, skipF, bin2, un1, callF, ucallF, withF, consF, nilF, varF, conF, one, two, tstF, andF, orF, notF, andV, orV, notV, ifF, chainF, asgF, List.cons_append, List.nil_append, List.replicate, List.getElem?_cons_zero, List.getElem?_cons_succ, Option.map_some, Option.bind_some, if_true, if_false, Bool.false_eq_true, List.set_cons_zero, List.set_cons_succ, Bool.not_true, Bool.not_false, backD, this]
  obtain ⟨d, p', e1, e2, e3, e4⟩ := dr h (by omega) (bdc (by omega) (by omega)) f1 rfl
  refine ⟨d.toNat, p', ?_, e4, by omega⟩
  have hk : d.toNat < (xs.map D.str).length := by rw [List.length_map]; omega
  have g : popAtD (xs.map D.str) [.int d] = some ((xs.map D.str).eraseIdx d.toNat, (xs.map D.str)[d.toNat]) := by
    show (if d.natAbs < 2 ^ 63 then (seqIndex? d (xs.map D.str).length).bind fun k => ((xs.map D.str)[k]?).map fun x => ((xs.map D.str).eraseIdx k, x) else none) = _
    rw [if_pos (by omega), idx_in e2 (by rw [List.length_map]; exact e3), Option.bind_some, List.getElem?_eq_getElem hk]
    rfl
  have q := mutE_t (j := 3) (env := [p, m, pool, nmD xs]) (env1 := [p', m, pool, nmD xs]) rfl (consF_t (fs := nilF) (ds := []) e1 rfl) rfl g
  refine (dropF_t q).trans ?_
  show some (Out.nx [p', m, pool, D.lst ((xs.map D.str).eraseIdx d.toNat)]) = some (Out.nx [p', m, pool, D.lst ((xs.eraseIdx d.toNat).map D.str)])
  rw [map_erase]
theorem pop_loop {n many : Nat} {pool : D} (hm : 1 ≤ many) : ∀ (k f : Nat) (xs : List Str) (p : D), k < f → xs.length = many + k → xs.length ≤ 10 → Pu (n + 40 * k) p → ∃ ys p', whileF popC popBody f [p, .int many, pool, nmD xs] = some (.nx [p', .int many, pool, nmD ys]) ∧ ys.Sublist xs ∧ ys.length = many ∧ Pu n p'
  | k, 0, xs, p, h, _, _, _ => absurd h (by omega)
  | 0, f + 1, xs, p, _, hl, hz, h => by
    refine ⟨xs, p, ?_, List.Sublist.refl _, hl, h⟩
    have c : popC [p, .int many, pool, nmD xs] = some (false, [p, .int many, pool, nmD xs]) := by
      have l := len_nm xs
      have g : gtI (xs.length : Int) many = false := decide_eq_false (by omega)
      unfold popC
      simp only [defF, seqF, iteF', setF, retF, dropF, skipF, bin2, un1, callF, ucallF, withF, consF, nilF, varF, conF, one, two, tstF, andF, orF, notF, andV, orV, notV, ifF, chainF, asgF, List.cons_append, List.nil_append, List.replicate, List.getElem?_cons_zero, List.getElem?_cons_succ, Option.map_some, Option.bind_some, if_true, if_false, Bool.false_eq_true, List.set_cons_zero, List.set_cons_succ, Bool.not_true, Bool.not_false, backD, l, cmpD, g]
    unfold whileF
    rw [c, Option.bind_some]
    rfl
  | k + 1, f + 1, xs, p, hk, hl, hz, h => by
    have c : popC [p, .int many, pool, nmD xs] = some (true, [p, .int many, pool, nmD xs]) := by
      have l := len_nm xs
      have g : gtI (xs.length : Int) many = true := decide_eq_true (by omega)
      unfold popC
      simp only [defF, seqF, iteF', setF, retF, dropF, skipF, bin2, un1, callF, ucallF, withF, consF, nilF, varF, conF, one, two, tstF, andF, orF, notF, andV, orV, notV, ifF, chainF, asgF, List.cons_append, List.nil_append, List.replicate, List.getElem?_cons_zero, List.getElem?_cons_succ, Option.map_some, Option.bind_some, if_true, if_false, Bool.false_eq_true, List.set_cons_zero, List.set_cons_succ, Bool.not_true, Bool.not_false, backD, l, cmpD, g]
    obtain ⟨i, p1, s1, s2, s3⟩ := pop_step (n := n + 40 * k) (m := .int many) (pool := pool) (xs := xs) (h.mono (by omega)) (by omega) hz
    have le : (xs.eraseIdx i).length = many + k := by rw [List.length_eraseIdx_of_lt s3]; omega
    obtain ⟨ys, p', i1, i2, i3, i4⟩ := pop_loop (n := n) (pool := pool) hm k f (xs.eraseIdx i) p1 (by omega) le (by omega) s2
    refine ⟨ys, p', ?_, i2.trans (List.eraseIdx_sublist _ _), i3, i4⟩
    unfold whileF
    rw [c, Option.bind_some]
    simp only [if_true]
    rw [s1, Option.bind_some]
    exact i1
theorem pools_ok : ∀ ns : List Str, ns = poolA ∨ ns = poolB ∨ ns = poolC → NamesOk ns ∧ ns.length = 10 := by
  have w := pools_word
  rintro ns (rfl | rfl | rfl)
  · exact ⟨⟨by decide, by decide, poolA_asc, poolA_nodup, fun n hn => w n (List.mem_append_left _ (List.mem_append_left _ hn))⟩, rfl⟩
  · exact ⟨⟨by decide, by decide, poolB_asc, poolB_nodup, fun n hn => w n (List.mem_append_left _ (List.mem_append_right _ hn))⟩, rfl⟩
  · exact ⟨⟨by decide, by decide, poolC_asc, poolC_nodup, fun n hn => w n (List.mem_append_right _ hn)⟩, rfl⟩
theorem names_law {n many : Nat} {p : D} (h : Pu (n + 440) p) (h1 : 1 ≤ many) (h2 : many ≤ 10) : ∃ ns p', fd__law_names [p, .int many] = some (nmD ns, [p', .int many]) ∧ NamesOk ns ∧ Pu n p' := by
  obtain ⟨d, p1, e1, e2, e3⟩ := one_of_ok (n := n + 400) (p := p) (ds := [nmD poolA, nmD poolB, nmD poolC]) (h.mono (by omega)) (by simp) (by simp)
  obtain ⟨ns, rfl, hns⟩ : ∃ ns, d = nmD ns ∧ (ns = poolA ∨ ns = poolB ∨ ns = poolC) := by
    simp only [List.mem_cons, List.not_mem_nil, or_false] at e2
    rcases e2 with e | e | e
    · exact ⟨_, e, .inl rfl⟩
    · exact ⟨_, e, .inr (.inl rfl)⟩
    · exact ⟨_, e, .inr (.inr rfl)⟩
  obtain ⟨ok, len⟩ := pools_ok ns hns
  obtain ⟨ys, p2, i1, i2, i3, i4⟩ := pop_loop (n := n) (pool := nmD ns) h1 (10 - many) 1000 ns p1 (by omega) (by omega) (by omega) (e3.mono (by omega))
  have pb := poolB_of
  refine ⟨ys, p2, ?_, ⟨by omega, by omega, ok.asc.sub i2, i2.nodup ok.nd, fun n hn => ok.word n (i2.subset hn)⟩, i4⟩
  refine defF_r (e1 := [p2, .int many, nmD ns, nmD ys]) ?_
  show g__law_names [p, .int many, .non, .non] = _
  refine seqF_t (e1 := [p1, .int many, nmD ns, .non]) (setF_t (e1 := [p1, .int many, .non, .non]) (uio_t (env1 := [p, .int many, .non, .non]) (ds := [.lst [nmD poolA, nmD poolB, nmD poolC]]) ?_ rfl e1)) (seqF_t (e1 := [p1, .int many, nmD ns, nmD ns]) (setF_t (e1 := [p1, .int many, nmD ns, .non]) (call1_t (x := nmD ns) rfl rfl)) (seqF_t i1 rfl))
  simp only [defF, seqF, iteF', setF, retF, dropF, skipF, bin2, un1, callF, ucallF, withF, consF, nilF, varF, conF, one, two, tstF, andF, orF, notF, andV, orV, notV, ifF, chainF, asgF, List.cons_append, List.nil_append, List.replicate, List.getElem?_cons_zero, List.getElem?_cons_succ, Option.map_some, Option.bind_some, if_true, if_false, Bool.false_eq_true, List.set_cons_zero, List.set_cons_succ, Bool.not_true, Bool.not_false, backD, lstD, pb]
  rfl
end K71
namespace K71
open PySem DL LH
/-- one of a given list, then a draw below it -/
theorem one_draw {n : Nat} {p : D} {ds : List D} {f : FE} {env env1 : List D} (h : Pu (n + 80) p) (hd : ∀ d ∈ ds, ∃ m : Int, d = .int m ∧ 0 < m ∧ m ≤ 10 ^ 9) (h0 : ds ≠ []) (hl : ds.length < 2 ^ 20) (hf : f env = some (.lst ds, env1)) (hp : env1[0]? = some p) :
    ∃ m d p', ucallIO 0 (consF (ucallIO 0 (consF f nilF) fd__law_one_of) nilF) fd__law_draw env = some (.int d, env1.set 0 p') ∧ .int m ∈ ds ∧ 0 ≤ d ∧ d < m ∧ Pu n p' := by
  obtain ⟨d, p1, e1, e2, e3⟩ := one_of_ok (n := n + 40) (p := p) (h.mono (by omega)) h0 hl
  obtain ⟨m, rfl, m0, m1⟩ := hd d e2
  have f1 : ucallIO 0 (consF f nilF) fd__law_one_of env = some (.int m, env1.set 0 p1) := uio_t (consF_t hf rfl) hp e1
  have hg : (env1.set 0 p1)[0]? = some p1 := by
    have : 0 < env1.length := (List.getElem?_eq_some_iff.mp hp).1
    rw [List.getElem?_set_self this]
  obtain ⟨d, p', a1, a2, a3, a4⟩ := dr (n := n) (e3.mono (by omega)) m0 (bdc (by omega) (by omega)) f1 hg
  exact ⟨m, d, p', by rw [a1, List.set_set], e2, a2, a3, a4⟩
def flBody : FS := (seqF (setF 9 (bin2 (conF (.int 1)) (ucallIO 0 (consF (ucallIO 0 (consF (callF (consF (conF (.int 3)) (consF (conF (.int 30)) (consF (varF 3) nilF))) lstD) nilF) fd__law_one_of) nilF) fd__law_draw) addD))
  (dropF (mutE 5 (consF (callF (consF (varF 8) (consF (bin2 (ucallIO 0 (consF (conF (.int 60)) nilF) fd__law_draw) (conF (.int 20)) (intOp0 fun i j => i - j)) (consF (varF 9) (consF (bin2 (varF 9) (ucallIO 0 (consF (varF 2) nilF) fd__law_draw) addD) nilF)))) tupD) nilF) appD)))
/-- a flight as the law draws it -/
def FlOk (f : Fl) : Prop := f.2.1.natAbs ≤ 100 ∧ 1 ≤ f.2.2.1 ∧ f.2.2.1 ≤ f.2.2.2 ∧ f.2.2.2 ≤ 10 ^ 7
theorem fl_step {n : Nat} {p m wD fD a4 a6 a7 a9 a10 a11 a12 : D} {wide far : Int} {fl : List Fl} {nm : Str} (h : Pu (n + 160) p) (hw : wD = .int wide) (hf : fD = .int far) (w0 : 0 < wide) (w1 : wide ≤ 10 ^ 6) (f0 : 0 < far) (f1 : far ≤ 10 ^ 6) (hz : fl.length ≤ 1000) :
    ∃ (f : Fl) (p' x9 : D), flBody [p, m, wD, fD, a4, .lst (fl.map encF), a6, a7, .str nm, a9, a10, a11, a12] = some (.nx [p', m, wD, fD, a4, .lst ((fl ++ [f]).map encF), a6, a7, .str nm, x9, a10, a11, a12]) ∧ f.1 = nm ∧ FlOk f ∧ Pu n p' := by
  subst hw hf
  obtain ⟨mm, d, p1, e1, e2, e3, e4, e5⟩ := one_draw (n := n + 80) (ds := [.int 3, .int 30, .int far]) (f := callF (consF (conF (.int 3)) (consF (conF (.int 30)) (consF (varF 3) nilF))) lstD) (env := [p, m, .int wide, .int far, a4, .lst (fl.map encF), a6, a7, .str nm, a9, a10, a11, a12]) (env1 := [p, m, .int wide, .int far, a4, .lst (fl.map encF), a6, a7, .str nm, a9, a10, a11, a12]) (h.mono (by omega)) (fun d hd => by
    simp only [List.mem_cons, List.not_mem_nil, or_false] at hd
    rcases hd with rfl | rfl | rfl
    · exact ⟨_, rfl, by omega, by omega⟩
    · exact ⟨_, rfl, by omega, by omega⟩
    · exact ⟨_, rfl, f0, by omega⟩) (by simp) (by simp) rfl rfl
  have hmm : mm ≤ 10 ^ 6 := by
    simp only [List.mem_cons, List.not_mem_nil, or_false, D.int.injEq] at e2
    rcases e2 with e | e | e <;> omega
  have s1 : setF 9 (bin2 (conF (.int 1)) (ucallIO 0 (consF (ucallIO 0 (consF (callF (consF (conF (.int 3)) (consF (conF (.int 30)) (consF (varF 3) nilF))) lstD) nilF) fd__law_one_of) nilF) fd__law_draw) addD) [p, m, .int wide, .int far, a4, .lst (fl.map encF), a6, a7, .str nm, a9, a10, a11, a12] = some (.nx [p1, m, .int wide, .int far, a4, .lst (fl.map encF), a6, a7, .str nm, .int (1 + d), a10, a11, a12]) :=
    setF_t (bin2_t rfl e1 rfl)
  obtain ⟨d2, p2, g1, g2, g3, g4⟩ := dr (n := n + 40) (m := 60) (f := conF (.int 60)) (env := [p1, m, .int wide, .int far, a4, .lst (fl.map encF), a6, a7, .str nm, .int (1 + d), a10, a11, a12]) (e5.mono (by omega)) (by decide) (bdc (by decide) (by decide)) rfl rfl
  obtain ⟨d3, p3, k1, k2, k3, k4⟩ := dr (n := n) (m := wide) (f := varF 2) (env := [p2, m, .int wide, .int far, a4, .lst (fl.map encF), a6, a7, .str nm, .int (1 + d), a10, a11, a12]) (g4.mono (by omega)) w0 (bdc (by omega) (by omega)) rfl rfl
  refine ⟨(nm, d2 - 20, 1 + d, 1 + d + d3), p3, .int (1 + d), seqF_t s1 ?_, rfl, ⟨?_, ?_, ?_, ?_⟩, k4⟩
  · have ap : appD (fl.map encF) [encF (nm, d2 - 20, 1 + d, 1 + d + d3)] = some ((fl ++ [(nm, d2 - 20, 1 + d, 1 + d + d3)]).map encF, .non) := by
      show (if (fl.map encF).length < 16777216 then some _ else none) = _
      rw [if_pos (by rw [List.length_map]; omega), List.map_append]
      rfl
    refine dropF_t (mutE_t (j := 5) (env1 := [p3, m, .int wide, .int far, a4, .lst (fl.map encF), a6, a7, .str nm, .int (1 + d), a10, a11, a12]) rfl (consF_t (callF_t (ds := [.str nm, .int (d2 - 20), .int (1 + d), .int (1 + d + d3)]) ?_ rfl) rfl) rfl ap)
    refine consF_t rfl (consF_t (bin2_t g1 rfl rfl) (consF_t rfl (consF_t (bin2_t rfl k1 rfl) rfl)))
  · show (d2 - 20).natAbs ≤ 100; omega
  · show 1 ≤ 1 + d; omega
  · show 1 + d ≤ 1 + d + d3; omega
  · show 1 + d + d3 ≤ 10 ^ 7; omega
theorem fl_loop {m wD fD a4 a6 a7 a10 a11 a12 : D} {wide far : Int} (hw : wD = .int wide) (hf : fD = .int far) (w0 : 0 < wide) (w1 : wide ≤ 10 ^ 6) (f0 : 0 < far) (f1 : far ≤ 10 ^ 6) {n : Nat} : ∀ (ns : List Str) (fl : List Fl) (p a8 a9 : D), Pu (n + 160 * ns.length) p → fl.length + ns.length ≤ 1000 → (∀ f ∈ fl, FlOk f) →
    ∃ (fl' : List Fl) (p' x8 x9 : D), loopF (nameG 8) flBody (ns.map D.str) [p, m, wD, fD, a4, .lst (fl.map encF), a6, a7, a8, a9, a10, a11, a12] = some (.nx [p', m, wD, fD, a4, .lst (fl'.map encF), a6, a7, x8, x9, a10, a11, a12]) ∧ fl'.map (·.1) = fl.map (·.1) ++ ns ∧ (∀ f ∈ fl', FlOk f) ∧ Pu n p'
  | [], fl, p, a8, a9, h, _, hk => ⟨fl, p, a8, a9, rfl, by simp, hk, h⟩
  | nm :: ns, fl, p, a8, a9, h, hz, hk => by
    rw [List.length_cons] at h hz
    obtain ⟨f, p1, x9, s1, s2, s3, s4⟩ := fl_step (n := n + 160 * ns.length) (p := p) (m := m) (a4 := a4) (a6 := a6) (a7 := a7) (a9 := a9) (a10 := a10) (a11 := a11) (a12 := a12) (fl := fl) (nm := nm) (h.mono (by omega)) hw hf w0 w1 f0 f1 (by omega)
    obtain ⟨fl', p', y8, y9, i1, i2, i3, i4⟩ := fl_loop hw hf w0 w1 f0 f1 ns (fl ++ [f]) p1 (.str nm) x9 s4 (by simp only [List.length_append, List.length_singleton]; omega) (fun g hg => by
      rcases List.mem_append.mp hg with z | z
      · exact hk g z
      · rw [List.mem_singleton.mp z]; exact s3)
    refine ⟨fl', p', y8, y9, loop_t (e1 := [p, m, wD, fD, a4, .lst (fl.map encF), a6, a7, .str nm, a9, a10, a11, a12]) rfl s1 i1, ?_, i3, i4⟩
    rw [i2, List.map_append, List.append_assoc]
    simp [s2]
/-! ### the links -/
def lkBody : FS := (iteF' (tstF (bin2 (ucallIO 0 (consF (conF (.int 3)) nilF) fd__law_draw) (conF (.int 0)) eqD)) (dropF (mutE 6 (consF (callF (consF (varF 12) (consF (varF 11) (consF (ucallIO 0 (consF (ucallIO 0 (consF (callF (consF (conF (.int 1)) (consF (conF (.int 9)) (consF (conF (.int 40)) nilF))) lstD) nilF) fd__law_one_of) nilF) fd__law_draw) nilF))) tupD) nilF) appD)) skipF)
theorem lk_step {n : Nat} {p m a2 a3 a4 a5 a7 a8 a9 a10 : D} {one other : Str} {lk : List Lk} (h : Pu (n + 120) p) (hz : lk.length ≤ 1000) : ∃ (new : List Lk) (p' : D), lkBody [p, m, a2, a3, a4, a5, lkD lk, a7, a8, a9, a10, .str other, .str one] = some (.nx [p', m, a2, a3, a4, a5, lkD (lk ++ new), a7, a8, a9, a10, .str other, .str one]) ∧
    (new = [] ∨ ∃ d, new = [(one, other, d)] ∧ 0 ≤ d ∧ d < 40) ∧ Pu n p' := by
  obtain ⟨d, p1, g1, g2, g3, g4⟩ := dr (n := n + 80) (m := 3) (f := conF (.int 3)) (env := [p, m, a2, a3, a4, a5, lkD lk, a7, a8, a9, a10, .str other, .str one]) (h.mono (by omega)) (by decide) (bdc (by decide) (by decide)) rfl rfl
  have c : tstF (bin2 (ucallIO 0 (consF (conF (.int 3)) nilF) fd__law_draw) (conF (.int 0)) eqD) [p, m, a2, a3, a4, a5, lkD lk, a7, a8, a9, a10, .str other, .str one] = some (d == 0, [p1, m, a2, a3, a4, a5, lkD lk, a7, a8, a9, a10, .str other, .str one]) :=
    tstF_t (bin2_t g1 rfl (eq_int2 d 0))
  cases hd : (d == 0) with
  | false =>
    rw [hd] at c
    refine ⟨[], p1, ?_, .inl rfl, g4.mono (by omega)⟩
    rw [List.append_nil]
    exact ite_f c rfl
  | true =>
    rw [hd] at c
    obtain ⟨mm, d, p2, e1, e2, e3, e4, e5⟩ := one_draw (n := n) (ds := [.int 1, .int 9, .int 40]) (f := callF (consF (conF (.int 1)) (consF (conF (.int 9)) (consF (conF (.int 40)) nilF))) lstD) (env := [p1, m, a2, a3, a4, a5, lkD lk, a7, a8, a9, a10, .str other, .str one]) (env1 := [p1, m, a2, a3, a4, a5, lkD lk, a7, a8, a9, a10, .str other, .str one]) (g4.mono (by omega)) (fun d hd => by
      simp only [List.mem_cons, List.not_mem_nil, or_false] at hd
      rcases hd with rfl | rfl | rfl
      · exact ⟨_, rfl, by omega, by omega⟩
      · exact ⟨_, rfl, by omega, by omega⟩
      · exact ⟨_, rfl, by omega, by omega⟩) (by simp) (by simp) rfl rfl
    have hmm : mm ≤ 40 := by
      simp only [List.mem_cons, List.not_mem_nil, or_false, D.int.injEq] at e2
      rcases e2 with e | e | e <;> omega
    refine ⟨[(one, other, d)], p2, ite_t c ?_, .inr ⟨d, rfl, e3, by omega⟩, e5⟩
    have ap : appD (lk.map encL) [encL (one, other, d)] = some ((lk ++ [(one, other, d)]).map encL, .non) := by
      show (if (lk.map encL).length < 16777216 then some _ else none) = _
      rw [if_pos (by rw [List.length_map]; omega), List.map_append]
      rfl
    refine dropF_t (mutE_t (j := 6) (env1 := [p2, m, a2, a3, a4, a5, lkD lk, a7, a8, a9, a10, .str other, .str one]) rfl (consF_t (callF_t (ds := [.str one, .str other, .int d]) ?_ rfl) rfl) rfl ap)
    exact consF_t rfl (consF_t rfl (consF_t e1 rfl))
theorem lk_inner {m a2 a3 a4 a5 a7 a8 a9 a10 : D} {other : Str} {n : Nat} : ∀ (ones : List Str) (lk : List Lk) (p a12 : D), Pu (n + 120 * ones.length) p → lk.length + ones.length ≤ 1000 →
    ∃ (new : List Lk) (p' x12 : D), loopF (nameG 12) lkBody (ones.map D.str) [p, m, a2, a3, a4, a5, lkD lk, a7, a8, a9, a10, .str other, a12] = some (.nx [p', m, a2, a3, a4, a5, lkD (lk ++ new), a7, a8, a9, a10, .str other, x12]) ∧
      (new.map (·.1)).Sublist ones ∧ (∀ l ∈ new, l.2.1 = other ∧ 0 ≤ l.2.2 ∧ l.2.2 < 40) ∧ Pu n p'
  | [], lk, p, a12, h, _ => ⟨[], p, a12, by rw [List.append_nil]; rfl, List.Sublist.refl _, fun l hl => absurd hl (by simp), h⟩
  | one :: ones, lk, p, a12, h, hz => by
    rw [List.length_cons] at h hz
    obtain ⟨new1, p1, s1, s2, s3⟩ := lk_step (n := n + 120 * ones.length) (p := p) (m := m) (a2 := a2) (a3 := a3) (a4 := a4) (a5 := a5) (a7 := a7) (a8 := a8) (a9 := a9) (a10 := a10) (one := one) (other := other) (lk := lk) (h.mono (by omega)) (by omega)
    have n1 : new1.length ≤ 1 := by rcases s2 with rfl | ⟨d, rfl, _⟩ <;> simp
    obtain ⟨new2, p', x12, i1, i2, i3, i4⟩ := lk_inner (m := m) (a2 := a2) (a3 := a3) (a4 := a4) (a5 := a5) (a7 := a7) (a8 := a8) (a9 := a9) (a10 := a10) (other := other) ones (lk ++ new1) p1 (.str one) s3 (by rw [List.length_append]; omega)
    refine ⟨new1 ++ new2, p', x12, ?_, ?_, fun l hl => ?_, i4⟩
    · rw [← List.append_assoc]
      exact loop_t (e1 := [p, m, a2, a3, a4, a5, lkD lk, a7, a8, a9, a10, .str other, .str one]) rfl s1 i1
    · rcases s2 with rfl | ⟨d, rfl, _⟩
      · exact i2.cons _
      · exact i2.cons_cons _
    · rcases List.mem_append.mp hl with z | z
      · rcases s2 with rfl | ⟨d, rfl, d1, d2⟩
        · exact absurd z (by simp)
        · rw [List.mem_singleton.mp z]; exact ⟨rfl, d1, d2⟩
      · exact i3 l z
end K71
namespace K71
open PySem DL LH
def pair (l : Lk) : Str × Str := (l.1, l.2.1)
structure LkI (pre : List Str) (lk : List Lk) : Prop where
  nd : (lk.map pair).Nodup
  bef : ∀ l ∈ lk, ∃ u v, pre = u ++ l.2.1 :: v ∧ l.1 ∈ u
  val : ∀ l ∈ lk, 0 ≤ l.2.2 ∧ l.2.2 < 40
theorem LkI.mem {pre : List Str} {lk : List Lk} (h : LkI pre lk) : ∀ l ∈ lk, l.1 ∈ pre ∧ l.2.1 ∈ pre := fun l hl => by
  obtain ⟨u, v, rfl, h1⟩ := h.bef l hl
  exact ⟨List.mem_append_left _ h1, List.mem_append_right _ List.mem_cons_self⟩
theorem LkI.step {pre : List Str} {other : Str} {lk new : List Lk} (h : LkI pre lk) (hn : pre.Nodup) (ho : other ∉ pre) (h1 : (new.map (·.1)).Sublist pre) (h2 : ∀ l ∈ new, l.2.1 = other ∧ 0 ≤ l.2.2 ∧ l.2.2 < 40) : LkI (pre ++ [other]) (lk ++ new) := by
  refine ⟨?_, fun l hl => ?_, fun l hl => ?_⟩
  · rw [List.map_append]
    refine List.nodup_append.mpr ⟨h.nd, ?_, fun a ha b hb e => ?_⟩
    · have n1 : (new.map (·.1)).Nodup := h1.nodup hn
      have : (new.map pair).map (·.1) = new.map (·.1) := by rw [List.map_map]; rfl
      rw [← this] at n1
      exact List.Pairwise.of_map (·.1) (fun a b h z => h (by rw [z])) n1
    · subst e
      obtain ⟨l, hl, rfl⟩ := List.mem_map.mp ha
      obtain ⟨l', hl', e⟩ := List.mem_map.mp hb
      have e2 : l'.2.1 = l.2.1 := congrArg Prod.snd e
      rw [(h2 l' hl').1] at e2
      exact ho (e2 ▸ (h.mem l hl).2)
  · rcases List.mem_append.mp hl with z | z
    · obtain ⟨u, v, e, hu⟩ := h.bef l z
      exact ⟨u, v ++ [other], by rw [e]; simp, hu⟩
    · exact ⟨pre, [], by rw [(h2 l z).1], h1.subset (List.mem_map_of_mem z)⟩
  · rcases List.mem_append.mp hl with z | z
    · exact h.val l z
    · exact (h2 l z).2
theorem split_uniq {n : Str} : ∀ {a b c d : List Str}, a ++ n :: b = c ++ n :: d → n ∉ a → n ∉ c → a = c
  | [], b, [], d, _, _, _ => rfl
  | [], b, y :: c, d, e, _, h2 => by
    rw [List.nil_append, List.cons_append, List.cons.injEq] at e
    exact absurd (by rw [e.1]; exact List.mem_cons_self) h2
  | x :: a, b, [], d, e, h1, _ => by
    rw [List.nil_append, List.cons_append, List.cons.injEq] at e
    exact absurd (by rw [e.1]; exact List.mem_cons_self) h1
  | x :: a, b, y :: c, d, e, h1, h2 => by
    rw [List.cons_append, List.cons_append, List.cons.injEq] at e
    rw [e.1, split_uniq e.2 (fun z => h1 (List.mem_cons_of_mem _ z)) (fun z => h2 (List.mem_cons_of_mem _ z))]
theorem topo_of {lk : List Lk} : ∀ (os seen : List Str), (seen.reverse ++ os).Nodup → (∀ l ∈ lk, ∃ u v, seen.reverse ++ os = u ++ l.2.1 :: v ∧ l.1 ∈ u) → TopoR lk seen os
  | [], seen, _, _ => trivial
  | n :: os, seen, hn, h => by
    refine ⟨fun l hl e => ?_, topo_of os (n :: seen) (by simpa using hn) (by simpa using h)⟩
    obtain ⟨u, v, q, hu⟩ := h l hl
    rw [e] at q
    have d1 := (List.nodup_append.mp hn).2.2
    have n1 : n ∉ seen.reverse := fun z => d1 n z n List.mem_cons_self rfl
    rw [q] at hn
    have d2 := (List.nodup_append.mp hn).2.2
    have n2 : n ∉ u := fun z => d2 n z n List.mem_cons_self rfl
    have := split_uniq q n1 n2
    rw [← this] at hu
    exact List.mem_reverse.mp hu
theorem LkI.topo {os : List Str} {lk : List Lk} (h : LkI os lk) (hn : os.Nodup) : TopoR lk [] os := topo_of os [] (by simpa using hn) (by simpa using h.bef)
theorem cut_map {α β : Type} (f : α → β) (l : List α) (lo hi : Option Int) : cutD (l.map f) lo hi = (cutD l lo hi).map f := by
  unfold cutD
  rw [List.length_map, List.map_take, List.map_drop]
theorem cut_sub {α : Type} (l : List α) (lo hi : Option Int) : (cutD l lo hi).Sublist l := (List.take_sublist _ _).trans (List.drop_sublist _ _)
theorem cut_take {α : Type} (l : List α) (k : Nat) : cutD l none (some (k : Int)) = l.take k := by
  unfold cutD
  rw [HT.sIx_nat]
  show (l.drop 0).take (min k l.length - 0) = _
  rw [List.drop_zero, Nat.sub_zero, List.take_eq_take_iff]
  omega
def outBody : FS := forF (seqIF (sliceF (varF 7) nopF (partF (varF 10)) sliceD)) (nameG 12) lkBody
theorem lk_outer {m a2 a3 a4 a5 a8 a9 : D} {order : List Str} (hn : order.Nodup) (hz : order.length ≤ 10) {n : Nat} : ∀ (rest pre : List Str) (lk : List Lk) (p a10 a11 a12 : D), pre ++ rest = order → Pu (n + 1200 * rest.length) p → lk.length ≤ 10 * pre.length → LkI pre lk →
    ∃ (lk' : List Lk) (p' x10 x11 x12 : D), loopF (tupG 2 (consG (nameG 10) (consG (nameG 11) nilG))) outBody (enumD pre.length (rest.map D.str)) [p, m, a2, a3, a4, a5, lkD lk, nmD order, a8, a9, a10, a11, a12] = some (.nx [p', m, a2, a3, a4, a5, lkD lk', nmD order, a8, a9, x10, x11, x12]) ∧
      LkI order lk' ∧ lk'.length ≤ 100 ∧ Pu n p'
  | [], pre, lk, p, a10, a11, a12, e, h, hl, hI => by
    rw [List.append_nil] at e
    subst e
    exact ⟨lk, p, a10, a11, a12, rfl, hI, by omega, h⟩
  | other :: rest, pre, lk, p, a10, a11, a12, e, h, hl, hI => by
    rw [List.length_cons] at h
    have lz : pre.length + (rest.length + 1) = order.length := by rw [← e, List.length_append, List.length_cons]
    have hn' : (pre ++ other :: rest).Nodup := by rw [e]; exact hn
    obtain ⟨n1, n2, n3⟩ := List.nodup_append.mp hn'
    have ho : other ∉ pre := fun z => n3 other z other List.mem_cons_self rfl
    obtain ⟨new, p1, y12, s1, s2, s3, s4⟩ := lk_inner (n := n + 1200 * rest.length) (m := m) (a2 := a2) (a3 := a3) (a4 := a4) (a5 := a5) (a7 := nmD order) (a8 := a8) (a9 := a9) (a10 := .int (pre.length : Nat)) (other := other) pre lk p a12 (h.mono (by omega)) (by omega)
    have nl : new.length ≤ pre.length := by
      have := s2.length_le
      rw [List.length_map] at this
      exact this
    obtain ⟨lk', p', x10, x11, x12, i1, i2, i3, i4⟩ := lk_outer (m := m) (a2 := a2) (a3 := a3) (a4 := a4) (a5 := a5) (a8 := a8) (a9 := a9) hn hz rest (pre ++ [other]) (lk ++ new) p1 (.int (pre.length : Nat)) (.str other) y12 (by rw [← e]; simp) s4 (by simp only [List.length_append, List.length_singleton]; omega) (hI.step n1 ho s2 s3)
    refine ⟨lk', p', x10, x11, x12, ?_, i2, i3, i4⟩
    rw [List.length_append, List.length_singleton] at i1
    have tk : order.take pre.length = pre := by rw [← e]; simp
    have sl : sliceD none (some (pre.length : Int)) (nmD order) = some (.lst (pre.map D.str)) := by
      show some (D.lst (cutD (order.map D.str) none (some (pre.length : Int)))) = _
      rw [cut_map, cut_take, tk]
    refine loop_t (e1 := [p, m, a2, a3, a4, a5, lkD lk, nmD order, a8, a9, .int (pre.length : Nat), .str other, a12]) rfl (forF_t (l := pre.map D.str) (e1 := [p, m, a2, a3, a4, a5, lkD lk, nmD order, a8, a9, .int (pre.length : Nat), .str other, a12]) ?_ s1) i1
    have : sliceF (varF 7) nopF (partF (varF 10)) sliceD [p, m, a2, a3, a4, a5, lkD lk, nmD order, a8, a9, .int (pre.length : Nat), .str other, a12] = some (.lst (pre.map D.str), [p, m, a2, a3, a4, a5, lkD lk, nmD order, a8, a9, .int (pre.length : Nat), .str other, a12]) := by
      simp only [defF, seqF, iteF', setF, retF, dropF, skipF, bin2, un1, callF, ucallF, withF, consF, nilF, varF, conF, one, two, tstF, andF, orF, notF, andV, orV, notV, ifF, chainF, asgF, List.cons_append, List.nil_append, List.replicate, List.getElem?_cons_zero, List.getElem?_cons_succ, Option.map_some, Option.bind_some, if_true, if_false, Bool.false_eq_true, List.set_cons_zero, List.set_cons_succ, Bool.not_true, Bool.not_false, backD, sliceF, nopF, partF, sl]
    unfold seqIF
    rw [this]
    rfl
/-- a web as the law draws it -/
structure GoodWeb (fl : List Fl) (lk : List Lk) : Prop where
  pre : PreWeb fl lk
  nd : (fl.map (·.1)).Nodup
  ord : ∃ o, inOrd (fl.map (·.1)) lk = some o
  pz : (lk.map pair).Nodup
  fz : fl.length ≤ 10
  lz : lk.length ≤ 100
  fb : ∀ f ∈ fl, FlOk f
  lb : ∀ l ∈ lk, l.2.2 < 40
theorem web_law {n many : Nat} {wide far : Int} {p : D} (h : Pu (n + 100000) p) (h1 : 1 ≤ many) (h2 : many ≤ 10) (w0 : 0 < wide) (w1 : wide ≤ 10 ^ 6) (f0 : 0 < far) (f1 : far ≤ 10 ^ 6) :
    ∃ fl lk p', fd__law_web [p, .int many, .int wide, .int far] = some (webD fl lk, [p', .int many, .int wide, .int far]) ∧ GoodWeb fl lk ∧ Pu n p' := by
  obtain ⟨ns, p1, e1, ok, u1⟩ := names_law (n := n + 90000) (h.mono (by omega)) h1 h2
  have nsz := ok.le
  obtain ⟨out, p2, e2, e3, u2⟩ := shuffled_ok (n := n + 80000) (p := p1) (ds := ns.map D.str) (u1.mono (by rw [List.length_map]; omega)) (by rw [List.length_map]; omega)
  obtain ⟨order, rfl, perm⟩ : ∃ order : List Str, out = order.map D.str ∧ order.Perm ns := by
    have : ∀ d ∈ out, ∃ s, d = D.str s := fun d hd => by
      obtain ⟨s, _, rfl⟩ := List.mem_map.mp (e3.mem_iff.mp hd)
      exact ⟨s, rfl⟩
    let g : D → Str := fun d => match d with | .str s => s | _ => ""
    refine ⟨out.map g, ?_, ?_⟩
    · rw [List.map_map]
      conv => lhs; rw [← List.map_id out]
      refine List.map_congr_left fun d hd => ?_
      obtain ⟨s, rfl⟩ := this d hd
      rfl
    · have := e3.map g
      rw [List.map_map] at this
      have e : ns.map (g ∘ D.str) = ns := by
        conv => rhs; rw [← List.map_id ns]
        rfl
      rw [e] at this
      exact this
  have on : order.Nodup := perm.nodup_iff.mpr ok.nd
  have ol : order.length = ns.length := perm.length_eq
  obtain ⟨fl, p3, x8, x9, f2, f3, f4, u3⟩ := fl_loop (n := n + 70000) (m := .int many) (wD := .int wide) (fD := .int far) (a4 := nmD ns) (a6 := .lst []) (a7 := nmD order) (a10 := .non) (a11 := .non) (a12 := .non) rfl rfl w0 w1 f0 f1 ns [] p2 .non .non (u2.mono (by omega)) (by simp; omega) (fun f hf => absurd hf (by simp))
  rw [List.map_nil, List.nil_append] at f3
  obtain ⟨lk, p4, x10, x11, x12, l1, l2, l3, u4⟩ := lk_outer (n := n + 50000) (m := .int many) (a2 := .int wide) (a3 := .int far) (a4 := nmD ns) (a5 := .lst (fl.map encF)) (a8 := x8) (a9 := x9) on (by omega) order [] [] p3 .non .non .non (by simp) (u3.mono (by omega)) (by simp) ⟨by simp, fun l hl => absurd hl (by simp), fun l hl => absurd hl (by simp)⟩
  obtain ⟨out2, p5, g1, g2, u5⟩ := shuffled_ok (n := n) (p := p4) (ds := lk.map encL) (u4.mono (by rw [List.length_map]; omega)) (by rw [List.length_map]; omega)
  obtain ⟨lk2, rfl, perm2⟩ : ∃ lk2 : List Lk, out2 = lk2.map encL ∧ lk2.Perm lk := by
    have : ∀ d ∈ out2, ∃ s, d = encL s := fun d hd => by
      obtain ⟨s, _, rfl⟩ := List.mem_map.mp (g2.mem_iff.mp hd)
      exact ⟨s, rfl⟩
    let g : D → Lk := fun d => match d with | .tup [.str a, .str b, .int m] => (a, b, m) | _ => ("", "", 0)
    refine ⟨out2.map g, ?_, ?_⟩
    · rw [List.map_map]
      conv => lhs; rw [← List.map_id out2]
      refine List.map_congr_left fun d hd => ?_
      obtain ⟨s, rfl⟩ := this d hd
      rfl
    · have := g2.map g
      rw [List.map_map] at this
      have e : lk.map (g ∘ encL) = lk := by
        conv => rhs; rw [← List.map_id lk]
        rfl
      rw [e] at this
      exact this
  let lk3 := cutD lk2 none (some 24)
  let lk4 := lk3.mergeSort leL
  have sub3 : lk3.Sublist lk2 := cut_sub _ _ _
  have mem4 : ∀ l ∈ lk4, l ∈ lk := fun l hl => perm2.mem_iff.mp (sub3.subset ((List.mergeSort_perm lk3 leL).mem_iff.mp hl))
  have nd3 : (lk3.map pair).Nodup := (sub3.map pair).nodup ((perm2.map pair).nodup_iff.mpr l2.nd)
  have nd4 : (lk4.map pair).Nodup := ((List.mergeSort_perm lk3 leL).map pair).nodup_iff.mpr nd3
  have len4 : lk4.length ≤ 100 := by
    have a := (List.mergeSort_perm lk3 leL).length_eq
    have b := sub3.length_le
    have c := perm2.length_eq
    show (lk3.mergeSort leL).length ≤ 100
    omega
  have fll : fl.length = ns.length := by rw [← f3, List.length_map]
  refine ⟨fl, lk4, p5, ?_, ⟨⟨by have := ok.ne; omega, by omega, by omega, fun f hf => ⟨ok.word _ (f3 ▸ List.mem_map_of_mem hf), (f4 f hf).2.1, (f4 f hf).2.2.1⟩, fun i a b ha hb => ?_, fun l hl => ?_, ?_⟩, by rw [f3]; exact ok.nd, ?_, nd4, by omega, len4, f4, fun l hl => (l2.val l (mem4 l hl)).2⟩, u5⟩
  · refine defF_r (e1 := [p5, .int many, .int wide, .int far, nmD ns, .lst (fl.map encF), lkD lk, nmD order, x8, x9, x10, x11, x12]) ?_
    show g__law_web [p, .int many, .int wide, .int far, .non, .non, .non, .non, .non, .non, .non, .non, .non] = _
    have q1 : ucallIO 0 (consF (varF 1) nilF) fd__law_names [p, .int many, .int wide, .int far, .non, .non, .non, .non, .non, .non, .non, .non, .non] = some (nmD ns, [p1, .int many, .int wide, .int far, .non, .non, .non, .non, .non, .non, .non, .non, .non]) := uio_t (env1 := [p, .int many, .int wide, .int far, .non, .non, .non, .non, .non, .non, .non, .non, .non]) (ds := [.int many]) rfl rfl e1
    refine seqF_t (e1 := [p1, .int many, .int wide, .int far, nmD ns, .lst [], .lst [], .non, .non, .non, .non, .non, .non]) ?_ ?_
    · simp only [defF, seqF, iteF', setF, retF, dropF, skipF, bin2, un1, callF, ucallF, withF, consF, nilF, varF, conF, one, two, tstF, andF, orF, notF, andV, orV, notV, ifF, chainF, asgF, List.cons_append, List.nil_append, List.replicate, List.getElem?_cons_zero, List.getElem?_cons_succ, Option.map_some, Option.bind_some, if_true, if_false, Bool.false_eq_true, List.set_cons_zero, List.set_cons_succ, Bool.not_true, Bool.not_false, backD, parF, q1, lstD, setsF]
    refine seqF_t (e1 := [p2, .int many, .int wide, .int far, nmD ns, .lst [], .lst [], nmD order, .non, .non, .non, .non, .non]) (setF_t (e1 := [p2, .int many, .int wide, .int far, nmD ns, .lst [], .lst [], .non, .non, .non, .non, .non, .non]) (uio_t (env1 := [p1, .int many, .int wide, .int far, nmD ns, .lst [], .lst [], .non, .non, .non, .non, .non, .non]) (ds := [nmD ns]) rfl rfl e2)) ?_
    refine seqF_t (e1 := [p3, .int many, .int wide, .int far, nmD ns, .lst (fl.map encF), .lst [], nmD order, x8, x9, .non, .non, .non]) (forF_t (l := ns.map D.str) (e1 := [p2, .int many, .int wide, .int far, nmD ns, .lst [], .lst [], nmD order, .non, .non, .non, .non, .non]) rfl f2) ?_
    refine seqF_t (e1 := [p4, .int many, .int wide, .int far, nmD ns, .lst (fl.map encF), lkD lk, nmD order, x8, x9, x10, x11, x12]) (forF_t (l := enumD 0 (order.map D.str)) (e1 := [p3, .int many, .int wide, .int far, nmD ns, .lst (fl.map encF), .lst [], nmD order, x8, x9, .non, .non, .non]) rfl l1) ?_
    have q2 : ucallIO 0 (consF (varF 6) nilF) fd__law_shuffled [p4, .int many, .int wide, .int far, nmD ns, .lst (fl.map encF), lkD lk, nmD order, x8, x9, x10, x11, x12] = some (.lst (lk2.map encL), [p5, .int many, .int wide, .int far, nmD ns, .lst (fl.map encF), lkD lk, nmD order, x8, x9, x10, x11, x12]) := uio_t (env1 := [p4, .int many, .int wide, .int far, nmD ns, .lst (fl.map encF), lkD lk, nmD order, x8, x9, x10, x11, x12]) (ds := [lkD lk]) rfl rfl g1
    have q3 : sliceD none (some 24) (.lst (lk2.map encL)) = some (lkD lk3) := by
      show some (D.lst (cutD (lk2.map encL) none (some 24))) = _
      rw [cut_map]
      rfl
    have q4 := sort_L lk3
    simp only [defF, seqF, iteF', setF, retF, dropF, skipF, bin2, un1, callF, ucallF, withF, consF, nilF, varF, conF, one, two, tstF, andF, orF, notF, andV, orV, notV, ifF, chainF, asgF, List.cons_append, List.nil_append, List.replicate, List.getElem?_cons_zero, List.getElem?_cons_succ, Option.map_some, Option.bind_some, if_true, if_false, Bool.false_eq_true, List.set_cons_zero, List.set_cons_succ, Bool.not_true, Bool.not_false, backD, q2, sliceF, nopF, partF, q3, q4, tupD]
    rfl
  · have := ok.asc
    rw [← f3] at this
    unfold Asc at this
    have hi : i + 1 < fl.length := (List.getElem?_eq_some_iff.mp hb).1
    have ea : fl[i] = a := (List.getElem?_eq_some_iff.mp ha).2
    have eb : fl[i + 1] = b := (List.getElem?_eq_some_iff.mp hb).2
    have q := List.pairwise_iff_getElem.mp this i (i + 1) (by rw [List.length_map]; omega) (by rw [List.length_map]; exact hi) (by omega)
    simp only [List.getElem_map, ea, eb] at q
    exact q
  · have m := l2.mem l (mem4 l hl)
    rw [f3]
    exact ⟨perm.mem_iff.mp m.1, perm.mem_iff.mp m.2, (l2.val l (mem4 l hl)).1⟩
  · exact sorted_lasc nd3
  · rw [f3]
    have t : TopoR lk4 [] order := topo_of order [] (by simpa using on) (fun l hl => by simpa using l2.bef l (mem4 l hl))
    exact inOrd_some ok.nd perm t
end K71
namespace K71
open PySem DL LH
/-! ### courses that fit -/
def CrsFor : List Fl → Crs → Prop
  | [], [] => True
  | f :: fs, q :: c => (q.1 = f.1 ∧ f.2.2.1 ≤ q.2 ∧ q.2 ≤ f.2.2.2) ∧ CrsFor fs c
  | _, _ => False
theorem CrsFor.names : ∀ {fs : List Fl} {c : Crs}, CrsFor fs c → c.map (·.1) = fs.map (·.1)
  | [], [], _ => rfl
  | [], _ :: _, h => h.elim
  | _ :: _, [], h => h.elim
  | f :: fs, q :: c, h => by rw [List.map_cons, List.map_cons, h.1.1, CrsFor.names h.2]
theorem CrsFor.at_ : ∀ {fs : List Fl} {c : Crs}, CrsFor fs c → ∀ f ∈ fs, ∃ v, (f.1, v) ∈ c ∧ f.2.2.1 ≤ v ∧ v ≤ f.2.2.2
  | [], _, _, f, hf => absurd hf (by simp)
  | _ :: _, [], h, _, _ => h.elim
  | g :: fs, q :: c, h, f, hf => by
    rcases List.mem_cons.mp hf with e | e
    · subst e
      refine ⟨q.2, ?_, h.1.2⟩
      rw [← h.1.1]
      exact List.mem_cons_self
    · obtain ⟨v, h1, h2⟩ := CrsFor.at_ h.2 f e
      exact ⟨v, List.mem_cons_of_mem _ h1, h2⟩
theorem CrsFor.of : ∀ {fs : List Fl} (g : Fl → Int), (∀ f ∈ fs, f.2.2.1 ≤ g f ∧ g f ≤ f.2.2.2) → CrsFor fs (fs.map fun f => (f.1, g f))
  | [], _, _ => trivial
  | f :: fs, g, h => ⟨⟨rfl, h f List.mem_cons_self⟩, CrsFor.of g fun f hf => h f (List.mem_cons_of_mem _ hf)⟩
theorem run_of {fl : List Fl} {c c' : Crs} (hn : (fl.map (·.1)).Nodup) (h : CrsFor fl c) (p : c'.Perm c) : RunOk fl c' ∧ (c'.map (·.1)).Nodup := by
  have n1 : (c'.map (·.1)).Nodup := (p.map (·.1)).nodup_iff.mpr (by rw [h.names]; exact hn)
  refine ⟨⟨?_, fun f hf => ?_⟩, n1⟩
  · rw [p.length_eq, ← List.length_map (f := (·.1)), h.names, List.length_map]
  · obtain ⟨v, h1, h2⟩ := h.at_ f hf
    exact ⟨v, look_mem c' n1 (f.1, v) (p.mem_iff.mpr h1), h2⟩
def pairD (q : Str × Int) : D := .tup [.str q.1, .int q.2]
theorem dict_pairs (c : Crs) (hn : (c.map (·.1)).Nodup) : dictD (.lst (c.map pairD)) = some (crs c) := dict_tab D.int c hn
theorem items_crs (c : Crs) : itemsD (crs c) = some (.lst (c.map pairD)) := by
  show some (D.lst (((c.map fun p => (Sum.inr p.1 : L2.Key)).zip (c.map fun p => D.int p.2)).map fun e => D.tup [kD e.1, e.2])) = _
  rw [tab_zip, kvs, List.map_map]
  rfl
theorem drawn_loop {n : Nat} {w : D} : ∀ (fs : List Fl) (p s2 s3 s4 s5 : D), Pu (n + 40 * fs.length) p → (∀ f ∈ fs, FlOk f) →
    ∃ (c : Crs) (p' x2 x3 x4 x5 : D), lcF (tupG 4 (consG (nameG 2) (consG (nameG 3) (consG (nameG 4) (consG (nameG 5) nilG))))) yesF (callF (consF (varF 2) (consF (bin2 (varF 4) (ucallIO 0 (consF (bin2 (bin2 (varF 5) (varF 4) (intOp0 fun i j => i - j)) (conF (.int 1)) addD) nilF) fd__law_draw) addD) nilF)) tupD) (fs.map encF) [p, w, s2, s3, s4, s5] = some (c.map pairD, [p', w, x2, x3, x4, x5]) ∧ CrsFor fs c ∧ Pu n p'
  | [], p, s2, s3, s4, s5, h, _ => ⟨[], p, s2, s3, s4, s5, rfl, trivial, h⟩
  | f :: fs, p, s2, s3, s4, s5, h, hk => by
    obtain ⟨nm, pl, lo, hi⟩ := f
    obtain ⟨k1, k2, k3, k4⟩ := hk _ List.mem_cons_self
    simp only at k1 k2 k3 k4
    rw [List.length_cons] at h
    obtain ⟨d, p1, e1, e2, e3, e4⟩ := dr (n := n + 40 * fs.length) (p := p) (m := hi - lo + 1) (f := bin2 (bin2 (varF 5) (varF 4) (intOp0 fun i j => i - j)) (conF (.int 1)) addD) (env := [p, w, .str nm, .int pl, .int lo, .int hi]) (env1 := [p, w, .str nm, .int pl, .int lo, .int hi]) (h.mono (by omega)) (by omega) (bdc (by omega) (by omega)) rfl rfl
    obtain ⟨c, p', x2, x3, x4, x5, i1, i2, i3⟩ := drawn_loop (n := n) (w := w) fs p1 (.str nm) (.int pl) (.int lo) (.int hi) e4 (fun f hf => hk f (List.mem_cons_of_mem _ hf))
    refine ⟨(nm, lo + d) :: c, p', x2, x3, x4, x5, ?_, ⟨⟨rfl, ?_, ?_⟩, i2⟩, i3⟩
    · rw [List.map_cons]
      unfold lcF
      have st : callF (consF (varF 2) (consF (bin2 (varF 4) (ucallIO 0 (consF (bin2 (bin2 (varF 5) (varF 4) (intOp0 fun i j => i - j)) (conF (.int 1)) addD) nilF) fd__law_draw) addD) nilF)) tupD [p, w, .str nm, .int pl, .int lo, .int hi] = some (pairD (nm, lo + d), [p1, w, .str nm, .int pl, .int lo, .int hi]) :=
        callF_t (ds := [.str nm, .int (lo + d)]) (consF_t rfl (consF_t (bin2_t rfl e1 rfl) rfl)) rfl
      show ((some [p, w, .str nm, .int pl, .int lo, .int hi]).bind _) = _
      rw [Option.bind_some]
      show ((some (true, [p, w, .str nm, .int pl, .int lo, .int hi])).bind _) = _
      rw [Option.bind_some]
      simp only [if_true]
      rw [st, Option.bind_some, i1]
      rfl
    · show lo ≤ lo + d; omega
    · show lo + d ≤ hi; omega
theorem drawn_ok {n : Nat} {p : D} {fl : List Fl} {lk : List Lk} (h : Pu (n + 400) p) (g : GoodWeb fl lk) : ∃ c p', fd__law_drawn_course [p, webD fl lk] = some (crs c, [p', webD fl lk]) ∧ CrsFor fl c ∧ Pu n p' := by
  have fz := g.fz
  obtain ⟨c, p', x2, x3, x4, x5, i1, i2, i3⟩ := drawn_loop (n := n) (w := webD fl lk) fl p .non .non .non .non (h.mono (by omega)) g.fb
  refine ⟨c, p', ?_, i2, i3⟩
  have cm : compF (seqIF (bin2 (varF 1) (conF (.int 1)) ixD)) [2, 3, 4, 5] (tupG 4 (consG (nameG 2) (consG (nameG 3) (consG (nameG 4) (consG (nameG 5) nilG))))) yesF (callF (consF (varF 2) (consF (bin2 (varF 4) (ucallIO 0 (consF (bin2 (bin2 (varF 5) (varF 4) (intOp0 fun i j => i - j)) (conF (.int 1)) addD) nilF) fd__law_draw) addD) nilF)) tupD) [p, webD fl lk, .non, .non, .non, .non] = some (.lst (c.map pairD), [p', webD fl lk, .non, .non, .non, .non]) := by
    have sq : seqIF (bin2 (varF 1) (conF (.int 1)) ixD) [p, webD fl lk, .non, .non, .non, .non] = some (fl.map encF, [p, webD fl lk, .non, .non, .non, .non]) := rfl
    unfold compF
    rw [sq, Option.bind_some, i1]
    rfl
  have dc := dict_pairs c (by rw [i2.names]; exact g.nd)
  refine defF_r (e1 := [p', webD fl lk, .non, .non, .non, .non]) (retF_t (call1_t cm dc))
/-! ### lists of links and [] -/
theorem canLay_L : ∀ {l : List Lk}, (∀ x ∈ l, PyData.strOk x.1 = true ∧ PyData.strOk x.2.1 = true) → PyData.canLayAll0 (l.map pyL) = true
  | [], _ => rfl
  | x :: l, h => by
    rw [List.map_cons, PyData.canLayAll0, canLay_L fun y hy => h y (List.mem_cons_of_mem _ hy), Bool.and_true]
    obtain ⟨h1, h2⟩ := h x List.mem_cons_self
    simp [pyL, PyData.canLay0, PyData.canLayAll0, h1, h2]
theorem depthAll_L : ∀ l : List Lk, PyData.depthAll (l.map pyL) ≤ 60
  | [] => by simp [PyData.depthAll]
  | x :: l => by
    rw [List.map_cons, PyData.depthAll]
    exact Nat.max_le.mpr ⟨depth_L x, depthAll_L l⟩
theorem eq_links_nil {l : List Lk} (h : ∀ x ∈ l, PyData.strOk x.1 = true ∧ PyData.strOk x.2.1 = true) : eqD (.lst (l.map encL)) (.lst []) = some (.bl l.isEmpty) := by
  have t : toPy (.lst (l.map encL)) = some (.list (l.map pyL)) := by
    rw [toPy, toPys_L]; rfl
  have s : SeqAt.shaped (.list (l.map pyL)) = true := by
    unfold SeqAt.shaped
    rw [PyData.canLay0, canLay_L h, Bool.true_and]
    have := depthAll_L l
    simp only [PyData.depth]
    exact decide_eq_true (by omega)
  show eqDD _ _ = _
  unfold eqDD
  rw [t, Option.bind_some]
  show (some (PyData.list [])).bind _ = _
  rw [Option.bind_some, s]
  have s2 : SeqAt.shaped (.list []) = true := rfl
  rw [s2]
  cases l <;> simp [PyData.eqv, PyData.eqvAll]
end K71
namespace K71
open PySem DL LH
theorem row_eq (t : Tm) (n : Str) : rowOf t n = .tup [.str n, .int (gateOf t n), .int (endOf t n)] := by
  unfold rowOf gateOf endOf
  cases lookA t n <;> rfl
def behBody : FS := (setF 7 (bin2 (varF 7) (compF (seqIF (bin2 (varF 1) (conF (.int 2)) ixD)) [10, 11, 16] (tupG 3 (consG (nameG 10) (consG (nameG 11) (consG (nameG 16) nilG)))) (andF (tstF (bin2 (varF 10) (varF 7) inAD)) (tstF (bin2 (varF 11) (varF 7) notInAD))) (varF 11)) addD))
theorem beh_step {fl : List Fl} {lk : List Lk} {p c a3 a4 a5 a6 a8 a9 a12 a13 a14 a15 a17 a18 : D} {b : List Str} (hz : b.length + lk.length ≤ 100000) :
    behBody [p, webD fl lk, c, a3, a4, a5, a6, nmD b, a8, a9, .non, .non, a12, a13, a14, a15, .non, a17, a18] = some (.nx [p, webD fl lk, c, a3, a4, a5, a6, nmD (behStep lk b), a8, a9, .non, .non, a12, a13, a14, a15, .non, a17, a18]) := by
  have c1 : compF (seqIF (bin2 (varF 1) (conF (.int 2)) ixD)) [10, 11, 16] (tupG 3 (consG (nameG 10) (consG (nameG 11) (consG (nameG 16) nilG)))) (andF (tstF (bin2 (varF 10) (varF 7) inAD)) (tstF (bin2 (varF 11) (varF 7) notInAD))) (varF 11) [p, webD fl lk, c, a3, a4, a5, a6, nmD b, a8, a9, .non, .non, a12, a13, a14, a15, .non, a17, a18] =
      some (.lst ((lk.filter fun l => b.contains l.1 && !b.contains l.2.1).map fun l => .str l.2.1), [p, webD fl lk, c, a3, a4, a5, a6, nmD b, a8, a9, .non, .non, a12, a13, a14, a15, .non, a17, a18]) := by
    refine comp_ty encL (fun l => [p, webD fl lk, c, a3, a4, a5, a6, nmD b, a8, a9, .str l.1, .str l.2.1, a12, a13, a14, a15, .int l.2.2, a17, a18]) (fun l => b.contains l.1 && !b.contains l.2.1) (fun l => .str l.2.1) rfl (fun _ _ => rfl) (fun _ _ _ _ => rfl) (fun l hl => ?_) (fun l hl hc => ?_) rfl (fun _ _ => rfl)
    · have i1 := flat_in (s := l.1) (names := b)
      have i2 := flat_notIn (s := l.2.1) (names := b)
      cases q : b.contains l.1 with
      | true =>
        rw [q] at i1
        simp only [defF, seqF, iteF', setF, retF, dropF, skipF, bin2, un1, callF, ucallF, withF, consF, nilF, varF, conF, one, two, tstF, andF, orF, notF, andV, orV, notV, ifF, chainF, asgF, List.cons_append, List.nil_append, List.replicate, List.getElem?_cons_zero, List.getElem?_cons_succ, Option.map_some, Option.bind_some, if_true, if_false, Bool.false_eq_true, List.set_cons_zero, List.set_cons_succ, Bool.not_true, Bool.not_false, backD, nmD, i1, i2, Bool.true_and]
      | false =>
        rw [q] at i1
        simp only [defF, seqF, iteF', setF, retF, dropF, skipF, bin2, un1, callF, ucallF, withF, consF, nilF, varF, conF, one, two, tstF, andF, orF, notF, andV, orV, notV, ifF, chainF, asgF, List.cons_append, List.nil_append, List.replicate, List.getElem?_cons_zero, List.getElem?_cons_succ, Option.map_some, Option.bind_some, if_true, if_false, Bool.false_eq_true, List.set_cons_zero, List.set_cons_succ, Bool.not_true, Bool.not_false, backD, nmD, i1, i2, Bool.false_and]
    · rfl
  have ad : addD (nmD b) (.lst ((lk.filter fun l => b.contains l.1 && !b.contains l.2.1).map fun l => .str l.2.1)) = some (nmD (behStep lk b)) := by
    have fz : (lk.filter fun l => b.contains l.1 && !b.contains l.2.1).length ≤ lk.length := List.length_filter_le _ _
    show (if (b.map D.str).length + ((lk.filter fun l => b.contains l.1 && !b.contains l.2.1).map fun l => D.str l.2.1).length ≤ 16777216 then some _ else none) = _
    rw [if_pos (by rw [List.length_map, List.length_map]; omega)]
    unfold nmD behStep
    rw [List.map_append, List.map_map]
    rfl
  exact setF_t (bin2_t rfl c1 ad)
theorem behStep_len (lk : List Lk) (b : List Str) : (behStep lk b).length ≤ b.length + lk.length := by
  unfold behStep
  rw [List.length_append, List.length_map]
  have := List.length_filter_le (fun l : Lk => b.contains l.1 && !b.contains l.2.1) lk
  omega
theorem beh_loop {fl : List Fl} {lk : List Lk} {p c a3 a4 a5 a6 a9 a12 a13 a14 a15 a17 a18 : D} (hl : lk.length ≤ 100) : ∀ (ds : List D) (b : List Str) (a8 : D), b.length + 100 * ds.length ≤ 90000 →
    ∃ x8, loopF (nameG 8) behBody ds [p, webD fl lk, c, a3, a4, a5, a6, nmD b, a8, a9, .non, .non, a12, a13, a14, a15, .non, a17, a18] = some (.nx [p, webD fl lk, c, a3, a4, a5, a6, nmD (behN lk ds.length b), x8, a9, .non, .non, a12, a13, a14, a15, .non, a17, a18])
  | [], b, a8, _ => ⟨a8, rfl⟩
  | d :: ds, b, a8, hz => by
    rw [List.length_cons] at hz
    have bz := behStep_len lk b
    obtain ⟨x8, i1⟩ := beh_loop (fl := fl) (p := p) (c := c) (a3 := a3) (a4 := a4) (a5 := a5) (a6 := a6) (a9 := a9) (a12 := a12) (a13 := a13) (a14 := a14) (a15 := a15) (a17 := a17) (a18 := a18) hl ds (behStep lk b) d (by omega)
    exact ⟨x8, loop_t (e1 := [p, webD fl lk, c, a3, a4, a5, a6, nmD b, d, a9, .non, .non, a12, a13, a14, a15, .non, a17, a18]) rfl (beh_step (by omega)) i1⟩
/-! ### the rows -/
def rowsBody : FS := (seqF (setF 12 (ifF (tstF (bin2 (bin2 (varF 10) (conF (.int 0)) ixD) (varF 7) inAD)) (bin2 (bin2 (varF 6) (varF 3) ixD) (bin2 (varF 2) (varF 3) ixD) (intOp0 fun i j => i - j)) (conF (.int 0))))
  (iteF' (orF (notF (tstF (chainF (conF (.int 0)) (bin2 (bin2 (varF 11) (conF (.int 2)) ixD) (bin2 (varF 10) (conF (.int 2)) ixD) (intOp0 fun i j => i - j)) (varF 12) (cmpD leI leS) (cmpD leI leS)))) (notF (tstF (chainF (conF (.int 0)) (bin2 (bin2 (varF 11) (conF (.int 1)) ixD) (bin2 (varF 10) (conF (.int 1)) ixD) (intOp0 fun i j => i - j)) (varF 12) (cmpD leI leS) (cmpD leI leS))))) (retF (conF (.bl false))) skipF))
theorem rows_step {p w a4 a5 a8 a9 a12 a13 a14 a15 a16 a17 a18 : D} {c c' : Crs} {nm : Str} {b : List Str} {t t' : Tm} {n : Str} {v v' : Int} (hv : lookA c nm = some v) (hv' : lookA c' nm = some v')
    (hg : gateOf t n ≤ gateOf t' n ∧ endOf t n ≤ endOf t' n) (hl : gateOf t' n ≤ gateOf t n + (if n ∈ b then v' - v else 0) ∧ endOf t' n ≤ endOf t n + (if n ∈ b then v' - v else 0)) :
    ∃ x12, rowsBody [p, w, crs c, .str nm, a4, a5, crs c', nmD b, a8, a9, rowOf t n, rowOf t' n, a12, a13, a14, a15, a16, a17, a18] = some (.nx [p, w, crs c, .str nm, a4, a5, crs c', nmD b, a8, a9, rowOf t n, rowOf t' n, x12, a13, a14, a15, a16, a17, a18]) := by
  rw [row_eq, row_eq]
  have i1 := flat_in (s := n) (names := b)
  have x1 : ixD (crs c) (.str nm) = some (.int v) := by rw [crs, ix_tab, hv]; rfl
  have x2 : ixD (crs c') (.str nm) = some (.int v') := by rw [crs, ix_tab, hv']; rfl
  have r0 : ∀ (s : Str) (i j : Int), ixD (.tup [.str s, .int i, .int j]) (.int 0) = some (.str s) := fun _ _ _ => rfl
  have r1 : ∀ (s : Str) (i j : Int), ixD (.tup [.str s, .int i, .int j]) (.int 1) = some (.int i) := fun _ _ _ => rfl
  have r2 : ∀ (s : Str) (i j : Int), ixD (.tup [.str s, .int i, .int j]) (.int 2) = some (.int j) := fun _ _ _ => rfl
  have m1 : b.contains n = decide (n ∈ b) := by
    by_cases z : n ∈ b
    · rw [decide_eq_true z]; simpa using z
    · rw [decide_eq_false z]; simpa using z
  rw [m1] at i1
  by_cases z : n ∈ b
  · rw [if_pos z] at hl
    rw [decide_eq_true z] at i1
    have l1 : leI 0 (endOf t' n - endOf t n) = true := decide_eq_true (by omega)
    have l2 : leI (endOf t' n - endOf t n) (v' - v) = true := decide_eq_true (by omega)
    have l3 : leI 0 (gateOf t' n - gateOf t n) = true := decide_eq_true (by omega)
    have l4 : leI (gateOf t' n - gateOf t n) (v' - v) = true := decide_eq_true (by omega)
    refine ⟨.int (v' - v), ?_⟩
    unfold rowsBody
    simp only [defF, seqF, iteF', setF, retF, dropF, skipF, bin2, un1, callF, ucallF, withF, consF, nilF, varF, conF, one, two, tstF, andF, orF, notF, andV, orV, notV, ifF, chainF, asgF, List.cons_append, List.nil_append, List.replicate, List.getElem?_cons_zero, List.getElem?_cons_succ, Option.map_some, Option.bind_some, if_true, if_false, Bool.false_eq_true, List.set_cons_zero, List.set_cons_succ, Bool.not_true, Bool.not_false, backD, nmD, r0, r1, r2, i1, x1, x2, intOp0, cmpD, l1, l2, l3, l4]
  · rw [if_neg z] at hl
    rw [decide_eq_false z] at i1
    have l1 : leI 0 (endOf t' n - endOf t n) = true := decide_eq_true (by omega)
    have l2 : leI (endOf t' n - endOf t n) 0 = true := decide_eq_true (by omega)
    have l3 : leI 0 (gateOf t' n - gateOf t n) = true := decide_eq_true (by omega)
    have l4 : leI (gateOf t' n - gateOf t n) 0 = true := decide_eq_true (by omega)
    refine ⟨.int 0, ?_⟩
    unfold rowsBody
    simp only [defF, seqF, iteF', setF, retF, dropF, skipF, bin2, un1, callF, ucallF, withF, consF, nilF, varF, conF, one, two, tstF, andF, orF, notF, andV, orV, notV, ifF, chainF, asgF, List.cons_append, List.nil_append, List.replicate, List.getElem?_cons_zero, List.getElem?_cons_succ, Option.map_some, Option.bind_some, if_true, if_false, Bool.false_eq_true, List.set_cons_zero, List.set_cons_succ, Bool.not_true, Bool.not_false, backD, nmD, r0, r1, r2, i1, x1, x2, intOp0, cmpD, l1, l2, l3, l4]
theorem rows_loop {p w a4 a5 a8 a9 a13 a14 a15 a16 a17 a18 : D} {c c' : Crs} {nm : Str} {b : List Str} {t t' : Tm} {v v' : Int} (hv : lookA c nm = some v) (hv' : lookA c' nm = some v') : ∀ (ns : List Str) (a10 a11 a12 : D), (∀ n ∈ ns, (gateOf t n ≤ gateOf t' n ∧ endOf t n ≤ endOf t' n) ∧ (gateOf t' n ≤ gateOf t n + (if n ∈ b then v' - v else 0) ∧ endOf t' n ≤ endOf t n + (if n ∈ b then v' - v else 0))) →
    ∃ x10 x11 x12, loopF (tupG 2 (consG (nameG 10) (consG (nameG 11) nilG))) rowsBody (ns.map fun n => .tup [rowOf t n, rowOf t' n]) [p, w, crs c, .str nm, a4, a5, crs c', nmD b, a8, a9, a10, a11, a12, a13, a14, a15, a16, a17, a18] = some (.nx [p, w, crs c, .str nm, a4, a5, crs c', nmD b, a8, a9, x10, x11, x12, a13, a14, a15, a16, a17, a18])
  | [], a10, a11, a12, _ => ⟨a10, a11, a12, rfl⟩
  | n :: ns, a10, a11, a12, h => by
    obtain ⟨h1, h2⟩ := h n List.mem_cons_self
    obtain ⟨x12, s1⟩ := rows_step (p := p) (w := w) (a4 := a4) (a5 := a5) (a8 := a8) (a9 := a9) (a12 := a12) (a13 := a13) (a14 := a14) (a15 := a15) (a16 := a16) (a17 := a17) (a18 := a18) hv hv' h1 h2
    obtain ⟨y10, y11, y12, i1⟩ := rows_loop (p := p) (w := w) (a4 := a4) (a5 := a5) (a8 := a8) (a9 := a9) (a13 := a13) (a14 := a14) (a15 := a15) (a16 := a16) (a17 := a17) (a18 := a18) hv hv' ns (rowOf t n) (rowOf t' n) x12 (fun m hm => h m (List.mem_cons_of_mem _ hm))
    exact ⟨y10, y11, y12, loop_t (e1 := [p, w, crs c, .str nm, a4, a5, crs c', nmD b, a8, a9, rowOf t n, rowOf t' n, a12, a13, a14, a15, a16, a17, a18]) rfl s1 i1⟩
/-! ### flights that no links lead to -/
def aloneL (fl : List Fl) (lk : List Lk) : List Str := (fl.filter fun f => (lk.filter fun l => l.2.1 == f.1).isEmpty).map (·.1)
theorem alone_ok {fl : List Fl} {lk : List Lk} (h : PreWeb fl lk) {p a2 a3 a4 a5 a6 a7 a8 a9 a10 a11 a12 a13 a14 a16 a18 : D} :
    compF (seqIF (bin2 (varF 1) (conF (.int 1)) ixD)) [15] (nameG 15) (tstF (bin2 (compF (seqIF (bin2 (varF 1) (conF (.int 2)) ixD)) [17] (nameG 17) (tstF (bin2 (bin2 (varF 17) (conF (.int 1)) ixD) (bin2 (varF 15) (conF (.int 0)) ixD) eqD)) (varF 17)) (callF nilF lstD) eqD)) (bin2 (varF 15) (conF (.int 0)) ixD) [p, webD fl lk, a2, a3, a4, a5, a6, a7, a8, a9, a10, a11, a12, a13, a14, .non, a16, .non, a18] =
      some (nmD (aloneL fl lk), [p, webD fl lk, a2, a3, a4, a5, a6, a7, a8, a9, a10, a11, a12, a13, a14, .non, a16, .non, a18]) := by
  have e : nmD (aloneL fl lk) = .lst ((fl.filter fun f => (lk.filter fun l => l.2.1 == f.1).isEmpty).map fun f => .str f.1) := by
    unfold nmD aloneL
    rw [List.map_map]; rfl
  rw [e]
  apply comp_ty (own := [15]) (ts := fl) (env1 := [p, webD fl lk, a2, a3, a4, a5, a6, a7, a8, a9, a10, a11, a12, a13, a14, .non, a16, .non, a18]) encF (fun f => [p, webD fl lk, a2, a3, a4, a5, a6, a7, a8, a9, a10, a11, a12, a13, a14, encF f, a16, .non, a18]) (fun f => (lk.filter fun l => l.2.1 == f.1).isEmpty) (fun f => .str f.1)
  · rfl
  · exact fun _ _ => rfl
  · exact fun _ _ _ _ => rfl
  rotate_left
  · exact fun _ _ _ => rfl
  · rfl
  · exact fun _ _ => rfl
  intro f hf
  have c2 : compF (seqIF (bin2 (varF 1) (conF (.int 2)) ixD)) [17] (nameG 17) (tstF (bin2 (bin2 (varF 17) (conF (.int 1)) ixD) (bin2 (varF 15) (conF (.int 0)) ixD) eqD)) (varF 17) [p, webD fl lk, a2, a3, a4, a5, a6, a7, a8, a9, a10, a11, a12, a13, a14, encF f, a16, .non, a18] =
      some (.lst ((lk.filter fun l => l.2.1 == f.1).map encL), [p, webD fl lk, a2, a3, a4, a5, a6, a7, a8, a9, a10, a11, a12, a13, a14, encF f, a16, .non, a18]) := by
    refine comp_ty encL (fun l => [p, webD fl lk, a2, a3, a4, a5, a6, a7, a8, a9, a10, a11, a12, a13, a14, encF f, a16, encL l, a18]) (fun l => l.2.1 == f.1) encL rfl (fun _ _ => rfl) (fun _ _ _ _ => rfl) (fun l hl => ?_) (fun _ _ _ => rfl) rfl (fun _ _ => rfl)
    have i1 : ixD (encL l) (.int 1) = some (.str l.2.1) := rfl
    have i0 : ixD (encF f) (.int 0) = some (.str f.1) := rfl
    have q := eq_str2 (h.word (h.lo l hl).2.1).2 (h.word (List.mem_map_of_mem hf)).2
    simp only [defF, seqF, iteF', setF, retF, dropF, skipF, bin2, un1, callF, ucallF, withF, consF, nilF, varF, conF, one, two, tstF, andF, orF, notF, andV, orV, notV, ifF, chainF, asgF, List.cons_append, List.nil_append, List.replicate, List.getElem?_cons_zero, List.getElem?_cons_succ, Option.map_some, Option.bind_some, if_true, if_false, Bool.false_eq_true, List.set_cons_zero, List.set_cons_succ, Bool.not_true, Bool.not_false, backD, i0, i1, q]
  have ne := eq_links_nil (l := lk.filter fun l => l.2.1 == f.1) (fun x hx => ⟨(h.word (h.lo x (List.mem_filter.mp hx).1).1).2, (h.word (h.lo x (List.mem_filter.mp hx).1).2.1).2⟩)
  exact tstF_t (bin2_t c2 rfl ne)
theorem alone_gate {fl : List Fl} {lk : List Lk} {pl c : Crs} {t : Tm} {n : Str} (hf : Fix lk pl c t n) (hn : n ∈ aloneL fl lk) : gateOf t n = valOf pl n := by
  obtain ⟨f, h1, rfl⟩ := List.mem_map.mp hn
  have h2 := (List.mem_filter.mp h1).2
  have e : waitsOf lk t f.1 = [] := by
    unfold waitsOf
    rw [List.isEmpty_iff.mp h2]
    rfl
  rw [(fix_gate hf).1, e]
  rfl
end K71
namespace K71
open PySem DL LH
theorem asgF_t {f : FE} {b : FG} {env e1 e2 : List D} {d : D} (h : f env = some (d, e1)) (k : b d e1 = some e2) : asgF f b env = some (.nx e2) := by unfold asgF; rw [h, Option.bind_some, k]; rfl
theorem ne_int2 (i j : Int) : neD (.int i) (.int j) = some (.bl (!(i == j))) := by
  simp [neD, neDD, toPy, SeqAt.shaped, PyData.canLay0, PyData.depth, PyData.eqv]
theorem put_len_eq {α : Type} {c : List (Str × α)} {n : Str} {v w : α} (h : lookA c n = some w) : (putG c n v).length = c.length := by
  have : (c.any fun kv => decide (kv.1 = n)) = true := by
    cases q : (c.any fun kv => decide (kv.1 = n)) with
    | true => rfl
    | false => rw [lookA_none c (by rw [q]; exact Bool.false_ne_true)] at h; cases h
  unfold putG
  rw [if_pos this, List.length_map]
abbrev nmsF (fl : List Fl) : List Str := fl.map fun f => f.1
def zr (t t' : Tm) (ns : List Str) : List D := ns.map fun n => .tup [rowOf t n, rowOf t' n]
theorem zip_rows (t t' : Tm) (ns : List Str) : lzipD (rowsOf t ns) (rowsOf t' ns) = some (.lst (zr t t' ns)) := by
  show some (D.lst (((ns.map (rowOf t)).zip (ns.map (rowOf t'))).map fun e => D.tup [e.1, e.2])) = _
  congr 2
  unfold zr
  induction ns with
  | nil => rfl
  | cons n ns ih => simp only [List.map_cons, List.zip_cons_cons, ih]
theorem str_mem {ns : List Str} {d : D} (h : d ∈ ns.map D.str) : ∃ s, d = .str s ∧ s ∈ ns := by
  obtain ⟨s, h1, rfl⟩ := List.mem_map.mp h
  exact ⟨s, rfl, h1⟩
theorem plan_tab {fl : List Fl} (hnd : (fl.map (·.1)).Nodup) {n : Str} (hn : n ∈ fl.map (·.1)) : lookA (fl.map fun f => (f.1, f.2.1)) n = some (valOf (planOf fl) n) := by
  obtain ⟨f, hf, rfl⟩ := List.mem_map.mp hn
  have e : (fl.map fun f => (f.1, f.2.1)).map (·.1) = fl.map (·.1) := by rw [List.map_map]; rfl
  have := look_mem (fl.map fun f => (f.1, f.2.1)) (by rw [e]; exact hnd) (f.1, f.2.1) (List.mem_map.mpr ⟨f, hf, rfl⟩)
  rw [this]
  unfold valOf planOf
  rw [plan_mem fl [] hnd f hf]
  rfl
theorem turned_ok {n : Nat} {p : D} {fl : List Fl} {lk : List Lk} {c : Crs} (h : Pu (n + 80) p) (g : GoodWeb fl lk) (hr : RunOk fl c) : ∃ p', fd__law_turned_right [p, webD fl lk, crs c] = some (.bl true, [p', webD fl lk, crs c]) ∧ Pu n p' := by
  obtain ⟨o, ho⟩ := g.ord
  obtain ⟨o1, o2, o3⟩ := inOrd_facts g.nd ho
  have fz := g.fz
  have lz := g.lz
  have cl := hr.len
  -- the name
  obtain ⟨d0, p1, a1, a2, a3⟩ := one_of_ok (n := n + 40) (p := p) (ds := (fl.map (·.1)).map D.str) (h.mono (by omega)) (by intro z; have ne := g.pre.ne; simp only [List.map_eq_nil_iff] at z; rw [z] at ne; exact absurd ne (by simp)) (by rw [List.length_map, List.length_map]; omega)
  obtain ⟨nm, rfl, hnm⟩ := str_mem a2
  have hnm' : nm ∈ o := (o3 nm).mpr hnm
  obtain ⟨f0, rest, hf0, hfn, hfilt⟩ : ∃ f0 rest, f0 ∈ fl ∧ f0.1 = nm ∧ (fl.filter fun f => f.1 == nm) = f0 :: rest := by
    obtain ⟨f, hf, e⟩ := List.mem_map.mp hnm
    have hm : f ∈ fl.filter fun f => f.1 == nm := List.mem_filter.mpr ⟨hf, by simpa using e⟩
    cases q : fl.filter fun f => f.1 == nm with
    | nil => rw [q] at hm; exact absurd hm (by simp)
    | cons f0 rest =>
      have m0 : f0 ∈ fl.filter fun f => f.1 == nm := by rw [q]; exact List.mem_cons_self
      obtain ⟨m1, m2⟩ := List.mem_filter.mp m0
      exact ⟨f0, rest, m1, by simpa using m2, rfl⟩
  obtain ⟨v, hv, hlo, hhi⟩ := hr.at_ f0 hf0
  rw [hfn] at hv
  have fb := g.fb f0 hf0
  obtain ⟨fb1, fb2, fb3, fb4⟩ := fb
  -- the draw
  obtain ⟨d, p2, b1, b2, b3, b4⟩ := draw_ok (n := n) (p := p1) (m := f0.2.2.2 - v + 1) (a3.mono (by omega)) (by omega) (bdc (by omega) (by omega))
  let c' : Crs := putG c nm (v + d)
  have hv' : lookA c' nm = some (v + d) := by
    show lookA (putG c nm (v + d)) nm = _
    rw [lookA_put, if_pos rfl]
  have hne : ∀ m, m ≠ nm → lookA c' m = lookA c m := fun m hm => by
    show lookA (putG c nm (v + d)) m = _
    rw [lookA_put, if_neg hm]
  have hr' : RunOk fl c' := by
    refine ⟨?_, fun f hf => ?_⟩
    · show (putG c nm (v + d)).length = _
      rw [put_len_eq hv, cl]
    · by_cases e : f.1 = nm
      · rw [e, hv']
        refine ⟨v + d, rfl, ?_, ?_⟩
        · obtain ⟨w, hw, w1, w2⟩ := hr.at_ f hf
          rw [e, hv] at hw
          obtain rfl := Option.some.inj hw
          omega
        · have : f = f0 := by
            have hh := g.nd
            have l1 := look_mem (ftOf fl) (by rw [ft_names]; exact hh) (f.1, f) (List.mem_map.mpr ⟨f, hf, rfl⟩)
            have l2 := look_mem (ftOf fl) (by rw [ft_names]; exact hh) (f0.1, f0) (List.mem_map.mpr ⟨f0, hf0, rfl⟩)
            simp only at l1 l2
            rw [e] at l1
            rw [hfn, l1] at l2
            exact Option.some.inj l2
          rw [this]; omega
      · rw [hne _ e]; exact hr.at_ f hf
  let pl := planOf fl
  let t := timesOf lk pl c o
  let t' := timesOf lk pl c' o
  let B := behN lk fl.length [nm]
  have ol : o.length = fl.length := by
    have : o.length = (fl.map (·.1)).length := by
      unfold inOrd at ho
      split at ho
      · next e => obtain rfl := Option.some.inj ho; exact e
      · cases ho
    rw [this, List.length_map]
  have beh : Behind lk nm (fun x => x ∈ B) := by
    have := behind_ok (lk := lk) o2 (fun l hl => (o3 _).mpr (g.pre.lo l hl).2.1) nm
    rw [ol] at this
    exact this
  have vv : valOf c nm = v := by unfold valOf; rw [hv]; rfl
  have vv' : valOf c' nm = v + d := by unfold valOf; rw [hv']; rfl
  have hcn : ∀ m, m ≠ nm → valOf c' m = valOf c m := fun m hm => by unfold valOf; rw [hne m hm]
  have fix : ∀ k, k ∈ ([] : List Str) ∨ k ∈ o → Fix lk pl c t k ∧ Fix lk pl c' t' k := fun k hk => ⟨timesOf_fix o2 o1 k (hk.resolve_left (by simp)), timesOf_fix o2 o1 k (hk.resolve_left (by simp))⟩
  have ge := cmp_ge (lk := lk) (lk' := lk) (pl := pl) (c := c) (c' := c') (t := t) (t' := t') (fun l hl => hl) (fun m => by
    by_cases e : m = nm
    · rw [e, vv, vv']; omega
    · rw [hcn m e]; exact Int.le_refl _) o [] o2 fix (fun k hk => absurd hk (by simp))
  have le := cmp_le (lk := lk) (pl := pl) (c := c) (c' := c') (t := t) (t' := t') (name := nm) (S := fun x => x ∈ B) (d := d) b2 beh hcn (by rw [vv, vv']) o [] o2 o1 (fun x hx => absurd hx (by simp)) fix (fun _ x hx => absurd hx (by simp)) (fun k hk => absurd hk (by simp))
  have wt := web_times_ok (c := c) g.pre g.nd ho hr
  have wt' := web_times_ok (c := c') g.pre g.nd ho hr'
  -- the loops
  obtain ⟨x8, lp1⟩ := beh_loop (fl := fl) (lk := lk) (p := p2) (c := crs c) (a3 := .str nm) (a4 := .int f0.2.2.1) (a5 := .int f0.2.2.2) (a6 := crs c') (a9 := .non) (a12 := .non) (a13 := .non) (a14 := .non) (a15 := .non) (a17 := .non) (a18 := .non) lz (fl.map encF) [nm] .non (by rw [List.length_map]; simp only [List.length_singleton]; omega)
  rw [List.length_map] at lp1
  obtain ⟨x10, x11, x12, lp2⟩ := rows_loop (p := p2) (w := webD fl lk) (a4 := .int f0.2.2.1) (a5 := .int f0.2.2.2) (a8 := x8) (a9 := .lst (zr t t' (nmsF fl))) (a13 := .non) (a14 := .non) (a15 := .non) (a16 := .non) (a17 := .non) (a18 := .non) (b := B) (t := t) (t' := t') hv hv' (fl.map (·.1)) .non .non .non (fun k hk => by
    have q : v + d - v = d := by omega
    rw [q]
    exact ⟨ge k (.inr ((o3 k).mpr hk)), le k (.inr ((o3 k).mpr hk))⟩)
  have al := alone_ok g.pre (p := p2) (a2 := crs c) (a3 := .str nm) (a4 := .int f0.2.2.1) (a5 := .int f0.2.2.2) (a6 := crs c') (a7 := nmD B) (a8 := x8) (a9 := .lst (zr t t' (nmsF fl))) (a10 := x10) (a11 := x11) (a12 := x12) (a13 := .non) (a14 := .non) (a16 := .non) (a18 := .non)
  refine ⟨p2, ?_, b4⟩
  refine defF_r (e1 := [p2, webD fl lk, crs c, .str nm, .int f0.2.2.1, .int f0.2.2.2, crs c', nmD B, x8, .lst (zr t t' (nmsF fl)), x10, x11, x12, nmD (aloneL fl lk), tabD D.int (fl.map fun f => (f.1, f.2.1)), .non, .non, .non, .non]) ?_
  show g__law_turned_right [p, webD fl lk, crs c, .non, .non, .non, .non, .non, .non, .non, .non, .non, .non, .non, .non, .non, .non, .non, .non] = _
  -- name
  have n1 : compF (seqIF (bin2 (varF 1) (conF (.int 1)) ixD)) [15] (nameG 15) yesF (bin2 (varF 15) (conF (.int 0)) ixD) [p, webD fl lk, crs c, .non, .non, .non, .non, .non, .non, .non, .non, .non, .non, .non, .non, .non, .non, .non, .non] = some (.lst ((fl.map (·.1)).map D.str), [p, webD fl lk, crs c, .non, .non, .non, .non, .non, .non, .non, .non, .non, .non, .non, .non, .non, .non, .non, .non]) := by
    rw [List.map_map]
    exact comp_all (own := [15]) (b := nameG 15) encF (fun f => [p, webD fl lk, crs c, .non, .non, .non, .non, .non, .non, .non, .non, .non, .non, .non, .non, encF f, .non, .non, .non]) (fun f => .str f.1) rfl (fun _ _ => rfl) (fun _ _ _ _ => rfl) (fun _ _ => rfl) rfl (fun _ _ => rfl)
  refine seqF_t (e1 := [p1, webD fl lk, crs c, .str nm, .non, .non, .non, .non, .non, .non, .non, .non, .non, .non, .non, .non, .non, .non, .non]) (setF_t (e1 := [p1, webD fl lk, crs c, .non, .non, .non, .non, .non, .non, .non, .non, .non, .non, .non, .non, .non, .non, .non, .non]) (uio_t (env1 := [p, webD fl lk, crs c, .non, .non, .non, .non, .non, .non, .non, .non, .non, .non, .non, .non, .non, .non, .non, .non]) (consF_t n1 rfl) rfl a1)) ?_
  -- low, high
  have n2 : compF (seqIF (bin2 (varF 1) (conF (.int 1)) ixD)) [15] (nameG 15) (tstF (bin2 (bin2 (varF 15) (conF (.int 0)) ixD) (varF 3) eqD)) (callF (consF (bin2 (varF 15) (conF (.int 2)) ixD) (consF (bin2 (varF 15) (conF (.int 3)) ixD) nilF)) tupD) [p1, webD fl lk, crs c, .str nm, .non, .non, .non, .non, .non, .non, .non, .non, .non, .non, .non, .non, .non, .non, .non] =
      some (.lst ((fl.filter fun f => f.1 == nm).map fun f => .tup [.int f.2.2.1, .int f.2.2.2]), [p1, webD fl lk, crs c, .str nm, .non, .non, .non, .non, .non, .non, .non, .non, .non, .non, .non, .non, .non, .non, .non]) := by
    refine comp_ty encF (fun f => [p1, webD fl lk, crs c, .str nm, .non, .non, .non, .non, .non, .non, .non, .non, .non, .non, .non, encF f, .non, .non, .non]) (fun f => f.1 == nm) (fun f => .tup [.int f.2.2.1, .int f.2.2.2]) rfl (fun _ _ => rfl) (fun _ _ _ _ => rfl) (fun f hf => ?_) (fun _ _ _ => rfl) rfl (fun _ _ => rfl)
    have q := eq_str2 (g.pre.word (List.mem_map_of_mem hf)).2 (g.pre.word hnm).2
    exact tstF_t (bin2_t (x := .str f.1) rfl rfl q)
  have n3 : ixD (.lst ((fl.filter fun f => f.1 == nm).map fun f => D.tup [.int f.2.2.1, .int f.2.2.2])) (.int 0) = some (.tup [.int f0.2.2.1, .int f0.2.2.2]) := by
    refine (ixl (fun f : Fl => D.tup [.int f.2.2.1, .int f.2.2.2]) (fl.filter fun f => f.1 == nm) 0).trans ?_
    rw [hfilt]
    rfl
  refine seqF_t (e1 := [p1, webD fl lk, crs c, .str nm, .int f0.2.2.1, .int f0.2.2.2, .non, .non, .non, .non, .non, .non, .non, .non, .non, .non, .non, .non, .non]) (asgF_t (bin2_t n2 rfl n3) rfl) ?_
  refine seqF_t (e1 := [p1, webD fl lk, crs c, .str nm, .int f0.2.2.1, .int f0.2.2.2, crs c, nmD [nm], .non, .non, .non, .non, .non, .non, .non, .non, .non, .non, .non]) rfl ?_
  -- longer[name]
  have x1 : ixD (crs c) (.str nm) = some (.int v) := by rw [crs, ix_tab, hv]; rfl
  have n4 : bin2 (bin2 (varF 2) (varF 3) ixD) (ucallIO 0 (consF (bin2 (bin2 (varF 5) (bin2 (varF 2) (varF 3) ixD) (intOp0 fun i j => i - j)) (conF (.int 1)) addD) nilF) fd__law_draw) addD [p1, webD fl lk, crs c, .str nm, .int f0.2.2.1, .int f0.2.2.2, crs c, nmD [nm], .non, .non, .non, .non, .non, .non, .non, .non, .non, .non, .non] =
      some (.int (v + d), [p2, webD fl lk, crs c, .str nm, .int f0.2.2.1, .int f0.2.2.2, crs c, nmD [nm], .non, .non, .non, .non, .non, .non, .non, .non, .non, .non, .non]) := by
    have q : bin2 (varF 2) (varF 3) ixD [p1, webD fl lk, crs c, .str nm, .int f0.2.2.1, .int f0.2.2.2, crs c, nmD [nm], .non, .non, .non, .non, .non, .non, .non, .non, .non, .non, .non] = some (.int v, [p1, webD fl lk, crs c, .str nm, .int f0.2.2.1, .int f0.2.2.2, crs c, nmD [nm], .non, .non, .non, .non, .non, .non, .non, .non, .non, .non, .non]) := bin2_t rfl rfl x1
    refine bin2_t q (uio_t (j := 0) (env1 := [p1, webD fl lk, crs c, .str nm, .int f0.2.2.1, .int f0.2.2.2, crs c, nmD [nm], .non, .non, .non, .non, .non, .non, .non, .non, .non, .non, .non]) (consF_t (bin2_t (bin2_t rfl q rfl) rfl rfl) rfl) rfl b1) rfl
  refine seqF_t (e1 := [p2, webD fl lk, crs c, .str nm, .int f0.2.2.1, .int f0.2.2.2, crs c', nmD [nm], .non, .non, .non, .non, .non, .non, .non, .non, .non, .non, .non]) (dput_at 6 (d := crs c) (k := .str nm) (e2 := [p2, webD fl lk, crs c, .str nm, .int f0.2.2.1, .int f0.2.2.2, crs c, nmD [nm], .non, .non, .non, .non, .non, .non, .non, .non, .non, .non, .non]) n4 rfl rfl (fun ds z => by cases z) (put_tab D.int c nm _ (by omega))) ?_
  refine seqF_t (forF_t (l := fl.map encF) (e1 := [p2, webD fl lk, crs c, .str nm, .int f0.2.2.1, .int f0.2.2.2, crs c', nmD [nm], .non, .non, .non, .non, .non, .non, .non, .non, .non, .non, .non]) rfl lp1) ?_
  -- rows
  have n5 : callF (consF (ucallF (consF (varF 1) (consF (varF 2) nilF)) fd_web_times) (consF (ucallF (consF (varF 1) (consF (varF 6) nilF)) fd_web_times) nilF)) (two lzipD) [p2, webD fl lk, crs c, .str nm, .int f0.2.2.1, .int f0.2.2.2, crs c', nmD B, x8, .non, .non, .non, .non, .non, .non, .non, .non, .non, .non] =
      some (.lst (zr t t' (nmsF fl)), [p2, webD fl lk, crs c, .str nm, .int f0.2.2.1, .int f0.2.2.2, crs c', nmD B, x8, .non, .non, .non, .non, .non, .non, .non, .non, .non, .non]) :=
    callF_t (consF_t (ucall_t (ds := [webD fl lk, crs c]) rfl wt) (consF_t (ucall_t (ds := [webD fl lk, crs c']) rfl wt') rfl)) (zip_rows t t' _)
  refine seqF_t (setF_t n5) ?_
  refine seqF_t (forF_t (l := zr t t' (nmsF fl)) (e1 := [p2, webD fl lk, crs c, .str nm, .int f0.2.2.1, .int f0.2.2.2, crs c', nmD B, x8, .lst (zr t t' (nmsF fl)), .non, .non, .non, .non, .non, .non, .non, .non, .non]) rfl lp2) ?_
  refine seqF_t (setF_t al) ?_
  -- planned
  have n6 : compF (seqIF (bin2 (varF 1) (conF (.int 1)) ixD)) [15] (nameG 15) yesF (callF (consF (bin2 (varF 15) (conF (.int 0)) ixD) (consF (bin2 (varF 15) (conF (.int 1)) ixD) nilF)) tupD) [p2, webD fl lk, crs c, .str nm, .int f0.2.2.1, .int f0.2.2.2, crs c', nmD B, x8, .lst (zr t t' (nmsF fl)), x10, x11, x12, nmD (aloneL fl lk), .non, .non, .non, .non, .non] =
      some (.lst ((fl.map fun f => (f.1, f.2.1)).map pairD), [p2, webD fl lk, crs c, .str nm, .int f0.2.2.1, .int f0.2.2.2, crs c', nmD B, x8, .lst (zr t t' (nmsF fl)), x10, x11, x12, nmD (aloneL fl lk), .non, .non, .non, .non, .non]) := by
    rw [List.map_map]
    exact comp_all (own := [15]) (b := nameG 15) encF (fun f => [p2, webD fl lk, crs c, .str nm, .int f0.2.2.1, .int f0.2.2.2, crs c', nmD B, x8, .lst (zr t t' (nmsF fl)), x10, x11, x12, nmD (aloneL fl lk), .non, encF f, .non, .non, .non]) (fun f => pairD (f.1, f.2.1)) rfl (fun _ _ => rfl) (fun _ _ _ _ => rfl) (fun _ _ => rfl) rfl (fun _ _ => rfl)
  have dp := dict_pairs (fl.map fun f => (f.1, f.2.1)) (by rw [List.map_map]; exact g.nd)
  refine seqF_t (setF_t (call1_t n6 dp)) ?_
  -- none of these goes otherwise
  have n7 : compF (seqIF (ucallF (consF (varF 1) (consF (varF 2) nilF)) fd_web_times)) [18] (nameG 18) (andF (tstF (bin2 (bin2 (varF 18) (conF (.int 0)) ixD) (varF 13) inAD)) (tstF (bin2 (bin2 (varF 18) (conF (.int 1)) ixD) (bin2 (varF 14) (bin2 (varF 18) (conF (.int 0)) ixD) ixD) neD))) (varF 18) [p2, webD fl lk, crs c, .str nm, .int f0.2.2.1, .int f0.2.2.2, crs c', nmD B, x8, .lst (zr t t' (nmsF fl)), x10, x11, x12, nmD (aloneL fl lk), tabD D.int (fl.map fun f => (f.1, f.2.1)), .non, .non, .non, .non] =
      some (.lst (((fl.map (·.1)).filter fun _ => false).map (rowOf t)), [p2, webD fl lk, crs c, .str nm, .int f0.2.2.1, .int f0.2.2.2, crs c', nmD B, x8, .lst (zr t t' (nmsF fl)), x10, x11, x12, nmD (aloneL fl lk), tabD D.int (fl.map fun f => (f.1, f.2.1)), .non, .non, .non, .non]) := by
    have sq : seqIF (ucallF (consF (varF 1) (consF (varF 2) nilF)) fd_web_times) [p2, webD fl lk, crs c, .str nm, .int f0.2.2.1, .int f0.2.2.2, crs c', nmD B, x8, .lst (zr t t' (nmsF fl)), x10, x11, x12, nmD (aloneL fl lk), tabD D.int (fl.map fun f => (f.1, f.2.1)), .non, .non, .non, .non] = some ((fl.map (·.1)).map (rowOf t), [p2, webD fl lk, crs c, .str nm, .int f0.2.2.1, .int f0.2.2.2, crs c', nmD B, x8, .lst (zr t t' (nmsF fl)), x10, x11, x12, nmD (aloneL fl lk), tabD D.int (fl.map fun f => (f.1, f.2.1)), .non, .non, .non, .non]) := by
      have u := ucall_t (fs := consF (varF 1) (consF (varF 2) nilF)) (env := [p2, webD fl lk, crs c, .str nm, .int f0.2.2.1, .int f0.2.2.2, crs c', nmD B, x8, .lst (zr t t' (nmsF fl)), x10, x11, x12, nmD (aloneL fl lk), tabD D.int (fl.map fun f => (f.1, f.2.1)), .non, .non, .non, .non]) (ds := [webD fl lk, crs c]) rfl wt
      unfold seqIF
      rw [u]
      rfl
    refine comp_ty (rowOf t) (fun k => [p2, webD fl lk, crs c, .str nm, .int f0.2.2.1, .int f0.2.2.2, crs c', nmD B, x8, .lst (zr t t' (nmsF fl)), x10, x11, x12, nmD (aloneL fl lk), tabD D.int (fl.map fun f => (f.1, f.2.1)), .non, .non, .non, rowOf t k]) (fun _ => false) (rowOf t) sq (fun _ _ => rfl) (fun _ _ _ _ => rfl) (fun k hk => ?_) (fun _ _ z => by cases z) rfl (fun _ _ => rfl)
    have i0 : ixD (rowOf t k) (.int 0) = some (.str k) := rfl
    have i1 : ixD (rowOf t k) (.int 1) = some (.int (gateOf t k)) := by rw [row_eq]; rfl
    have i2 := flat_in (s := k) (names := aloneL fl lk)
    have i3 : ixD (tabD D.int (fl.map fun f => (f.1, f.2.1))) (.str k) = some (.int (valOf pl k)) := by rw [ix_tab, plan_tab g.nd hk]; rfl
    by_cases z : k ∈ aloneL fl lk
    · have z' : (aloneL fl lk).contains k = true := by simpa using z
      rw [z'] at i2
      have gt := alone_gate (fix k (.inr ((o3 k).mpr hk))).1 z
      have ne : neD (.int (gateOf t k)) (.int (valOf pl k)) = some (.bl false) := by rw [ne_int2, gt]; simp
      simp only [defF, seqF, iteF', setF, retF, dropF, skipF, bin2, un1, callF, ucallF, withF, consF, nilF, varF, conF, one, two, tstF, andF, orF, notF, andV, orV, notV, ifF, chainF, asgF, List.cons_append, List.nil_append, List.replicate, List.getElem?_cons_zero, List.getElem?_cons_succ, Option.map_some, Option.bind_some, if_true, if_false, Bool.false_eq_true, List.set_cons_zero, List.set_cons_succ, Bool.not_true, Bool.not_false, backD, i0, i1, nmD, i2, i3, ne]
    · have z' : (aloneL fl lk).contains k = false := by simpa using z
      rw [z'] at i2
      simp only [defF, seqF, iteF', setF, retF, dropF, skipF, bin2, un1, callF, ucallF, withF, consF, nilF, varF, conF, one, two, tstF, andF, orF, notF, andV, orV, notV, ifF, chainF, asgF, List.cons_append, List.nil_append, List.replicate, List.getElem?_cons_zero, List.getElem?_cons_succ, Option.map_some, Option.bind_some, if_true, if_false, Bool.false_eq_true, List.set_cons_zero, List.set_cons_succ, Bool.not_true, Bool.not_false, backD, i0, i1, nmD, i2]
  have e0 : ((fl.map (·.1)).filter fun _ => false).map (rowOf t) = [] := by simp
  rw [e0] at n7
  exact retF_t (bin2_t n7 rfl rfl)
end K71
namespace K71
open PySem DL LH
theorem zipD_map {α : Type} (f g : α → D) : ∀ l : List α, zipD (l.map f) (l.map g) = l.map fun a => .tup [f a, g a]
  | [] => rfl
  | a :: l => by rw [List.map_cons, List.map_cons, zipD, zipD_map f g l]; rfl
theorem linked_tail {fl : List Fl} {lk lk' : List Lk} {c : Crs} {p a3 a4 a5 a6 : D} (h : PreWeb fl lk) (hnd : (fl.map (·.1)).Nodup) {o : List Str} (ho : inOrd (fl.map (·.1)) lk = some o) (h' : PreWeb fl lk') (hs : ∀ l ∈ lk, l ∈ lk') (hr : RunOk fl c) :
    (seqF (iteF' (tstF (bin2 (ucallF (consF (varF 7) nilF) fd_is_web) (conF (.bl true)) isNotD)) (retF (conF (.bl true))) skipF)
  (retF (andV (bin2 (compF (zipAF (consF (ucallF (consF (varF 1) (consF (varF 2) nilF)) fd_web_times) (consF (ucallF (consF (varF 7) (consF (varF 2) nilF)) fd_web_times) nilF))) [10, 11] (tupG 2 (consG (nameG 10) (consG (nameG 11) nilG))) (tstF (bin2 (bin2 (varF 11) (conF (.int 1)) ixD) (bin2 (varF 10) (conF (.int 1)) ixD) ltD)) (conF (.int 1))) (callF nilF lstD) eqD) (ucallF (consF (varF 7) (consF (varF 2) nilF)) fd__law_told_right)))) [p, webD fl lk, crs c, a3, a4, a5, a6, webD fl lk', .non, .non, .non, .non] =
      some (.rt (.bl true) [p, webD fl lk, crs c, a3, a4, a5, a6, webD fl lk', .non, .non, .non, .non]) := by
  have w := is_web_ok h'
  cases q : inOrd (fl.map (·.1)) lk' with
  | none =>
    rw [q] at w
    refine seqF_r (ite_t (e1 := [p, webD fl lk, crs c, a3, a4, a5, a6, webD fl lk', .non, .non, .non, .non]) ?_ rfl)
    exact tstF_t (bin2_t (ucall_t (ds := [webD fl lk']) rfl w) rfl rfl)
  | some o' =>
    rw [q] at w
    obtain ⟨o1, o2, o3⟩ := inOrd_facts hnd ho
    obtain ⟨q1, q2, q3⟩ := inOrd_facts hnd q
    refine seqF_t (e1 := [p, webD fl lk, crs c, a3, a4, a5, a6, webD fl lk', .non, .non, .non, .non]) (ite_f (e1 := [p, webD fl lk, crs c, a3, a4, a5, a6, webD fl lk', .non, .non, .non, .non]) (tstF_t (bin2_t (ucall_t (ds := [webD fl lk']) rfl w) rfl rfl)) rfl) ?_
    have wt := web_times_ok (c := c) h hnd ho hr
    have wt' := web_times_ok (c := c) h' hnd q hr
    have told := told_ok h' hnd q hr
    have ge := cmp_ge (lk := lk) (lk' := lk') (pl := planOf fl) (c := c) (c' := c) (t := timesOf lk (planOf fl) c o) (t' := timesOf lk' (planOf fl) c o') hs (fun _ => Int.le_refl _) o' [] q2
      (fun k hk => ⟨timesOf_fix o2 o1 k ((o3 k).mpr ((q3 k).mp (hk.resolve_left (by simp)))), timesOf_fix q2 q1 k (hk.resolve_left (by simp))⟩) (fun k hk => absurd hk (by simp))
    generalize timesOf lk (planOf fl) c o = t at wt ge
    generalize timesOf lk' (planOf fl) c o' = t' at wt' ge
    have it : zipAF (consF (ucallF (consF (varF 1) (consF (varF 2) nilF)) fd_web_times) (consF (ucallF (consF (varF 7) (consF (varF 2) nilF)) fd_web_times) nilF)) [p, webD fl lk, crs c, a3, a4, a5, a6, webD fl lk', .non, .non, .non, .non] = some (zr t t' (nmsF fl), [p, webD fl lk, crs c, a3, a4, a5, a6, webD fl lk', .non, .non, .non, .non]) := by
      have u1 : consF (ucallF (consF (varF 1) (consF (varF 2) nilF)) fd_web_times) (consF (ucallF (consF (varF 7) (consF (varF 2) nilF)) fd_web_times) nilF) [p, webD fl lk, crs c, a3, a4, a5, a6, webD fl lk', .non, .non, .non, .non] = some ([rowsOf t (nmsF fl), rowsOf t' (nmsF fl)], [p, webD fl lk, crs c, a3, a4, a5, a6, webD fl lk', .non, .non, .non, .non]) :=
        consF_t (ucall_t (ds := [webD fl lk, crs c]) rfl wt) (consF_t (ucall_t (ds := [webD fl lk', crs c]) rfl wt') rfl)
      unfold zipAF
      rw [u1]
      show some (zipD ((nmsF fl).map (rowOf t)) ((nmsF fl).map (rowOf t')), _) = _
      rw [zipD_map]
      rfl
    have c1 : compF (zipAF (consF (ucallF (consF (varF 1) (consF (varF 2) nilF)) fd_web_times) (consF (ucallF (consF (varF 7) (consF (varF 2) nilF)) fd_web_times) nilF))) [10, 11] (tupG 2 (consG (nameG 10) (consG (nameG 11) nilG))) (tstF (bin2 (bin2 (varF 11) (conF (.int 1)) ixD) (bin2 (varF 10) (conF (.int 1)) ixD) ltD)) (conF (.int 1)) [p, webD fl lk, crs c, a3, a4, a5, a6, webD fl lk', .non, .non, .non, .non] =
        some (.lst (((nmsF fl).filter fun _ => false).map fun _ => .int 1), [p, webD fl lk, crs c, a3, a4, a5, a6, webD fl lk', .non, .non, .non, .non]) := by
      refine comp_ty (ts := nmsF fl) (fun n => .tup [rowOf t n, rowOf t' n]) (fun n => [p, webD fl lk, crs c, a3, a4, a5, a6, webD fl lk', .non, .non, rowOf t n, rowOf t' n]) (fun _ => false) (fun _ => .int 1) it (fun _ _ => rfl) (fun _ _ _ _ => rfl) (fun k hk => ?_) (fun _ _ z => by cases z) rfl (fun _ _ => rfl)
      have i1 : ixD (rowOf t k) (.int 1) = some (.int (gateOf t k)) := by rw [row_eq]; rfl
      have i2 : ixD (rowOf t' k) (.int 1) = some (.int (gateOf t' k)) := by rw [row_eq]; rfl
      have l := (ge k (.inr ((q3 k).mpr hk))).1
      have lt : ltD (.int (gateOf t' k)) (.int (gateOf t k)) = some (.bl false) := by
        show some (D.bl (decide (gateOf t' k < gateOf t k))) = _
        rw [decide_eq_false (by omega)]
      exact tstF_t (bin2_t (bin2_t rfl rfl i2) (bin2_t rfl rfl i1) lt)
    have e0 : ((nmsF fl).filter fun _ => false).map (fun _ => D.int 1) = [] := by simp
    rw [e0] at c1
    have c2 : bin2 (compF (zipAF (consF (ucallF (consF (varF 1) (consF (varF 2) nilF)) fd_web_times) (consF (ucallF (consF (varF 7) (consF (varF 2) nilF)) fd_web_times) nilF))) [10, 11] (tupG 2 (consG (nameG 10) (consG (nameG 11) nilG))) (tstF (bin2 (bin2 (varF 11) (conF (.int 1)) ixD) (bin2 (varF 10) (conF (.int 1)) ixD) ltD)) (conF (.int 1))) (callF nilF lstD) eqD [p, webD fl lk, crs c, a3, a4, a5, a6, webD fl lk', .non, .non, .non, .non] = some (.bl true, [p, webD fl lk, crs c, a3, a4, a5, a6, webD fl lk', .non, .non, .non, .non]) := bin2_t c1 rfl rfl
    refine retF_t ?_
    unfold andV
    rw [tstF_t c2, Option.bind_some]
    simp only [if_true]
    exact ucall_t (ds := [webD fl lk', crs c]) rfl told
def pairT (l : Lk) : D := .tup [.str l.1, .str l.2.1]
theorem pairs_notIn {lk : List Lk} {a b : Str} (ha : PyData.strOk a = true) (hb : PyData.strOk b = true) (h : ∀ l ∈ lk, PyData.strOk l.1 = true ∧ PyData.strOk l.2.1 = true) : notInAD (.tup [.str a, .str b]) (.lst (lk.map pairT)) = some (.bl (!decide ((a, b) ∈ lk.map pair))) := by
  have n1 : inD (.tup [.str a, .str b]) (.lst (lk.map pairT)) = none := rfl
  have t1 : toPys (lk.map pairT) = some (lk.map fun l => .tuple [.str l.1, .str l.2.1]) := by
    clear h
    induction lk with
    | nil => rfl
    | cons l lk ih =>
      rw [List.map_cons, List.map_cons, toPys]
      show (some (PyData.tuple [.str l.1, .str l.2.1])).bind _ = _
      rw [Option.bind_some, ih (by rfl)]
      rfl
  have t2 : toPy (.tup [.str a, .str b]) = some (.tuple [.str a, .str b]) := rfl
  have s1 : SeqAt.shaped (.tuple [.str a, .str b]) = true := by simp [SeqAt.shaped, PyData.canLay0, PyData.canLayAll0, ha, hb, PyData.depth, PyData.depthAll]
  have s2 : SeqAt.shaped (.list (lk.map fun l => .tuple [.str l.1, .str l.2.1])) = true := by
    have c : PyData.canLayAll0 (lk.map fun l => .tuple [.str l.1, .str l.2.1]) = true := by
      clear n1 t1
      induction lk with
      | nil => rfl
      | cons l lk ih =>
        obtain ⟨h1, h2⟩ := h l List.mem_cons_self
        rw [List.map_cons, PyData.canLayAll0, ih fun x hx => h x (List.mem_cons_of_mem _ hx)]
        simp [PyData.canLay0, PyData.canLayAll0, h1, h2]
    have d : PyData.depthAll (lk.map fun l => .tuple [.str l.1, .str l.2.1]) ≤ 60 := by
      clear n1 t1 c h
      induction lk with
      | nil => simp [PyData.depthAll]
      | cons l lk ih =>
        rw [List.map_cons, PyData.depthAll]
        refine Nat.max_le.mpr ⟨?_, ih⟩
        simp [PyData.depth, PyData.depthAll]
    unfold SeqAt.shaped
    rw [PyData.canLay0, c, Bool.true_and]
    simp only [PyData.depth]
    exact decide_eq_true (by omega)
  have d1 : deepIn (.tup [.str a, .str b]) (.lst (lk.map pairT)) = some (decide ((a, b) ∈ lk.map pair)) := by
    show ((toPy (.tup [.str a, .str b])).bind fun x => (toPys (lk.map pairT)).bind fun bs => if (SeqAt.shaped x && SeqAt.shaped (.list bs)) = true then some (bs.any fun z => PyData.eqv z x) else none) = _
    rw [t2, t1, Option.bind_some, Option.bind_some, s1, s2]
    simp only [Bool.and_self, if_true]
    congr 1
    clear n1 t1 t2 s1 s2 h
    induction lk with
    | nil => rfl
    | cons l lk ih =>
      rw [List.map_cons, List.any_cons, ih, List.map_cons]
      have e : PyData.eqv (.tuple [.str l.1, .str l.2.1]) (.tuple [.str a, .str b]) = decide ((a, b) = pair l) := by
        simp only [PyData.eqv, PyData.eqvAll, Bool.and_true]
        by_cases z : (a, b) = pair l
        · rw [decide_eq_true z]
          have z1 : a = l.1 := congrArg Prod.fst z
          have z2 : b = l.2.1 := congrArg Prod.snd z
          simp [z1, z2]
        · rw [decide_eq_false z]
          by_cases z1 : l.1 = a
          · by_cases z2 : l.2.1 = b
            · exact absurd (show (a, b) = (l.1, l.2.1) by rw [z1, z2]) z
            · simp [z2]
          · simp [z1]
      rw [e]
      by_cases z : (a, b) = pair l
      · simp [z]
      · simp [z]
  unfold notInAD
  rw [n1, d1]
  rfl
end K71
namespace K71
open PySem DL LH
theorem ne_str2 {x y : Str} (h : PyData.strOk x = true) (k : PyData.strOk y = true) : neD (.str x) (.str y) = some (.bl (!(x == y))) := by
  simp [neD, neDD, toPy, SeqAt.shaped, PyData.canLay0, PyData.depth, PyData.eqv, h, k]
theorem ifF_t {gc : FT} {fa fb : FE} {env e1 : List D} {r : Option (D × List D)} (h : gc env = some (true, e1)) (k : fa e1 = r) : ifF gc fa fb env = r := by unfold ifF; rw [h, Option.bind_some, if_pos rfl]; exact k
theorem ifF_f {gc : FT} {fa fb : FE} {env e1 : List D} {r : Option (D × List D)} (h : gc env = some (false, e1)) (k : fb e1 = r) : ifF gc fa fb env = r := by unfold ifF; rw [h, Option.bind_some, if_neg Bool.false_ne_true]; exact k
theorem and_t {a b : FT} {env e1 : List D} {r : Option (Bool × List D)} (h : a env = some (true, e1)) (k : b e1 = r) : andF a b env = r := by unfold andF; rw [h, Option.bind_some, if_pos rfl]; exact k
theorem and_f {a b : FT} {env e1 : List D} (h : a env = some (false, e1)) : andF a b env = some (false, e1) := by unfold andF; rw [h, Option.bind_some, if_neg Bool.false_ne_true]
theorem linked_ok {n : Nat} {p : D} {fl : List Fl} {lk : List Lk} {c : Crs} (h : Pu (n + 120) p) (g : GoodWeb fl lk) (hr : RunOk fl c) : ∃ p', fd__law_linked_right [p, webD fl lk, crs c] = some (.bl true, [p', webD fl lk, crs c]) ∧ Pu n p' := by
  obtain ⟨o, ho⟩ := g.ord
  have fz := g.fz
  have lz := g.lz
  have hne : (nmsF fl).map D.str ≠ [] := by intro z; have ne := g.pre.ne; simp only [List.map_eq_nil_iff] at z; rw [z] at ne; exact absurd ne (by simp)
  have hlen : ((nmsF fl).map D.str).length < 2 ^ 20 := by rw [List.length_map, List.length_map]; omega
  obtain ⟨d0, p1, a1, a2, a3⟩ := one_of_ok (n := n + 80) (p := p) (ds := (nmsF fl).map D.str) (h.mono (by omega)) hne hlen
  obtain ⟨a, rfl, ha⟩ := str_mem a2
  obtain ⟨d0, p2, b1, b2, b3⟩ := one_of_ok (n := n + 40) (p := p1) (ds := (nmsF fl).map D.str) (a3.mono (by omega)) hne hlen
  obtain ⟨b, rfl, hb⟩ := str_mem b2
  have sa := (g.pre.word ha).2
  have sb := (g.pre.word hb).2
  have n1 : compF (seqIF (bin2 (varF 1) (conF (.int 1)) ixD)) [8] (nameG 8) yesF (bin2 (varF 8) (conF (.int 0)) ixD) [p, webD fl lk, crs c, .non, .non, .non, .non, .non, .non, .non, .non, .non] = some (nmD (nmsF fl), [p, webD fl lk, crs c, .non, .non, .non, .non, .non, .non, .non, .non, .non]) := by
    unfold nmD nmsF
    rw [List.map_map]
    exact comp_all (own := [8]) (b := nameG 8) encF (fun f => [p, webD fl lk, crs c, .non, .non, .non, .non, .non, encF f, .non, .non, .non]) (fun f => .str f.1) rfl (fun _ _ => rfl) (fun _ _ _ _ => rfl) (fun _ _ => rfl) rfl (fun _ _ => rfl)
  have n2 : compF (seqIF (bin2 (varF 1) (conF (.int 2)) ixD)) [5, 6, 9] (tupG 3 (consG (nameG 5) (consG (nameG 6) (consG (nameG 9) nilG)))) yesF (callF (consF (varF 5) (consF (varF 6) nilF)) tupD) [p, webD fl lk, crs c, nmD (nmsF fl), .non, .non, .non, .non, .non, .non, .non, .non] = some (.lst (lk.map pairT), [p, webD fl lk, crs c, nmD (nmsF fl), .non, .non, .non, .non, .non, .non, .non, .non]) :=
    comp_all (own := [5, 6, 9]) encL (fun l => [p, webD fl lk, crs c, nmD (nmsF fl), .non, .str l.1, .str l.2.1, .non, .non, .int l.2.2, .non, .non]) pairT rfl (fun _ _ => rfl) (fun _ _ _ _ => rfl) (fun _ _ => rfl) rfl (fun _ _ => rfl)
  have n3 : parF [5, 6] (consF (ucallIO 0 (consF (varF 3) nilF) fd__law_one_of) (consF (ucallIO 0 (consF (varF 3) nilF) fd__law_one_of) nilF)) [p, webD fl lk, crs c, nmD (nmsF fl), .lst (lk.map pairT), .non, .non, .non, .non, .non, .non, .non] = some (.nx [p2, webD fl lk, crs c, nmD (nmsF fl), .lst (lk.map pairT), .str a, .str b, .non, .non, .non, .non, .non]) := by
    have q : consF (ucallIO 0 (consF (varF 3) nilF) fd__law_one_of) (consF (ucallIO 0 (consF (varF 3) nilF) fd__law_one_of) nilF) [p, webD fl lk, crs c, nmD (nmsF fl), .lst (lk.map pairT), .non, .non, .non, .non, .non, .non, .non] = some ([.str a, .str b], [p2, webD fl lk, crs c, nmD (nmsF fl), .lst (lk.map pairT), .non, .non, .non, .non, .non, .non, .non]) :=
      consF_t (e1 := [p1, webD fl lk, crs c, nmD (nmsF fl), .lst (lk.map pairT), .non, .non, .non, .non, .non, .non, .non]) (uio_t (env1 := [p, webD fl lk, crs c, nmD (nmsF fl), .lst (lk.map pairT), .non, .non, .non, .non, .non, .non, .non]) rfl rfl a1)
        (consF_t (uio_t (env1 := [p1, webD fl lk, crs c, nmD (nmsF fl), .lst (lk.map pairT), .non, .non, .non, .non, .non, .non, .non]) rfl rfl b1) rfl)
    unfold parF
    rw [q]
    rfl
  -- the web with one link more
  obtain ⟨lk', p3, m1, m2, m3, m4⟩ : ∃ (lk' : List Lk) (p3 : D), ifF (andF (tstF (bin2 (callF (consF (varF 5) (consF (varF 6) nilF)) tupD) (varF 4) notInAD)) (tstF (bin2 (varF 5) (varF 6) neD))) (callF (consF (conF (.str "web")) (consF (bin2 (varF 1) (conF (.int 1)) ixD) (consF (callF (consF (bin2 (bin2 (varF 1) (conF (.int 2)) ixD) (callF (consF (callF (consF (varF 5) (consF (varF 6) (consF (ucallIO 0 (consF (conF (.int 99)) nilF) fd__law_draw) nilF))) tupD) nilF) lstD) addD) nilF) (one sortD)) nilF))) tupD) (varF 1) [p2, webD fl lk, crs c, nmD (nmsF fl), .lst (lk.map pairT), .str a, .str b, .non, .non, .non, .non, .non] = some (webD fl lk', [p3, webD fl lk, crs c, nmD (nmsF fl), .lst (lk.map pairT), .str a, .str b, .non, .non, .non, .non, .non]) ∧
      PreWeb fl lk' ∧ (∀ l ∈ lk, l ∈ lk') ∧ Pu n p3 := by
    have q1 := pairs_notIn (lk := lk) sa sb (fun l hl => ⟨(g.pre.word (g.pre.lo l hl).1).2, (g.pre.word (g.pre.lo l hl).2.1).2⟩)
    have q2 := ne_str2 sa sb
    have t1 : tstF (bin2 (callF (consF (varF 5) (consF (varF 6) nilF)) tupD) (varF 4) notInAD) [p2, webD fl lk, crs c, nmD (nmsF fl), .lst (lk.map pairT), .str a, .str b, .non, .non, .non, .non, .non] = some (!decide ((a, b) ∈ lk.map pair), [p2, webD fl lk, crs c, nmD (nmsF fl), .lst (lk.map pairT), .str a, .str b, .non, .non, .non, .non, .non]) :=
      tstF_t (bin2_t (x := .tup [.str a, .str b]) rfl rfl q1)
    have t2 : tstF (bin2 (varF 5) (varF 6) neD) [p2, webD fl lk, crs c, nmD (nmsF fl), .lst (lk.map pairT), .str a, .str b, .non, .non, .non, .non, .non] = some (!(a == b), [p2, webD fl lk, crs c, nmD (nmsF fl), .lst (lk.map pairT), .str a, .str b, .non, .non, .non, .non, .non]) :=
      tstF_t (bin2_t rfl rfl q2)
    by_cases z1 : (a, b) ∈ lk.map pair
    · rw [decide_eq_true z1] at t1
      exact ⟨lk, p2, ifF_f (and_f t1) rfl, g.pre, fun l hl => hl, b3.mono (by omega)⟩
    rw [decide_eq_false z1] at t1
    by_cases z2 : a = b
    · have e : (a == b) = true := by simpa using z2
      rw [e] at t2
      exact ⟨lk, p2, ifF_f (and_t t1 t2) rfl, g.pre, fun l hl => hl, b3.mono (by omega)⟩
    have e : (a == b) = false := by simpa using z2
    rw [e] at t2
    obtain ⟨d, p3, g1, g2, g3, g4⟩ := dr (n := n) (m := 99) (f := conF (.int 99)) (env := [p2, webD fl lk, crs c, nmD (nmsF fl), .lst (lk.map pairT), .str a, .str b, .non, .non, .non, .non, .non]) (b3.mono (by omega)) (by decide) (bdc (by decide) (by decide)) rfl rfl
    let lk1 := lk ++ [(a, b, d)]
    have nd1 : (lk1.map pair).Nodup := by
      show ((lk ++ [(a, b, d)]).map pair).Nodup
      rw [List.map_append]
      refine List.nodup_append.mpr ⟨g.pz, by simp, fun x hx y hy e => ?_⟩
      have : y = (a, b) := by simpa [pair] using hy
      rw [e, this] at hx
      exact z1 hx
    have mem1 : ∀ l, l ∈ lk1.mergeSort leL ↔ l ∈ lk1 := fun l => (List.mergeSort_perm lk1 leL).mem_iff
    have len1 : (lk1.mergeSort leL).length ≤ 101 := by
      rw [(List.mergeSort_perm lk1 leL).length_eq]
      show (lk ++ [(a, b, d)]).length ≤ 101
      rw [List.length_append, List.length_singleton]
      omega
    refine ⟨lk1.mergeSort leL, p3, ifF_t (and_t t1 t2) ?_, ⟨g.pre.ne, g.pre.fz, by omega, g.pre.fo, g.pre.asc, fun l hl => ?_, sorted_lasc nd1⟩, fun l hl => (mem1 l).mpr (List.mem_append_left _ hl), g4⟩
    · have ad : addD (lkD lk) (.lst [encL (a, b, d)]) = some (lkD lk1) := by
        show (if (lk.map encL).length + [encL (a, b, d)].length ≤ 16777216 then some _ else none) = _
        rw [if_pos (by rw [List.length_map]; simp only [List.length_singleton]; omega)]
        unfold lkD
        rw [show lk1 = lk ++ [(a, b, d)] from rfl, List.map_append]
        rfl
      refine callF_t (ds := [.str "web", .lst (fl.map encF), lkD (lk1.mergeSort leL)]) ?_ rfl
      refine consF_t rfl (consF_t (bin2_t rfl rfl (web1 fl lk)) (consF_t (call1_t (x := lkD lk1) (bin2_t (bin2_t rfl rfl (web2 fl lk)) (callF_t (ds := [encL (a, b, d)]) (consF_t (callF_t (ds := [.str a, .str b, .int d]) (consF_t rfl (consF_t rfl (consF_t g1 rfl))) rfl) rfl) rfl) ad) (sort_L lk1)) rfl))
    · rcases List.mem_append.mp ((mem1 l).mp hl) with z | z
      · exact g.pre.lo l z
      · rw [List.mem_singleton.mp z]
        exact ⟨ha, hb, g2⟩
  refine ⟨p3, ?_, m4⟩
  refine defF_r (e1 := [p3, webD fl lk, crs c, nmD (nmsF fl), .lst (lk.map pairT), .str a, .str b, webD fl lk', .non, .non, .non, .non]) ?_
  show g__law_linked_right [p, webD fl lk, crs c, .non, .non, .non, .non, .non, .non, .non, .non, .non] = _
  refine seqF_t (setF_t n1) (seqF_t (setF_t n2) (seqF_t n3 (seqF_t (setF_t m1) (linked_tail g.pre g.nd ho m2 m3 hr))))
end K71
namespace K71
open PySem DL LH
/-! ### repr -/
/-- small plain data: weight at most w, depth at most e -/
structure Sml (x : PyData) (w e : Nat) : Prop where
  sh : x.showable = true
  ls : x.leavesShort 13 = true
  wt : x.weight ≤ w
  dp : x.depth ≤ e
  cl : x.canLay0 = true
theorem Sml.mono {x : PyData} {w e w' e' : Nat} (h : Sml x w e) (hw : w ≤ w') (he : e ≤ e') : Sml x w' e' := ⟨h.sh, h.ls, Nat.le_trans h.wt hw, Nat.le_trans h.dp he, h.cl⟩
theorem log2_lt {m k : Nat} (hk : 0 < k) (h : m < 2 ^ k) : m.log2 < k := by
  by_cases h0 : m = 0
  · subst h0; simpa using hk
  · exact (Nat.log2_lt h0).2 h
theorem sml_int {i : Int} (h : i.natAbs < 10 ^ 12) : Sml (.int i) 41 0 := by
  have h40 : i.natAbs < 2 ^ 40 := Nat.lt_of_lt_of_le h (by decide)
  have l := log2_lt (by decide) h40
  refine ⟨?_, ?_, ?_, by simp [PyData.depth], by simp [PyData.canLay0]⟩
  · simp only [PyData.showable, decide_eq_true_eq]; omega
  · simp only [PyData.leavesShort, decide_eq_true_eq]; exact PyData.shown_int_le h
  · simp only [PyData.weight]; split <;> omega
theorem sml_str {s : Str} (h : PyData.strOk s = true) {k : Nat} (hk : s.cps.size ≤ k) : Sml (.str s) k 0 := by
  refine ⟨by simp [PyData.showable], ?_, by simpa [PyData.weight] using hk, by simp [PyData.depth], by simpa [PyData.canLay0] using h⟩
  exact PyData.leavesShort_of_canLay0 13 (.str s) (by simpa [PyData.canLay0] using h) (by simp [PyData.intsShort])
theorem sml_all {w e : Nat} : ∀ {xs : List PyData}, (∀ x ∈ xs, Sml x w e) → PyData.showableAll xs = true ∧ PyData.leavesShortAll 13 xs = true ∧ PyData.weightAll xs ≤ xs.length * (w + 1) ∧ PyData.depthAll xs ≤ e ∧ PyData.canLayAll0 xs = true
  | [], _ => ⟨by simp [PyData.showableAll], by simp [PyData.leavesShortAll], by simp [PyData.weightAll], by simp [PyData.depthAll], by simp [PyData.canLayAll0]⟩
  | x :: xs, h => by
    obtain ⟨a1, a2, a3, a4, a5⟩ := sml_all fun y hy => h y (List.mem_cons_of_mem _ hy)
    have hx := h x List.mem_cons_self
    have b3 := hx.wt
    refine ⟨?_, ?_, ?_, ?_, ?_⟩
    · simp only [PyData.showableAll, hx.sh, a1, Bool.and_self]
    · simp only [PyData.leavesShortAll, hx.ls, a2, Bool.and_self]
    · simp only [PyData.weightAll, List.length_cons, Nat.succ_mul]; omega
    · simp only [PyData.depthAll]; exact Nat.max_le.mpr ⟨hx.dp, a4⟩
    · simp only [PyData.canLayAll0, hx.cl, a5, Bool.and_self]
theorem sml_list {xs : List PyData} {w e n : Nat} (h : ∀ x ∈ xs, Sml x w e) (hn : xs.length ≤ n) : Sml (.list xs) (n * (w + 1)) (e + 1) := by
  obtain ⟨a1, a2, a3, a4, a5⟩ := sml_all h
  exact ⟨by simpa [PyData.showable] using a1, by simpa [PyData.leavesShort] using a2, by simp only [PyData.weight]; exact Nat.le_trans a3 (Nat.mul_le_mul_right _ hn), by simp only [PyData.depth]; omega, by simpa [PyData.canLay0] using a5⟩
theorem sml_tup {xs : List PyData} {w e n : Nat} (h : ∀ x ∈ xs, Sml x w e) (hn : xs.length ≤ n) : Sml (.tuple xs) (n * (w + 1)) (e + 1) := by
  obtain ⟨a1, a2, a3, a4, a5⟩ := sml_all h
  exact ⟨by simpa [PyData.showable] using a1, by simpa [PyData.leavesShort] using a2, by simp only [PyData.weight]; exact Nat.le_trans a3 (Nat.mul_le_mul_right _ hn), by simp only [PyData.depth]; omega, by simpa [PyData.canLay0] using a5⟩
theorem repr_fin {d : D} {x : PyData} (h : toPyR d = some x) (h1 : x.showable = true) (h2 : x.leavesShort 13 = true) (h3 : x.weight ≤ 2 ^ 20) (h4 : x.depth ≤ 60) : ∃ s, reprD d = some (.str s) := by
  have f := PyData.shown_fits (by decide) (by decide) h2 h3
  rw [PySem.sizeLine_eq] at f
  refine ⟨x.shown, ?_⟩
  unfold reprD
  rw [h, Option.bind_some, if_pos]
  rw [h1, Bool.true_and, Bool.and_eq_true, decide_eq_true_eq, decide_eq_true_eq]
  exact ⟨f, h4⟩
theorem repr_tup {ds : List D} {x : PyData} {w e : Nat} (h : toPy (.tup ds) = some x) (s : Sml x w e) (hw : w ≤ 2 ^ 20) (he : e ≤ 60) : ∃ s, reprD (.tup ds) = some (.str s) := by
  refine repr_fin (x := x) ?_ s.sh s.ls (Nat.le_trans s.wt hw) (Nat.le_trans s.dp he)
  show ((toPy (.tup ds)).bind fun x => if x.hasDict = false then some x else none) = _
  rw [h, Option.bind_some, if_pos (PyData.hasDict_of_canLay _ s.cl)]
theorem sml_kv {w w' e : Nat} : ∀ {kvs : List (PyData × PyData)}, (∀ p ∈ kvs, Sml p.1 w e ∧ Sml p.2 w' e) → PyData.showableKv kvs = true ∧ PyData.leavesShortKv 13 kvs = true ∧ PyData.weightKv kvs ≤ kvs.length * (w + w' + 2) ∧ PyData.depthKv kvs ≤ e
  | [], _ => ⟨by simp [PyData.showableKv], by simp [PyData.leavesShortKv], by simp [PyData.weightKv], by simp [PyData.depthKv]⟩
  | (k, v) :: kvs, h => by
    obtain ⟨a1, a2, a3, a4⟩ := sml_kv fun y hy => h y (List.mem_cons_of_mem _ hy)
    obtain ⟨h1, h2⟩ := h _ List.mem_cons_self
    have b1 := h1.wt
    have b2 := h2.wt
    simp only at b1 b2
    refine ⟨?_, ?_, ?_, ?_⟩
    · simp only [PyData.showableKv, h1.sh, h2.sh, a1, Bool.and_self]
    · simp only [PyData.leavesShortKv, h1.ls, h2.ls, a2, Bool.and_self]
    · simp only [PyData.weightKv, List.length_cons, Nat.succ_mul]; omega
    · simp only [PyData.depthKv]; exact Nat.max_le.mpr ⟨Nat.max_le.mpr ⟨h1.dp, h2.dp⟩, a4⟩
theorem word_len {s : Str} (h : WordOk s) : s.cps.size ≤ 12 := by
  have h1 := h.1
  by_cases z : s.cps.size ≤ 12
  · exact z
  · exfalso
    have t : isiD "str" (.str s) = some (.bl true) := rfl
    by_cases y : s.length ≤ 16777216
    case neg =>
      have ln : lenD (.str s) = none := if_neg y
      have q : fd_is_word [.str s] = none := by
        simp only [defF, seqF, iteF', setF, retF, dropF, skipF, bin2, un1, callF, ucallF, withF, consF, nilF, varF, conF, one, two, tstF, andF, orF, notF, andV, orV, notV, ifF, chainF, asgF, List.cons_append, List.nil_append, List.replicate, List.getElem?_cons_zero, List.getElem?_cons_succ, Option.map_some, Option.bind_some, if_true, if_false, Bool.false_eq_true, List.set_cons_zero, List.set_cons_succ, Bool.not_true, Bool.not_false, backD, fd_is_word, g_is_word, t, ln, chainF, Option.map_none, Option.bind_none]
      rw [q] at h1
      cases h1
    have ln : lenD (.str s) = some (.int (s.cps.size : Nat)) := if_pos y
    have l1 : ltD (.int 0) (.int (s.cps.size : Nat)) = some (.bl true) := by
      show some (D.bl (decide ((0 : Int) < (s.cps.size : Nat)))) = _
      rw [decide_eq_true (by omega)]
    have l2 : ltD (.int (s.cps.size : Nat)) (.int 13) = some (.bl false) := by
      show some (D.bl (decide (((s.cps.size : Nat) : Int) < 13))) = _
      rw [decide_eq_false (by omega)]
    have q : fd_is_word [.str s] = some (.bl false, [.str s]) := by
      simp only [defF, seqF, iteF', setF, retF, dropF, skipF, bin2, un1, callF, ucallF, withF, consF, nilF, varF, conF, one, two, tstF, andF, orF, notF, andV, orV, notV, ifF, chainF, asgF, List.cons_append, List.nil_append, List.replicate, List.getElem?_cons_zero, List.getElem?_cons_succ, Option.map_some, Option.bind_some, if_true, if_false, Bool.false_eq_true, List.set_cons_zero, List.set_cons_succ, Bool.not_true, Bool.not_false, backD, fd_is_word, g_is_word, t, ln, l1, l2, chainF]
    rw [q] at h1
    cases h1
def pyF (f : Fl) : PyData := .tuple [.str f.1, .int f.2.1, .int f.2.2.1, .int f.2.2.2]
theorem toPys_F : ∀ fl : List Fl, toPys (fl.map encF) = some (fl.map pyF)
  | [] => rfl
  | l :: lk => by
    rw [List.map_cons, List.map_cons, toPys]
    show (some (pyF l)).bind _ = _
    rw [Option.bind_some, toPys_F lk]
    rfl
theorem repr_web {fl : List Fl} {lk : List Lk} (g : GoodWeb fl lk) : ∃ s, reprD (webD fl lk) = some (.str s) := by
  have t : toPy (webD fl lk) = some (.tuple [.str "web", .list (fl.map pyF), .list (lk.map pyL)]) := by
    show ((toPys [.str "web", .lst (fl.map encF), .lst (lk.map encL)]).map PyData.tuple) = _
    rw [toPys, toPys, toPys, toPys]
    show ((some (PyData.str "web")).bind fun x => ((((toPys (fl.map encF)).map PyData.list).bind fun x => (((toPys (lk.map encL)).map PyData.list).bind fun x => (some []).map fun r => x :: r).map fun r => x :: r)).map fun r => x :: r).map PyData.tuple = _
    rw [toPys_F, toPys_L]
    rfl
  have sF : ∀ x ∈ fl.map pyF, Sml x 200 1 := fun x hx => by
    obtain ⟨f, hf, rfl⟩ := List.mem_map.mp hx
    obtain ⟨b1, b2, b3, b4⟩ := g.fb f hf
    have w := g.pre.word (List.mem_map_of_mem hf)
    refine (sml_tup (n := 4) (w := 41) (e := 0) (fun y hy => ?_) (by simp)).mono (by decide) (Nat.le_refl _)
    simp only [List.mem_cons, List.not_mem_nil, or_false] at hy
    rcases hy with rfl | rfl | rfl | rfl
    · exact (sml_str w.2 (word_len w)).mono (by decide) (Nat.le_refl _)
    · exact sml_int (by omega)
    · exact sml_int (by omega)
    · exact sml_int (by omega)
  have sL : ∀ x ∈ lk.map pyL, Sml x 200 1 := fun x hx => by
    obtain ⟨l, hl, rfl⟩ := List.mem_map.mp hx
    have b := g.lb l hl
    obtain ⟨m1, m2, m3⟩ := g.pre.lo l hl
    have w1 := g.pre.word m1
    have w2 := g.pre.word m2
    refine (sml_tup (n := 3) (w := 41) (e := 0) (fun y hy => ?_) (by simp)).mono (by decide) (Nat.le_refl _)
    simp only [List.mem_cons, List.not_mem_nil, or_false] at hy
    rcases hy with rfl | rfl | rfl
    · exact (sml_str w1.2 (word_len w1)).mono (by decide) (Nat.le_refl _)
    · exact (sml_str w2.2 (word_len w2)).mono (by decide) (Nat.le_refl _)
    · exact sml_int (by omega)
  refine repr_tup (w := 3 * (100 * 201 + 1)) (e := 3) t (sml_tup (n := 3) (w := 100 * 201) (e := 2) (fun y hy => ?_) (by simp)) (by decide) (by decide)
  simp only [List.mem_cons, List.not_mem_nil, or_false] at hy
  rcases hy with rfl | rfl | rfl
  · exact (sml_str (k := 10) (by decide +kernel) (by decide +kernel)).mono (by decide) (by decide)
  · exact sml_list (n := 100) sF (by rw [List.length_map]; have := g.fz; omega)
  · exact sml_list (n := 100) sL (by rw [List.length_map]; exact g.lz)
theorem repr_crs {c : Crs} (hl : c.length ≤ 1000) (h : ∀ q ∈ c, WordOk q.1 ∧ q.2.natAbs < 10 ^ 12) : ∃ s, reprD (crs c) = some (.str s) := by
  have t : toPys (c.map fun p => D.int p.2) = some (c.map fun p => PyData.int p.2) := by
    clear h hl
    induction c with
    | nil => rfl
    | cons q c ih =>
      rw [List.map_cons, List.map_cons, toPys]
      show (some (PyData.int q.2)).bind _ = _
      rw [Option.bind_some, ih]
      rfl
  have n : noLstAll (c.map fun p => PyData.int p.2) = true := by
    clear t h hl
    induction c with
    | nil => rfl
    | cons q c ih => rw [List.map_cons, noLstAll, ih]; rfl
  let kv := c.map fun p => (PyData.str p.1, PyData.int p.2)
  have e : (((c.map fun p => (Sum.inr p.1 : L2.Key)).map kPy).zip (c.map fun p => PyData.int p.2)) = kv := by
    show _ = c.map fun p => (PyData.str p.1, PyData.int p.2)
    clear t n h hl
    induction c with
    | nil => rfl
    | cons q c ih =>
      simp only [List.map_cons, List.zip_cons_cons]
      congr 1
  have r : toPyR (crs c) = some (.dict kv) := by
    show ((toPys (c.map fun p => D.int p.2)).bind fun ps => if noLstAll ps = true then some (PyData.dict (((c.map fun p => (Sum.inr p.1 : L2.Key)).map kPy).zip ps)) else none) = _
    rw [t, Option.bind_some, if_pos n, e]
  obtain ⟨a1, a2, a3, a4⟩ := sml_kv (w := 12) (w' := 41) (e := 0) (kvs := kv) (fun p hp => by
    obtain ⟨q, hq, rfl⟩ := List.mem_map.mp hp
    obtain ⟨h1, h2⟩ := h q hq
    exact ⟨sml_str h1.2 (word_len h1), sml_int h2⟩)
  have lk : kv.length = c.length := List.length_map _
  refine repr_fin r (by simpa [PyData.showable] using a1) (by simpa [PyData.leavesShort] using a2) ?_ ?_
  · simp only [PyData.weight]
    rw [lk] at a3
    refine Nat.le_trans a3 (Nat.le_trans (Nat.mul_le_mul_right _ hl) (by decide))
  · simp only [PyData.depth]; omega
end K71
namespace K71
open PySem DL LH
theorem drj {j n : Nat} {p : D} {m : Int} {f : FE} {env env1 : List D} (h : Pu (n + 40) p) (hm : 0 < m) (hb : Bd 1000 m) (hf : f env = some (.int m, env1)) (h0 : env1[j]? = some p) : ∃ d p', ucallIO j (consF f nilF) fd__law_draw env = some (.int d, env1.set j p') ∧ 0 ≤ d ∧ d < m ∧ Pu n p' := by
  obtain ⟨d, p', e1, e2, e3, e4⟩ := draw_ok h hm hb
  exact ⟨d, p', uio_t (consF_t hf rfl) h0 e1, e2, e3, e4⟩
/-- a course that the law may take -/
structure CG (fl : List Fl) (c : Crs) : Prop where
  run : RunOk fl c
  sm : ∀ q ∈ c, WordOk q.1 ∧ q.2.natAbs < 10 ^ 12
  len : c.length ≤ 1000
theorem CrsFor.mem : ∀ {fs : List Fl} {c : Crs}, CrsFor fs c → ∀ q ∈ c, ∃ f ∈ fs, q.1 = f.1 ∧ f.2.2.1 ≤ q.2 ∧ q.2 ≤ f.2.2.2
  | [], [], _, q, hq => absurd hq (by simp)
  | [], _ :: _, h, _, _ => h.elim
  | _ :: _, [], _, q, hq => absurd hq (by simp)
  | f :: fs, r :: c, h, q, hq => by
    rcases List.mem_cons.mp hq with e | e
    · subst e; exact ⟨f, List.mem_cons_self, h.1⟩
    · obtain ⟨g, g1, g2⟩ := CrsFor.mem h.2 q e
      exact ⟨g, List.mem_cons_of_mem _ g1, g2⟩
theorem cg_of {fl : List Fl} {lk : List Lk} (g : GoodWeb fl lk) {c c' : Crs} (h : CrsFor fl c) (p : c'.Perm c) : CG fl c' ∧ (c'.map (·.1)).Nodup := by
  obtain ⟨r, n⟩ := run_of g.nd h p
  refine ⟨⟨r, fun q hq => ?_, ?_⟩, n⟩
  · obtain ⟨f, hf, e, b1, b2⟩ := h.mem q (p.mem_iff.mp hq)
    obtain ⟨k1, k2, k3, k4⟩ := g.fb f hf
    rw [e]
    exact ⟨g.pre.word (List.mem_map_of_mem hf), by omega⟩
  · have := g.fz
    rw [r.len]; omega
def inBody : FS := (seqF (setF 6 (callF (consF (varF 5) nilF) (one reprD)))
  (seqF (iteF' (orF (notF (tstF (ucallF (consF (varF 2) (consF (varF 5) nilF)) fd__law_told_right))) (orF (notF (tstF (ucallIO 1 (consF (varF 2) (consF (varF 5) nilF)) fd__law_turned_right))) (notF (tstF (ucallIO 1 (consF (varF 2) (consF (varF 5) nilF)) fd__law_linked_right))))) (retF (conF (.bl false))) skipF)
  (iteF' (tstF (bin2 (callF (consF (varF 5) nilF) (one reprD)) (varF 6) neD)) (retF (conF (.bl false))) skipF)))
theorem ne_self (s : Str) : neD (.str s) (.str s) = some (.bl false) := by
  show some (D.bl (!(s == s))) = _
  simp
theorem in_step {n : Nat} {p s a3 a4 a6 a7 a8 : D} {fl : List Fl} {lk : List Lk} {c : Crs} (h : Pu (n + 200) p) (g : GoodWeb fl lk) (k : CG fl c) : ∃ p' x6, inBody [s, p, webD fl lk, a3, a4, crs c, a6, a7, a8] = some (.nx [s, p', webD fl lk, a3, a4, crs c, x6, a7, a8]) ∧ Pu n p' := by
  obtain ⟨t, ht⟩ := repr_crs k.len k.sm
  obtain ⟨o, ho⟩ := g.ord
  have told := told_ok g.pre g.nd ho k.run
  obtain ⟨p1, e1, u1⟩ := turned_ok (n := n + 120) (p := p) (h.mono (by omega)) g k.run
  obtain ⟨p2, e2, u2⟩ := linked_ok (n := n) (p := p1) u1 g k.run
  refine ⟨p2, .str t, ?_, u2⟩
  have r1 : callF (consF (varF 5) nilF) (one reprD) [s, p, webD fl lk, a3, a4, crs c, a6, a7, a8] = some (.str t, [s, p, webD fl lk, a3, a4, crs c, a6, a7, a8]) := call1_t rfl ht
  have r2 : callF (consF (varF 5) nilF) (one reprD) [s, p2, webD fl lk, a3, a4, crs c, .str t, a7, a8] = some (.str t, [s, p2, webD fl lk, a3, a4, crs c, .str t, a7, a8]) := call1_t rfl ht
  refine seqF_t (setF_t r1) (seqF_t (e1 := [s, p2, webD fl lk, a3, a4, crs c, .str t, a7, a8]) (ite_f (e1 := [s, p2, webD fl lk, a3, a4, crs c, .str t, a7, a8]) ?_ rfl) (ite_f (tstF_t (bin2_t r2 rfl (ne_self t))) rfl))
  refine or_f (e1 := [s, p, webD fl lk, a3, a4, crs c, .str t, a7, a8]) (notF_t (b := true) (tstF_t (ucall_t (ds := [webD fl lk, crs c]) rfl told))) ?_
  refine or_f (e1 := [s, p1, webD fl lk, a3, a4, crs c, .str t, a7, a8]) (notF_t (b := true) (tstF_t (uio_t (j := 1) (env1 := [s, p, webD fl lk, a3, a4, crs c, .str t, a7, a8]) (ds := [webD fl lk, crs c]) rfl rfl e1))) ?_
  exact notF_t (b := true) (tstF_t (uio_t (j := 1) (env1 := [s, p1, webD fl lk, a3, a4, crs c, .str t, a7, a8]) (ds := [webD fl lk, crs c]) rfl rfl e2))
theorem in_loop {s a3 a4 a7 a8 : D} {fl : List Fl} {lk : List Lk} (g : GoodWeb fl lk) {n : Nat} : ∀ (cs : List Crs) (p a5 a6 : D), Pu (n + 200 * cs.length) p → (∀ c ∈ cs, CG fl c) → ∃ p' x5 x6, loopF (nameG 5) inBody (cs.map crs) [s, p, webD fl lk, a3, a4, a5, a6, a7, a8] = some (.nx [s, p', webD fl lk, a3, a4, x5, x6, a7, a8]) ∧ Pu n p'
  | [], p, a5, a6, h, _ => ⟨p, a5, a6, rfl, h⟩
  | c :: cs, p, a5, a6, h, k => by
    rw [List.length_cons] at h
    obtain ⟨p1, x6, s1, u1⟩ := in_step (n := n + 200 * cs.length) (s := s) (a3 := a3) (a4 := a4) (a6 := a6) (a7 := a7) (a8 := a8) (h.mono (by omega)) g (k c List.mem_cons_self)
    obtain ⟨p2, y5, y6, i1, u2⟩ := in_loop (s := s) (a3 := a3) (a4 := a4) (a7 := a7) (a8 := a8) g cs p1 (crs c) x6 u1 fun c hc => k c (List.mem_cons_of_mem _ hc)
    exact ⟨p2, y5, y6, loop_t (e1 := [s, p, webD fl lk, a3, a4, crs c, a6, a7, a8]) rfl s1 i1, u2⟩
def lawP : FS := (seqF (setF 2 (ucallIO 1 (consF (bin2 (conF (.int 1)) (ucallIO 1 (consF (conF (.int 10)) nilF) fd__law_draw) addD) (consF (ucallIO 1 (consF (callF (consF (conF (.int 1)) (consF (conF (.int 9)) (consF (bin2 (conF (.int 10)) (conF (.int 5)) (intOp powOk fun i j => i ^ j.toNat)) nilF))) lstD) nilF) fd__law_one_of) (consF (ucallIO 1 (consF (callF (consF (conF (.int 60)) (consF (conF (.int 800000)) nilF)) lstD) nilF) fd__law_one_of) nilF))) fd__law_web))
  (seqF (setF 3 (callF (consF (varF 2) nilF) (one reprD)))
  (seqF (setF 4 (callF (consF (callF (consF (ucallIO 1 (consF (un1 (ucallIO 1 (consF (varF 2) nilF) fd__law_drawn_course) itemsD) nilF) fd__law_shuffled) nilF) (one dictD)) (consF (callF (consF (compF (seqIF (bin2 (varF 2) (conF (.int 1)) ixD)) [8] (nameG 8) yesF (callF (consF (bin2 (varF 8) (conF (.int 0)) ixD) (consF (bin2 (varF 8) (conF (.int 2)) ixD) nilF)) tupD)) nilF) (one dictD)) (consF (callF (consF (compF (seqIF (bin2 (varF 2) (conF (.int 1)) ixD)) [8] (nameG 8) yesF (callF (consF (bin2 (varF 8) (conF (.int 0)) ixD) (consF (bin2 (varF 8) (conF (.int 3)) ixD) nilF)) tupD)) nilF) (one dictD)) nilF))) lstD))
  (seqF (forF (seqIF (varF 4)) (nameG 5) inBody)
  (iteF' (tstF (bin2 (callF (consF (varF 2) nilF) (one reprD)) (varF 3) neD)) (retF (conF (.bl false))) skipF)))))
theorem un1_t {f : FE} {g : D → Option D} {env e1 : List D} {x d : D} (h : f env = some (x, e1)) (k : g x = some d) : un1 f g env = some (d, e1) := by unfold un1; rw [h, Option.bind_some, k]; rfl
theorem law_step71 {s p a2 a3 a4 a5 a6 a7 : D} (h : Pu (2 ^ 59) p) : ∃ p' x2 x3 x4 x5 x6, lawP [s, p, a2, a3, a4, a5, a6, a7, .non] = some (.nx [s, p', x2, x3, x4, x5, x6, a7, .non]) := by
  have pw : powOk 10 5 = true := by decide +kernel
  obtain ⟨d1, p1, e1, b1, c1, u1⟩ := drj (j := 1) (n := 200000) (p := p) (m := 10) (f := conF (.int 10)) (env := [s, p, a2, a3, a4, a5, a6, a7, .non]) (h.mono (by decide)) (by decide) (bdc (by decide) (by decide)) rfl rfl
  obtain ⟨w, p2, e2, b2, u2⟩ := one_of_ok (n := 190000) (p := p1) (ds := [.int 1, .int 9, .int (10 ^ (5 : Int).toNat)]) (u1.mono (by omega)) (by simp) (by simp)
  obtain ⟨f, p3, e3, b3, u3⟩ := one_of_ok (n := 180000) (p := p2) (ds := [.int 60, .int 800000]) (u2.mono (by omega)) (by simp) (by simp)
  obtain ⟨wide, rfl, w0, w1⟩ : ∃ i : Int, w = .int i ∧ 0 < i ∧ i ≤ 10 ^ 6 := by
    simp only [List.mem_cons, List.not_mem_nil, or_false] at b2
    rcases b2 with rfl | rfl | rfl
    · exact ⟨_, rfl, by decide, by decide⟩
    · exact ⟨_, rfl, by decide, by decide⟩
    · exact ⟨_, rfl, by decide, by decide⟩
  obtain ⟨far, rfl, f0, f1⟩ : ∃ i : Int, f = .int i ∧ 0 < i ∧ i ≤ 10 ^ 6 := by
    simp only [List.mem_cons, List.not_mem_nil, or_false] at b3
    rcases b3 with rfl | rfl
    · exact ⟨_, rfl, by decide, by decide⟩
    · exact ⟨_, rfl, by decide, by decide⟩
  obtain ⟨fl, lk, p4, e4, g, u4⟩ := web_law (n := 80000) (many := (1 + d1).toNat) (p := p3) (u3.mono (by omega)) (by omega) (by omega) w0 w1 f0 f1
  have mc : (((1 + d1).toNat : Nat) : Int) = 1 + d1 := by omega
  rw [mc] at e4
  obtain ⟨t, ht⟩ := repr_web g
  obtain ⟨c, p5, e5, cf, u5⟩ := drawn_ok (n := 79000) (p := p4) (u4.mono (by omega)) g
  have cl : c.length ≤ 10 := by
    have := g.fz
    have q := congrArg List.length cf.names
    rw [List.length_map, List.length_map] at q
    omega
  obtain ⟨out, p6, e6, pm, u6⟩ := shuffled_ok (n := 78000) (p := p5) (ds := c.map pairD) (u5.mono (by rw [List.length_map]; omega)) (by rw [List.length_map]; omega)
  obtain ⟨c1', rfl, perm⟩ : ∃ c' : Crs, out = c'.map pairD ∧ c'.Perm c := by
    have : ∀ d ∈ out, ∃ s, d = pairD s := fun d hd => by
      obtain ⟨s, _, rfl⟩ := List.mem_map.mp (pm.mem_iff.mp hd)
      exact ⟨s, rfl⟩
    let g : D → Str × Int := fun d => match d with | .tup [.str a, .int m] => (a, m) | _ => ("", 0)
    refine ⟨out.map g, ?_, ?_⟩
    · rw [List.map_map]
      conv => lhs; rw [← List.map_id out]
      refine List.map_congr_left fun d hd => ?_
      obtain ⟨s, rfl⟩ := this d hd
      rfl
    · have := pm.map g
      rw [List.map_map] at this
      have e : c.map (g ∘ pairD) = c := by
        conv => rhs; rw [← List.map_id c]
        rfl
      rw [e] at this
      exact this
  obtain ⟨k1, n1⟩ := cg_of g cf perm
  have cfl := CrsFor.of (fs := fl) (fun f => f.2.2.1) fun f hf => ⟨Int.le_refl _, (g.fb f hf).2.2.1⟩
  have cfh := CrsFor.of (fs := fl) (fun f => f.2.2.2) fun f hf => ⟨(g.fb f hf).2.2.1, Int.le_refl _⟩
  obtain ⟨k2, n2⟩ := cg_of g cfl (List.Perm.refl _)
  obtain ⟨k3, n3⟩ := cg_of g cfh (List.Perm.refl _)
  have dc1 := dict_pairs c1' n1
  have dc2 := dict_pairs _ n2
  have dc3 := dict_pairs _ n3
  let C2 : Crs := fl.map fun f => (f.1, f.2.2.1)
  let C3 : Crs := fl.map fun f => (f.1, f.2.2.2)
  obtain ⟨p7, x5, x6, lp, u7⟩ := in_loop (n := 70000) (s := s) (a3 := .str t) (a4 := .lst [crs c1', crs C2, crs C3]) (a7 := a7) (a8 := .non) g [c1', C2, C3] p6 a5 a6 (u6.mono (by simp)) (fun c hc => by
    simp only [List.mem_cons, List.not_mem_nil, or_false] at hc
    rcases hc with rfl | rfl | rfl
    · exact k1
    · exact k2
    · exact k3)
  refine ⟨p7, webD fl lk, .str t, .lst [crs c1', crs C2, crs C3], x5, x6, ?_⟩
  have s1 : setF 2 (ucallIO 1 (consF (bin2 (conF (.int 1)) (ucallIO 1 (consF (conF (.int 10)) nilF) fd__law_draw) addD) (consF (ucallIO 1 (consF (callF (consF (conF (.int 1)) (consF (conF (.int 9)) (consF (bin2 (conF (.int 10)) (conF (.int 5)) (intOp powOk fun i j => i ^ j.toNat)) nilF))) lstD) nilF) fd__law_one_of) (consF (ucallIO 1 (consF (callF (consF (conF (.int 60)) (consF (conF (.int 800000)) nilF)) lstD) nilF) fd__law_one_of) nilF))) fd__law_web) [s, p, a2, a3, a4, a5, a6, a7, .non] =
      some (.nx [s, p4, webD fl lk, a3, a4, a5, a6, a7, .non]) := by
    refine setF_t (e1 := [s, p4, a2, a3, a4, a5, a6, a7, .non]) (uio_t (j := 1) (env1 := [s, p3, a2, a3, a4, a5, a6, a7, .non]) (ds := [.int (1 + d1), .int wide, .int far]) ?_ rfl e4)
    refine consF_t (e1 := [s, p1, a2, a3, a4, a5, a6, a7, .non]) (bin2_t rfl e1 rfl) (consF_t (e1 := [s, p2, a2, a3, a4, a5, a6, a7, .non]) (uio_t (j := 1) (env1 := [s, p1, a2, a3, a4, a5, a6, a7, .non]) (ds := [.lst [.int 1, .int 9, .int (10 ^ (5 : Int).toNat)]]) ?_ rfl e2)
      (consF_t (uio_t (j := 1) (env1 := [s, p2, a2, a3, a4, a5, a6, a7, .non]) (ds := [.lst [.int 60, .int 800000]]) rfl rfl e3) rfl))
    exact consF_t (callF_t (consF_t rfl (consF_t rfl (consF_t (bin2_t rfl rfl (intOp_t pw)) rfl))) rfl) rfl
  refine seqF_t s1 (seqF_t (e1 := [s, p4, webD fl lk, .str t, a4, a5, a6, a7, .non]) (setF_t (e1 := [s, p4, webD fl lk, a3, a4, a5, a6, a7, .non]) (call1_t rfl ht)) (seqF_t (e1 := [s, p6, webD fl lk, .str t, .lst [crs c1', crs C2, crs C3], a5, a6, a7, .non]) ?_ (seqF_t (forF_t (l := [c1', C2, C3].map crs) (e1 := [s, p6, webD fl lk, .str t, .lst [crs c1', crs C2, crs C3], a5, a6, a7, .non]) rfl lp) ?_)))
  · have q1 : ucallIO 1 (consF (un1 (ucallIO 1 (consF (varF 2) nilF) fd__law_drawn_course) itemsD) nilF) fd__law_shuffled [s, p4, webD fl lk, .str t, a4, a5, a6, a7, .non] = some (.lst (c1'.map pairD), [s, p6, webD fl lk, .str t, a4, a5, a6, a7, .non]) :=
      uio_t (j := 1) (env1 := [s, p5, webD fl lk, .str t, a4, a5, a6, a7, .non]) (ds := [.lst (c.map pairD)]) (consF_t (un1_t (uio_t (j := 1) (env1 := [s, p4, webD fl lk, .str t, a4, a5, a6, a7, .non]) (ds := [webD fl lk]) rfl rfl e5) (items_crs c)) rfl) rfl e6
    have q2 : compF (seqIF (bin2 (varF 2) (conF (.int 1)) ixD)) [8] (nameG 8) yesF (callF (consF (bin2 (varF 8) (conF (.int 0)) ixD) (consF (bin2 (varF 8) (conF (.int 2)) ixD) nilF)) tupD) [s, p6, webD fl lk, .str t, a4, a5, a6, a7, .non] = some (.lst (C2.map pairD), [s, p6, webD fl lk, .str t, a4, a5, a6, a7, .non]) := by
      show _ = some (D.lst ((fl.map fun f => (f.1, f.2.2.1)).map pairD), _)
      rw [List.map_map]
      exact comp_all (own := [8]) (b := nameG 8) encF (fun f => [s, p6, webD fl lk, .str t, a4, a5, a6, a7, encF f]) (fun f => pairD (f.1, f.2.2.1)) rfl (fun _ _ => rfl) (fun _ _ _ _ => rfl) (fun _ _ => rfl) rfl (fun _ _ => rfl)
    have q3 : compF (seqIF (bin2 (varF 2) (conF (.int 1)) ixD)) [8] (nameG 8) yesF (callF (consF (bin2 (varF 8) (conF (.int 0)) ixD) (consF (bin2 (varF 8) (conF (.int 3)) ixD) nilF)) tupD) [s, p6, webD fl lk, .str t, a4, a5, a6, a7, .non] = some (.lst (C3.map pairD), [s, p6, webD fl lk, .str t, a4, a5, a6, a7, .non]) := by
      show _ = some (D.lst ((fl.map fun f => (f.1, f.2.2.2)).map pairD), _)
      rw [List.map_map]
      exact comp_all (own := [8]) (b := nameG 8) encF (fun f => [s, p6, webD fl lk, .str t, a4, a5, a6, a7, encF f]) (fun f => pairD (f.1, f.2.2.2)) rfl (fun _ _ => rfl) (fun _ _ _ _ => rfl) (fun _ _ => rfl) rfl (fun _ _ => rfl)
    refine setF_t (e1 := [s, p6, webD fl lk, .str t, a4, a5, a6, a7, .non]) (callF_t (g := lstD) (ds := [crs c1', crs C2, crs C3]) ?_ rfl)
    exact consF_t (call1_t q1 dc1) (consF_t (call1_t q2 dc2) (consF_t (call1_t q3 dc3) rfl))
  · exact ite_f (tstF_t (bin2_t (x := .str t) (call1_t rfl ht) rfl (ne_self t))) rfl
theorem law_loop71 {s a7 : D} : ∀ (ps : List D) (a1 a2 a3 a4 a5 a6 : D), (∀ p ∈ ps, Pu (2 ^ 59) p) → ∃ x1 x2 x3 x4 x5 x6, loopF (nameG 1) lawP ps [s, a1, a2, a3, a4, a5, a6, a7, .non] = some (.nx [s, x1, x2, x3, x4, x5, x6, a7, .non])
  | [], a1, a2, a3, a4, a5, a6, _ => ⟨a1, a2, a3, a4, a5, a6, rfl⟩
  | p :: ps, a1, a2, a3, a4, a5, a6, h => by
    obtain ⟨p', x2, x3, x4, x5, x6, s1⟩ := law_step71 (s := s) (a2 := a2) (a3 := a3) (a4 := a4) (a5 := a5) (a6 := a6) (a7 := a7) (h p List.mem_cons_self)
    obtain ⟨y1, y2, y3, y4, y5, y6, i1⟩ := law_loop71 (s := s) (a7 := a7) ps p' x2 x3 x4 x5 x6 fun q hq => h q (List.mem_cons_of_mem _ hq)
    exact ⟨y1, y2, y3, y4, y5, y6, loop_t (e1 := [s, p, a2, a3, a4, a5, a6, a7, .non]) rfl s1 i1⟩
def knownR : D := .lst [.tup [.str "inbound", .int 0, .int 90], .tup [.str "outward", .int 130, .int 250], .tup [.str "shuttle", .int 10, .int 110]]
theorem known_disp : ∀ env : List D, dispF (consF (conF (.str "inbound")) (consF (conF (.int 90)) (consF (conF (.str "outward")) (consF (conF (.int 120)) (consF (conF (.str "shuttle")) (consF (conF (.int 100)) nilF)))))) env = some (crs knownC, env) := by
  intro env
  kernel_rfl
theorem known_exact : fd__law_exact 6 [knownR, knownR] = some (.bl true, [knownR, knownR]) := by
  refine exact_ok 5 knownR ?_
  have s1 : PyData.strOk "inbound" = true := by decide +kernel
  have s2 : PyData.strOk "outward" = true := by decide +kernel
  have s3 : PyData.strOk "shuttle" = true := by decide +kernel
  simp [knownR, okX, okXs, s1, s2, s3]
theorem law_true (ns : List Int) : ∃ r, fd_law [.scr ns] = some (.bl true, r) := by
  obtain ⟨ps, e1, l1, h1⟩ := purses_ok (ns := ns) (k := 3) (by decide)
  obtain ⟨x1, x2, x3, x4, x5, x6, lp⟩ := law_loop71 (s := .scr ns) (a7 := .non) ps .non .non .non .non .non .non h1
  have kd := known_disp
  have kt := known_times
  have ke := known_exact
  refine ⟨_, defF_r (e1 := [.scr ns, x1, x2, x3, x4, x5, x6, webD knownFl knownLk, .non]) ?_⟩
  show g_law [.scr ns, .non, .non, .non, .non, .non, .non, .non, .non] = _
  refine seqF_t (e1 := [.scr ns, x1, x2, x3, x4, x5, x6, .non, .non]) ?_ (seqF_t (e1 := [.scr ns, x1, x2, x3, x4, x5, x6, webD knownFl knownLk, .non]) rfl (retF_t (ucall_t (ds := [knownR, knownR]) ?_ ke)))
  · have u : ucallF (consF (varF 0) (consF (conF (.int 3)) nilF)) fd__law_purses [.scr ns, .non, .non, .non, .non, .non, .non, .non, .non] = some (.lst ps, [.scr ns, .non, .non, .non, .non, .non, .non, .non, .non]) := ucall_t (ds := [.scr ns, .int 3]) rfl e1
    unfold forOF
    rw [u]
    exact lp
  · exact consF_t rfl (consF_t (ucall_t (ds := [webD knownFl knownLk, crs knownC]) (consF_t rfl (consF_t (kd _) rfl)) kt) rfl)
end K71
open PySem PySem.W PyProof.Rows
set_option maxHeartbeats 0 in
theorem PySem.Challenge.cw_eachdelay_k71_whole_times_of_webs_holds : PySem.Challenge.rw_eachdelay_k71_whole_times_of_webs.Holds := by
  w_on; o_law; k_head; (case hw => w_witness2)
  k_fill
  refine DL.walkG (l := PySem.Challenge.rw_eachdelay_k71_whole_times_of_webs) (n := 63) (k := 10) (x := "script") (sp := fun w => DL.Prom _ [.sh] .sh K71.fd_law) rfl (by decide) rfl ⟨rfl, by decide, by decide⟩ (fun w h Y => PySem.W.kIn_of Y) ?F (fun w H a ns _ sq => DL.prom_law (K71.law_true ns) sq)
  case F =>
    intro w mg fa h X G hmg
    have T : K71.Top _ mg := {
    m_all := PySem.W.mg_none_of X G (by k_is)
    m_bool := PySem.W.mg_none_of X G (by k_is)
    m_dict := PySem.W.mg_none_of X G (by k_is)
    m_enumerate := PySem.W.mg_none_of X G (by k_is)
    m_int := PySem.W.mg_none_of X G (by k_is)
    m_isinstance := PySem.W.mg_none_of X G (by k_is)
    m_len := PySem.W.mg_none_of X G (by k_is)
    m_list := PySem.W.mg_none_of X G (by k_is)
    m_max := PySem.W.mg_none_of X G (by k_is)
    m_min := PySem.W.mg_none_of X G (by k_is)
    m_range := PySem.W.mg_none_of X G (by k_is)
    m_repr := PySem.W.mg_none_of X G (by k_is)
    m_sorted := PySem.W.mg_none_of X G (by k_is)
    m_str := PySem.W.mg_none_of X G (by k_is)
    m_sum := PySem.W.mg_none_of X G (by k_is)
    m_tuple := PySem.W.mg_none_of X G (by k_is)
    m_zip := PySem.W.mg_none_of X G (by k_is)
    f_is_whole := by
      refine' DL.fld X G ?a ?l ?c ?k
      (case a => k_is); (case l => k_is); (case c => k_is); (case k => k_is)
    f_is_count := by
      refine' DL.fldD X G ?a ?l ?c ?k ?t ?d ?n ?v
      (case a => k_is); (case l => k_is); (case c => k_is); (case k => k_is); (case t => k_is); (case d => rfl); (case n => simp); (case v => exact .cons ⟨_, rfl⟩ .nil)
    f_is_word := by
      refine' DL.fld X G ?a ?l ?c ?k
      (case a => k_is); (case l => k_is); (case c => k_is); (case k => k_is)
    f_is_tuple_of := by
      refine' DL.fld X G ?a ?l ?c ?k
      (case a => k_is); (case l => k_is); (case c => k_is); (case k => k_is)
    f_is_said := by
      refine' DL.fld X G ?a ?l ?c ?k
      (case a => k_is); (case l => k_is); (case c => k_is); (case k => k_is)
    f_is_web_flight := by
      refine' DL.fld X G ?a ?l ?c ?k
      (case a => k_is); (case l => k_is); (case c => k_is); (case k => k_is)
    f_is_web_link := by
      refine' DL.fld X G ?a ?l ?c ?k
      (case a => k_is); (case l => k_is); (case c => k_is); (case k => k_is)
    f_flights_in_order := by
      refine' DL.fld X G ?a ?l ?c ?k
      (case a => k_is); (case l => k_is); (case c => k_is); (case k => k_is)
    f_names_of_web := by
      refine' DL.fld X G ?a ?l ?c ?k
      (case a => k_is); (case l => k_is); (case c => k_is); (case k => k_is)
    f_is_web := by
      refine' DL.fld X G ?a ?l ?c ?k
      (case a => k_is); (case l => k_is); (case c => k_is); (case k => k_is)
    f_check_web := by
      refine' DL.fld X G ?a ?l ?c ?k
      (case a => k_is); (case l => k_is); (case c => k_is); (case k => k_is)
    f_is_run_of_web := by
      refine' DL.fld X G ?a ?l ?c ?k
      (case a => k_is); (case l => k_is); (case c => k_is); (case k => k_is)
    f_is_web_course := by
      refine' DL.fld X G ?a ?l ?c ?k
      (case a => k_is); (case l => k_is); (case c => k_is); (case k => k_is)
    f_web_times_by := by
      refine' DL.fld X G ?a ?l ?c ?k
      (case a => k_is); (case l => k_is); (case c => k_is); (case k => k_is)
    f_web_times := by
      refine' DL.fld X G ?a ?l ?c ?k
      (case a => k_is); (case l => k_is); (case c => k_is); (case k => k_is)
    f__law_purse := by
      refine' DL.fld X G ?a ?l ?c ?k
      (case a => k_is); (case l => k_is); (case c => k_is); (case k => k_is)
    f__law_mixed := by
      refine' DL.fld X G ?a ?l ?c ?k
      (case a => k_is); (case l => k_is); (case c => k_is); (case k => k_is)
    f__law_draw := by
      refine' DL.fld X G ?a ?l ?c ?k
      (case a => k_is); (case l => k_is); (case c => k_is); (case k => k_is)
    f__law_purses := by
      refine' DL.fld X G ?a ?l ?c ?k
      (case a => k_is); (case l => k_is); (case c => k_is); (case k => k_is)
    f__law_one_of := by
      refine' DL.fld X G ?a ?l ?c ?k
      (case a => k_is); (case l => k_is); (case c => k_is); (case k => k_is)
    f__law_shuffled := by
      refine' DL.fld X G ?a ?l ?c ?k
      (case a => k_is); (case l => k_is); (case c => k_is); (case k => k_is)
    f__law_exact := by
      refine' DL.fld X G ?a ?l ?c ?k
      (case a => k_is); (case l => k_is); (case c => k_is); (case k => k_is)
    f__law_names := by
      refine' DL.fld X G ?a ?l ?c ?k
      (case a => k_is); (case l => k_is); (case c => k_is); (case k => k_is)
    f__law_web := by
      refine' DL.fld X G ?a ?l ?c ?k
      (case a => k_is); (case l => k_is); (case c => k_is); (case k => k_is)
    f__law_times := by
      refine' DL.fld X G ?a ?l ?c ?k
      (case a => k_is); (case l => k_is); (case c => k_is); (case k => k_is)
    f__law_drawn_course := by
      refine' DL.fld X G ?a ?l ?c ?k
      (case a => k_is); (case l => k_is); (case c => k_is); (case k => k_is)
    f__law_told_right := by
      refine' DL.fld X G ?a ?l ?c ?k
      (case a => k_is); (case l => k_is); (case c => k_is); (case k => k_is)
    f__law_turned_right := by
      refine' DL.fld X G ?a ?l ?c ?k
      (case a => k_is); (case l => k_is); (case c => k_is); (case k => k_is)
    f__law_linked_right := by
      refine' DL.fld X G ?a ?l ?c ?k
      (case a => k_is); (case l => k_is); (case c => k_is); (case k => k_is)
    f_law := by
      refine' DL.fld X G ?a ?l ?c ?k
      (case a => k_is); (case l => k_is); (case c => k_is); (case k => k_is) }
    obtain ⟨f, fd, h1, FD⟩ := T.f_law
    have e := hmg.symm.trans h1
    cases e
    exact ⟨fd, fun s u => (L2.FunD.bindsA (ps := ["script"]) FD fun _ _ _ _ _ _ us hl => match us, hl with | [_], _ => rfl) s [u] rfl, fun base _ _ => K71.ok_law T FD⟩
