import PyProof.Rows.All
import Wide.All
import OpenK.AllK
import Wide.FinOn
import KE.KStateDown
import HandS.Base
import HandS.Call
import HandS.List
import HandS.Comp
import HandS.Dict
import HandS.Iter
import HandS.Text
import HandS.Ends
import HandS.More
import HandS.Words
import HandS.WordsList
import HandS.WordsDict
import HandS.WordsExc
import HandS.Exc
import HandS.ExcOwn
import HandS.TryOnly
import HandS.TryMany
import HandS.Defaults
import HandS.Conv
import HandS.TupLe
import HandS.TupAny
import HandS.TupMul
import HandS.Zip
import HandS.NoneIn
import HandS.IsInst
import HandS.SortInts
import KE.DataCmp
import HandS.Small
import HandS.Style
import KE.GoesEnum
import KE.KDictWalk
import KE.GoesZip
import KE.GoesMore
import PyProof.EnumMake
import KE.KDictDisplayH
import PyProof.TupleOfSeq
import KE.KDictCopyH
import PyProof.Rows.SortWalk
import KE.KDictZip
import KE.KTurns
import HandS.Zip0
import Lean
import HandS.Head0
import HandS.Head1
import HandS.Head2
import HandS.HeadEnd
import HandS.HeadHook1
import HandS.HeadHook2
import PySem.Challenge.RW_pairedoff_k35_whole_two_sides_counted
set_option Elab.async false
set_option linter.all false
set_option maxRecDepth 100000
set_option maxHeartbeats 4000000
/-! Tuples as values: a second reading over HandS's, in which a tuple is its items and only lists, dicts and instances stand at addresses. -/
namespace Pd
open PySem PySem.Spec PyProof.Rows L2

inductive Wv where
  | non | bl (b : Bool) | int (i : Int) | str (x : Str) | tup (ws : List Wv) | ref (a : Addr) | scr (ns : List Int)
inductive Wo where
  | lst (ws : List Wv)
  | dK (kvs : List (Key × Wv))
  | dT (kvs : List (List Key × Wv))
  | ins (C : Addr) (fs : List (Str × Wv))
abbrev Wen := List (Option Wv)
abbrev WH := Addr → Option Wo
abbrev WQ := Wv → WH → Prop
/-- an exception: its class, its field's name, the field, the heap -/
abbrev WX := Addr → Str → Wv → WH → Prop
def wup (h : WH) (a : Addr) (o : Wo) : WH := fun b => if b = a then some o else h b
theorem wup_same {h : WH} {a : Addr} {o : Wo} : wup h a o a = some o := by unfold wup; rw [if_pos rfl]
theorem wup_ne {h : WH} {a b : Addr} {o : Wo} (e : b ≠ a) : wup h a o b = h b := by unfold wup; rw [if_neg e]
theorem wup_wup {h : WH} {a : Addr} {o u : Wo} : wup (wup h a o) a u = wup h a u := by
  funext b; unfold wup; split <;> rfl

/-- a list of the outside, that nothing here changes -/
def SqZ (K : PySem.W.Frag) (H : Hp) (a : Addr) (xs : List V) : Prop := (∃ o, H a = some (.frz o (.lst xs))) ∨ SqL K (fun _ => none) a xs
theorem SqZ.seq {K : PySem.W.Frag} {H : Hp} {a : Addr} {xs : List V} (s : SqZ K H a xs) : SqL K H a xs := by
  rcases s with ⟨o, e⟩ | s
  · exact .inl (.inr ⟨o, e⟩)
  · rcases s with (e | ⟨o, e⟩) | e
    · cases e
    · cases e
    · exact .inr e
mutual
def Den (K : PySem.W.Frag) (H : Hp) : Wv → V → Prop
  | .non, v => v = .non
  | .bl b, v => v = .bl b
  | .int i, v => v = .int i
  | .str x, v => v = .str x
  | .ref a, v => v = .ref a
  | .tup ws, v => ∃ a vs, v = .ref a ∧ H a = some (.tup vs) ∧ DenL K H ws vs
  | .scr ns, v => ∃ a, v = .ref a ∧ SqZ K H a (ns.map V.int)
def DenL (K : PySem.W.Frag) (H : Hp) : List Wv → List V → Prop
  | [], vs => vs = []
  | w :: ws, vs => ∃ v vs', vs = v :: vs' ∧ Den K H w v ∧ DenL K H ws vs'
end
def Grow (K : PySem.W.Frag) (H H' : Hp) : Prop := (∀ a xs, H a = some (.tup xs) → H' a = some (.tup xs)) ∧ ∀ a o u, H a = some (.frz o u) → H' a = some (.frz o u)
theorem Grow.refl (K : PySem.W.Frag) (H : Hp) : Grow K H H := ⟨fun _ _ h => h, fun _ _ _ h => h⟩
theorem Grow.trans {K : PySem.W.Frag} {H H1 H2 : Hp} (a : Grow K H H1) (b : Grow K H1 H2) : Grow K H H2 := ⟨fun x xs h => b.1 x xs (a.1 x xs h), fun x o u h => b.2 x o u (a.2 x o u h)⟩
/-- tuples and locked lists stay -/
def GrT (H H' : Hp) : Prop := (∀ a xs, H a = some (.tup xs) → H' a = some (.tup xs)) ∧ ∀ a o xs, H a = some (.frz o (.lst xs)) → H' a = some (.frz o (.lst xs))
theorem Grow.t {K : PySem.W.Frag} {H H' : Hp} (g : Grow K H H') : GrT H H' := ⟨g.1, fun a o xs h => g.2 a o _ h⟩
section
variable {K : PySem.W.Frag} {H H' : Hp}
mutual
theorem Den.growT (g : GrT H H') : ∀ (w : Wv) {v : V}, Den K H w v → Den K H' w v
  | .non, _, h => h
  | .bl _, _, h => h
  | .int _, _, h => h
  | .str _, _, h => h
  | .ref _, _, h => h
  | .tup ws, _, h => by
    obtain ⟨a, vs, e, s, d⟩ := h
    exact ⟨a, vs, e, g.1 a vs s, DenL.growT g ws d⟩
  | .scr ns, _, h => by
    obtain ⟨a, e, s⟩ := h
    refine ⟨a, e, ?_⟩
    rcases s with ⟨o, s⟩ | s
    · exact .inl ⟨o, g.2 a o _ s⟩
    · exact .inr s
theorem DenL.growT (g : GrT H H') : ∀ (ws : List Wv) {vs : List V}, DenL K H ws vs → DenL K H' ws vs
  | [], _, h => h
  | w :: ws, _, h => by
    obtain ⟨v, vs', e, d, r⟩ := h
    exact ⟨v, vs', e, Den.growT g w d, DenL.growT g ws r⟩
end
theorem Den.grow (g : Grow K H H') (w : Wv) {v : V} (d : Den K H w v) : Den K H' w v := Den.growT g.t w d
theorem DenL.grow (g : Grow K H H') (ws : List Wv) {vs : List V} (d : DenL K H ws vs) : DenL K H' ws vs := DenL.growT g.t ws d
theorem DenL.nil : DenL K H [] [] := rfl
theorem DenL.cons {w : Wv} {v : V} {ws : List Wv} {vs : List V} (a : Den K H w v) (b : DenL K H ws vs) : DenL K H (w :: ws) (v :: vs) := ⟨v, vs, rfl, a, b⟩
theorem DenL.length : ∀ {ws : List Wv} {vs : List V}, DenL K H ws vs → ws.length = vs.length
  | [], _, h => by
    have h : _ = ([] : List V) := h
    rw [h]
    rfl
  | w :: ws, _, h => by
    obtain ⟨v, vs', e, d, r⟩ := h
    rw [e]
    simp [DenL.length r]
theorem DenL.get : ∀ {ws : List Wv} {vs : List V}, DenL K H ws vs → ∀ {i : Nat} {w : Wv}, ws[i]? = some w → ∃ v, vs[i]? = some v ∧ Den K H w v
  | [], _, h, i, w, e => by simp at e
  | w' :: ws, _, h, 0, w, e => by
    obtain ⟨v, vs', e', d, r⟩ := h
    simp at e
    subst e e'
    exact ⟨v, rfl, d⟩
  | w' :: ws, _, h, i + 1, w, e => by
    obtain ⟨v, vs', e', d, r⟩ := h
    subst e'
    obtain ⟨u, h1, h2⟩ := DenL.get r (i := i) (w := w) (by simpa using e)
    exact ⟨u, by simpa using h1, h2⟩
theorem DenL.get' : ∀ {ws : List Wv} {vs : List V}, DenL K H ws vs → ∀ {i : Nat} {v : V}, vs[i]? = some v → ∃ w, ws[i]? = some w ∧ Den K H w v
  | [], _, h, i, v, e => by
    have h : _ = ([] : List V) := h
    rw [h] at e
    simp at e
  | w' :: ws, _, h, 0, v', e => by
    obtain ⟨v, vs', e', d, r⟩ := h
    subst e'
    simp at e
    subst e
    exact ⟨w', rfl, d⟩
  | w' :: ws, _, h, i + 1, v', e => by
    obtain ⟨v, vs', e', d, r⟩ := h
    subst e'
    obtain ⟨u, h1, h2⟩ := DenL.get' r (i := i) (v := v') (by simpa using e)
    exact ⟨u, by simpa using h1, h2⟩
theorem DenL.append : ∀ {ws us : List Wv} {vs xs : List V}, DenL K H ws vs → DenL K H us xs → DenL K H (ws ++ us) (vs ++ xs)
  | [], _, _, _, h, h' => by
    have h : _ = ([] : List V) := h
    rw [h]
    exact h'
  | w :: ws, _, _, _, h, h' => by
    obtain ⟨v, vs', e, d, r⟩ := h
    subst e
    exact ⟨v, _, rfl, d, DenL.append r h'⟩
theorem DenL.drop : ∀ {ws : List Wv} {vs : List V} (n : Nat), DenL K H ws vs → DenL K H (ws.drop n) (vs.drop n)
  | _, _, 0, h => by simpa using h
  | [], _, n + 1, h => by
    have h : _ = ([] : List V) := h
    rw [h]
    simp [DenL]
  | w :: ws, _, n + 1, h => by
    obtain ⟨v, vs', e, d, r⟩ := h
    subst e
    simpa using DenL.drop n r
theorem DenL.take : ∀ {ws : List Wv} {vs : List V} (n : Nat), DenL K H ws vs → DenL K H (ws.take n) (vs.take n)
  | _, _, 0, h => by simp [DenL]
  | [], _, n + 1, h => by
    have h : _ = ([] : List V) := h
    rw [h]
    simp [DenL]
  | w :: ws, _, n + 1, h => by
    obtain ⟨v, vs', e, d, r⟩ := h
    subst e
    simpa using DenL.cons d (DenL.take n r)
theorem DenL.set : ∀ {ws : List Wv} {vs : List V} {w : Wv} {v : V} (n : Nat), DenL K H ws vs → Den K H w v → DenL K H (ws.set n w) (vs.set n v)
  | [], _, _, _, n, h, _ => by
    have h : _ = ([] : List V) := h
    rw [h]
    simp [DenL]
  | w :: ws, _, _, _, 0, h, d' => by
    obtain ⟨v, vs', e, d, r⟩ := h
    subst e
    simpa using DenL.cons d' r
  | w :: ws, _, _, _, n + 1, h, d' => by
    obtain ⟨v, vs', e, d, r⟩ := h
    subst e
    simpa using DenL.cons d (DenL.set n r d')
theorem DenL.eraseIdx : ∀ {ws : List Wv} {vs : List V} (n : Nat), DenL K H ws vs → DenL K H (ws.eraseIdx n) (vs.eraseIdx n)
  | [], _, n, h => by
    have h : _ = ([] : List V) := h
    rw [h]
    simp [DenL]
  | w :: ws, _, 0, h => by
    obtain ⟨v, vs', e, d, r⟩ := h
    subst e
    simpa using r
  | w :: ws, _, n + 1, h => by
    obtain ⟨v, vs', e, d, r⟩ := h
    subst e
    simpa using DenL.cons d (DenL.eraseIdx n r)
theorem DenL.dropLast {ws : List Wv} {vs : List V} (h : DenL K H ws vs) : DenL K H ws.dropLast vs.dropLast := by
  rw [List.dropLast_eq_take, List.dropLast_eq_take, h.length]
  exact h.take _
theorem DenL.reverse : ∀ {ws : List Wv} {vs : List V}, DenL K H ws vs → DenL K H ws.reverse vs.reverse
  | [], _, h => by
    have h : _ = ([] : List V) := h
    rw [h]
    simp [DenL]
  | w :: ws, _, h => by
    obtain ⟨v, vs', e, d, r⟩ := h
    subst e
    rw [List.reverse_cons, List.reverse_cons]
    exact (DenL.reverse r).append (DenL.cons d rfl)
theorem DenL.ints : ∀ {ns : List Int} {vs : List V}, DenL K H (ns.map Wv.int) vs → vs = ns.map V.int
  | [], _, h => h
  | n :: ns, _, h => by
    obtain ⟨v, vs', e, d, r⟩ := h
    subst e
    have d : v = V.int n := d
    rw [d, DenL.ints r]
    rfl
theorem DenL.of_ints : ∀ (ns : List Int), DenL K H (ns.map Wv.int) (ns.map V.int)
  | [] => rfl
  | n :: ns => ⟨_, _, rfl, rfl, DenL.of_ints ns⟩
end

/-- what stands at an address -/
inductive ODen (K : PySem.W.Frag) (H : Hp) : Wo → HO → Prop where
  | lst {ws : List Wv} {vs : List V} : DenL K H ws vs → ODen K H (.lst ws) (.lst vs)
  | dK {kvs : List (Key × Wv)} {kus : List (Key × V)} : Paired (fun (p : Key × Wv) (q : Key × V) => p.1 = q.1 ∧ Den K H p.2 q.2) kvs kus → ODen K H (.dK kvs) (.dK kus)
  | dT {kvs : List (List Key × Wv)} {kus : List (List Key × V)} : Paired (fun (p : List Key × Wv) (q : List Key × V) => p.1 = q.1 ∧ Den K H p.2 q.2) kvs kus → ODen K H (.dT kvs) (.dT kus)
  | ins {C dx : Addr} {fs : List (Str × Wv)} {gs : List (Str × V)} : Paired (fun (p : Str × Wv) (q : Str × V) => p.1 = q.1 ∧ Den K H p.2 q.2) fs gs → ODen K H (.ins C fs) (.ins C dx gs)
theorem ODen.growT {K : PySem.W.Frag} {H H' : Hp} (g : GrT H H') {o : Wo} {u : HO} (h : ODen K H o u) : ODen K H' o u := by
  cases h with
  | lst d => exact .lst (d.growT g)
  | dK d => exact .dK (Paired.mapP d fun _ _ q => ⟨q.1, Den.growT g _ q.2⟩)
  | dT d => exact .dT (Paired.mapP d fun _ _ q => ⟨q.1, Den.growT g _ q.2⟩)
  | ins d => exact .ins (Paired.mapP d fun _ _ q => ⟨q.1, Den.growT g _ q.2⟩)
theorem ODen.grow {K : PySem.W.Frag} {H H' : Hp} (g : Grow K H H') {o : Wo} {u : HO} (h : ODen K H o u) : ODen K H' o u := h.growT g.t
theorem ODen.mut {K : PySem.W.Frag} {H : Hp} {o : Wo} {u : HO} (h : ODen K H o u) : Mut (some u) := by
  cases h <;> trivial
def RelH (K : PySem.W.Frag) (h : WH) (H : Hp) : Prop := ∀ a o, h a = some o → ∃ u, H a = some u ∧ ODen K H o u
def RelS (K : PySem.W.Frag) (H : Hp) (ρ : Wen) (σ : L2.St) : Prop := ρ.length = σ.length ∧ ∀ (i : Nat) (w : Wv), ρ[i]? = some (some w) → ∃ v : V, σ[i]? = some (some v) ∧ Den K H w v
section
variable {K : PySem.W.Frag} {H H' : Hp} {h : WH} {ρ : Wen} {σ : L2.St} {a p : Addr} {o : Wo} {u u' : HO}
theorem RelS.grow (g : Grow K H H') (r : RelS K H ρ σ) : RelS K H' ρ σ := ⟨r.1, fun i w e =>
  let ⟨v, e', d⟩ := r.2 i w e
  ⟨v, e', Den.grow g w d⟩⟩
theorem RelS.set {w : Wv} {v : V} {i : Nat} (r : RelS K H ρ σ) (d : Den K H w v) : RelS K H (ρ.set i (some w)) (σ.set i (some v)) := ⟨by rw [List.length_set, List.length_set]; exact r.1, fun j w' e => by
  by_cases hj : i = j
  · subst hj
    have hl : i < ρ.length := by
      have := (List.getElem?_eq_some_iff.mp e).1
      simpa using this
    rw [List.getElem?_set_self hl] at e
    simp at e
    subst e
    exact ⟨v, by rw [List.getElem?_set_self (r.1 ▸ hl)], d⟩
  · rw [List.getElem?_set_ne hj] at e
    obtain ⟨v', e', d'⟩ := r.2 j w' e
    exact ⟨v', by rw [List.getElem?_set_ne hj]; exact e', d'⟩⟩
theorem RelH.none (r : RelH K h H) (e : H p = none) : h p = none := by
  cases q : h p with
  | none => rfl
  | some o =>
    obtain ⟨u, e', _⟩ := r p o q
    rw [e] at e'
    cases e'
theorem grow_new (e : H p = none) : Grow K H (upd H p u) := ⟨fun b xs hb => by
  rw [upd_ne (ne_of_none hb e)]
  exact hb, fun b o u hb => by
  rw [upd_ne (ne_of_none hb e)]
  exact hb⟩
theorem grow_mut (e : H a = some u) (m : Mut (some u)) : Grow K H (upd H a u') := ⟨fun b xs hb => by
  rw [upd_ne ?_]
  · exact hb
  · rintro rfl
    rw [e] at hb
    cases hb
    exact m, fun b o x hb => by
  rw [upd_ne ?_]
  · exact hb
  · rintro rfl
    rw [e] at hb
    cases hb
    exact m⟩
/-- a thing is locked, then unlocked -/
theorem grow_unlock {H1 : Hp} {od : Obj} (e : H a = some u) (m : Mut (some u)) (g : Grow K (upd H a (.frz od u)) H1) : Grow K H (upd H1 a u) := ⟨fun b xs hb => by
  have ne : b ≠ a := by
    rintro rfl
    rw [e] at hb
    cases hb
    exact m
  rw [upd_ne ne]
  exact g.1 b xs (by rw [upd_ne ne]; exact hb), fun b o x hb => by
  have ne : b ≠ a := by
    rintro rfl
    rw [e] at hb
    cases hb
    exact m
  rw [upd_ne ne]
  exact g.2 b o x (by rw [upd_ne ne]; exact hb)⟩
theorem RelH.new (r : RelH K h H) (e : H p = Option.none) (d : ODen K H o u) : RelH K (wup h p o) (upd H p u) := fun b ob hb => by
  have g : Grow K H (upd H p u) := grow_new e
  by_cases hp : b = p
  · subst hp
    rw [wup_same] at hb
    cases hb
    exact ⟨u, upd_same, d.grow g⟩
  · rw [wup_ne hp] at hb
    obtain ⟨u1, e1, d1⟩ := r b ob hb
    exact ⟨u1, by rw [upd_ne hp]; exact e1, d1.grow g⟩
/-- a new object that is told nowhere here (a tuple) -/
theorem RelH.hid (r : RelH K h H) (e : H p = Option.none) : RelH K h (upd H p u) := fun b ob hb => by
  obtain ⟨u1, e1, d1⟩ := r b ob hb
  exact ⟨u1, by rw [upd_ne (ne_of_none e1 e)]; exact e1, d1.grow (grow_new e)⟩
theorem RelH.write (r : RelH K h H) (e : H a = some u') (m : Mut (some u')) (d : ODen K H o u) : RelH K (wup h a o) (upd H a u) := fun b ob hb => by
  have g : Grow K H (upd H a u) := grow_mut e m
  by_cases hp : b = a
  · subst hp
    rw [wup_same] at hb
    cases hb
    exact ⟨u, upd_same, d.grow g⟩
  · rw [wup_ne hp] at hb
    obtain ⟨u1, e1, d1⟩ := r b ob hb
    exact ⟨u1, by rw [upd_ne hp]; exact e1, d1.grow g⟩
theorem RelH.lst {ws : List Wv} (r : RelH K h H) (e : h a = some (.lst ws)) : ∃ vs, H a = some (.lst vs) ∧ DenL K H ws vs := by
  obtain ⟨u, e1, d⟩ := r a _ e
  cases d with
  | lst d => exact ⟨_, e1, d⟩
end

/-! ### the ends, as HandS's readings see them -/
def okQ (K : PySem.W.Frag) (H : Hp) (Q : VK) : WQ := fun w h' => ∀ v H', Grow K H H' → RelH K h' H' → Den K H' w v → Q v H'
def okB (K : PySem.W.Frag) (H : Hp) (Q : Bool → Hp → Prop) : Bool → WH → Prop := fun b h' => ∀ H', Grow K H H' → RelH K h' H' → Q b H'
def okA (K : PySem.W.Frag) (H : Hp) (Q : List V → Hp → Prop) : List Wv → WH → Prop := fun ws h' => ∀ vs H', Grow K H H' → RelH K h' H' → DenL K H' ws vs → Q vs H'
def exQ (K : PySem.W.Frag) (H : Hp) (E : XK) : WX := fun C f w h' => ∀ d v H', Grow K H H' → RelH K h' H' → Den K H' w v → H' d = some (.xd [(f, v)]) → E (.ref C) (some d) H'
def okS (K : PySem.W.Frag) (H : Hp) (N : L2.St → Hp → Prop) : Wen → WH → Prop := fun ρ' h' => ∀ σ' H', Grow K H H' → RelS K H' ρ' σ' → RelH K h' H' → N σ' H'
section
variable {K : PySem.W.Frag} {H H1 : Hp}
theorem okQ.back {Q : VK} (g : Grow K H H1) {w : Wv} {h : WH} (q : okQ K H Q w h) : okQ K H1 Q w h := fun v H' g' => q v H' (g.trans g')
theorem okB.back {Q : Bool → Hp → Prop} (g : Grow K H H1) {w : Bool} {h : WH} (q : okB K H Q w h) : okB K H1 Q w h := fun H' g' => q H' (g.trans g')
theorem okA.back {Q : List V → Hp → Prop} (g : Grow K H H1) {w : List Wv} {h : WH} (q : okA K H Q w h) : okA K H1 Q w h := fun v H' g' => q v H' (g.trans g')
theorem exQ.back {E : XK} (g : Grow K H H1) {C : Addr} {f : Str} {w : Wv} {h : WH} (q : exQ K H E C f w h) : exQ K H1 E C f w h := fun d v H' g' => q d v H' (g.trans g')
theorem okS.back {N : L2.St → Hp → Prop} (g : Grow K H H1) {ρ : Wen} {h : WH} (q : okS K H N ρ h) : okS K H1 N ρ h := fun σ H' g' => q σ H' (g.trans g')
end
/-! ### the readings -/
abbrev TWE := Wen → WH → WQ → WX → Prop
abbrev TWT := Wen → WH → (Bool → WH → Prop) → WX → Prop
abbrev TWA := Wen → WH → (List Wv → WH → Prop) → WX → Prop
structure WEnds where
  nx : Wen → WH → Prop
  rt : WQ
  ex : Wen → WX
  bk : Wen → WH → Prop := fun _ _ => False
  ct : Wen → WH → Prop := fun _ _ => False
abbrev TWS := WEnds → Wen → WH → Prop
def liE (K : PySem.W.Frag) (Z : L2.WX) (t : TWE) : TE := fun σ H Q => ∃ ρ h, RelS K H ρ σ ∧ RelH K h H ∧ t ρ h (okQ K H Q) (exQ K H fun cls d H' => Z cls d σ H')
def liT (K : PySem.W.Frag) (Z : L2.WX) (t : TWT) : TT := fun σ H Q => ∃ ρ h, RelS K H ρ σ ∧ RelH K h H ∧ t ρ h (okB K H Q) (exQ K H fun cls d H' => Z cls d σ H')
def liA (K : PySem.W.Frag) (Z : L2.WX) (t : TWA) : TA := fun σ H Q => ∃ ρ h, RelS K H ρ σ ∧ RelH K h H ∧ t ρ h (okA K H Q) (exQ K H fun cls d H' => Z cls d σ H')
def exS (K : PySem.W.Frag) (H : Hp) (Z : L2.WX) : Wen → WX := fun ρ' C f w h' => ∀ d v σ' H', Grow K H H' → RelS K H' ρ' σ' → RelH K h' H' → Den K H' w v → H' d = some (.xd [(f, v)]) → Z (.ref C) (some d) σ' H'
def liD (K : PySem.W.Frag) (H : Hp) (Z : L2.WX) (D : Ends) : WEnds := { nx := okS K H D.nx, rt := okQ K H D.rt, bk := okS K H D.bk, ct := okS K H D.ct, ex := exS K H Z }
def liS (K : PySem.W.Frag) (Z : L2.WX) (t : TWS) : TS := fun D σ H => ∃ ρ h, RelS K H ρ σ ∧ RelH K h H ∧ t (liD K H Z D) ρ h
/-- monotone in what is wanted -/
def MoE (t : TWE) : Prop := ∀ ρ h Q Q' E E', (∀ w h', Q w h' → Q' w h') → (∀ C f w h', E C f w h' → E' C f w h') → t ρ h Q E → t ρ h Q' E'
def MoT (t : TWT) : Prop := ∀ ρ h Q Q' E E', (∀ w h', Q w h' → Q' w h') → (∀ C f w h', E C f w h' → E' C f w h') → t ρ h Q E → t ρ h Q' E'
def MoA (t : TWA) : Prop := ∀ ρ h Q Q' E E', (∀ w h', Q w h' → Q' w h') → (∀ C f w h', E C f w h' → E' C f w h') → t ρ h Q E → t ρ h Q' E'
structure WEnds.Le (D D' : WEnds) : Prop where
  nx : ∀ ρ h, D.nx ρ h → D'.nx ρ h
  rt : ∀ w h, D.rt w h → D'.rt w h
  bk : ∀ ρ h, D.bk ρ h → D'.bk ρ h
  ct : ∀ ρ h, D.ct ρ h → D'.ct ρ h
  ex : ∀ ρ C f w h, D.ex ρ C f w h → D'.ex ρ C f w h
def MoS (t : TWS) : Prop := ∀ D D' ρ h, D.Le D' → t D ρ h → t D' ρ h
structure JE (X : Cx) (Z : L2.WX) (e : Expr) (t : TWE) : Prop where
  mo : MoE t
  pe : PE X e (liE X.K Z t)
structure JT (X : Cx) (Z : L2.WX) (e : Expr) (t : TWT) : Prop where
  mo : MoT t
  pt : PT X e (liT X.K Z t)
structure JW (X : Cx) (Z : L2.WX) (e : Expr) (t : TWT) : Prop where
  mo : MoT t
  pw : PW X e (liT X.K Z t)
structure JA (X : Cx) (Z : L2.WX) (es : List Expr) (t : TWA) : Prop where
  mo : MoA t
  pa : PA X es (liA X.K Z t)
structure JS (X : Cx) (Z : L2.WX) (st : Stmt) (t : TWS) : Prop where
  mo : MoS t
  ps : PS X st (liS X.K Z t)
structure JSs (X : Cx) (Z : L2.WX) (st : List Stmt) (t : TWS) : Prop where
  mo : MoS t
  ps : PSs X st (liS X.K Z t)
theorem imE {X : Cx} {e : Expr} {t t' : TE} (h : PE X e t) (i : ∀ σ H Q, t' σ H Q → t σ H Q) : PE X e t' := ⟨fun pins s σ H Q I q => h.run pins s σ H Q I (i σ H Q q)⟩
theorem imT {X : Cx} {e : Expr} {t t' : TT} (h : PT X e t) (i : ∀ σ H Q, t' σ H Q → t σ H Q) : PT X e t' := ⟨fun pins s σ H Q I q => h.run pins s σ H Q I (i σ H Q q)⟩
theorem imW {X : Cx} {e : Expr} {t t' : TT} (h : PW X e t) (i : ∀ σ H Q, t' σ H Q → t σ H Q) : PW X e t' := ⟨fun wh pins s σ H Q I q => h.run wh pins s σ H Q I (i σ H Q q)⟩
theorem imA {X : Cx} {es : List Expr} {t t' : TA} (h : PA X es t) (i : ∀ σ H Q, t' σ H Q → t σ H Q) : PA X es t' := ⟨fun pos pins s σ H Q I q => h.run pos pins s σ H Q I (i σ H Q q)⟩
theorem imS {X : Cx} {st : Stmt} {t t' : TS} (h : PS X st t) (i : ∀ D σ H, t' D σ H → t D σ H) : PS X st t' := ⟨fun pins s σ H D I q => h.run pins s σ H D I (i D σ H q)⟩
theorem imSs {X : Cx} {st : List Stmt} {t t' : TS} (h : PSs X st t) (i : ∀ D σ H, t' D σ H → t D σ H) : PSs X st t' := ⟨fun pins s σ H D I q => h.run pins s σ H D I (i D σ H q)⟩
end Pd
set_option Elab.async false
set_option linter.all false
set_option maxRecDepth 100000
set_option maxHeartbeats 1000000
namespace Pd
/-! ### sums over the numbers under n -/
def sm : Nat → (Nat → Int) → Int
  | 0, _ => 0
  | n + 1, f => sm n f + f n
theorem sm_congr {f g : Nat → Int} : ∀ (n : Nat), (∀ j, j < n → f j = g j) → sm n f = sm n g
  | 0, _ => rfl
  | n + 1, h => by rw [sm, sm, sm_congr n fun j hj => h j (by omega), h n (by omega)]
theorem sm_zero : ∀ (n : Nat), sm n (fun _ => 0) = 0
  | 0 => rfl
  | n + 1 => by rw [sm, sm_zero n]; rfl
theorem sm_none {f : Nat → Int} (n : Nat) (h : ∀ j, j < n → f j = 0) : sm n f = 0 := by rw [sm_congr n h, sm_zero]
theorem sm_add {f g : Nat → Int} : ∀ (n : Nat), sm n (fun j => f j + g j) = sm n f + sm n g
  | 0 => rfl
  | n + 1 => by rw [sm, sm, sm, sm_add n]; omega
theorem sm_one {f : Nat → Int} {k : Nat} : ∀ (n : Nat), k < n → (∀ j, j < n → j ≠ k → f j = 0) → sm n f = f k
  | 0, h, _ => by omega
  | n + 1, h, z => by
    rw [sm]
    by_cases e : k = n
    · subst e
      rw [sm_none k fun j hj => z j (by omega) (by omega)]
      omega
    · rw [sm_one n (by omega) fun j hj ne => z j (by omega) ne, z n (by omega) (fun e' => e e'.symm)]
      omega
/-- a sum over a list of different numbers under n -/
theorem sum_list {f : Nat → Int} {n : Nat} : ∀ (l : List Nat), l.Nodup → (∀ x, x ∈ l → x < n) → (l.map f).sum = sm n fun j => if j ∈ l then f j else 0
  | [], _, _ => by simp [sm_zero]
  | x :: l, nd, h => by
    have n1 := List.nodup_cons.mp nd
    rw [List.map_cons, List.sum_cons, sum_list l n1.2 fun y hy => h y (List.mem_cons_of_mem _ hy)]
    have e : sm n (fun j => if j ∈ x :: l then f j else 0) = sm n (fun j => (if j = x then f j else 0) + if j ∈ l then f j else 0) := sm_congr n fun j _ => by
      by_cases c : j = x
      · subst c
        simp [n1.1]
      · simp [c]
    have e2 := sm_one (f := fun j => if j = x then f j else 0) n (h x List.mem_cons_self) (fun j _ ne => by simp [ne])
    rw [e, sm_add, e2]
    simp
theorem sum_range {f : Nat → Int} : ∀ (n : Nat), ((List.range n).map f).sum = sm n f
  | 0 => rfl
  | n + 1 => by
    rw [List.range_succ, List.map_append, List.sum_append, sum_range n, sm]
    simp
/-! ### the same mod 2 -/
def xs : Nat → (Nat → Bool) → Bool
  | 0, _ => false
  | n + 1, f => Bool.xor (xs n f) (f n)
theorem xs_congr {f g : Nat → Bool} : ∀ (n : Nat), (∀ j, j < n → f j = g j) → xs n f = xs n g
  | 0, _ => rfl
  | n + 1, h => by rw [xs, xs, xs_congr n fun j hj => h j (by omega), h n (by omega)]
theorem xs_zero : ∀ (n : Nat), xs n (fun _ => false) = false
  | 0 => rfl
  | n + 1 => by rw [xs, xs_zero n]; rfl
theorem xs_none {f : Nat → Bool} (n : Nat) (h : ∀ j, j < n → f j = false) : xs n f = false := by rw [xs_congr n h, xs_zero]
theorem xs_xor {f g : Nat → Bool} : ∀ (n : Nat), xs n (fun j => Bool.xor (f j) (g j)) = Bool.xor (xs n f) (xs n g)
  | 0 => rfl
  | n + 1 => by
    rw [xs, xs, xs, xs_xor n]
    generalize xs n f = a
    generalize xs n g = b
    generalize f n = c
    generalize g n = d
    cases a <;> cases b <;> cases c <;> cases d <;> rfl
theorem xs_and {f : Nat → Bool} {b : Bool} : ∀ (n : Nat), xs n (fun j => b && f j) = (b && xs n f)
  | 0 => by simp [xs]
  | n + 1 => by
    rw [xs, xs, xs_and n]
    cases b <;> simp
theorem xs_one {f : Nat → Bool} {k : Nat} : ∀ (n : Nat), k < n → (∀ j, j < n → j ≠ k → f j = false) → xs n f = f k
  | 0, h, _ => by omega
  | n + 1, h, z => by
    rw [xs]
    by_cases e : k = n
    · subst e
      rw [xs_none k fun j hj => z j (by omega) (by omega)]
      simp
    · rw [xs_one n (by omega) fun j hj ne => z j (by omega) ne, z n (by omega) (fun e' => e e'.symm)]
      simp
theorem xs_swap {f : Nat → Nat → Bool} (m : Nat) : ∀ (n : Nat), xs n (fun i => xs m fun j => f i j) = xs m fun j => xs n fun i => f i j
  | 0 => by simp [xs, xs_zero]
  | n + 1 => by
    rw [xs, xs_swap m n, ← xs_xor]
    rfl
/-- a symmetric table with nothing on its line: even -/
theorem xs_even {f : Nat → Nat → Bool} (sy : ∀ i j, f i j = f j i) (no : ∀ i, f i i = false) : ∀ (n : Nat), xs n (fun i => xs n fun j => f i j) = false
  | 0 => rfl
  | n + 1 => by
    have e : ∀ i, xs (n + 1) (fun j => f i j) = Bool.xor (xs n fun j => f i j) (f i n) := fun i => rfl
    rw [show xs (n + 1) (fun i => xs (n + 1) fun j => f i j) = Bool.xor (xs n fun i => xs (n + 1) fun j => f i j) (xs (n + 1) fun j => f n j) from rfl, xs_congr n (fun i _ => e i), xs_xor, xs_even sy no n, e n, no n,
      xs_congr n (fun i _ => sy i n)]
    simp
theorem odd_add {a b : Int} : decide ((a + b) % 2 = 1) = Bool.xor (decide (a % 2 = 1)) (decide (b % 2 = 1)) := by
  rcases Int.emod_two_eq a with h1 | h1 <;> rcases Int.emod_two_eq b with h2 | h2 <;> simp [h1, h2, Int.add_emod]
theorem odd_sm {f : Nat → Int} : ∀ (n : Nat), decide (sm n f % 2 = 1) = xs n fun j => decide (f j % 2 = 1)
  | 0 => rfl
  | n + 1 => by rw [sm, xs, odd_add, odd_sm n]
end Pd
set_option Elab.async false
set_option linter.all false
set_option maxRecDepth 100000
set_option maxHeartbeats 1000000
namespace Pd
/-- a set of numbers without one -/
def off (S : Nat → Bool) (c : Nat) : Nat → Bool := fun j => S j && !decide (j = c)
theorem off_comm (S : Nat → Bool) (c d : Nat) : off (off S c) d = off (off S d) c := by
  funext j
  unfold off
  cases S j <;> cases decide (j = c) <;> cases decide (j = d) <;> rfl
theorem off_ne {S : Nat → Bool} {c j : Nat} (h : j ≠ c) : off S c j = S j := by simp [off, h]
theorem off_at {S : Nat → Bool} {c : Nat} : off S c c = false := by simp [off]
/-! ### ways to take one of each of k rows, no column twice -/
def rk (m : Nat) : List (List Int) → (Nat → Bool) → Nat → Int
  | _, _, 0 => 1
  | [], _, _ + 1 => 0
  | r :: T, S, k + 1 => rk m T S (k + 1) + sm m fun c => if S c = true ∧ r.getD c 0 ≠ 0 then rk m T (off S c) k else 0
theorem rk_zero {m : Nat} {T : List (List Int)} {S : Nat → Bool} : rk m T S 0 = 1 := by cases T <;> rfl
theorem rk_big {m : Nat} : ∀ (T : List (List Int)) (S : Nat → Bool) (k : Nat), T.length < k → rk m T S k = 0
  | _, _, 0, h => by omega
  | [], _, _ + 1, _ => rfl
  | r :: T, S, k + 1, h => by
    have h' : T.length < k := by simpa using h
    rw [rk, rk_big T S (k + 1) (by omega), sm_none m fun c _ => by
      split
      · exact rk_big T _ k h'
      · rfl]
    rfl
theorem rk_full {m : Nat} {r : List Int} {T : List (List Int)} {S : Nat → Bool} : rk m (r :: T) S (T.length + 1) = sm m fun c => if S c = true ∧ r.getD c 0 ≠ 0 then rk m T (off S c) T.length else 0 := by
  rw [rk, rk_big T S _ (Nat.lt_succ_self _)]
  omega
/-! ### the same with as many columns as rows, mod 2 -/
def p2 (m : Nat) : List (Nat → Bool) → (Nat → Bool) → Bool
  | [], _ => true
  | r :: T, S => xs m fun c => S c && r c && p2 m T (off S c)
def rowB (r : List Int) : Nat → Bool := fun c => decide (r.getD c 0 ≠ 0)
theorem odd_rk {m : Nat} : ∀ (T : List (List Int)) (S : Nat → Bool), decide (rk m T S T.length % 2 = 1) = p2 m (T.map rowB) S
  | [], _ => by simp [rk, p2]
  | r :: T, S => by
    rw [List.length_cons, rk_full, odd_sm, List.map_cons, p2]
    refine xs_congr m fun c _ => ?_
    rw [← odd_rk T]
    unfold rowB
    generalize r.getD c 0 = x
    by_cases h1 : S c = true <;> by_cases h2 : x = 0 <;> simp [h1, h2]
section
variable {m : Nat} {a b r : Nat → Bool} {T T' : List (Nat → Bool)} {S : Nat → Bool}
theorem p2_two : p2 m (a :: b :: T) S = xs m fun c => xs m fun d => (S c && S d && !decide (d = c)) && (a c && b d) && p2 m T (off (off S c) d) := by
  rw [p2]
  refine xs_congr m fun c _ => ?_
  rw [p2, ← xs_and]
  refine xs_congr m fun d _ => ?_
  unfold off
  cases S c <;> cases S d <;> cases a c <;> cases b d <;> simp
theorem p2_swap : p2 m (a :: b :: T) S = p2 m (b :: a :: T) S := by
  rw [p2_two, p2_two, xs_swap]
  refine xs_congr m fun c _ => xs_congr m fun d _ => ?_
  rw [off_comm S d c]
  by_cases e : d = c
  · subst e; simp
  · have e' : ¬ c = d := fun h => e h.symm
    simp only [e, e', decide_false, Bool.not_false, Bool.and_true]
    cases S c <;> cases S d <;> cases a d <;> cases b c <;> rfl
theorem p2_perm (h : T.Perm T') : ∀ S, p2 m T S = p2 m T' S := by
  induction h with
  | nil => intro S; rfl
  | cons x _ ih =>
    intro S
    rw [p2, p2]
    exact xs_congr m fun c _ => by rw [ih]
  | swap x y l => intro S; exact p2_swap
  | trans _ _ h1 h2 => intro S; rw [h1, h2]
theorem p2_same : p2 m (a :: a :: T) S = false := by
  rw [p2_two]
  refine xs_even (fun c d => ?_) (fun c => by simp) m
  rw [off_comm S d c]
  by_cases e : d = c
  · subst e; simp
  · have e' : ¬ c = d := fun h => e h.symm
    simp only [e, e', decide_false, Bool.not_false, Bool.and_true]
    cases S c <;> cases S d <;> cases a d <;> cases a c <;> rfl
theorem p2_add : p2 m ((fun c => Bool.xor (a c) (b c)) :: T) S = Bool.xor (p2 m (a :: T) S) (p2 m (b :: T) S) := by
  rw [p2, p2, p2, ← xs_xor]
  refine xs_congr m fun c _ => ?_
  cases S c <;> cases a c <;> cases b c <;> simp
theorem p2_op : p2 m ((fun c => Bool.xor (a c) (b c)) :: b :: T) S = p2 m (a :: b :: T) S := by
  rw [p2_add, p2_same]
  simp
/-- how many columns -/
def cnt : Nat → (Nat → Bool) → Nat
  | 0, _ => 0
  | n + 1, S => cnt n S + if S n = true then 1 else 0
theorem cnt_congr {S S' : Nat → Bool} : ∀ (n : Nat), (∀ j, j < n → S j = S' j) → cnt n S = cnt n S'
  | 0, _ => rfl
  | n + 1, h => by rw [cnt, cnt, cnt_congr n fun j hj => h j (by omega), h n (by omega)]
theorem cnt_off {c : Nat} : ∀ (n : Nat), c < n → S c = true → cnt n (off S c) + 1 = cnt n S
  | 0, h, _ => by omega
  | n + 1, h, z => by
    rw [cnt, cnt]
    by_cases e : c = n
    · subst e
      rw [cnt_congr c fun j hj => off_ne (S := S) (show j ≠ c by omega)]
      simp [off_at, z]
    · have := cnt_off n (by omega) z
      rw [off_ne (S := S) (show n ≠ c by omega)]
      omega
theorem p2_few : ∀ (T : List (Nat → Bool)) (S : Nat → Bool), cnt m S < T.length → p2 m T S = false
  | [], S, h => by simp at h
  | r :: T, S, h => by
    rw [p2]
    refine xs_none m fun c hc => ?_
    by_cases z : S c = true
    · have := cnt_off m hc z
      rw [p2_few T _ (by simp at h; omega)]
      simp
    · simp [z]
/-- a column that no row has may be left out -/
theorem p2_drop {i : Nat} : ∀ (T : List (Nat → Bool)) (S : Nat → Bool), (∀ r, r ∈ T → r i = false) → p2 m T S = p2 m T (off S i)
  | [], _, _ => rfl
  | r :: T, S, h => by
    rw [p2, p2]
    refine xs_congr m fun c _ => ?_
    by_cases e : c = i
    · subst e
      simp [h r List.mem_cons_self]
    · rw [off_ne e, p2_drop T _ fun r hr => h r (List.mem_cons_of_mem _ hr), off_comm]
/-- a column that only the first row has -/
theorem p2_first {i : Nat} (hi : i < m) (si : S i = true) (ri : r i = true) (h : ∀ r, r ∈ T → r i = false) (l : cnt m S = T.length + 1) : p2 m (r :: T) S = p2 m T (off S i) := by
  rw [p2, xs_one (k := i) m hi]
  · simp [si, ri]
  · intro c hc ne
    by_cases z : S c = true
    · have h1 := cnt_off m hc z
      have h2 := cnt_off (S := off S c) m hi (by rw [off_ne (Ne.symm ne)]; exact si)
      rw [p2_drop T _ h, p2_few T _ (by omega)]
      simp
    · simp [z]
theorem p2_no {i : Nat} (hi : i < m) (si : S i = true) (h : ∀ r, r ∈ T → r i = false) (l : cnt m S ≤ T.length) : p2 m T S = false := by
  have h2 := cnt_off m hi si
  rw [p2_drop T _ h, p2_few T _ (by omega)]
theorem p2_congr {S' : Nat → Bool} : ∀ (T : List (Nat → Bool)) (S S' : Nat → Bool), (∀ j, j < m → S j = S' j) → p2 m T S = p2 m T S'
  | [], _, _, _ => rfl
  | r :: T, S, S', h => by
    rw [p2, p2]
    refine xs_congr m fun c hc => ?_
    rw [h c hc, p2_congr (S' := S') T (off S c) (off S' c) fun j hj => by unfold off; rw [h j hj]]
end
/-- the columns from i on -/
def from_ (i : Nat) : Nat → Bool := fun j => decide (i ≤ j)
theorem from_off (i : Nat) : off (from_ i) i = from_ (i + 1) := by
  funext j
  unfold off from_
  by_cases h : i ≤ j <;> by_cases h2 : j = i <;> simp [h, h2] <;> omega
theorem cnt_from (i : Nat) : ∀ (n : Nat), i ≤ n → cnt n (from_ i) = n - i
  | 0, h => by rw [cnt]; omega
  | n + 1, h => by
    rw [cnt]
    by_cases e : i = n + 1
    · subst e
      have : from_ (n + 1) n = false := by simp [from_]
      rw [this, cnt_congr (S' := fun _ => false) n fun j hj => by simp [from_]; omega]
      have z : ∀ k, cnt k (fun _ => false) = 0 := fun k => by induction k with
        | zero => rfl
        | succ k ih => rw [cnt, ih]; simp
      rw [z]
      simp
    · rw [cnt_from i n (by omega), show from_ i n = true by simp [from_]; omega]
      simp
      omega
end Pd
set_option Elab.async false
set_option linter.all false
set_option maxRecDepth 100000
set_option maxHeartbeats 1000000
namespace Pd
/-! ### a table made simple, row by row, mod 2 -/
structure Tb (n : Nat) (rows : List (List Int)) : Prop where
  len : rows.length = n
  ln : ∀ r, r ∈ rows → r.length = n
  bit : ∀ r, r ∈ rows → ∀ x, x ∈ r → x = 0 ∨ x = 1
theorem Tb.set {n : Nat} {rows : List (List Int)} (t : Tb n rows) {r : List Int} {k : Nat} (l : r.length = n) (b : ∀ x, x ∈ r → x = 0 ∨ x = 1) : Tb n (rows.set k r) where
  len := by rw [List.length_set, t.len]
  ln := fun q hq => by
    rcases List.mem_or_eq_of_mem_set hq with h | h
    · exact t.ln q h
    · rw [h, l]
  bit := fun q hq => by
    rcases List.mem_or_eq_of_mem_set hq with h | h
    · exact t.bit q h
    · rw [h]; exact b
theorem bit_at {r : List Int} (b : ∀ x, x ∈ r → x = 0 ∨ x = 1) (c : Nat) : r.getD c 0 = 0 ∨ r.getD c 0 = 1 := by
  rw [List.getD_eq_getElem?_getD]
  cases e : r[c]? with
  | none => exact .inl rfl
  | some x => exact b x (List.mem_of_getElem? e)
def addR (a b : List Int) : List Int := List.zipWith (fun x y => (x + y) % 2) a b
theorem addR_len {a b : List Int} {n : Nat} (la : a.length = n) (lb : b.length = n) : (addR a b).length = n := by
  unfold addR
  rw [List.length_zipWith, la, lb, Nat.min_self]
theorem addR_bit {a b : List Int} : ∀ x, x ∈ addR a b → x = 0 ∨ x = 1 := by
  intro x hx
  obtain ⟨i, hi⟩ := List.getElem?_of_mem hx
  unfold addR at hi
  rw [List.getElem?_zipWith] at hi
  split at hi
  · cases hi
    exact Int.emod_two_eq _
  · cases hi
theorem rowB_addR {a b : List Int} (la : a.length = b.length) (ba : ∀ x, x ∈ a → x = 0 ∨ x = 1) (bb : ∀ x, x ∈ b → x = 0 ∨ x = 1) : rowB (addR a b) = fun c => Bool.xor (rowB a c) (rowB b c) := by
  funext c
  have h1 := bit_at ba c
  have h2 := bit_at bb c
  unfold rowB
  have e : (addR a b).getD c 0 = (a.getD c 0 + b.getD c 0) % 2 := by
    unfold addR
    rw [List.getD_eq_getElem?_getD, List.getD_eq_getElem?_getD, List.getD_eq_getElem?_getD, List.getElem?_zipWith]
    rcases Nat.lt_or_ge c a.length with hc | hc
    · rw [List.getElem?_eq_getElem hc, List.getElem?_eq_getElem (la ▸ hc)]
      rfl
    · rw [List.getElem?_eq_none hc, List.getElem?_eq_none (la ▸ hc)]
      rfl
  rw [e]
  generalize a.getD c 0 = x at h1
  generalize b.getD c 0 = y at h2
  rcases h1 with rfl | rfl <;> rcases h2 with rfl | rfl <;> decide
theorem set_perm' {α : Type} {x : α} : ∀ (l : List α) (k : Nat), k < l.length → (l.set k x).Perm (x :: l.eraseIdx k)
  | [], k, h => by simp at h
  | y :: l, 0, _ => by simp
  | y :: l, k + 1, h => by
    rw [List.set_cons_succ, List.eraseIdx_cons_succ]
    exact ((set_perm' l k (by simpa using h)).cons y).trans (List.Perm.swap x y _)
theorem get_perm {α : Type} {x : α} {l : List α} {k : Nat} (h : l[k]? = some x) : l.Perm (x :: l.eraseIdx k) := by
  have hk := (List.getElem?_eq_some_iff.mp h).1
  have := set_perm' (x := x) l k hk
  have e : l.set k x = l := by
    have h2 := (List.getElem?_eq_some_iff.mp h).2
    rw [← h2, List.set_getElem_self]
  rwa [e] at this
theorem drop_at {α : Type} {x : α} {l : List α} {i : Nat} (h : l[i]? = some x) : l.drop i = x :: l.drop (i + 1) := by
  have hi := (List.getElem?_eq_some_iff.mp h).1
  rw [List.drop_eq_getElem_cons hi, (List.getElem?_eq_some_iff.mp h).2]
theorem map_rows {x y : List Int} {l l' : List (List Int)} (h : l.Perm l') : (l.map rowB).Perm (l'.map rowB) := h.map _
section
variable {n m i k : Nat} {rows : List (List Int)} {ri rf : List Int} {S : Nat → Bool}
theorem elim_swap {f : Nat} (hif : i ≤ f) (hi : rows[i]? = some ri) (hf : rows[f]? = some rf) : p2 m ((((rows.set i rf).set f ri).drop i).map rowB) S = p2 m ((rows.drop i).map rowB) S := by
  have li := (List.getElem?_eq_some_iff.mp hi).1
  have lf := (List.getElem?_eq_some_iff.mp hf).1
  by_cases e : f = i
  · subst e
    rw [hi] at hf
    cases hf
    have e1 : rows.set f ri = rows := by
      rw [← (List.getElem?_eq_some_iff.mp hi).2, List.set_getElem_self]
    rw [e1, e1]
  · obtain ⟨k, rfl⟩ : ∃ k, f = i + 1 + k := ⟨f - i - 1, by omega⟩
    refine p2_perm (List.Perm.map _ ?_) S
    have hd : (rows.drop (i + 1))[k]? = some rf := by rw [List.getElem?_drop]; exact hf
    have lk := (List.getElem?_eq_some_iff.mp hd).1
    have e2 : ((rows.set i rf).set (i + 1 + k) ri).drop i = rf :: (rows.drop (i + 1)).set k ri := by
      rw [drop_at (x := rf), List.drop_set, List.drop_set]
      · simp
        intro hh
        omega
      · rw [List.getElem?_set_ne (by omega), List.getElem?_set_self li]
    rw [e2, drop_at hi]
    exact ((set_perm' _ k lk).cons rf).trans ((List.Perm.swap ri rf _).trans ((get_perm hd).symm.cons ri))
theorem elim_op {rk : List Int} (t : Tb n rows) (hik : i < k) (hi : rows[i]? = some ri) (hk : rows[k]? = some rk) : p2 m (((rows.set k (addR rk ri)).drop i).map rowB) S = p2 m ((rows.drop i).map rowB) S := by
  have mi := List.mem_of_getElem? hi
  have mk := List.mem_of_getElem? hk
  obtain ⟨j, rfl⟩ : ∃ j, k = i + 1 + j := ⟨k - i - 1, by omega⟩
  have hd : (rows.drop (i + 1))[j]? = some rk := by rw [List.getElem?_drop]; exact hk
  have lj := (List.getElem?_eq_some_iff.mp hd).1
  have e2 : (rows.set (i + 1 + j) (addR rk ri)).drop i = ri :: (rows.drop (i + 1)).set j (addR rk ri) := by
    rw [drop_at (x := ri), List.drop_set, if_neg (by omega)]
    · congr 2
      omega
    · rw [List.getElem?_set_ne (by omega), hi]
  rw [e2, drop_at hi]
  have q1 : p2 m ((ri :: (rows.drop (i + 1)).set j (addR rk ri)).map rowB) S = p2 m (rowB (addR rk ri) :: rowB ri :: ((rows.drop (i + 1)).eraseIdx j).map rowB) S :=
    p2_perm (((set_perm' _ j lj).cons ri).trans (List.Perm.swap _ _ _) |>.map rowB) S
  have q2 : p2 m ((ri :: rows.drop (i + 1)).map rowB) S = p2 m (rowB rk :: rowB ri :: ((rows.drop (i + 1)).eraseIdx j).map rowB) S :=
    p2_perm ((((get_perm hd).cons ri).trans (List.Perm.swap _ _ _)).map rowB) S
  rw [q1, q2, rowB_addR (by rw [t.ln _ mk, t.ln _ mi]) (t.bit _ mk) (t.bit _ mi), p2_op]
theorem low_rows {r : Nat → Bool} (h : ∀ k r, i ≤ k → rows[k]? = some r → r.getD m 0 = 0) (hr : r ∈ (rows.drop i).map rowB) : r m = false := by
  obtain ⟨q, hq, rfl⟩ := List.mem_map.mp hr
  obtain ⟨j, hj⟩ := List.getElem?_of_mem hq
  rw [List.getElem?_drop] at hj
  unfold rowB
  rw [h _ _ (Nat.le_add_right i j) hj]
  rfl
theorem elim_next (t : Tb n rows) (hi : rows[i]? = some ri) (one : ri.getD i 0 = 1) (h : ∀ k r, i < k → rows[k]? = some r → r.getD i 0 = 0) : p2 n ((rows.drop i).map rowB) (from_ i) = p2 n ((rows.drop (i + 1)).map rowB) (from_ (i + 1)) := by
  have li := (List.getElem?_eq_some_iff.mp hi).1
  rw [t.len] at li
  rw [drop_at hi, List.map_cons, p2_first li (by simp [from_]) (by unfold rowB; rw [one]; rfl) (fun r hr => low_rows (fun k r hk => h k r (by omega)) hr), from_off]
  rw [cnt_from i n (by omega), List.length_map, List.length_drop, t.len]
  omega
theorem elim_none (t : Tb n rows) (hi : i < n) (h : ∀ k r, i ≤ k → rows[k]? = some r → r.getD i 0 = 0) : p2 n ((rows.drop i).map rowB) (from_ i) = false := by
  refine p2_no hi (by simp [from_]) (fun r hr => low_rows h hr) ?_
  rw [cnt_from i n (by omega), List.length_map, List.length_drop, t.len]
  omega
end
end Pd
set_option Elab.async false
set_option linter.all false
set_option maxRecDepth 100000
set_option maxHeartbeats 1000000
namespace Pd
theorem sm_head {f : Nat → Int} : ∀ (n : Nat), sm (n + 1) f = f 0 + sm n fun i => f (i + 1)
  | 0 => by simp [sm]
  | n + 1 => by
    rw [sm, sm_head n, sm]
    omega
theorem sm_list {G : Nat → Int} : ∀ (l : List Nat), sm l.length (fun i => G (l.getD i 0)) = (l.map G).sum
  | [] => rfl
  | x :: l => by
    rw [List.length_cons, sm_head, List.map_cons, List.sum_cons, ← sm_list l]
    rfl
theorem rk_congr {m : Nat} : ∀ (T : List (List Int)) (S S' : Nat → Bool) (k : Nat), (∀ c, c < m → S c = S' c) → rk m T S k = rk m T S' k
  | _, _, _, 0, _ => by rw [rk_zero, rk_zero]
  | [], _, _, _ + 1, _ => rfl
  | r :: T, S, S', k + 1, h => by
    rw [rk, rk, rk_congr T S S' (k + 1) h]
    congr 1
    refine sm_congr m fun c hc => ?_
    rw [h c hc, rk_congr T (off S c) (off S' c) k fun j hj => by unfold off; rw [h j hj]]
/-! ### the ways by columns left out -/
def bn : List (List Int) → Nat → Int
  | _, 0 => 1
  | [], _ + 1 => 0
  | r :: T, k + 1 => bn T (k + 1) + sm r.length fun c => if r.getD c 0 ≠ 0 then bn (T.map fun q => q.eraseIdx c) k else 0
termination_by T _ => T.length
theorem bn_zero {T : List (List Int)} : bn T 0 = 1 := by cases T <;> rw [bn]
def res (cs : List Nat) (r : List Int) : List Int := cs.map fun c => r.getD c 0
theorem mem_erase {cs : List Nat} {i c j : Nat} (nd : cs.Nodup) (h : cs[i]? = some c) : j ∈ cs.eraseIdx i ↔ j ∈ cs ∧ j ≠ c := by
  have p := get_perm h
  have nd2 := (List.Perm.nodup_iff p).mp nd
  have n1 := List.nodup_cons.mp nd2
  rw [p.mem_iff]
  constructor
  · intro hj
    exact ⟨List.mem_cons_of_mem _ hj, fun e => n1.1 (e ▸ hj)⟩
  · rintro ⟨hj, ne⟩
    rcases List.mem_cons.mp hj with e | e
    · exact absurd e ne
    · exact e
theorem erase_map {α β : Type} (f : α → β) : ∀ (l : List α) (i : Nat), (l.map f).eraseIdx i = (l.eraseIdx i).map f
  | [], _ => rfl
  | _ :: _, 0 => rfl
  | x :: l, i + 1 => by
    rw [List.map_cons, List.eraseIdx_cons_succ, List.eraseIdx_cons_succ, List.map_cons, erase_map f l i]
theorem bn_rk {m : Nat} : ∀ (T : List (List Int)) (cs : List Nat) (k : Nat), cs.Nodup → (∀ c, c ∈ cs → c < m) → bn (T.map (res cs)) k = rk m T (fun c => decide (c ∈ cs)) k
  | _, _, 0, _, _ => by rw [bn_zero, rk_zero]
  | [], _, _ + 1, _, _ => by rw [List.map_nil, bn, rk]
  | r :: T, cs, k + 1, nd, hc => by
    rw [List.map_cons, bn, rk, bn_rk T cs (k + 1) nd hc]
    congr 1
    have len : (res cs r).length = cs.length := by unfold res; rw [List.length_map]
    rw [len]
    have key : sm cs.length (fun c => if (res cs r).getD c 0 ≠ 0 then bn (List.map (fun q => q.eraseIdx c) (List.map (res cs) T)) k else 0)
        = sm cs.length fun i => (fun c => if r.getD c 0 ≠ 0 then rk m T (off (fun c => decide (c ∈ cs)) c) k else 0) (cs.getD i 0) := by
      refine sm_congr _ fun i hi => ?_
      have e1 : cs[i]? = some (cs.getD i 0) := by
        rw [List.getD_eq_getElem?_getD, List.getElem?_eq_getElem hi]
        rfl
      generalize cs.getD i 0 = c at e1
      have e2 : (res cs r).getD i 0 = r.getD c 0 := by
        unfold res
        rw [List.getD_eq_getElem?_getD, List.getElem?_map, e1]
        rfl
      have e3 : List.map (fun q => q.eraseIdx i) (List.map (res cs) T) = T.map (res (cs.eraseIdx i)) := by
        rw [List.map_map]
        refine List.map_congr_left fun q _ => ?_
        unfold res
        simp only [Function.comp]
        rw [erase_map]
      have e4 : (fun j => decide (j ∈ cs.eraseIdx i)) = off (fun c => decide (c ∈ cs)) c := by
        funext j
        unfold off
        have := mem_erase (j := j) nd e1
        rw [Bool.eq_iff_iff]
        simp only [decide_eq_true_eq, Bool.and_eq_true, Bool.not_eq_true', decide_eq_false_iff_not]
        exact this
      dsimp only
      rw [e2, e3, bn_rk T (cs.eraseIdx i) k (nd.eraseIdx i) (fun c hx => hc c (List.mem_of_mem_eraseIdx hx)), e4]
    rw [key, sm_list (G := fun c => if r.getD c 0 ≠ 0 then rk m T (off (fun c => decide (c ∈ cs)) c) k else 0) cs, sum_list cs nd hc]
    refine sm_congr m fun c _ => ?_
    by_cases h1 : c ∈ cs <;> by_cases h2 : r.getD c 0 = 0 <;> simp [h1, h2]
theorem res_range {m : Nat} {r : List Int} (h : r.length = m) : res (List.range m) r = r := by
  unfold res
  apply List.ext_getElem?
  intro i
  rw [List.getElem?_map]
  rcases Nat.lt_or_ge i m with hi | hi
  · rw [List.getElem?_range hi, List.getElem?_eq_getElem (h ▸ hi)]
    simp [List.getD_eq_getElem?_getD, List.getElem?_eq_getElem (show i < r.length from h ▸ hi)]
  · rw [List.getElem?_eq_none (by simpa using hi), List.getElem?_eq_none (by omega)]
    rfl
/-- all columns -/
theorem bn_all {m : Nat} {T : List (List Int)} {k : Nat} (h : ∀ r, r ∈ T → r.length = m) : bn T k = rk m T (from_ 0) k := by
  have e : T.map (res (List.range m)) = T := by
    conv => rhs; rw [← List.map_id T]
    exact List.map_congr_left fun r hr => res_range (h r hr)
  rw [← e, bn_rk T _ k List.nodup_range (fun c hc => List.mem_range.mp hc), e]
  refine rk_congr T _ _ k fun c hc => ?_
  simp [from_, List.mem_range, hc]
end Pd
set_option Elab.async false
set_option linter.all false
set_option maxRecDepth 100000
set_option maxHeartbeats 1000000
namespace Pd
/-! ### the ways by orders: a table of used columns -/
def usedS (u : List Int) : Nat → Bool := fun c => decide ((c : Int) ∉ u)
/-- how many ways go on from used columns -/
def gw (m : Nat) (T : List (List Int)) (u : List Int) : Int := rk m T (usedS u) T.length
abbrev Us := List (List Int × Int)
def ws (m : Nat) (T : List (List Int)) (us : Us) : Int := (us.map fun p => p.2 * gw m T p.1).sum
def getU (k : List Int) : Us → Option Int
  | [] => none
  | p :: r => if p.1 = k then some p.2 else getU k r
def putU (k : List Int) (v : Int) (us : Us) : Us := if (getU k us).isSome then us.map fun p => if p.1 = k then (p.1, v) else p else us ++ [(k, v)]
theorem getU_none {k : List Int} : ∀ {us : Us}, getU k us = none → ∀ p, p ∈ us → p.1 ≠ k
  | [], _, p, h => by cases h
  | q :: r, h, p, hp => by
    unfold getU at h
    split at h
    · cases h
    · rename_i c
      rcases List.mem_cons.mp hp with rfl | hp
      · exact c
      · exact getU_none h p hp
theorem putU_keys {k : List Int} {v : Int} {us : Us} : (putU k v us).map (·.1) = if (getU k us).isSome then us.map (·.1) else us.map (·.1) ++ [k] := by
  unfold putU
  split
  · rw [List.map_map]
    refine List.map_congr_left fun p _ => ?_
    simp only [Function.comp]
    split <;> rfl
  · rw [List.map_append]
    rfl
theorem putU_nodup {k : List Int} {v : Int} {us : Us} (nd : (us.map (·.1)).Nodup) : ((putU k v us).map (·.1)).Nodup := by
  rw [putU_keys]
  split
  · exact nd
  · rename_i c
    have e : getU k us = none := by
      cases h : getU k us with
      | none => rfl
      | some x => rw [h] at c; exact absurd rfl c
    rw [List.nodup_append]
    refine ⟨nd, by simp, ?_⟩
    intro a ha b hb
    obtain ⟨p, hp, rfl⟩ := List.mem_map.mp ha
    rw [List.mem_singleton.mp hb]
    exact getU_none e p hp
theorem putU_len {k : List Int} {v : Int} {us : Us} : (putU k v us).length ≤ us.length + 1 := by
  unfold putU
  split
  · rw [List.length_map]; omega
  · rw [List.length_append]; simp
theorem map_same {k : List Int} {v : Int} : ∀ {us : Us}, (∀ p, p ∈ us → p.1 ≠ k) → (us.map fun p => if p.1 = k then (p.1, v) else p) = us
  | [], _ => rfl
  | q :: r, h => by
    rw [List.map_cons, if_neg (h q List.mem_cons_self), map_same fun p hp => h p (List.mem_cons_of_mem _ hp)]
theorem ws_put_some {m : Nat} {T : List (List Int)} {k : List Int} {x o : Int} : ∀ {us : Us}, (us.map (·.1)).Nodup → getU k us = some o → ((us.map fun p => if p.1 = k then (p.1, o + x) else p).map fun p => p.2 * gw m T p.1).sum = ws m T us + x * gw m T k
  | [], _, h => by cases h
  | q :: r, nd, h => by
    have n1 := List.nodup_cons.mp nd
    unfold getU at h
    split at h
    · rename_i c
      cases h
      have e : (r.map fun p => if p.1 = k then (p.1, q.2 + x) else p) = r := map_same fun p hp ep => n1.1 (by
        show q.1 ∈ _
        rw [c, ← ep]
        exact List.mem_map.mpr ⟨p, hp, rfl⟩)
      rw [List.map_cons, e, if_pos c]
      unfold ws
      rw [List.map_cons, List.sum_cons, List.map_cons, List.sum_cons]
      dsimp only
      rw [c, Int.add_mul]
      omega
    · rename_i c
      have ih := ws_put_some (m := m) (T := T) (x := x) n1.2 h
      rw [List.map_cons, if_neg c, List.map_cons, List.sum_cons, ih]
      unfold ws
      rw [List.map_cons, List.sum_cons]
      omega
theorem ws_put {m : Nat} {T : List (List Int)} {k : List Int} {x : Int} {us : Us} (nd : (us.map (·.1)).Nodup) : ws m T (putU k ((getU k us).getD 0 + x) us) = ws m T us + x * gw m T k := by
  unfold putU
  cases h : getU k us with
  | none =>
    simp only [Option.isSome_none, Bool.false_eq_true, if_false]
    unfold ws
    rw [List.map_append, List.sum_append]
    simp
  | some o =>
    simp only [Option.isSome_some, if_true]
    exact ws_put_some nd h
theorem gw_more {m : Nat} {T : List (List Int)} {u u' : List Int} {c : Nat} (h : ∀ x, x ∈ u' ↔ x ∈ u ∨ x = (c : Int)) : gw m T u' = rk m T (off (usedS u) c) T.length := by
  unfold gw
  refine rk_congr T _ _ _ fun j _ => ?_
  unfold off usedS
  have := h (j : Int)
  rw [Bool.eq_iff_iff]
  simp only [decide_eq_true_eq, Bool.and_eq_true, Bool.not_eq_true', decide_eq_false_iff_not]
  rw [this, not_or]
  constructor
  · rintro ⟨a, b⟩
    exact ⟨a, fun e => b (by rw [e])⟩
  · rintro ⟨a, b⟩
    exact ⟨a, fun e => b (by omega)⟩
theorem gw_row {m : Nat} {r : List Int} {T : List (List Int)} {u : List Int} : gw m (r :: T) u = sm m fun c => if usedS u c = true ∧ r.getD c 0 ≠ 0 then rk m T (off (usedS u) c) T.length else 0 := by
  unfold gw
  rw [List.length_cons, rk_full]
theorem ws_end {m : Nat} {us : Us} : ws m [] us = (us.map (·.2)).sum := by
  unfold ws gw
  congr 1
  refine List.map_congr_left fun p _ => ?_
  simp [rk]
theorem gw_start {m : Nat} {T : List (List Int)} : ws m T [([], 1)] = rk m T (from_ 0) T.length := by
  unfold ws gw
  simp
  refine rk_congr T _ _ _ fun c _ => ?_
  simp [usedS, from_]
end Pd
set_option Elab.async false
set_option linter.all false
set_option maxRecDepth 100000
set_option maxHeartbeats 4000000
namespace Pd
open PySem PySem.Spec PyProof.Rows L2
section
variable {X : Cx} {Z : L2.WX} {a b c e : Expr} {ta tb tc te : TWE} {pos : Pos}

/-! ### names and constants -/
def wVar (i : Nat) : TWE := fun ρ h Q _ => match ρ[i]? with
  | some (some w) => Q w h
  | _ => False
theorem wVar_iff {i : Nat} {ρ : Wen} {h : WH} {Q : WQ} {E : WX} : wVar i ρ h Q E ↔ ∃ w, ρ[i]? = some (some w) ∧ Q w h := by
  unfold wVar
  constructor
  · intro q
    split at q
    · exact ⟨_, by assumption, q⟩
    · exact q.elim
  · rintro ⟨w, e, q⟩
    rw [e]
    exact q
def wC (w : Wv) : TWE := fun _ h Q _ => Q w h
theorem je_of {i : Nat} (p : PE X e (tVar i)) : JE X Z e (wVar i) where
  mo := fun ρ h Q Q' E E' hq _ q => by
    obtain ⟨w, e1, q⟩ := wVar_iff.mp q
    exact wVar_iff.mpr ⟨w, e1, hq _ _ q⟩
  pe := imE p fun σ H Q ⟨ρ, h, rs, rh, q⟩ => by
    obtain ⟨w, e1, q⟩ := wVar_iff.mp q
    obtain ⟨v, e2, d⟩ := rs.2 i w e1
    exact ⟨v, e2, q v H (Grow.refl _ _) rh d⟩
theorem jv (i : Nat) {x : Str} {pos : Pos} (hN : X.N[i]? = some x := by rfl) (hv : Vis X.env.scope x := by first | exact Or.inl rfl | exact Or.inr (Or.inl rfl) | exact Or.inr (Or.inr rfl)) (hd : (x == ("__debug__" : Str)) = false := by decide)
    (hcd : (x == ("__classdict__" : Str)) = false := by decide) : JE X Z (.Name x pos) (wVar i) := je_of (pe_var hN hv hd hcd)
theorem je_c {w : Wv} {v : V} (p : PE X e (tC v)) (d : ∀ H, Den X.K H w v) : JE X Z e (wC w) where
  mo := fun ρ h Q Q' E E' hq _ q => hq _ _ q
  pe := imE p fun σ H Q ⟨ρ, h, rs, rh, q⟩ => q v H (Grow.refl _ _) rh (d H)
theorem jint {i j pos} : JE X Z (.Constant (.int i) j pos) (wC (.int i)) := je_c pe_int fun _ => rfl
theorem jbl {b j pos} : JE X Z (.Constant (.bool b) j pos) (wC (.bl b)) := je_c pe_bl fun _ => rfl
theorem jnon {j pos} : JE X Z (.Constant .none j pos) (wC .non) := je_c pe_non fun _ => rfl
theorem jstr {x j pos} : JE X Z (.Constant (.str x) j pos) (wC (.str x)) := je_c pe_str fun _ => rfl
/-- a module's whole number -/
theorem jgint {x : Str} {i : Int} {t : Tok} (hm : X.mg x = some (.int i t)) (hg : Gl X x := by rfl) (hd : (x == ("__debug__" : Str)) = false := by decide) : JE X Z (.Name x pos) (wC (.int i)) := je_c (pe_glob hg hm (v := .int i) ⟨t, rfl⟩ hd) fun _ => rfl

/-! ### operators by values -/
inductive Rs where
  | val (w : Wv)
  | lst (ws : List Wv)
def outR : Option Rs → WH → WQ → Prop
  | some (.val w), h, Q => Q w h
  | some (.lst ws), h, Q => ∀ p, h p = none → Q (.ref p) (wup h p (.lst ws))
  | none, _, _ => False
theorem outR_mo {r : Option Rs} {h : WH} {Q Q' : WQ} (hq : ∀ w h', Q w h' → Q' w h') (q : outR r h Q) : outR r h Q' := by
  match r, q with
  | some (.val w), q => exact hq _ _ q
  | some (.lst ws), q => exact fun p hp => hq _ _ (q p hp)
abbrev F2 := Wv → Wv → WH → Option Rs
def Snd2 (K : PySem.W.Frag) (r : R2) (F : F2) : Prop := ∀ (H : Hp) (h : WH) (w1 w2 : Wv) (v1 v2 : V) (Q : VK), RelH K h H → Den K H w1 v1 → Den K H w2 v2 → outR (F w1 w2 h) h (okQ K H Q) → r v1 v2 H Q
def wBin (F : F2) (ta tb : TWE) : TWE := fun ρ h Q E => ta ρ h (fun w h1 => tb ρ h1 (fun u h2 => outR (F w u h2) h2 Q) E) E
theorem wBin_mo {F : F2} (ma : MoE ta) (mb : MoE tb) : MoE (wBin F ta tb) := fun ρ h Q Q' E E' hq he q =>
  ma ρ h _ _ E E' (fun w h1 q1 => mb ρ h1 _ _ E E' (fun u h2 q2 => outR_mo hq q2) he q1) he q
/-- an expression, then something by its value -/
theorem li_then {σ : L2.St} {H : Hp} {t : TWE} {ρ : Wen} {h : WH} {E : WX} {k : V → Hp → Prop} {k' : WQ} (m : MoE t) (rs : RelS X.K H ρ σ) (rh : RelH X.K h H) (q : t ρ h k' (exQ X.K H fun cls d H' => Z cls d σ H'))
    (hk : ∀ w h1 v H1, Grow X.K H H1 → RelH X.K h1 H1 → Den X.K H1 w v → k' w h1 → k v H1) : liE X.K Z t σ H k :=
  ⟨ρ, h, rs, rh, m ρ h _ _ _ _ (fun w h1 q1 v H1 g r d => hk w h1 v H1 g r d q1) (fun _ _ _ _ z => z) q⟩
theorem exQ_back {H H1 : Hp} {σ : L2.St} (g : Grow X.K H H1) : ∀ C f w h', exQ X.K H (fun cls d H' => Z cls d σ H') C f w h' → exQ X.K H1 (fun cls d H' => Z cls d σ H') C f w h' := fun _ _ _ _ q => q.back g
theorem outR_back {r : Option Rs} {K : PySem.W.Frag} {H H1 : Hp} {h : WH} {Q : VK} (g : Grow K H H1) (q : outR r h (okQ K H Q)) : outR r h (okQ K H1 Q) := outR_mo (fun _ _ q => q.back g) q
theorem tOp_of {r : R2} {F : F2} (S : Snd2 X.K r F) (ma : MoE ta) (mb : MoE tb) {σ : L2.St} {H : Hp} {Q : VK} (q : liE X.K Z (wBin F ta tb) σ H Q) : tOp r (liE X.K Z ta) (liE X.K Z tb) σ H Q := by
  obtain ⟨ρ, h, rs, rh, q⟩ := q
  refine li_then (E := fun _ _ _ _ => False) ma rs rh q fun w h1 v H1 g1 r1 d1 q1 => ?_
  have q1' := mb ρ h1 _ _ _ (exQ X.K H1 fun cls d H' => Z cls d σ H') (fun _ _ z => z) (exQ_back g1) q1
  refine li_then (E := fun _ _ _ _ => False) mb (rs.grow g1) r1 q1' fun u h2 v2 H2 g2 r2 d2 q2 => ?_
  exact S H2 h2 w u v v2 Q r2 (Den.grow g2 _ d1) d2 (outR_back (g1.trans g2) q2)
theorem jbin {op : Operator} {r : R2} {F : F2} (o : OpR X (binaryOp op) r) (S : Snd2 X.K r F) (ha : JE X Z a ta) (hb : JE X Z b tb) : JE X Z (.BinOp a op b pos) (wBin F ta tb) where
  mo := wBin_mo ha.mo hb.mo
  pe := imE (pe_op o ha.pe hb.pe) fun _ _ _ q => tOp_of S ha.mo hb.mo q
/-- a truth value, as a test -/
def wTest (t : TWE) : TWT := fun ρ h Q E => t ρ h (fun w h' => match w with
  | .bl b => Q b h'
  | _ => False) E
theorem wTest_mo {t : TWE} (m : MoE t) : MoT (wTest t) := fun ρ h Q Q' E E' hq he q => m ρ h _ _ E E' (fun w h' q1 => by
  cases w <;> first | exact q1.elim | skip
  exact hq _ _ q1) he q
theorem li_test {t : TWE} (m : MoE t) {σ : L2.St} {H : Hp} {Q : Bool → Hp → Prop} (q : liT X.K Z (wTest t) σ H Q) : liE X.K Z t σ H fun x H1 => ∃ k, x = .bl k ∧ Q k H1 := by
  obtain ⟨ρ, h, rs, rh, q⟩ := q
  refine li_then (E := fun _ _ _ _ => False) m rs rh q fun w h1 v H1 g1 r1 d1 q1 => ?_
  cases w <;> first | exact q1.elim | skip
  exact ⟨_, d1, q1 H1 g1 r1⟩
/-- a comparison: as a value, as a test -/
structure JC (X : Cx) (Z : L2.WX) (e : Expr) (t : TWE) : Prop where
  je : JE X Z e t
  jt : JT X Z e (wTest t)
theorem tTest_mono {t t' : TE} (i : ∀ σ H Q, t' σ H Q → t σ H Q) : ∀ σ H Q, tTest t' σ H Q → tTest t σ H Q := fun σ H Q q => i σ H _ q
theorem jcmp {op : CmpOp} {r : R2} {F : F2} (o : OpR X (compareOp op) r) (S : Snd2 X.K r F) (ha : JE X Z a ta) (hb : JE X Z b tb) (hm : behindInMarks op b = false) : JC X Z (.Compare a [op] [b] pos) (wBin F ta tb) where
  je := ⟨wBin_mo ha.mo hb.mo, imE (pe_cmpR o ha.pe hb.pe hm) fun _ _ _ q => tOp_of S ha.mo hb.mo q⟩
  jt := ⟨wTest_mo (wBin_mo ha.mo hb.mo), imT (pt_cmpR o ha.pe hb.pe hm) fun σ H Q q => tTest_mono (fun _ _ _ q => tOp_of S ha.mo hb.mo q) σ H Q (li_test (wBin_mo ha.mo hb.mo) q)⟩
theorem jix {r : R2} {F : F2} (o : IxR X r) (S : Snd2 X.K r F) (ha : JE X Z a ta) (hb : JE X Z b tb) (hs : PlainIx b) : JE X Z (.Subscript a b pos) (wBin F ta tb) where
  mo := wBin_mo ha.mo hb.mo
  pe := imE (pe_ix o ha.pe hb.pe hs) fun _ _ _ q => tOp_of S ha.mo hb.mo q
theorem Snd2.or {K : PySem.W.Frag} {r r' : R2} {F G : F2} (S : Snd2 K r F) (S' : Snd2 K r' G) : Snd2 K (fun x y H Q => r x y H Q ∨ r' x y H Q) (fun w u h => (F w u h).orElse fun _ => G w u h) := fun H h w1 w2 v1 v2 Q rh d1 d2 q => by
  have q : outR ((F w1 w2 h).orElse fun _ => G w1 w2 h) h (okQ K H Q) := q
  cases e : F w1 w2 h with
  | some x =>
    rw [e] at q
    exact .inl (S H h w1 w2 v1 v2 Q rh d1 d2 (by rw [e]; exact q))
  | none =>
    rw [e] at q
    exact .inr (S' H h w1 w2 v1 v2 Q rh d1 d2 q)
theorem OpR.or {f : Value → Value → Sem Value} {r r' : R2} (o : OpR X f r) (o' : OpR X f r') : OpR X f (fun x y H Q => r x y H Q ∨ r' x y H Q) := fun pins s σ H x y v u Q I rx ry q => by
  rcases q with q | q
  · exact o pins s σ H x y v u Q I rx ry q
  · exact o' pins s σ H x y v u Q I rx ry q

/-- ints in, a value out -/
def iiF (C : Int → Int → Bool) (g : Int → Int → Wv) : F2
  | .int i, .int j, _ => if C i j then some (.val (g i j)) else none
  | _, _, _ => none
theorem snd_ii {K : PySem.W.Frag} {C : Int → Int → Prop} {D : Int → Int → Bool} {g : Int → Int → V} {g' : Int → Int → Wv} (hC : ∀ i j, D i j = true → C i j) (hg : ∀ H i j, Den K H (g' i j) (g i j)) : Snd2 K (rI C g) (iiF D g') := fun H h w1 w2 v1 v2 Q rh d1 d2 q => by
  cases w1 <;> first | exact q.elim | skip
  cases w2 <;> first | exact q.elim | skip
  rename_i i j
  have q : outR (if D i j then some (.val (g' i j)) else none) h (okQ K H Q) := q
  split at q
  · rename_i c
    exact ⟨i, j, d1, d2, hC i j c, q _ H (Grow.refl _ _) rh (hg H i j)⟩
  · exact q.elim
def iiF0 (g : Int → Int → Wv) : F2
  | .int i, .int j, _ => some (.val (g i j))
  | _, _, _ => none
theorem snd_ii0 {K : PySem.W.Frag} {g : Int → Int → V} {g' : Int → Int → Wv} (hg : ∀ H i j, Den K H (g' i j) (g i j)) : Snd2 K (rI0 g) (iiF0 g') := fun H h w1 w2 v1 v2 Q rh d1 d2 q => by
  cases w1 <;> first | exact q.elim | skip
  cases w2 <;> first | exact q.elim | skip
  rename_i i j
  exact ⟨i, j, d1, d2, q _ H (Grow.refl _ _) rh (hg H i j)⟩
/-- texts -/
def ssF (g : Str → Str → Wv) : F2
  | .str i, .str j, _ => if i.length + j.length ≤ sizeLine then some (.val (g i j)) else none
  | _, _, _ => none
/-- tuples put together; lists put together -/
def catF : F2
  | .tup xs, .tup ys, _ => if xs.length + ys.length ≤ sizeLine then some (.val (.tup (xs ++ ys))) else none
  | .ref a, .ref b, h => match h a, h b with
    | some (.lst xs), some (.lst ys) => if xs.length + ys.length ≤ sizeLine then some (.lst (xs ++ ys)) else none
    | _, _ => none
  | _, _, _ => none
theorem snd_catT {K : PySem.W.Frag} : Snd2 K (fun x y H Q => rCatA K x y H Q ∨ rCat x y H Q) catF := fun H h w1 w2 v1 v2 Q rh d1 d2 q => by
  cases w1 <;> first | exact q.elim | skip
  · cases w2 <;> first | exact q.elim | skip
    rename_i xs ys
    obtain ⟨p1, vs1, e1, s1, l1⟩ := d1
    obtain ⟨p2, vs2, e2, s2, l2⟩ := d2
    subst e1 e2
    have q : outR (if xs.length + ys.length ≤ sizeLine then some (.val (.tup (xs ++ ys))) else none) h (okQ K H Q) := q
    split at q
    · rename_i c
      rw [l1.length, l2.length] at c
      refine .inl ⟨p1, p2, vs1, vs2, rfl, rfl, SqT.of s1, SqT.of s2, c, fun z => ?_, fun z z' => ?_, fun z z' p hp => ?_⟩
      · subst z
        have : xs = [] := List.length_eq_zero_iff.mp (by rw [l1.length]; rfl)
        subst this
        exact q _ H (Grow.refl _ _) rh ⟨p2, vs2, rfl, s2, l2⟩
      · subst z'
        have : ys = [] := List.length_eq_zero_iff.mp (by rw [l2.length]; rfl)
        subst this
        exact q _ H (Grow.refl _ _) rh ⟨p1, vs1, rfl, s1, by rw [List.append_nil]; exact l1⟩
      · exact q _ _ (grow_new hp) (rh.hid hp) ⟨p, _, rfl, upd_same, (l1.append l2).grow (grow_new hp)⟩
    · exact q.elim
  · cases w2 <;> first | exact q.elim | skip
    rename_i p1 p2
    have d1 : v1 = .ref p1 := d1
    have d2 : v2 = .ref p2 := d2
    subst d1 d2
    have q : outR (match h p1, h p2 with
      | some (.lst xs), some (.lst ys) => if xs.length + ys.length ≤ sizeLine then some (.lst (xs ++ ys)) else none
      | _, _ => none) h (okQ K H Q) := q
    split at q
    · rename_i xs ys e1 e2
      obtain ⟨vs1, s1, l1⟩ := rh.lst e1
      obtain ⟨vs2, s2, l2⟩ := rh.lst e2
      split at q
      · rename_i c
        rw [l1.length, l2.length] at c
        refine .inr ⟨p1, p2, vs1, vs2, rfl, rfl, s1, s2, c, fun p hp => ?_⟩
        exact q p (rh.none hp) _ _ (grow_new hp) (rh.new hp (.lst (l1.append l2))) rfl
      · exact q.elim
    · exact q.elim
theorem snd_ss {K : PySem.W.Frag} : Snd2 K (fun x y H Q => ∃ i j, x = .str i ∧ y = .str j ∧ i.length + j.length ≤ sizeLine ∧ Q (.str (i ++ j)) H) (ssF fun i j => .str (i ++ j)) := fun H h w1 w2 v1 v2 Q rh d1 d2 q => by
  cases w1 <;> first | exact q.elim | skip
  cases w2 <;> first | exact q.elim | skip
  rename_i i j
  have q : outR (if i.length + j.length ≤ sizeLine then some (.val (.str (i ++ j))) else none) h (okQ K H Q) := q
  split at q
  · rename_i c
    exact ⟨i, j, d1, d2, c, q _ H (Grow.refl _ _) rh rfl⟩
  · exact q.elim
def orF (F G : F2) : F2 := fun w u h => (F w u h).orElse fun _ => G w u h
/-- a + b -/
def addF : F2
  | .int i, .int j, _ => some (.val (.int (i + j)))
  | .str i, .str j, _ => if i.length + j.length ≤ sizeLine then some (.val (.str (i ++ j))) else none
  | .tup xs, .tup ys, _ => if xs.length + ys.length ≤ sizeLine then some (.val (.tup (xs ++ ys))) else none
  | .ref a, .ref b, h => match h a, h b with
    | some (.lst xs), some (.lst ys) => if xs.length + ys.length ≤ sizeLine then some (.lst (xs ++ ys)) else none
    | _, _ => none
  | _, _, _ => none
theorem addF_eq : addF = orF (orF (iiF0 fun i j => .int (i + j)) (ssF fun i j => .str (i ++ j))) catF := by
  funext w u h
  cases w <;> cases u <;> first | rfl | (unfold addF orF ssF iiF0 catF; dsimp only [Option.orElse]; split <;> rfl)
theorem jadd (ha : JE X Z a ta) (hb : JE X Z b tb) : JE X Z (.BinOp a .Add b pos) (wBin addF ta tb) := by
  rw [addF_eq]
  exact jbin (OpR.or (OpR.or op_add op_add_str) (OpR.or op_catA op_cat)) (Snd2.or (Snd2.or (snd_ii0 fun _ _ _ => rfl) snd_ss) snd_catT) ha hb
theorem jsub (ha : JE X Z a ta) (hb : JE X Z b tb) : JE X Z (.BinOp a .Sub b pos) (wBin (iiF0 fun i j => .int (i - j)) ta tb) := jbin op_sub (snd_ii0 fun _ _ _ => rfl) ha hb
def mulOk (i j : Int) : Bool := (decide (-(2 ^ 64) < i) && decide (i < 2 ^ 64)) || (decide (-(2 ^ 64) < j) && decide (j < 2 ^ 64))
theorem jmul (ha : JE X Z a ta) (hb : JE X Z b tb) : JE X Z (.BinOp a .Mult b pos) (wBin (iiF mulOk fun i j => .int (i * j)) ta tb) :=
  jbin op_mul (snd_ii (fun i j h => by
    unfold mulOk at h
    simp only [Bool.or_eq_true, Bool.and_eq_true, decide_eq_true_eq] at h
    exact h) fun _ _ _ => rfl) ha hb
def divOk (i j : Int) : Bool := decide (0 < j) && decide (j < 1073741824)
theorem jfdiv (ha : JE X Z a ta) (hb : JE X Z b tb) : JE X Z (.BinOp a .FloorDiv b pos) (wBin (iiF divOk fun i j => .int (i / j)) ta tb) :=
  jbin op_fdiv (snd_ii (fun i j h => by
    unfold divOk at h
    simp only [Bool.and_eq_true, decide_eq_true_eq] at h
    exact h) fun _ _ _ => rfl) ha hb
theorem jmod (ha : JE X Z a ta) (hb : JE X Z b tb) : JE X Z (.BinOp a .Mod b pos) (wBin (iiF (fun _ j => decide (0 < j)) fun i j => .int (i % j)) ta tb) :=
  jbin op_mod (snd_ii (fun i j h => of_decide_eq_true h) fun _ _ _ => rfl) ha hb
theorem jlt0 (ha : JE X Z a ta) (hb : JE X Z b tb) : JC X Z (.Compare a [.Lt] [b] pos) (wBin (iiF0 fun i j => .bl (decide (i < j))) ta tb) := jcmp op_lt (snd_ii0 fun _ _ _ => rfl) ha hb (nomark _)
theorem jle0 (ha : JE X Z a ta) (hb : JE X Z b tb) : JC X Z (.Compare a [.LtE] [b] pos) (wBin (iiF0 fun i j => .bl (decide (i ≤ j))) ta tb) := jcmp op_le (snd_ii0 fun _ _ _ => rfl) ha hb (nomark _)
theorem jgt0 (ha : JE X Z a ta) (hb : JE X Z b tb) : JC X Z (.Compare a [.Gt] [b] pos) (wBin (iiF0 fun i j => .bl (decide (j < i))) ta tb) := jcmp op_gt (snd_ii0 fun _ _ _ => rfl) ha hb (nomark _)
theorem jge0 (ha : JE X Z a ta) (hb : JE X Z b tb) : JC X Z (.Compare a [.GtE] [b] pos) (wBin (iiF0 fun i j => .bl (decide (j ≤ i))) ta tb) := jcmp op_ge (snd_ii0 fun _ _ _ => rfl) ha hb (nomark _)
end
end Pd
set_option Elab.async false
set_option linter.all false
set_option maxRecDepth 100000
set_option maxHeartbeats 4000000
namespace Pd
open PySem PySem.Spec PyProof.Rows L2
/-! ### data -/
mutual
def pyT : Wv → Option PyData
  | .non => some .none
  | .bl b => some (.bool b)
  | .int i => some (.int i)
  | .str x => some (.str x)
  | .tup ws => (pyTs ws).map .tuple
  | .ref _ => none
  | .scr _ => none
def pyTs : List Wv → Option (List PyData)
  | [] => some []
  | w :: ws => (pyT w).bind fun d => (pyTs ws).map fun ds => d :: ds
end
mutual
/-- no object in it, texts of signs, not deeper than n -/
def okT : Nat → Wv → Bool
  | _, .non => true
  | _, .bl _ => true
  | _, .int _ => true
  | _, .str x => PyData.strOk x
  | _, .ref _ => false
  | _, .scr _ => false
  | 0, .tup _ => false
  | n + 1, .tup ws => okTs n ws
def okTs : Nat → List Wv → Bool
  | _, [] => true
  | n, w :: ws => okT n w && okTs n ws
end
mutual
def eqW : Wv → Wv → Bool
  | .non, .non => true
  | .bl a, .bl b => a == b
  | .bl a, .int j => decide ((if a then 1 else 0) = j)
  | .int i, .bl b => decide (i = (if b then 1 else 0))
  | .int i, .int j => decide (i = j)
  | .str x, .str y => decide (x = y)
  | .tup xs, .tup ys => eqWs xs ys
  | _, _ => false
def eqWs : List Wv → List Wv → Bool
  | [], [] => true
  | x :: xs, y :: ys => eqW x y && eqWs xs ys
  | _, _ => false
end
mutual
def alikeW : Wv → Wv → Bool
  | .non, .non => true
  | .bl _, .bl _ => true
  | .int _, .int _ => true
  | .str _, .str _ => true
  | .tup xs, .tup ys => alikeWs xs ys
  | _, _ => false
def alikeWs : List Wv → List Wv → Bool
  | x :: xs, y :: ys => alikeW x y && alikeWs xs ys
  | [], _ => true
  | _ :: _, [] => true
end
mutual
def ltW : Wv → Wv → Bool
  | .bl a, .bl b => decide ((if a then 1 else 0 : Int) < (if b then 1 else 0))
  | .int i, .int j => decide (i < j)
  | .str x, .str y => decide (x.cps.toList < y.cps.toList)
  | .tup xs, .tup ys => ltWs xs ys
  | _, _ => false
def ltWs : List Wv → List Wv → Bool
  | [], [] => false
  | [], _ :: _ => true
  | _ :: _, [] => false
  | x :: xs, y :: ys => if eqW x y then ltWs xs ys else ltW x y
end
mutual
theorem okT_py : ∀ (n : Nat) (w : Wv), okT n w = true → ∃ d, pyT w = some d ∧ d.canLay0 = true ∧ d.depth ≤ n
  | n, .non, _ => ⟨_, rfl, rfl, Nat.zero_le _⟩
  | n, .bl _, _ => ⟨_, rfl, rfl, Nat.zero_le _⟩
  | n, .int _, _ => ⟨_, rfl, rfl, Nat.zero_le _⟩
  | n, .str x, h => ⟨_, rfl, by simpa [PyData.canLay0, okT] using h, Nat.zero_le _⟩
  | n, .ref _, h => by simp [okT] at h
  | 0, .tup _, h => by simp [okT] at h
  | n + 1, .tup ws, h => by
    obtain ⟨ds, e, c, d⟩ := okTs_py n ws (by simpa [okT] using h)
    exact ⟨.tuple ds, by simp [pyT, e], by simpa [PyData.canLay0] using c, by simpa [PyData.depth] using d⟩
theorem okTs_py : ∀ (n : Nat) (ws : List Wv), okTs n ws = true → ∃ ds, pyTs ws = some ds ∧ PyData.canLayAll0 ds = true ∧ PyData.depthAll ds ≤ n
  | n, [], _ => ⟨[], rfl, rfl, Nat.zero_le _⟩
  | n, w :: ws, h => by
    have h : (okT n w && okTs n ws) = true := by simpa [okTs] using h
    obtain ⟨h1, h2⟩ := Bool.and_eq_true_iff.mp h
    obtain ⟨d, e, c, l⟩ := okT_py n w h1
    obtain ⟨ds, e', c', l'⟩ := okTs_py n ws h2
    exact ⟨d :: ds, by simp [pyTs, e, e'], by simp [PyData.canLayAll0, c, c'], by simp only [PyData.depthAll]; exact Nat.max_le.mpr ⟨l, l'⟩⟩
end
mutual
theorem pyT_Dp {K : PySem.W.Frag} {H : Hp} : ∀ (w : Wv) {v : V} {d : PyData}, Den K H w v → pyT w = some d → Dp K H v d
  | .non, v, d, h, e => by
    have h : v = .non := h
    simp [pyT] at e
    subst h e
    exact .non
  | .bl b, v, d, h, e => by
    have h : v = .bl b := h
    simp [pyT] at e
    subst h e
    exact .bl b
  | .int b, v, d, h, e => by
    have h : v = .int b := h
    simp [pyT] at e
    subst h e
    exact .int b
  | .str b, v, d, h, e => by
    have h : v = .str b := h
    simp [pyT] at e
    subst h e
    exact .str b
  | .ref a, v, d, h, e => by simp [pyT] at e
  | .scr a, v, d, h, e => by simp [pyT] at e
  | .tup ws, v, d, h, e => by
    obtain ⟨a, vs, e1, s, l⟩ := h
    subst e1
    cases q : pyTs ws with
    | none => simp [pyT, q] at e
    | some ds =>
      simp [pyT, q] at e
      subst e
      exact .tup (SqT.of s) (pyTs_Dp ws l q)
theorem pyTs_Dp {K : PySem.W.Frag} {H : Hp} : ∀ (ws : List Wv) {vs : List V} {ds : List PyData}, DenL K H ws vs → pyTs ws = some ds → DpAll K H vs ds
  | [], vs, ds, h, e => by
    have h : vs = [] := h
    simp [pyTs] at e
    subst h e
    exact .nil
  | w :: ws, vs, ds, h, e => by
    obtain ⟨v, vs', e1, d1, l⟩ := h
    subst e1
    cases q : pyT w with
    | none => simp [pyTs, q] at e
    | some d =>
      cases q' : pyTs ws with
      | none => simp [pyTs, q, q'] at e
      | some ds' =>
        simp [pyTs, q, q'] at e
        subst e
        exact .cons (pyT_Dp w d1 q) (pyTs_Dp ws l q')
end
theorem dec_beq {α : Type} [BEq α] [LawfulBEq α] [DecidableEq α] (a b : α) : (a == b) = decide (a = b) := by
  by_cases h : a = b
  · subst h; simp
  · simp [h]
mutual
theorem eqv_py : ∀ (w u : Wv) {d e : PyData}, pyT w = some d → pyT u = some e → PyData.eqv d e = eqW w u
  | .tup xs, .tup ys, d, e, h1, h2 => by
    cases q : pyTs xs with
    | none => simp [pyT, q] at h1
    | some ds =>
      cases q' : pyTs ys with
      | none => simp [pyT, q'] at h2
      | some es =>
        simp [pyT, q] at h1
        simp [pyT, q'] at h2
        subst h1 h2
        simp only [PyData.eqv, eqW]
        exact eqvs_py xs ys q q'
  | .tup xs, .non, d, e, h1, h2 | .tup xs, .bl _, d, e, h1, h2 | .tup xs, .int _, d, e, h1, h2 | .tup xs, .str _, d, e, h1, h2 => by
    cases q : pyTs xs with
    | none => simp [pyT, q] at h1
    | some ds =>
      simp [pyT, q] at h1
      simp [pyT] at h2
      subst h1 h2
      simp [PyData.eqv, eqW]
  | .non, .tup ys, d, e, h1, h2 | .bl _, .tup ys, d, e, h1, h2 | .int _, .tup ys, d, e, h1, h2 | .str _, .tup ys, d, e, h1, h2 => by
    cases q : pyTs ys with
    | none => simp [pyT, q] at h2
    | some ds =>
      simp [pyT, q] at h2
      simp [pyT] at h1
      subst h1 h2
      simp [PyData.eqv, eqW]
  | .ref _, _, d, e, h1, h2 | .scr _, _, d, e, h1, h2 => by simp [pyT] at h1
  | .non, .ref _, d, e, h1, h2 | .bl _, .ref _, d, e, h1, h2 | .int _, .ref _, d, e, h1, h2 | .str _, .ref _, d, e, h1, h2 | .tup _, .ref _, d, e, h1, h2 | .non, .scr _, d, e, h1, h2 | .bl _, .scr _, d, e, h1, h2 | .int _, .scr _, d, e, h1, h2 | .str _, .scr _, d, e, h1, h2 | .tup _, .scr _, d, e, h1, h2 => by simp [pyT] at h2
  | .non, .non, d, e, h1, h2 | .non, .bl _, d, e, h1, h2 | .non, .int _, d, e, h1, h2 | .non, .str _, d, e, h1, h2
  | .bl _, .non, d, e, h1, h2 | .bl _, .bl _, d, e, h1, h2 | .bl _, .int _, d, e, h1, h2 | .bl _, .str _, d, e, h1, h2
  | .int _, .non, d, e, h1, h2 | .int _, .bl _, d, e, h1, h2 | .int _, .int _, d, e, h1, h2 | .int _, .str _, d, e, h1, h2
  | .str _, .non, d, e, h1, h2 | .str _, .bl _, d, e, h1, h2 | .str _, .int _, d, e, h1, h2 | .str _, .str _, d, e, h1, h2 => by
    simp only [pyT, Option.some.injEq] at h1 h2
    subst h1 h2
    simp only [PyData.eqv, eqW, dec_beq]
theorem eqvs_py : ∀ (ws us : List Wv) {ds es : List PyData}, pyTs ws = some ds → pyTs us = some es → PyData.eqvAll ds es = eqWs ws us
  | [], [], d, e, h1, h2 => by
    simp [pyTs] at h1 h2
    subst h1 h2
    simp [PyData.eqvAll, eqWs]
  | [], u :: us, d, e, h1, h2 => by
    simp [pyTs] at h1
    cases q : pyT u with
    | none => simp [pyTs, q] at h2
    | some d =>
      cases q' : pyTs us with
      | none => simp [pyTs, q, q'] at h2
      | some ds' =>
        simp [pyTs, q, q'] at h2
        subst h1 h2
        simp [PyData.eqvAll, eqWs]
  | w :: ws, [], d, e, h1, h2 => by
    simp [pyTs] at h2
    cases q : pyT w with
    | none => simp [pyTs, q] at h1
    | some d =>
      cases q' : pyTs ws with
      | none => simp [pyTs, q, q'] at h1
      | some ds' =>
        simp [pyTs, q, q'] at h1
        subst h1 h2
        simp [PyData.eqvAll, eqWs]
  | w :: ws, u :: us, d, e, h1, h2 => by
    cases q : pyT w with
    | none => simp [pyTs, q] at h1
    | some d1 =>
      cases q' : pyTs ws with
      | none => simp [pyTs, q, q'] at h1
      | some ds1 =>
        cases p : pyT u with
        | none => simp [pyTs, p] at h2
        | some d2 =>
          cases p' : pyTs us with
          | none => simp [pyTs, p, p'] at h2
          | some ds2 =>
            simp [pyTs, q, q'] at h1
            simp [pyTs, p, p'] at h2
            subst h1 h2
            simp only [PyData.eqvAll, eqWs]
            rw [eqv_py w u q p, eqvs_py ws us q' p']
end
mutual
theorem alike_py : ∀ (w u : Wv) {d e : PyData}, pyT w = some d → pyT u = some e → alikeW w u = true → PySem.W.alike d e = true
  | .non, .non, d, e, h1, h2, _ | .bl _, .bl _, d, e, h1, h2, _ | .int _, .int _, d, e, h1, h2, _ | .str _, .str _, d, e, h1, h2, _ => by
    simp only [pyT, Option.some.injEq] at h1 h2
    subst h1 h2
    simp [PySem.W.alike]
  | .tup xs, .tup ys, d, e, h1, h2, h => by
    cases q : pyTs xs with
    | none => simp [pyT, q] at h1
    | some ds =>
      cases q' : pyTs ys with
      | none => simp [pyT, q'] at h2
      | some es =>
        simp [pyT, q] at h1
        simp [pyT, q'] at h2
        subst h1 h2
        simp only [PySem.W.alike]
        exact alikes_py xs ys q q' (by simpa [alikeW] using h)
  | .non, .bl _, d, e, h1, h2, h | .non, .int _, d, e, h1, h2, h | .non, .str _, d, e, h1, h2, h | .non, .tup _, d, e, h1, h2, h | .non, .ref _, d, e, h1, h2, h | .non, .scr _, d, e, h1, h2, h
  | .bl _, .non, d, e, h1, h2, h | .bl _, .int _, d, e, h1, h2, h | .bl _, .str _, d, e, h1, h2, h | .bl _, .tup _, d, e, h1, h2, h | .bl _, .ref _, d, e, h1, h2, h | .bl _, .scr _, d, e, h1, h2, h
  | .int _, .non, d, e, h1, h2, h | .int _, .bl _, d, e, h1, h2, h | .int _, .str _, d, e, h1, h2, h | .int _, .tup _, d, e, h1, h2, h | .int _, .ref _, d, e, h1, h2, h | .int _, .scr _, d, e, h1, h2, h
  | .str _, .non, d, e, h1, h2, h | .str _, .bl _, d, e, h1, h2, h | .str _, .int _, d, e, h1, h2, h | .str _, .tup _, d, e, h1, h2, h | .str _, .ref _, d, e, h1, h2, h | .str _, .scr _, d, e, h1, h2, h
  | .tup _, .non, d, e, h1, h2, h | .tup _, .bl _, d, e, h1, h2, h | .tup _, .int _, d, e, h1, h2, h | .tup _, .str _, d, e, h1, h2, h | .tup _, .ref _, d, e, h1, h2, h | .tup _, .scr _, d, e, h1, h2, h
  | .ref _, _, d, e, h1, h2, h | .scr _, _, d, e, h1, h2, h => by simp [alikeW] at h
theorem alikes_py : ∀ (ws us : List Wv) {ds es : List PyData}, pyTs ws = some ds → pyTs us = some es → alikeWs ws us = true → PySem.W.alikeAll ds es = true
  | [], us, d, e, h1, h2, _ => by
    simp [pyTs] at h1
    subst h1
    simp [PySem.W.alikeAll]
  | w :: ws, [], d, e, h1, h2, _ => by
    simp [pyTs] at h2
    subst h2
    cases d <;> simp [PySem.W.alikeAll]
  | w :: ws, u :: us, d, e, h1, h2, h => by
    cases q : pyT w with
    | none => simp [pyTs, q] at h1
    | some d1 =>
      cases q' : pyTs ws with
      | none => simp [pyTs, q, q'] at h1
      | some ds1 =>
        cases p : pyT u with
        | none => simp [pyTs, p] at h2
        | some d2 =>
          cases p' : pyTs us with
          | none => simp [pyTs, p, p'] at h2
          | some ds2 =>
            simp [pyTs, q, q'] at h1
            simp [pyTs, p, p'] at h2
            subst h1 h2
            have h : (alikeW w u && alikeWs ws us) = true := by simpa [alikeWs] using h
            obtain ⟨a1, a2⟩ := Bool.and_eq_true_iff.mp h
            simp only [PySem.W.alikeAll, alike_py w u q p a1, alikes_py ws us q' p' a2, Bool.and_self]
end
mutual
theorem lt_py : ∀ (w u : Wv) {d e : PyData}, pyT w = some d → pyT u = some e → alikeW w u = true → w ≠ .non → PySem.W.dataLt d e = ltW w u
  | .non, _, d, e, h1, h2, _, hn => absurd rfl hn
  | .bl _, .bl _, d, e, h1, h2, _, _ => by
    simp only [pyT, Option.some.injEq] at h1 h2
    subst h1 h2
    rw [PySem.W.dataLt_bool]
    simp only [ltW]
    rename_i a b _
    cases a <;> cases b <;> rfl
  | .int _, .int _, d, e, h1, h2, _, _ => by
    simp only [pyT, Option.some.injEq] at h1 h2
    subst h1 h2
    rw [PySem.W.dataLt_int, ltW]
  | .str _, .str _, d, e, h1, h2, _, _ => by
    simp only [pyT, Option.some.injEq] at h1 h2
    subst h1 h2
    rw [PySem.W.dataLt_str, ltW]
  | .tup xs, .tup ys, d, e, h1, h2, h, _ => by
    cases q : pyTs xs with
    | none => simp [pyT, q] at h1
    | some ds =>
      cases q' : pyTs ys with
      | none => simp [pyT, q'] at h2
      | some es =>
        simp [pyT, q] at h1
        simp [pyT, q'] at h2
        subst h1 h2
        rw [PySem.W.dataLt_tuple, ltW]
        exact lts_py xs ys q q' (by simpa [alikeW] using h)
  | .bl _, .non, d, e, h1, h2, h, _ | .bl _, .int _, d, e, h1, h2, h, _ | .bl _, .str _, d, e, h1, h2, h, _ | .bl _, .tup _, d, e, h1, h2, h, _ | .bl _, .ref _, d, e, h1, h2, h, _ | .bl _, .scr _, d, e, h1, h2, h, _
  | .int _, .non, d, e, h1, h2, h, _ | .int _, .bl _, d, e, h1, h2, h, _ | .int _, .str _, d, e, h1, h2, h, _ | .int _, .tup _, d, e, h1, h2, h, _ | .int _, .ref _, d, e, h1, h2, h, _ | .int _, .scr _, d, e, h1, h2, h, _
  | .str _, .non, d, e, h1, h2, h, _ | .str _, .bl _, d, e, h1, h2, h, _ | .str _, .int _, d, e, h1, h2, h, _ | .str _, .tup _, d, e, h1, h2, h, _ | .str _, .ref _, d, e, h1, h2, h, _ | .str _, .scr _, d, e, h1, h2, h, _
  | .tup _, .non, d, e, h1, h2, h, _ | .tup _, .bl _, d, e, h1, h2, h, _ | .tup _, .int _, d, e, h1, h2, h, _ | .tup _, .str _, d, e, h1, h2, h, _ | .tup _, .ref _, d, e, h1, h2, h, _ | .tup _, .scr _, d, e, h1, h2, h, _
  | .ref _, _, d, e, h1, h2, h, _ | .scr _, _, d, e, h1, h2, h, _ => by simp [alikeW] at h
theorem lts_py : ∀ (ws us : List Wv) {ds es : List PyData}, pyTs ws = some ds → pyTs us = some es → alikeWs ws us = true → PyProof.Rows.lexLt itemOrd (PySem.W.keyToksAll ds) (PySem.W.keyToksAll es) = ltWs ws us
  | [], [], d, e, h1, h2, _ => by
    simp [pyTs] at h1 h2
    subst h1 h2
    rw [ltWs]
    decide +kernel
  | [], u :: us, d, e, h1, h2, _ => by
    simp [pyTs] at h1
    cases p : pyT u with
    | none => simp [pyTs, p] at h2
    | some d2 =>
      cases p' : pyTs us with
      | none => simp [pyTs, p, p'] at h2
      | some ds2 =>
        simp [pyTs, p, p'] at h2
        subst h1 h2
        rw [PySem.W.toks_all_cons, ltWs]
        exact (PySem.W.lex_atom (p := Sum.inl 0) (q := Sum.inl 1) (by decide) [] _).trans (by decide +kernel)
  | w :: ws, [], d, e, h1, h2, _ => by
    simp [pyTs] at h2
    cases q : pyT w with
    | none => simp [pyTs, q] at h1
    | some d1 =>
      cases q' : pyTs ws with
      | none => simp [pyTs, q, q'] at h1
      | some ds1 =>
        simp [pyTs, q, q'] at h1
        subst h1 h2
        rw [PySem.W.toks_all_cons, ltWs]
        exact (PySem.W.lex_atom (p := Sum.inl 1) (q := Sum.inl 0) (by decide) _ []).trans (by decide +kernel)
  | w :: ws, u :: us, d, e, h1, h2, h => by
    cases q : pyT w with
    | none => simp [pyTs, q] at h1
    | some d1 =>
      cases q' : pyTs ws with
      | none => simp [pyTs, q, q'] at h1
      | some ds1 =>
        cases p : pyT u with
        | none => simp [pyTs, p] at h2
        | some d2 =>
          cases p' : pyTs us with
          | none => simp [pyTs, p, p'] at h2
          | some ds2 =>
            simp [pyTs, q, q'] at h1
            simp [pyTs, p, p'] at h2
            subst h1 h2
            have h : (alikeW w u && alikeWs ws us) = true := by simpa [alikeWs] using h
            obtain ⟨a1, a2⟩ := Bool.and_eq_true_iff.mp h
            have al := alike_py w u q p a1
            have ev := eqv_py w u q p
            rw [ltWs]
            cases ee : eqW w u with
            | true =>
              rw [ee] at ev
              rw [PySem.W.dataLt_all_yes al ev, if_pos rfl]
              exact lts_py ws us q' p' a2
            | false =>
              rw [ee] at ev
              rw [PySem.W.dataLt_all_no al ev, if_neg Bool.false_ne_true]
              refine lt_py w u q p a1 ?_
              rintro rfl
              simp [pyT] at q
              subst q
              cases u <;> simp [alikeW] at a1
              simp [eqW] at ee
end
end Pd
set_option Elab.async false
set_option linter.all false
set_option maxRecDepth 100000
set_option maxHeartbeats 4000000
namespace Pd
open PySem PySem.Spec PyProof.Rows L2
section
variable {X : Cx} {Z : L2.WX} {a b c e : Expr} {ta tb tc te : TWE} {pos : Pos}
/-! ### == on data, lists of data -/
/-- the lists that stand at an address, told as data -/
def okO (h : WH) : Wv → Bool
  | .ref a => match h a with
    | some (.lst ws) => okTs 60 ws
    | _ => false
  | w => okT 60 w
def eqO (h : WH) : Wv → Wv → Bool
  | .ref a, .ref b => match h a, h b with
    | some (.lst xs), some (.lst ys) => eqWs xs ys
    | _, _ => false
  | .ref _, _ => false
  | _, .ref _ => false
  | w, u => eqW w u
/-- a list of flat lists beside an empty one -/
def okR (h : WH) : Wv → Bool
  | .ref c => match h c with
    | some (.lst us) => okTs 60 us
    | _ => false
  | _ => false
def eqLB (h : WH) : Wv → Wv → Option Bool
  | .ref a, .ref b => match h a, h b with
    | some (.lst ws), some (.lst us) => if us.isEmpty && ws.all (okR h) then some ws.isEmpty else none
    | _, _ => none
  | _, _ => none
def eqF : F2 := fun w u h => if okO h w && okO h u then some (.val (.bl (eqO h w u))) else (eqLB h w u).map fun b => .val (.bl b)
def neF : F2 := fun w u h => if okO h w && okO h u then some (.val (.bl (!eqO h w u))) else (eqLB h w u).map fun b => .val (.bl (!b))
theorem rows_dp {K : PySem.W.Frag} {H : Hp} {h : WH} (rh : RelH K h H) : ∀ (ws : List Wv) {vs : List V}, DenL K H ws vs → ws.all (okR h) = true → ∃ ds, DpAll K H vs ds ∧ PyData.canLayAll0 ds = true ∧ PyData.depthAll ds ≤ 61 ∧ ds.isEmpty = ws.isEmpty
  | [], vs, l, _ => by
    have l : vs = [] := l
    subst l
    exact ⟨[], .nil, rfl, Nat.zero_le _, rfl⟩
  | w :: ws, vs, l, o => by
    obtain ⟨v, vs', rfl, d, r⟩ := l
    rw [List.all_cons] at o
    obtain ⟨o1, o2⟩ := Bool.and_eq_true_iff.mp o
    obtain ⟨ds, h1, h2, h3, _⟩ := rows_dp rh ws r o2
    cases w with
    | ref a =>
      have d : v = .ref a := d
      subst d
      have o1 : (match h a with
        | some (.lst us) => okTs 60 us
        | _ => false) = true := o1
      split at o1
      · rename_i us e
        obtain ⟨xs, e2, l⟩ := rh.lst e
        obtain ⟨es, e3, c, dd⟩ := okTs_py 60 us o1
        refine ⟨.list es :: ds, .cons (.lst (SqL.of e2) (pyTs_Dp us l e3)) h1, ?_, ?_, rfl⟩
        · show (PyData.canLayAll0 es && PyData.canLayAll0 ds) = true
          rw [c, h2]
          rfl
        · show max (PyData.depthAll es + 1) (PyData.depthAll ds) ≤ 61
          omega
      · cases o1
    | _ => cases o1
theorem eqLB_dp {K : PySem.W.Frag} {H : Hp} {h : WH} (rh : RelH K h H) {w u : Wv} {v x : V} {b : Bool} (d1 : Den K H w v) (d2 : Den K H u x) (e : eqLB h w u = some b) : ∃ d e, Dp K H v d ∧ Dp K H x e ∧ SeqAt.shaped d = true ∧ SeqAt.shaped e = true ∧ PyData.eqv d e = b := by
  unfold eqLB at e
  split at e
  · rename_i a c
    have d1 : v = .ref a := d1
    have d2 : x = .ref c := d2
    subst d1 d2
    split at e
    · rename_i ws us ha hc
      split at e
      · rename_i ck
        cases e
        obtain ⟨c1, c2⟩ := Bool.and_eq_true_iff.mp ck
        obtain rfl : us = [] := by simpa using c1
        obtain ⟨xs, a1, l1⟩ := rh.lst ha
        obtain ⟨ys, a2, l2⟩ := rh.lst hc
        have l2 : ys = [] := l2
        subst l2
        obtain ⟨ds, h1, h2, h3, h4⟩ := rows_dp rh ws l1 c2
        refine ⟨.list ds, .list [], .lst (SqL.of a1) h1, .lst (SqL.of a2) .nil, ?_, rfl, ?_⟩
        · unfold SeqAt.shaped
          rw [decide_eq_true (by show PyData.depthAll ds + 1 ≤ 64; omega)]
          simpa [PyData.canLay0] using h2
        · rw [← h4]
          cases ds <;> rfl
      · cases e
    · cases e
  · cases e
theorem okO_dp {K : PySem.W.Frag} {H : Hp} {h : WH} (rh : RelH K h H) : ∀ {w : Wv} {v : V}, Den K H w v → okO h w = true → ∃ d, Dp K H v d ∧ SeqAt.shaped d = true ∧ ((∃ a ws ds, w = .ref a ∧ h a = some (.lst ws) ∧ pyTs ws = some ds ∧ d = .list ds) ∨ ((∀ a, w ≠ .ref a) ∧ pyT w = some d)) := by
  intro w v d o
  have data : (∀ a, w ≠ .ref a) → okT 60 w = true → ∃ d, Dp K H v d ∧ SeqAt.shaped d = true ∧ ((∃ a ws ds, w = .ref a ∧ h a = some (.lst ws) ∧ pyTs ws = some ds ∧ d = .list ds) ∨ ((∀ a, w ≠ .ref a) ∧ pyT w = some d)) := fun nr o => by
    obtain ⟨d', e, c, l⟩ := okT_py 60 w o
    exact ⟨d', pyT_Dp w d e, by unfold SeqAt.shaped; rw [c, decide_eq_true (Nat.le_trans l (by decide))]; rfl, .inr ⟨nr, e⟩⟩
  cases w with
  | ref a =>
    have d : v = .ref a := d
    subst d
    have o : (match h a with
      | some (.lst ws) => okTs 60 ws
      | _ => false) = true := o
    split at o
    · rename_i ws e
      obtain ⟨vs, e2, l⟩ := rh.lst e
      obtain ⟨ds, e3, c, dd⟩ := okTs_py 60 ws o
      refine ⟨.list ds, .lst (SqL.of e2) (pyTs_Dp ws l e3), ?_, .inl ⟨a, ws, ds, rfl, e, e3, rfl⟩⟩
      unfold SeqAt.shaped
      rw [decide_eq_true (by show PyData.depthAll ds + 1 ≤ 64; omega)]
      simpa [PyData.canLay0] using c
    · cases o
  | non => exact data (fun _ z => nomatch z) o
  | bl _ => exact data (fun _ z => nomatch z) o
  | int _ => exact data (fun _ z => nomatch z) o
  | str _ => exact data (fun _ z => nomatch z) o
  | tup _ => exact data (fun _ z => nomatch z) o
  | scr _ => exact data (fun _ z => nomatch z) o
theorem eqO_eqv {h : WH} {w u : Wv} {d e : PyData} (h1 : (∃ a ws ds, w = .ref a ∧ h a = some (.lst ws) ∧ pyTs ws = some ds ∧ d = .list ds) ∨ ((∀ a, w ≠ .ref a) ∧ pyT w = some d))
    (h2 : (∃ a ws ds, u = .ref a ∧ h a = some (.lst ws) ∧ pyTs ws = some ds ∧ e = .list ds) ∨ ((∀ a, u ≠ .ref a) ∧ pyT u = some e)) : PyData.eqv d e = eqO h w u := by
  have nol : ∀ {w : Wv} {d : PyData}, pyT w = some d → ∀ ds, d ≠ .list ds := fun {w d} q ds z => by
    subst z
    cases w <;> simp [pyT] at q
  rcases h1 with ⟨a, ws, ds, rfl, e1, p1, rfl⟩ | ⟨n1, p1⟩
  · rcases h2 with ⟨b, us, es, rfl, e2, p2, rfl⟩ | ⟨n2, p2⟩
    · simp only [PyData.eqv, eqO, e1, e2]
      exact eqvs_py ws us p1 p2
    · have : eqO h (.ref a) u = false := by cases u <;> first | rfl | exact absurd rfl (n2 _)
      rw [this]
      have := nol p2
      cases e <;> first | rfl | (simp [PyData.eqv]; done) | exact absurd rfl (this _)
  · rcases h2 with ⟨b, us, es, rfl, e2, p2, rfl⟩ | ⟨n2, p2⟩
    · have : eqO h w (.ref b) = false := by cases w <;> first | rfl | exact absurd rfl (n1 _)
      rw [this]
      have := nol p1
      cases d <;> first | rfl | (simp [PyData.eqv]; done) | exact absurd rfl (this _)
    · have : eqO h w u = eqW w u := by
        cases w <;> first | exact absurd rfl (n1 _) | (cases u <;> first | rfl | exact absurd rfl (n2 _))
      rw [this]
      exact eqv_py w u p1 p2
theorem snd_eq {K : PySem.W.Frag} : Snd2 K (rEqD K) eqF := fun H h w1 w2 v1 v2 Q rh d1 d2 q => by
  have q : outR (if okO h w1 && okO h w2 then some (.val (.bl (eqO h w1 w2))) else (eqLB h w1 w2).map fun b => .val (.bl b)) h (okQ K H Q) := q
  split at q
  · rename_i c
    obtain ⟨c1, c2⟩ := Bool.and_eq_true_iff.mp c
    obtain ⟨d, x1, s1, z1⟩ := okO_dp rh d1 c1
    obtain ⟨e, x2, s2, z2⟩ := okO_dp rh d2 c2
    refine ⟨d, e, x1, x2, s1, s2, ?_⟩
    rw [eqO_eqv z1 z2]
    exact q _ H (Grow.refl _ _) rh rfl
  · cases eb : eqLB h w1 w2 with
    | none => rw [eb] at q; exact q.elim
    | some b =>
      rw [eb] at q
      obtain ⟨d, e, x1, x2, s1, s2, z⟩ := eqLB_dp rh d1 d2 eb
      refine ⟨d, e, x1, x2, s1, s2, ?_⟩
      rw [z]
      exact q _ H (Grow.refl _ _) rh rfl
theorem snd_ne {K : PySem.W.Frag} : Snd2 K (rNeD K) neF := fun H h w1 w2 v1 v2 Q rh d1 d2 q => by
  have q : outR (if okO h w1 && okO h w2 then some (.val (.bl (!eqO h w1 w2))) else (eqLB h w1 w2).map fun b => .val (.bl (!b))) h (okQ K H Q) := q
  split at q
  · rename_i c
    obtain ⟨c1, c2⟩ := Bool.and_eq_true_iff.mp c
    obtain ⟨d, x1, s1, z1⟩ := okO_dp rh d1 c1
    obtain ⟨e, x2, s2, z2⟩ := okO_dp rh d2 c2
    refine ⟨d, e, x1, x2, s1, s2, ?_⟩
    rw [eqO_eqv z1 z2]
    exact q _ H (Grow.refl _ _) rh rfl
  · cases eb : eqLB h w1 w2 with
    | none => rw [eb] at q; exact q.elim
    | some b =>
      rw [eb] at q
      obtain ⟨d, e, x1, x2, s1, s2, z⟩ := eqLB_dp rh d1 d2 eb
      refine ⟨d, e, x1, x2, s1, s2, ?_⟩
      rw [z]
      exact q _ H (Grow.refl _ _) rh rfl
theorem jeq (hu : X.A.units + 64 < cLine) (ha : JE X Z a ta) (hb : JE X Z b tb) : JC X Z (.Compare a [.Eq] [b] pos) (wBin eqF ta tb) := jcmp (op_eqD hu) snd_eq ha hb (nomark _)
theorem jne (hu : X.A.units + 64 < cLine) (ha : JE X Z a ta) (hb : JE X Z b tb) : JC X Z (.Compare a [.NotEq] [b] pos) (wBin neF ta tb) := jcmp (op_neD hu) snd_ne ha hb (nomark _)

/-! ### order on data -/
def nnW : Wv → Bool
  | .non => false
  | _ => true
def cmpOk (w u : Wv) : Bool := okT 60 w && okT 60 u && alikeW w u && nnW w
def dF (f : Wv → Wv → Bool) : F2 := fun w u _ => if cmpOk w u then some (.val (.bl (f w u))) else none
/-- data compared by an operator -/
def rDat (K : PySem.W.Frag) (f : PyData → PyData → Bool) : R2 := fun x y H Q => ∃ d e, Dp K H x d ∧ Dp K H y e ∧ PySem.W.alike d e = true ∧ d ≠ .none ∧ d.depth ≤ 60 ∧ Q (.bl (f d e)) H
theorem alike_sym {w u : Wv} {d e : PyData} (h1 : pyT w = some d) (h2 : pyT u = some e) (n : nnW w = true) : d ≠ .none := by
  rintro rfl
  cases w <;> simp [pyT] at h1
  simp [nnW] at n
theorem snd_dat {K : PySem.W.Frag} {f : PyData → PyData → Bool} {g : Wv → Wv → Bool} (hfg : ∀ w u d e, pyT w = some d → pyT u = some e → alikeW w u = true → w ≠ .non → f d e = g w u) : Snd2 K (rDat K f) (dF g) := fun H h w1 w2 v1 v2 Q rh d1 d2 q => by
  have q : outR (if cmpOk w1 w2 then some (.val (.bl (g w1 w2))) else none) h (okQ K H Q) := q
  split at q
  · rename_i c
    unfold cmpOk at c
    obtain ⟨c, c4⟩ := Bool.and_eq_true_iff.mp c
    obtain ⟨c, c3⟩ := Bool.and_eq_true_iff.mp c
    obtain ⟨c1, c2⟩ := Bool.and_eq_true_iff.mp c
    obtain ⟨d, e1, k1, l1⟩ := okT_py 60 w1 c1
    obtain ⟨e, e2, k2, l2⟩ := okT_py 60 w2 c2
    refine ⟨d, e, pyT_Dp w1 d1 e1, pyT_Dp w2 d2 e2, alike_py w1 w2 e1 e2 c3, alike_sym e1 e2 c4, l1, ?_⟩
    rw [hfg w1 w2 d e e1 e2 c3 (by rintro rfl; simp [nnW] at c4)]
    exact q _ H (Grow.refl _ _) rh rfl
  · exact q.elim
theorem min_room {A : Around} {d e : PyData} (hu : A.units + 64 < cLine) (l : d.depth ≤ 60) : A.units + min d.depth e.depth < cLine := by
  have := Nat.min_le_left d.depth e.depth
  omega
theorem op_ltD (hu : X.A.units + 64 < cLine) : OpR X (compareOp .Lt) (rDat X.K PySem.W.dataLt) := by
  intro pins s σ H x y v u Q I rx ry h
  obtain ⟨d, e, hd, he, al, nn, l, q⟩ := h
  obtain ⟨as, r1⟩ := Dp.reads I d x v hd rx
  obtain ⟨bs, r2⟩ := Dp.reads I e y u he ry
  exact PySem.W.lt_data r1 r2 al nn (min_room hu l) ⟨.bl _, H, I, rfl, q⟩
theorem op_leD (hu : X.A.units + 64 < cLine) : OpR X (compareOp .LtE) (rDat X.K fun d e => !PySem.W.dataLt e d) := by
  intro pins s σ H x y v u Q I rx ry h
  obtain ⟨d, e, hd, he, al, nn, l, q⟩ := h
  obtain ⟨as, r1⟩ := Dp.reads I d x v hd rx
  obtain ⟨bs, r2⟩ := Dp.reads I e y u he ry
  exact PySem.W.le_data r1 r2 al nn (min_room hu l) ⟨.bl _, H, I, rfl, q⟩
theorem op_gtD (hu : X.A.units + 64 < cLine) : OpR X (compareOp .Gt) (rDat X.K fun d e => PySem.W.dataLt e d) := by
  intro pins s σ H x y v u Q I rx ry h
  obtain ⟨d, e, hd, he, al, nn, l, q⟩ := h
  obtain ⟨as, r1⟩ := Dp.reads I d x v hd rx
  obtain ⟨bs, r2⟩ := Dp.reads I e y u he ry
  exact PySem.W.gt_data r1 r2 al nn (min_room hu l) ⟨.bl _, H, I, rfl, q⟩
theorem op_geD (hu : X.A.units + 64 < cLine) : OpR X (compareOp .GtE) (rDat X.K fun d e => !PySem.W.dataLt d e) := by
  intro pins s σ H x y v u Q I rx ry h
  obtain ⟨d, e, hd, he, al, nn, l, q⟩ := h
  obtain ⟨as, r1⟩ := Dp.reads I d x v hd rx
  obtain ⟨bs, r2⟩ := Dp.reads I e y u he ry
  exact PySem.W.ge_data r1 r2 al nn (min_room hu l) ⟨.bl _, H, I, rfl, q⟩
mutual
theorem alikeW_sym : ∀ (w u : Wv), alikeW w u = true → alikeW u w = true
  | .non, u, h => by cases u <;> simp_all [alikeW]
  | .bl _, u, h => by cases u <;> simp_all [alikeW]
  | .int _, u, h => by cases u <;> simp_all [alikeW]
  | .str _, u, h => by cases u <;> simp_all [alikeW]
  | .ref _, u, h | .scr _, u, h => by cases u <;> simp_all [alikeW]
  | .tup xs, u, h => by
    cases u <;> simp [alikeW] at h ⊢
    exact alikeWs_sym _ _ h
theorem alikeWs_sym : ∀ (ws us : List Wv), alikeWs ws us = true → alikeWs us ws = true
  | [], us, h => by cases us <;> simp [alikeWs]
  | w :: ws, [], h => by simp [alikeWs]
  | w :: ws, u :: us, h => by
    simp [alikeWs] at h ⊢
    exact ⟨alikeW_sym _ _ h.1, alikeWs_sym _ _ h.2⟩
end
theorem alike_non {w u : Wv} (h : alikeW w u = true) (n : w ≠ .non) : u ≠ .non := by
  rintro rfl
  cases w <;> simp [alikeW] at h
  exact n rfl
def ltF : F2 := dF ltW
def leF : F2 := dF fun w u => !ltW u w
def gtF : F2 := dF fun w u => ltW u w
def geF : F2 := dF fun w u => !ltW w u
theorem jlt (hu : X.A.units + 64 < cLine) (ha : JE X Z a ta) (hb : JE X Z b tb) : JC X Z (.Compare a [.Lt] [b] pos) (wBin ltF ta tb) := jcmp (op_ltD hu) (snd_dat fun w u d e p q r n => lt_py w u p q r n) ha hb (nomark _)
theorem jle (hu : X.A.units + 64 < cLine) (ha : JE X Z a ta) (hb : JE X Z b tb) : JC X Z (.Compare a [.LtE] [b] pos) (wBin leF ta tb) := jcmp (op_leD hu) (snd_dat fun w u d e p q r n => by rw [lt_py u w q p (alikeW_sym _ _ r) (alike_non r n)]) ha hb (nomark _)
theorem jgt (hu : X.A.units + 64 < cLine) (ha : JE X Z a ta) (hb : JE X Z b tb) : JC X Z (.Compare a [.Gt] [b] pos) (wBin gtF ta tb) := jcmp (op_gtD hu) (snd_dat fun w u d e p q r n => lt_py u w q p (alikeW_sym _ _ r) (alike_non r n)) ha hb (nomark _)
theorem jge (hu : X.A.units + 64 < cLine) (ha : JE X Z a ta) (hb : JE X Z b tb) : JC X Z (.Compare a [.GtE] [b] pos) (wBin geF ta tb) := jcmp (op_geD hu) (snd_dat fun w u d e p q r n => by rw [lt_py w u p q r n]) ha hb (nomark _)

/-! ### in, not in: lists and tuples of data; dicts -/
def memW (w : Wv) (ws : List Wv) : Bool := ws.any fun y => eqW y w
/-- the items of a list or a tuple -/
def itemsO (h : WH) : Wv → Option (List Wv)
  | .tup ws => some ws
  | .ref a => match h a with
    | some (.lst ws) => some ws
    | _ => none
  | _ => none
def inF (neg : Bool) : F2 := fun w u h => match itemsO h u with
  | some ws => if okT 60 w && okTs 60 ws then some (.val (.bl (if neg then !memW w ws else memW w ws))) else none
  | none => none
def rInD (K : PySem.W.Frag) (neg : Bool) : R2 := fun x y H Q => ∃ d e xs, Dp K H x d ∧ Dp K H y e ∧ (e = .list xs ∨ e = .tuple xs) ∧ PyData.canLayAll0 xs = true ∧ d.canLay0 = true ∧ d.depth ≤ 60 ∧ Q (.bl (if neg then !(xs.any fun z => PyData.eqv z d) else xs.any fun z => PyData.eqv z d)) H
theorem in_room {A : Around} {d : PyData} {n : Nat} (hu : A.units + 64 < cLine) (l : d.depth ≤ 60) : A.units + 1 + min n d.depth < cLine := by
  have := Nat.min_le_right n d.depth
  omega
theorem op_inD0 (hu : X.A.units + 64 < cLine) : OpR X (compareOp .In) (rInD X.K false) := by
  intro pins s σ H x y v u Q I rx ry h
  obtain ⟨d, e, xs, hd, he, ee, c, c', l, q⟩ := h
  obtain ⟨as, r1⟩ := Dp.reads I d x v hd rx
  obtain ⟨bs, r2⟩ := Dp.reads I e y u he ry
  rcases ee with rfl | rfl
  · exact SeqAt.in_list_reads r2 r1 c c' (in_room hu l) ⟨.bl _, H, I, rfl, q⟩
  · exact SeqAt.in_tuple_reads r2 r1 c c' (in_room hu l) ⟨.bl _, H, I, rfl, q⟩
theorem op_ninD0 (hu : X.A.units + 64 < cLine) : OpR X (compareOp .NotIn) (rInD X.K true) := by
  intro pins s σ H x y v u Q I rx ry h
  obtain ⟨d, e, xs, hd, he, ee, c, c', l, q⟩ := h
  obtain ⟨as, r1⟩ := Dp.reads I d x v hd rx
  obtain ⟨bs, r2⟩ := Dp.reads I e y u he ry
  rcases ee with rfl | rfl
  · exact SeqAt.notIn_list_reads r2 r1 c c' (in_room hu l) ⟨.bl _, H, I, rfl, q⟩
  · exact SeqAt.notIn_tuple_reads r2 r1 c c' (in_room hu l) ⟨.bl _, H, I, rfl, q⟩
theorem any_py (w : Wv) (d : PyData) (hw : pyT w = some d) : ∀ (ws : List Wv) (ds : List PyData), pyTs ws = some ds → (ds.any fun z => PyData.eqv z d) = memW w ws
  | [], ds, h => by
    simp [pyTs] at h
    subst h
    rfl
  | u :: us, ds, h => by
    cases p : pyT u with
    | none => simp [pyTs, p] at h
    | some d2 =>
      cases p' : pyTs us with
      | none => simp [pyTs, p, p'] at h
      | some ds2 =>
        simp [pyTs, p, p'] at h
        subst h
        have := any_py w d hw us ds2 p'
        unfold memW at this ⊢
        rw [List.any_cons, List.any_cons, this, eqv_py u w p hw]
theorem snd_in {K : PySem.W.Frag} {neg : Bool} : Snd2 K (rInD K neg) (inF neg) := fun H h w1 w2 v1 v2 Q rh d1 d2 q => by
  have q : outR (match itemsO h w2 with
    | some ws => if okT 60 w1 && okTs 60 ws then some (.val (.bl (if neg then !memW w1 ws else memW w1 ws))) else none
    | none => none) h (okQ K H Q) := q
  split at q
  · rename_i ws e
    split at q
    · rename_i c
      obtain ⟨c1, c2⟩ := Bool.and_eq_true_iff.mp c
      obtain ⟨d, e1, k1, l1⟩ := okT_py 60 w1 c1
      obtain ⟨ds, e2, k2, l2⟩ := okTs_py 60 ws c2
      have key : ∃ e, Dp K H v2 e ∧ (e = .list ds ∨ e = .tuple ds) := by
        cases w2 <;> simp [itemsO] at e
        · obtain ⟨p, vs, rfl, s, l⟩ := d2
          subst e
          exact ⟨_, .tup (SqT.of s) (pyTs_Dp _ l e2), .inr rfl⟩
        · rename_i p
          have d2 : v2 = .ref p := d2
          subst d2
          split at e
          · rename_i ws' e'
            simp at e
            subst e
            obtain ⟨vs, e3, l⟩ := rh.lst e'
            exact ⟨_, .lst (SqL.of e3) (pyTs_Dp _ l e2), .inl rfl⟩
          · cases e
      obtain ⟨e, x, ee⟩ := key
      refine ⟨d, e, ds, pyT_Dp w1 d1 e1, x, ee, k2, k1, l1, ?_⟩
      rw [any_py w1 d e1 ws ds e2]
      exact q _ H (Grow.refl _ _) rh rfl
    · exact q.elim
  · exact q.elim
/-- a dict's keys -/
def keyK : Wv → Option Key
  | .int i => some (.inl i)
  | .str x => some (.inr x)
  | _ => none
def keysT : List Wv → Option (List Key)
  | [] => some []
  | w :: ws => (keyK w).bind fun k => (keysT ws).map fun ks => k :: ks
def lookK (k : Key) : List (Key × Wv) → Option Wv
  | [] => none
  | p :: r => if p.1 = k then some p.2 else lookK k r
def lookT (k : List Key) : List (List Key × Wv) → Option Wv
  | [] => none
  | p :: r => if p.1 = k then some p.2 else lookT k r
def dlook (h : WH) (d : Wv) (k : Wv) : Option (Option Wv) := match d with
  | .ref a => match h a with
    | some (.dK kvs) => (keyK k).map fun x => lookK x kvs
    | some (.dT kvs) => match k with
      | .tup ws => (keysT ws).map fun x => lookT x kvs
      | _ => none
    | _ => none
  | _ => none
end
end Pd
set_option Elab.async false
set_option linter.all false
set_option maxRecDepth 100000
set_option maxHeartbeats 4000000
namespace Pd
open PySem PySem.Spec PyProof.Rows L2
/-! ### dicts: looking up, storing -/
section
variable {κ : Type} [DecidableEq κ]
def lookA (k : κ) : List (κ × Wv) → Option Wv
  | [] => none
  | p :: r => if p.1 = k then some p.2 else lookA k r
def putA (k : κ) (w : Wv) (kvs : List (κ × Wv)) : List (κ × Wv) := if (lookA k kvs).isSome then kvs.map fun p => if p.1 = k then (p.1, w) else p else kvs ++ [(k, w)]
abbrev PDen (K : PySem.W.Frag) (H : Hp) : List (κ × Wv) → List (κ × V) → Prop := Paired fun (p : κ × Wv) (q : κ × V) => p.1 = q.1 ∧ Den K H p.2 q.2
variable {K : PySem.W.Frag} {H : Hp}
theorem PDen.look (k : κ) : ∀ {kvs : List (κ × Wv)} {kus : List (κ × V)}, PDen K H kvs kus → (lookA k kvs = none ∧ valV kus k = none) ∨ ∃ w v, lookA k kvs = some w ∧ valV kus k = some v ∧ Den K H w v
  | _, _, .nil => .inl ⟨rfl, rfl⟩
  | p :: r, q :: t, .cons h hs => by
    by_cases c : p.1 = k
    · exact .inr ⟨p.2, q.2, if_pos c, valV_pos (h.1 ▸ c), h.2⟩
    · have e : lookA k (p :: r) = lookA k r := if_neg c
      rw [e, valV_neg (by rw [← h.1]; exact c)]
      exact PDen.look k hs
theorem PDen.isSome (k : κ) {kvs : List (κ × Wv)} {kus : List (κ × V)} (r : PDen K H kvs kus) : (valV kus k).isSome = (lookA k kvs).isSome := by
  rcases r.look k with ⟨a, b⟩ | ⟨w, v, a, b, _⟩ <;> rw [a, b] <;> rfl
theorem Paired.map2 {α β α' β' : Type} {R : α → β → Prop} {S : α' → β' → Prop} {f : α → α'} {g : β → β'} (h : ∀ a b, R a b → S (f a) (g b)) : ∀ {xs : List α} {ys : List β}, Paired R xs ys → Paired S (xs.map f) (ys.map g)
  | _, _, .nil => .nil
  | _, _, .cons r t => .cons (h _ _ r) (Paired.map2 h t)
theorem Paired.app {α β : Type} {R : α → β → Prop} : ∀ {xs : List α} {ys : List β} {us : List α} {ws : List β}, Paired R xs ys → Paired R us ws → Paired R (xs ++ us) (ys ++ ws)
  | _, _, _, _, .nil, s => s
  | _, _, _, _, .cons r t, s => .cons r (Paired.app t s)
theorem PDen.put (k : κ) {w : Wv} {v : V} (d : Den K H w v) {kvs : List (κ × Wv)} {kus : List (κ × V)} (r : PDen K H kvs kus) : PDen K H (putA k w kvs) (putK kus k v) := by
  unfold putA putK
  rw [valV_any, r.isSome k]
  by_cases c : (lookA k kvs).isSome = true
  · rw [if_pos c, if_pos c]
    refine Paired.map2 (fun a b h => ?_) r
    by_cases e : a.1 = k
    · rw [if_pos e, if_pos (h.1 ▸ e)]
      exact ⟨h.1, d⟩
    · rw [if_neg e, if_neg (by rw [← h.1]; exact e)]
      exact h
  · rw [if_neg c, if_neg c]
    exact Paired.app r (.cons ⟨rfl, d⟩ .nil)
theorem PDen.length {kvs : List (κ × Wv)} {kus : List (κ × V)} (r : PDen K H kvs kus) : kvs.length = kus.length := Paired.length r
end
theorem keyK_kV {K : PySem.W.Frag} {H : Hp} {w : Wv} {v : V} {k : Key} (d : Den K H w v) (e : keyK w = some k) : v = kV k := by
  cases w <;> simp [keyK] at e <;> subst e <;> exact d
theorem keysT_kV {K : PySem.W.Frag} {H : Hp} : ∀ {ws : List Wv} {vs : List V} {ks : List Key}, DenL K H ws vs → keysT ws = some ks → vs = ks.map kV
  | [], _, ks, d, e => by
    have d : _ = ([] : List V) := d
    simp [keysT] at e
    subst d e
    rfl
  | w :: ws, _, ks, d, e => by
    obtain ⟨v, vs', rfl, d1, r⟩ := d
    cases q : keyK w with
    | none => simp [keysT, q] at e
    | some k =>
      cases q' : keysT ws with
      | none => simp [keysT, q, q'] at e
      | some ks' =>
        simp [keysT, q, q'] at e
        subst e
        rw [keyK_kV d1 q, keysT_kV r q']
        rfl
/-- what the dict d has at k: none: no dict, no key of its kind -/
def dlookW (h : WH) (d : Wv) (k : Wv) : Option (Option Wv) := match d with
  | .ref a => match h a with
    | some (.dK kvs) => match keyK k with
      | some x => some (lookA x kvs)
      | none => none
    | some (.dT kvs) => match k with
      | .tup ws => match keysT ws with
        | some x => some (lookA x kvs)
        | none => none
      | _ => none
    | _ => none
  | _ => none
def rDIn (neg : Bool) : R2 := fun x y H Q => ∃ a o, y = .ref a ∧ DGet H a x o ∧ Q (.bl (if neg then !o.isSome else o.isSome)) H
def rDIx : R2 := fun x y H Q => ∃ a v, x = .ref a ∧ DGet H a y (some v) ∧ Q v H
section
variable {X : Cx} {Z : L2.WX} {a b c e : Expr} {ta tb tc te : TWE} {pos : Pos}
theorem op_inDict (hu : X.A.units + 1 < cLine) : OpR X (compareOp .In) (rDIn false) := by
  intro pins s σ H x y v u Q I rx ry h
  obtain ⟨a, o, rfl, g, q⟩ := h
  cases ry
  exact d_in hu I g rx fun s' I' => ⟨.bl o.isSome, H, I', rfl, q⟩
theorem op_ninDict (hu : X.A.units + 1 < cLine) : OpR X (compareOp .NotIn) (rDIn true) := by
  intro pins s σ H x y v u Q I rx ry h
  obtain ⟨a, o, rfl, g, q⟩ := h
  cases ry
  exact d_notIn hu I g rx fun s' I' => ⟨.bl (!o.isSome), H, I', rfl, q⟩
theorem ix_dict (hu : X.A.units + 1 < cLine) : IxR X rDIx := by
  intro value slice pins s σ H x y v u Q I rx ry h hs
  obtain ⟨a, z, rfl, g, q⟩ := h
  cases rx
  exact tail_any (dict_typeIs I g) PySem.F.slot_dict_getitem.lookup (d_getItem hu I g ry fun w' s' I' rw' => ⟨z, H, I', rw', q⟩) hs
theorem dlook_get {K : PySem.W.Frag} {H : Hp} {h : WH} (rh : RelH K h H) {d k : Wv} {vd vk : V} {o : Option Wv} (d1 : Den K H d vd) (d2 : Den K H k vk) (e : dlookW h d k = some o) :
    ∃ a ov, vd = .ref a ∧ DGet H a vk ov ∧ ((o = none ∧ ov = none) ∨ ∃ w v, o = some w ∧ ov = some v ∧ Den K H w v) := by
  cases d <;> simp [dlookW] at e
  rename_i a
  have d1 : vd = .ref a := d1
  cases q : h a with
  | none => simp [q] at e
  | some ob =>
    obtain ⟨u, hu, od⟩ := rh a ob q
    cases od with
    | lst _ => simp [q] at e
    | ins _ => simp [q] at e
    | @dK kvs kus r =>
      simp only [q] at e
      cases qk : keyK k with
      | none => simp [qk] at e
      | some x =>
        simp [qk] at e
        subst e
        refine ⟨a, valV kus x, d1, by rw [keyK_kV d2 qk]; exact DGet.k hu, ?_⟩
        rcases PDen.look x r with ⟨a1, a2⟩ | ⟨w, v, a1, a2, a3⟩
        · exact .inl ⟨a1, a2⟩
        · exact .inr ⟨w, v, a1, a2, a3⟩
    | @dT kvs kus r =>
      simp only [q] at e
      cases k <;> simp at e
      rename_i ws
      obtain ⟨p, vs, rfl, hp, dl⟩ := d2
      cases qk : keysT ws with
      | none => simp [qk] at e
      | some x =>
        simp [qk] at e
        subst e
        refine ⟨a, valV kus x, d1, DGet.t hu (by rw [← keysT_kV dl qk]; exact hp), ?_⟩
        rcases PDen.look x r with ⟨a1, a2⟩ | ⟨w, v, a1, a2, a3⟩
        · exact .inl ⟨a1, a2⟩
        · exact .inr ⟨w, v, a1, a2, a3⟩
def inDF (neg : Bool) : F2 := fun k d h => match dlookW h d k with
  | some o => some (.val (.bl (if neg then !o.isSome else o.isSome)))
  | none => none
def ixDF : F2 := fun d k h => match dlookW h d k with
  | some (some w) => some (.val w)
  | _ => none
theorem snd_inD {K : PySem.W.Frag} {neg : Bool} : Snd2 K (rDIn neg) (inDF neg) := fun H h w1 w2 v1 v2 Q rh d1 d2 q => by
  have q : outR (match dlookW h w2 w1 with
    | some o => some (.val (.bl (if neg then !o.isSome else o.isSome)))
    | none => none) h (okQ K H Q) := q
  split at q
  · rename_i o e
    obtain ⟨a, ov, e1, g, r⟩ := dlook_get rh d2 d1 e
    refine ⟨a, ov, e1, g, ?_⟩
    have : ov.isSome = o.isSome := by rcases r with ⟨rfl, rfl⟩ | ⟨w, v, rfl, rfl, _⟩ <;> rfl
    rw [this]
    exact q _ H (Grow.refl _ _) rh rfl
  · exact q.elim
theorem snd_ixD {K : PySem.W.Frag} : Snd2 K rDIx ixDF := fun H h w1 w2 v1 v2 Q rh d1 d2 q => by
  have q : outR (match dlookW h w1 w2 with
    | some (some w) => some (.val w)
    | _ => none) h (okQ K H Q) := q
  split at q
  · rename_i w e
    obtain ⟨a, ov, e1, g, r⟩ := dlook_get rh d1 d2 e
    rcases r with ⟨z, _⟩ | ⟨w', v, z, rfl, dv⟩
    · cases z
    · cases z
      exact ⟨a, v, e1, g, q v H (Grow.refl _ _) rh dv⟩
  · exact q.elim
/-- k in c -/
def memF (neg : Bool) : F2 := orF (inF neg) (inDF neg)
theorem jin (hu : X.A.units + 64 < cLine) (ha : JE X Z a ta) (hb : JE X Z b tb) (hm : behindInMarks .In b = false) : JC X Z (.Compare a [.In] [b] pos) (wBin (memF false) ta tb) :=
  jcmp (OpR.or (op_inD0 hu) (op_inDict (by omega))) (Snd2.or snd_in snd_inD) ha hb hm
theorem jnin (hu : X.A.units + 64 < cLine) (ha : JE X Z a ta) (hb : JE X Z b tb) (hm : behindInMarks .NotIn b = false) : JC X Z (.Compare a [.NotIn] [b] pos) (wBin (memF true) ta tb) :=
  jcmp (OpR.or (op_ninD0 hu) (op_ninDict (by omega))) (Snd2.or snd_in snd_inD) ha hb hm
/-! ### subscripts -/
def ixLF : F2 := fun x i h => match i with
  | .int i => match itemsO h x with
    | some ws => (atI ws i).map .val
    | none => none
  | _ => none
theorem DenL.atI {K : PySem.W.Frag} {H : Hp} {ws : List Wv} {vs : List V} {i : Int} {w : Wv} (d : DenL K H ws vs) (e : L2.atI ws i = some w) : ∃ v, L2.atI vs i = some v ∧ Den K H w v := by
  unfold L2.atI at e ⊢
  rw [← d.length]
  cases q : ixN ws.length i with
  | none => rw [q] at e; cases e
  | some j =>
    rw [q] at e
    exact d.get e
theorem snd_ixL {K : PySem.W.Frag} : Snd2 K (fun x y H Q => rIxL K x y H Q ∨ rIxT K x y H Q) ixLF := fun H h w1 w2 v1 v2 Q rh d1 d2 q => by
  cases w2 <;> first | exact q.elim | skip
  rename_i i
  have d2 : v2 = .int i := d2
  have q : outR (match itemsO h w1 with
    | some ws => (atI ws i).map .val
    | none => none) h (okQ K H Q) := q
  split at q
  · rename_i ws e
    cases ew : L2.atI ws i with
    | none => rw [ew] at q; exact q.elim
    | some w =>
      rw [ew] at q
      have qq : okQ K H Q w h := q
      clear q
      cases w1 <;> simp [itemsO] at e
      · subst e
        obtain ⟨p, vs, rfl, hp, dl⟩ := d1
        obtain ⟨v, e2, dv⟩ := dl.atI ew
        exact .inr ⟨p, vs, i, v, rfl, d2, SqT.of hp, e2, qq v H (Grow.refl _ _) rh dv⟩
      · rename_i p
        have d1 : v1 = .ref p := d1
        split at e
        · rename_i ws' e'
          simp at e
          subst e
          obtain ⟨vs, hp, dl⟩ := rh.lst e'
          obtain ⟨v, e2, dv⟩ := dl.atI ew
          exact .inl ⟨p, vs, i, v, d1, d2, SqL.of hp, e2, qq v H (Grow.refl _ _) rh dv⟩
        · cases e
  · exact q.elim
def ixSF : F2
  | .str z, .int i, _ => if z.length ≤ sizeLine then (atI z.cps.toList i).map fun c => .val (.str ⟨#[c]⟩) else none
  | _, _, _ => none
theorem snd_ixS {K : PySem.W.Frag} : Snd2 K rIxS ixSF := fun H h w1 w2 v1 v2 Q rh d1 d2 q => by
  cases w1 <;> first | exact q.elim | skip
  cases w2 <;> first | exact q.elim | skip
  rename_i z i
  have q : outR (if z.length ≤ sizeLine then (atI z.cps.toList i).map fun c => .val (.str ⟨#[c]⟩) else none) h (okQ K H Q) := q
  split at q
  · rename_i c
    cases ew : L2.atI z.cps.toList i with
    | none => rw [ew] at q; exact q.elim
    | some w =>
      rw [ew] at q
      exact ⟨z, i, w, d1, d2, c, ew, q _ H (Grow.refl _ _) rh rfl⟩
  · exact q.elim
def ixF : F2 := orF (orF ixLF ixDF) ixSF
theorem jidx (hu : X.A.units + 64 < cLine) (ha : JE X Z a ta) (hb : JE X Z b tb) (hs : PlainIx b := by exact fun _ _ => rfl) : JE X Z (.Subscript a b pos) (wBin ixF ta tb) :=
  jix (IxR.or (IxR.or (IxR.or ix_list ix_tup) (ix_dict (by omega))) ix_str) (Snd2.or (Snd2.or snd_ixL snd_ixD) snd_ixS) ha hb hs

/-! ### is None -/
def isNF (neg : Bool) : Wv → WH → Option Rs
  | .non, _ => some (.val (.bl (!neg)))
  | _, _ => some (.val (.bl neg))
def wUn (F : Wv → WH → Option Rs) (ta : TWE) : TWE := fun ρ h Q E => ta ρ h (fun w h1 => outR (F w h1) h1 Q) E
theorem wUn_mo {F : Wv → WH → Option Rs} (ma : MoE ta) : MoE (wUn F ta) := fun ρ h Q Q' E E' hq he q => ma ρ h _ _ E E' (fun w h1 q1 => outR_mo hq q1) he q
def Snd1 (K : PySem.W.Frag) (r : V → Hp → VK → Prop) (F : Wv → WH → Option Rs) : Prop := ∀ (H : Hp) (h : WH) (w : Wv) (v : V) (Q : VK), RelH K h H → Den K H w v → outR (F w h) h (okQ K H Q) → r v H Q
theorem tUn_of {r : V → Hp → VK → Prop} {F : Wv → WH → Option Rs} (S : Snd1 X.K r F) (ma : MoE ta) {σ : L2.St} {H : Hp} {Q : VK} (q : liE X.K Z (wUn F ta) σ H Q) : tUn r (liE X.K Z ta) σ H Q := by
  obtain ⟨ρ, h, rs, rh, q⟩ := q
  refine li_then (E := fun _ _ _ _ => False) ma rs rh q fun w h1 v H1 g1 r1 d1 q1 => ?_
  exact S H1 h1 w v Q r1 d1 (outR_back g1 q1)
def isNon : Wv → Bool
  | .non => true
  | _ => false
theorem den_non {K : PySem.W.Frag} {H : Hp} {w : Wv} {v : V} (d : Den K H w v) : decide (v = .non) = isNon w := by
  cases w with
  | non => have d : v = .non := d; subst d; rfl
  | bl _ => have d : v = _ := d; subst d; rfl
  | int _ => have d : v = _ := d; subst d; rfl
  | str _ => have d : v = _ := d; subst d; rfl
  | ref _ => have d : v = _ := d; subst d; rfl
  | tup _ => obtain ⟨a, vs, rfl, _⟩ := d; rfl
  | scr _ => obtain ⟨a, rfl, _⟩ := d; rfl
theorem li_isN (ma : MoE ta) {neg : Bool} {σ : L2.St} {H : Hp} {Q : VK} (q : liE X.K Z (wUn (isNF neg) ta) σ H Q) : liE X.K Z ta σ H fun x H1 => Q (.bl (if neg then !decide (x = .non) else decide (x = .non))) H1 := by
  obtain ⟨ρ, h, rs, rh, q⟩ := q
  refine li_then (E := fun _ _ _ _ => False) ma rs rh q fun w h1 v H1 g1 r1 d1 q1 => ?_
  have z := den_non d1
  have : outR (isNF neg w h1) h1 (okQ X.K H Q) → okQ X.K H Q (.bl (if neg then !isNon w else isNon w)) h1 := by cases w <;> cases neg <;> exact id
  rw [z]
  exact this q1 _ H1 g1 r1 rfl
theorem jisN {j pos'} (ha : JE X Z a ta) : JC X Z (.Compare a [.Is] [.Constant .none j pos'] pos) (wUn (isNF false) ta) where
  je := ⟨wUn_mo ha.mo, imE (pe_cmp (pc_isN ha.pe)) fun σ H Q q => li_isN ha.mo q⟩
  jt := ⟨wTest_mo (wUn_mo ha.mo), imT (pt_cmp (pc_isN ha.pe)) fun σ H Q q => li_isN ha.mo (li_test (wUn_mo ha.mo) q)⟩
theorem jnotN {j pos'} (ha : JE X Z a ta) : JC X Z (.Compare a [.IsNot] [.Constant .none j pos'] pos) (wUn (isNF true) ta) where
  je := ⟨wUn_mo ha.mo, imE (pe_cmp (pc_notN ha.pe)) fun σ H Q q => li_isN ha.mo q⟩
  jt := ⟨wTest_mo (wUn_mo ha.mo), imT (pt_cmp (pc_notN ha.pe)) fun σ H Q q => li_isN ha.mo (li_test (wUn_mo ha.mo) q)⟩
def negF : Wv → WH → Option Rs
  | .int i, _ => some (.val (.int (-i)))
  | _, _ => none
theorem jneg (ha : JE X Z a ta) : JE X Z (.UnaryOp .USub a pos) (wUn negF ta) where
  mo := wUn_mo ha.mo
  pe := imE (pe_un un_neg ha.pe) fun σ H Q q => tUn_of (fun H h w v Q rh d q => by
    cases w <;> first | exact q.elim | skip
    exact ⟨_, d, q _ H (Grow.refl _ _) rh rfl⟩) ha.mo q
end
end Pd
set_option Elab.async false
set_option linter.all false
set_option maxRecDepth 100000
set_option maxHeartbeats 4000000
namespace Pd
open PySem PySem.Spec PyProof.Rows L2
section
variable {X : Cx} {Z : L2.WX} {a b c e : Expr} {ta tb tc te : TWE} {ua ub : TWT} {pos : Pos} {es rest : List Expr}
/-! ### tests -/
theorem liT_of {t : TWE} (m : MoE t) {σ : L2.St} {H : Hp} {Q : Bool → Hp → Prop} (q : liT X.K Z (wTest t) σ H Q) : tB (liE X.K Z t) σ H Q := li_test m q
theorem jtv (ha : JE X Z a ta) (he : ∀ whole, isTrue a X.env whole = (do let v ← whole; standAt a.pos; holding [v] (truthy v)) := by intro _; rfl) : JT X Z a (wTest ta) where
  mo := wTest_mo ha.mo
  pt := imT (pt_val ha.pe he) fun σ H Q q => liT_of ha.mo q
def wNot (t : TWT) : TWT := fun ρ h Q E => t ρ h (fun c h1 => Q (!c) h1) E
theorem wNot_mo {t : TWT} (m : MoT t) : MoT (wNot t) := fun ρ h Q Q' E E' hq he q => m ρ h _ _ E E' (fun c h1 q1 => hq _ _ q1) he q
theorem jtnot (ha : JT X Z a ua) : JT X Z (.UnaryOp .Not a pos) (wNot ua) where
  mo := wNot_mo ha.mo
  pt := imT (pt_not ha.pt) fun σ H Q q => by
    obtain ⟨ρ, h, rs, rh, q⟩ := q
    exact ⟨ρ, h, rs, rh, ha.mo ρ h _ _ _ _ (fun c h1 q1 H1 g r => q1 H1 g r) (fun _ _ _ _ z => z) q⟩
def wAnd (t u : TWT) : TWT := fun ρ h Q E => t ρ h (fun c h1 => if c = true then u ρ h1 Q E else Q false h1) E
def wOr (t u : TWT) : TWT := fun ρ h Q E => t ρ h (fun c h1 => if c = true then Q true h1 else u ρ h1 Q E) E
theorem wAnd_mo {t u : TWT} (m : MoT t) (n : MoT u) : MoT (wAnd t u) := fun ρ h Q Q' E E' hq he q => m ρ h _ _ E E' (fun c h1 q1 => by
  split
  · rename_i z
    rw [if_pos z] at q1
    exact n ρ h1 _ _ _ _ hq he q1
  · rename_i z
    rw [if_neg z] at q1
    exact hq _ _ q1) he q
theorem wOr_mo {t u : TWT} (m : MoT t) (n : MoT u) : MoT (wOr t u) := fun ρ h Q Q' E E' hq he q => m ρ h _ _ E E' (fun c h1 q1 => by
  split
  · rename_i z
    rw [if_pos z] at q1
    exact hq _ _ q1
  · rename_i z
    rw [if_neg z] at q1
    exact n ρ h1 _ _ _ _ hq he q1) he q
/-- a test, then something by its answer -/
theorem liT_then {σ : L2.St} {H : Hp} {t : TWT} {ρ : Wen} {h : WH} {k : Bool → Hp → Prop} {k' : Bool → WH → Prop} (m : MoT t) (rs : RelS X.K H ρ σ) (rh : RelH X.K h H) (q : t ρ h k' (exQ X.K H fun cls d H' => Z cls d σ H'))
    (hk : ∀ c h1 H1, Grow X.K H H1 → RelH X.K h1 H1 → k' c h1 → k c H1) : liT X.K Z t σ H k :=
  ⟨ρ, h, rs, rh, m ρ h _ _ _ _ (fun c h1 q1 H1 g r => hk c h1 H1 g r q1) (fun _ _ _ _ z => z) q⟩
theorem jw_and (ha : JT X Z a ua) (hb : JW X Z (.BoolOp .And (b :: rest) pos) ub) : JW X Z (.BoolOp .And (a :: b :: rest) pos) (wAnd ua ub) where
  mo := wAnd_mo ha.mo hb.mo
  pw := imW (pw_and ha.pt hb.pw) fun σ H Q q => by
    obtain ⟨ρ, h, rs, rh, q⟩ := q
    refine liT_then ha.mo rs rh q fun c h1 H1 g1 r1 q1 => ?_
    split
    · rename_i z
      rw [if_pos z] at q1
      exact ⟨ρ, h1, rs.grow g1, r1, hb.mo ρ h1 _ _ _ _ (fun c h2 q2 => q2.back g1) (exQ_back g1) q1⟩
    · rename_i z
      rw [if_neg z] at q1
      exact q1 H1 g1 r1
theorem jw_or (ha : JT X Z a ua) (hb : JW X Z (.BoolOp .Or (b :: rest) pos) ub) : JW X Z (.BoolOp .Or (a :: b :: rest) pos) (wOr ua ub) where
  mo := wOr_mo ha.mo hb.mo
  pw := imW (pw_or ha.pt hb.pw) fun σ H Q q => by
    obtain ⟨ρ, h, rs, rh, q⟩ := q
    refine liT_then ha.mo rs rh q fun c h1 H1 g1 r1 q1 => ?_
    split
    · rename_i z
      rw [if_pos z] at q1
      exact q1 H1 g1 r1
    · rename_i z
      rw [if_neg z] at q1
      exact ⟨ρ, h1, rs.grow g1, r1, hb.mo ρ h1 _ _ _ _ (fun c h2 q2 => q2.back g1) (exQ_back g1) q1⟩
theorem jw_and1 (ha : JT X Z a ua) : JW X Z (.BoolOp .And [a] pos) ua := ⟨ha.mo, pw_and1 ha.pt⟩
theorem jw_or1 (ha : JT X Z a ua) : JW X Z (.BoolOp .Or [a] pos) ua := ⟨ha.mo, pw_or1 ha.pt⟩
theorem JW.jt (h : JW X Z e ua) : JT X Z e ua := ⟨h.mo, h.pw.pt⟩
/-! ### and, or, not as values -/
def wAndV (ta tb : TWE) : TWE := fun ρ h Q E => ta ρ h (fun w h1 => match w with
  | .bl c => if c = true then tb ρ h1 Q E else Q (.bl false) h1
  | _ => False) E
def wOrV (ta tb : TWE) : TWE := fun ρ h Q E => ta ρ h (fun w h1 => match w with
  | .bl c => if c = true then Q (.bl true) h1 else tb ρ h1 Q E
  | _ => False) E
def wNotV (ta : TWE) : TWE := fun ρ h Q E => ta ρ h (fun w h1 => match w with
  | .bl c => Q (.bl (!c)) h1
  | _ => False) E
theorem wAndV_mo (m : MoE ta) (n : MoE tb) : MoE (wAndV ta tb) := fun ρ h Q Q' E E' hq he q => m ρ h _ _ E E' (fun w h1 q1 => by
  cases w <;> first | exact q1.elim | skip
  rename_i c
  have q1 : if c = true then tb ρ h1 Q E else Q (.bl false) h1 := q1
  show if c = true then tb ρ h1 Q' E' else Q' (.bl false) h1
  split
  · rename_i z
    rw [if_pos z] at q1
    exact n ρ h1 _ _ _ _ hq he q1
  · rename_i z
    rw [if_neg z] at q1
    exact hq _ _ q1) he q
theorem wOrV_mo (m : MoE ta) (n : MoE tb) : MoE (wOrV ta tb) := fun ρ h Q Q' E E' hq he q => m ρ h _ _ E E' (fun w h1 q1 => by
  cases w <;> first | exact q1.elim | skip
  rename_i c
  have q1 : if c = true then Q (.bl true) h1 else tb ρ h1 Q E := q1
  show if c = true then Q' (.bl true) h1 else tb ρ h1 Q' E'
  split
  · rename_i z
    rw [if_pos z] at q1
    exact hq _ _ q1
  · rename_i z
    rw [if_neg z] at q1
    exact n ρ h1 _ _ _ _ hq he q1) he q
theorem jand (ha : JE X Z a ta) (hb : JE X Z (.BoolOp .And (b :: rest) pos) tb) : JE X Z (.BoolOp .And (a :: b :: rest) pos) (wAndV ta tb) where
  mo := wAndV_mo ha.mo hb.mo
  pe := imE (pe_and ha.pe hb.pe) fun σ H Q q => by
    obtain ⟨ρ, h, rs, rh, q⟩ := q
    refine li_then (E := fun _ _ _ _ => False) ha.mo rs rh q fun w h1 v H1 g1 r1 d1 q1 => ?_
    cases w <;> first | exact q1.elim | skip
    rename_i c
    have q1 : if c = true then tb ρ h1 (okQ X.K H Q) _ else okQ X.K H Q (.bl false) h1 := q1
    refine ⟨c, d1, ?_⟩
    split
    · rename_i z
      rw [if_pos z] at q1
      exact ⟨ρ, h1, rs.grow g1, r1, hb.mo ρ h1 _ _ _ _ (fun c h2 q2 => q2.back g1) (exQ_back g1) q1⟩
    · rename_i z
      rw [if_neg z] at q1
      exact q1 _ H1 g1 r1 rfl
theorem jor (ha : JE X Z a ta) (hb : JE X Z (.BoolOp .Or (b :: rest) pos) tb) : JE X Z (.BoolOp .Or (a :: b :: rest) pos) (wOrV ta tb) where
  mo := wOrV_mo ha.mo hb.mo
  pe := imE (pe_or ha.pe hb.pe) fun σ H Q q => by
    obtain ⟨ρ, h, rs, rh, q⟩ := q
    refine li_then (E := fun _ _ _ _ => False) ha.mo rs rh q fun w h1 v H1 g1 r1 d1 q1 => ?_
    cases w <;> first | exact q1.elim | skip
    rename_i c
    have q1 : if c = true then okQ X.K H Q (.bl true) h1 else tb ρ h1 (okQ X.K H Q) _ := q1
    refine ⟨c, d1, ?_⟩
    split
    · rename_i z
      rw [if_pos z] at q1
      exact q1 _ H1 g1 r1 rfl
    · rename_i z
      rw [if_neg z] at q1
      exact ⟨ρ, h1, rs.grow g1, r1, hb.mo ρ h1 _ _ _ _ (fun c h2 q2 => q2.back g1) (exQ_back g1) q1⟩
theorem jone {op} (ha : JE X Z a ta) : JE X Z (.BoolOp op [a] pos) ta := ⟨ha.mo, pe_one ha.pe⟩
theorem jnot (ha : JE X Z a ta) : JE X Z (.UnaryOp .Not a pos) (wNotV ta) where
  mo := fun ρ h Q Q' E E' hq he q => ha.mo ρ h _ _ E E' (fun w h1 q1 => by
    cases w <;> first | exact q1.elim | skip
    exact hq _ _ q1) he q
  pe := imE (pe_not ha.pe) fun σ H Q q => by
    obtain ⟨ρ, h, rs, rh, q⟩ := q
    refine li_then (E := fun _ _ _ _ => False) ha.mo rs rh q fun w h1 v H1 g1 r1 d1 q1 => ?_
    cases w <;> first | exact q1.elim | skip
    exact ⟨_, d1, q1 _ H1 g1 r1 rfl⟩
def wIf (t : TWT) (ta tb : TWE) : TWE := fun ρ h Q E => t ρ h (fun c h1 => if c = true then ta ρ h1 Q E else tb ρ h1 Q E) E
theorem jif (hc : JT X Z c ua) (ha : JE X Z a ta) (hb : JE X Z b tb) : JE X Z (.IfExp c a b pos) (wIf ua ta tb) where
  mo := fun ρ h Q Q' E E' hq he q => hc.mo ρ h _ _ E E' (fun c h1 q1 => by
    split
    · rename_i z
      rw [if_pos z] at q1
      exact ha.mo ρ h1 _ _ _ _ hq he q1
    · rename_i z
      rw [if_neg z] at q1
      exact hb.mo ρ h1 _ _ _ _ hq he q1) he q
  pe := imE (pe_ifExp hc.pt ha.pe hb.pe) fun σ H Q q => by
    obtain ⟨ρ, h, rs, rh, q⟩ := q
    refine liT_then hc.mo rs rh q fun c h1 H1 g1 r1 q1 => ?_
    split
    · rename_i z
      rw [if_pos z] at q1
      exact ⟨ρ, h1, rs.grow g1, r1, ha.mo ρ h1 _ _ _ _ (fun c h2 q2 => q2.back g1) (exQ_back g1) q1⟩
    · rename_i z
      rw [if_neg z] at q1
      exact ⟨ρ, h1, rs.grow g1, r1, hb.mo ρ h1 _ _ _ _ (fun c h2 q2 => q2.back g1) (exQ_back g1) q1⟩
/-- a op b op' c -/
def wChain (F G : F2) (ta tb tc : TWE) : TWE := fun ρ h Q E => ta ρ h (fun w h1 => tb ρ h1 (fun u h2 => outR (F w u h2) h2 fun z h3 => match z with
  | .bl k => if k = true then tc ρ h3 (fun x h4 => outR (G u x h4) h4 Q) E else Q (.bl false) h3
  | _ => False) E) E
theorem wChain_mo {F G : F2} (ma : MoE ta) (mb : MoE tb) (mc : MoE tc) : MoE (wChain F G ta tb tc) := fun ρ h Q Q' E E' hq he q =>
  ma ρ h _ _ E E' (fun w h1 q1 => mb ρ h1 _ _ E E' (fun u h2 q2 => outR_mo (fun z h3 q3 => by
    cases z <;> first | exact q3.elim | skip
    rename_i k
    have q3 : if k = true then tc ρ h3 (fun x h4 => outR (G u x h4) h4 Q) E else Q (.bl false) h3 := q3
    show if k = true then tc ρ h3 (fun x h4 => outR (G u x h4) h4 Q') E' else Q' (.bl false) h3
    split
    · rename_i z
      rw [if_pos z] at q3
      exact mc ρ h3 _ _ _ _ (fun x h4 q4 => outR_mo hq q4) he q3
    · rename_i z
      rw [if_neg z] at q3
      exact hq _ _ q3) q2) he q1) he q
theorem li_chain {r r' : R2} {F G : F2} (S : Snd2 X.K r F) (S' : Snd2 X.K r' G) (ma : MoE ta) (mb : MoE tb) (mc : MoE tc) {σ : L2.St} {H : Hp} {Q : VK} (q : liE X.K Z (wChain F G ta tb tc) σ H Q) :
    tChain r r' (liE X.K Z ta) (liE X.K Z tb) (liE X.K Z tc) σ H Q := by
  obtain ⟨ρ, h, rs, rh, q⟩ := q
  refine li_then (E := fun _ _ _ _ => False) ma rs rh q fun w h1 v H1 g1 r1 d1 q1 => ?_
  have q1' := mb ρ h1 _ _ _ (exQ X.K H1 fun cls d H' => Z cls d σ H') (fun _ _ z => z) (exQ_back g1) q1
  refine li_then (E := fun _ _ _ _ => False) mb (rs.grow g1) r1 q1' fun u h2 v2 H2 g2 r2 d2 q2 => ?_
  refine S H2 h2 w u v v2 _ r2 (Den.grow g2 _ d1) d2 (outR_mo (fun z h3 q3 v3 H3 g3 r3 d3 => ?_) q2)
  cases z <;> first | exact q3.elim | skip
  rename_i k
  have q3 : if k = true then tc ρ h3 (fun x h4 => outR (G u x h4) h4 (okQ X.K H Q)) _ else okQ X.K H Q (.bl false) h3 := q3
  refine ⟨k, d3, ?_⟩
  have g := (g1.trans g2).trans g3
  split
  · rename_i z
    rw [if_pos z] at q3
    have q3' := mc ρ h3 _ _ _ (exQ X.K H3 fun cls d H' => Z cls d σ H') (fun _ _ z => z) (exQ_back g) q3
    refine li_then (E := fun _ _ _ _ => False) mc (rs.grow g) r3 q3' fun x h4 v4 H4 g4 r4 d4 q4 => ?_
    exact S' H4 h4 u x v2 v4 Q r4 (Den.grow (g3.trans g4) _ d2) d4 (outR_back (g.trans g4) q4)
  · rename_i z
    rw [if_neg z] at q3
    exact q3 _ H3 g r3 rfl
theorem jchain {op op' : CmpOp} {r r' : R2} {F G : F2} (o : OpR X (compareOp op) r) (S : Snd2 X.K r F) (o' : OpR X (compareOp op') r') (S' : Snd2 X.K r' G) (ha : JE X Z a ta) (hb : JE X Z b tb) (hc : JE X Z c tc)
    (hm : lastMarks [op, op'] [b, c] = false) : JC X Z (.Compare a [op, op'] [b, c] pos) (wChain F G ta tb tc) where
  je := ⟨wChain_mo ha.mo hb.mo hc.mo, imE (pe_chain o o' ha.pe hb.pe hc.pe hm) fun _ _ _ q => li_chain S S' ha.mo hb.mo hc.mo q⟩
  jt := ⟨wTest_mo (wChain_mo ha.mo hb.mo hc.mo), imT (pt_chain o o' ha.pe hb.pe hc.pe hm) fun σ H Q q => tTest_mono (fun _ _ _ q => li_chain S S' ha.mo hb.mo hc.mo q) σ H Q (li_test (wChain_mo ha.mo hb.mo hc.mo) q)⟩
end
end Pd
set_option Elab.async false
set_option linter.all false
set_option maxRecDepth 100000
set_option maxHeartbeats 4000000
namespace Pd
open PySem PySem.Spec PyProof.Rows L2
/-! ### argument lists, displays -/
structure JAn (X : Cx) (Z : L2.WX) (es : List Expr) (t : TWA) : Prop where
  mo : MoA t
  pa : PA X es (liA X.K Z t)
  ln : ∀ ρ h Q E, t ρ h Q E → t ρ h (fun ws h' => ws.length = es.length ∧ Q ws h') E
def wNil : TWA := fun _ h Q _ => Q [] h
def wCons (te : TWE) (t : TWA) : TWA := fun ρ h Q E => te ρ h (fun w h1 => t ρ h1 (fun ws h2 => Q (w :: ws) h2) E) E
def wTup (t : TWA) : TWE := fun ρ h Q E => t ρ h (fun ws h1 => Q (.tup ws) h1) E
def wLst (t : TWA) : TWE := fun ρ h Q E => t ρ h (fun ws h1 => ∀ p, h1 p = none → Q (.ref p) (wup h1 p (.lst ws))) E
section
variable {X : Cx} {Z : L2.WX} {a b c e : Expr} {ta tb tc te : TWE} {t : TWA} {pos : Pos} {es rest : List Expr}
theorem liA_then {σ : L2.St} {H : Hp} {t : TWA} {ρ : Wen} {h : WH} {k : List V → Hp → Prop} {k' : List Wv → WH → Prop} (m : MoA t) (rs : RelS X.K H ρ σ) (rh : RelH X.K h H) (q : t ρ h k' (exQ X.K H fun cls d H' => Z cls d σ H'))
    (hk : ∀ ws h1 vs H1, Grow X.K H H1 → RelH X.K h1 H1 → DenL X.K H1 ws vs → k' ws h1 → k vs H1) : liA X.K Z t σ H k :=
  ⟨ρ, h, rs, rh, m ρ h _ _ _ _ (fun ws h1 q1 vs H1 g r d => hk ws h1 vs H1 g r d q1) (fun _ _ _ _ z => z) q⟩
theorem ja_nil : JAn X Z [] wNil where
  mo := fun ρ h Q Q' E E' hq _ q => hq _ _ q
  pa := imA pa_nil fun σ H Q ⟨ρ, h, rs, rh, q⟩ => q [] H (Grow.refl _ _) rh rfl
  ln := fun ρ h Q E q => ⟨rfl, q⟩
theorem ja_cons (ha : JE X Z e te) (hr : JAn X Z es t) (hs : starEach (e :: es) X.env = (false, eval e X.env) :: starEach es X.env := by rfl) : JAn X Z (e :: es) (wCons te t) where
  mo := fun ρ h Q Q' E E' hq he q => ha.mo ρ h _ _ _ _ (fun w h1 q1 => hr.mo ρ h1 _ _ _ _ (fun ws h2 q2 => hq _ _ q2) he q1) he q
  pa := imA (pa_cons ha.pe hr.pa hs) fun σ H Q ⟨ρ, h, rs, rh, q⟩ => by
    refine li_then (E := fun _ _ _ _ => False) ha.mo rs rh q fun w h1 v H1 g1 r1 d1 q1 => ?_
    have q1' := hr.mo ρ h1 _ _ _ (exQ X.K H1 fun cls d H' => Z cls d σ H') (fun _ _ z => z) (exQ_back g1) q1
    refine liA_then hr.mo (rs.grow g1) r1 q1' fun ws h2 vs H2 g2 r2 d2 q2 => ?_
    exact q2 (v :: vs) H2 (g1.trans g2) r2 (.cons (Den.grow g2 _ d1) d2)
  ln := fun ρ h Q E q => ha.mo ρ h _ _ _ _ (fun w h1 q1 => hr.mo ρ h1 _ _ _ _ (fun ws h2 q2 => ⟨congrArg Nat.succ q2.1, q2.2⟩) (fun _ _ _ _ z => z) (hr.ln _ _ _ _ q1)) (fun _ _ _ _ z => z) q
theorem jtup {x1} (h : JAn X Z es t) (hl : es.length ≤ 1000 := by decide) : JE X Z (.Tuple es x1 pos) (wTup t) where
  mo := fun ρ g Q Q' E E' hq he q => h.mo ρ g _ _ _ _ (fun w h1 q1 => hq _ _ q1) he q
  pe := imE (pe_tup h.pa) fun σ H Q ⟨ρ, g, rs, rh, q⟩ => by
    refine liA_then h.mo rs rh (h.ln _ _ _ _ q) fun ws h1 vs H1 g1 r1 d1 q1 => ?_
    refine ⟨?_, fun p hp => ?_⟩
    · rw [← d1.length, q1.1]
      exact Nat.le_trans hl (by decide)
    · exact q1.2 _ _ (g1.trans (grow_new hp)) (r1.hid hp) ⟨p, vs, rfl, upd_same, d1.grow (grow_new hp)⟩
theorem jlst (h : JAn X Z es t) (hl : es.length ≤ 1000 := by decide) : JE X Z (.List es pos) (wLst t) where
  mo := fun ρ g Q Q' E E' hq he q => h.mo ρ g _ _ _ _ (fun w h1 q1 p hp => hq _ _ (q1 p hp)) he q
  pe := imE (pe_lst h.pa) fun σ H Q ⟨ρ, g, rs, rh, q⟩ => by
    refine liA_then h.mo rs rh (h.ln _ _ _ _ q) fun ws h1 vs H1 g1 r1 d1 q1 => ?_
    refine ⟨?_, fun p hp => ?_⟩
    · rw [← d1.length, q1.1]
      exact Nat.le_trans hl (by decide)
    · exact q1.2 p (r1.none hp) _ _ (g1.trans (grow_new hp)) (r1.new hp (.lst d1)) rfl
/-! ### {} -/
def wNewK : TWE := fun _ h Q _ => ∀ p, h p = none → Q (.ref p) (wup h p (.dK []))
def wNewT : TWE := fun _ h Q _ => ∀ p, h p = none → Q (.ref p) (wup h p (.dT []))
theorem jnewK (p : PE X e tDNewK) : JE X Z e wNewK where
  mo := fun ρ g Q Q' E E' hq he q p hp => hq _ _ (q p hp)
  pe := imE p fun σ H Q ⟨ρ, g, rs, rh, q⟩ p hp => q p (rh.none hp) _ _ (grow_new hp) (rh.new hp (.dK .nil)) rfl
theorem jnewT (p : PE X e tDNewT) : JE X Z e wNewT where
  mo := fun ρ g Q Q' E E' hq he q p hp => hq _ _ (q p hp)
  pe := imE p fun σ H Q ⟨ρ, g, rs, rh, q⟩ p hp => q p (rh.none hp) _ _ (grow_new hp) (rh.new hp (.dT .nil)) rfl
/-! ### calls -/
abbrev WSp := List Wv → WH → WQ → WX → Prop
def MoP (sp : WSp) : Prop := ∀ ws h Q Q' E E', (∀ w h', Q w h' → Q' w h') → (∀ C f w h', E C f w h' → E' C f w h') → sp ws h Q E → sp ws h Q' E'
def liP (K : PySem.W.Frag) (sp : WSp) : Sp := fun vs H Q E => ∃ ws h, DenL K H ws vs ∧ RelH K h H ∧ sp ws h (okQ K H Q) (exQ K H E)
def wCall (sp : WSp) (t : TWA) : TWE := fun ρ h Q E => t ρ h (fun ws h1 => sp ws h1 Q E) E
theorem wCall_mo {sp : WSp} (mp : MoP sp) (m : MoA t) : MoE (wCall sp t) := fun ρ h Q Q' E E' hq he q => m ρ h _ _ _ _ (fun ws h1 q1 => mp ws h1 _ _ _ _ hq he q1) he q
theorem li_call {sp : WSp} (mp : MoP sp) (m : MoA t) {σ : L2.St} {H : Hp} {Q : VK} (q : liE X.K Z (wCall sp t) σ H Q) : tCallS (liP X.K sp) (WE Z) (liA X.K Z t) σ H Q := by
  obtain ⟨ρ, h, rs, rh, q⟩ := q
  refine liA_then m rs rh q fun ws h1 vs H1 g1 r1 d1 q1 => ?_
  exact ⟨ws, h1, d1, r1, mp ws h1 _ _ _ _ (fun w h2 q2 => q2.back g1) (exQ_back g1) q1⟩
variable {x m : Str} {k : Nat} {f C : Addr} {fd : FuncData} {ps : List Str} {sp : WSp} {p apos : Pos} {o : Expr} {to : TWE}
theorem jcall (F : FnOk X.prog X.w X.K X.mg X.base (L2.CX X.prog X.w) k f fd ps (liP X.K sp)) (mp : MoP sp) (tk : Takes X Z) (hr : Room k X.A) (hm : X.mg x = some (.ref f)) (hk : PySem.W.keepIn X.K (.ref f) = true) (hb : Binds X.K fd ps [])
    (ha : JAn X Z (e :: es) t) (hg : Gl X x := by rfl) (hdb : (x == ("__debug__" : Str)) = false := by decide) (he : starEach (e :: es) X.env = (false, eval e X.env) :: starEach es X.env := by rfl) (hpl : (backTo pos (starEach es X.env)).any (·.1) = false := by rfl) :
    JE X Z (.Call (.Name x p) (e :: es) [] pos) (wCall sp t) where
  mo := wCall_mo mp ha.mo
  pe := imE (pe_callS F hr hg hm hk hb (fun σ => passAt tk σ) ha.pa hdb he hpl) fun σ H Q q => li_call mp ha.mo q
/-- o.m(..) -/
def wMeth (C : Addr) (m : Str) (sp : WSp) (to : TWE) (t : TWA) : TWE := fun ρ h Q E => to ρ h (fun x h1 => match x with
  | .ref a => match h1 a with
    | some (.ins C' fs) => C' = C ∧ fs.lookup m = none ∧ t ρ h1 (fun ws h2 => sp (.ref a :: ws) h2 Q (fun _ _ _ _ => False)) E
    | _ => False
  | _ => False) E
theorem wMeth_mo (mp : MoP sp) (mo : MoE to) (mt : MoA t) : MoE (wMeth C m sp to t) := fun ρ h Q Q' E E' hq he q => mo ρ h _ _ _ _ (fun x h1 q1 => by
  cases x <;> first | exact q1.elim | skip
  rename_i a
  dsimp only at q1 ⊢
  split
  · rename_i C' fs e1
    rw [e1] at q1
    exact ⟨q1.1, q1.2.1, mt ρ h1 _ _ _ _ (fun ws h2 q2 => mp _ h2 _ _ _ _ hq (fun _ _ _ _ z => z) q2) he q1.2.2⟩
  · rename_i z
    split at q1
    · rename_i e1
      exact (z _ _ e1).elim
    · exact q1) he q
theorem PDen.lookN {K : PySem.W.Frag} {H : Hp} (n : Str) : ∀ {fs : List (Str × Wv)} {gs : List (Str × V)}, PDen K H fs gs → (fs.lookup n = none ∧ gs.lookup n = none) ∨ ∃ w v, fs.lookup n = some w ∧ gs.lookup n = some v ∧ Den K H w v
  | _, _, .nil => .inl ⟨rfl, rfl⟩
  | p :: r, q :: t, .cons h hs => by
    obtain ⟨p1, p2⟩ := p
    obtain ⟨q1, q2⟩ := q
    obtain ⟨h1, h2⟩ := h
    simp only at h1 h2
    subst h1
    cases c : (n == p1) with
    | true =>
      refine .inr ⟨p2, q2, ?_, ?_, h2⟩ <;> simp [List.lookup, c]
    | false =>
      have e1 : List.lookup n ((p1, p2) :: r) = List.lookup n r := by simp [List.lookup, c]
      have e2 : List.lookup n ((p1, q2) :: t) = List.lookup n t := by simp [List.lookup, c]
      rw [e1, e2]
      exact PDen.lookN n hs
theorem li_meth (mp : MoP sp) (mo : MoE to) (mt : MoA t) {σ : L2.St} {H : Hp} {Q : VK} (q : liE X.K Z (wMeth C m sp to t) σ H Q) : tMeth C m (liP X.K sp) [] E0 (liE X.K Z to) (liA X.K Z t) σ H Q := by
  obtain ⟨ρ, h, rs, rh, q⟩ := q
  refine li_then (E := fun _ _ _ _ => False) mo rs rh q fun x h1 v H1 g1 r1 d1 q1 => ?_
  cases x <;> first | exact q1.elim | skip
  rename_i a
  dsimp only at q1
  split at q1
  · rename_i C' fs e1
    obtain ⟨rfl, l, q2⟩ := q1
    obtain ⟨u, hu, od⟩ := r1 a _ e1
    cases od with
    | @ins _ dx _ gs r =>
      refine ⟨a, dx, gs, d1, hu, ?_, ?_⟩
      · rcases PDen.lookN m r with ⟨_, z⟩ | ⟨w, v', z, _, _⟩
        · exact z
        · rw [l] at z
          cases z
      · have q2' := mt ρ h1 _ _ _ (exQ X.K H1 fun cls d H' => Z cls d σ H') (fun _ _ z => z) (exQ_back g1) q2
        refine liA_then mt (rs.grow g1) r1 q2' fun ws h2 vs H2 g2 r2 d2 q3 => ?_
        rw [List.append_nil]
        have d1 : v = .ref a := d1
        exact ⟨.ref a :: ws, h2, .cons d1 d2, r2, mp _ h2 _ _ _ _ (fun w h3 q4 => q4.back (g1.trans g2)) (fun _ _ _ _ z => z.elim) q3⟩
  · exact q1.elim
theorem jmeth (c : Cls X.K C) (hm : Meth X.K C m f) (F : FnOk X.prog X.w X.K X.mg X.base (L2.CX X.prog X.w) k f fd ps (liP X.K sp)) (mp : MoP sp) (hr : Room k X.A) (hb : Binds X.K fd ps []) (ho : JE X Z o to) (ha : JAn X Z (e :: es) t) {pl : Sem Bool}
    (hst : starEach (e :: es) X.env = (false, eval e X.env) :: starEach es X.env := by rfl) (hpl : (backTo pos (starEach es X.env)).any (·.1) = false := by rfl)
    (ht : eval (.Call (.Attribute o m apos) (e :: es) [] pos) X.env = (do
      let ov ← eval o X.env
      standAt apos.atName
      let (f, first) ← holding [ov] (getMethod ov m pl)
      callWith pos f first (backTo pos (starEach (e :: es) X.env)) (backToKw pos (keywordEach [] X.env))) := by rfl) :
    JE X Z (.Call (.Attribute o m apos) (e :: es) [] pos) (wMeth C m sp to t) where
  mo := wMeth_mo mp ho.mo ha.mo
  pe := imE (pe_meth ho.pe c hm F hr hb .nil passL ha.pa hst hpl ht) fun σ H Q q => li_meth mp ho.mo ha.mo q
/-- C(..) -/
def wMake (C : Addr) (sp : WSp) (t : TWA) : TWE := fun ρ h Q E => t ρ h (fun ws h1 => ∀ x, h1 x = none → sp (.ref x :: ws) (wup h1 x (.ins C [])) (fun w h2 => w = .non ∧ Q (.ref x) h2) (fun _ _ _ _ => False)) E
theorem jmake (M : Mk X.K C f) (F : FnOk X.prog X.w X.K X.mg X.base (L2.CX X.prog X.w) k f fd ps (liP X.K sp)) (mp : MoP sp) (hr : Room (k + 1) X.A) (hm : X.mg x = some (.ref C)) (hb : Binds X.K fd ps []) (ha : JAn X Z (e :: es) t) (hg : Gl X x := by rfl)
    (hdb : (x == ("__debug__" : Str)) = false := by decide) (he : starEach (e :: es) X.env = (false, eval e X.env) :: starEach es X.env := by rfl) (hpl : (backTo pos (starEach es X.env)).any (·.1) = false := by rfl) :
    JE X Z (.Call (.Name x p) (e :: es) [] pos) (wMake C sp t) where
  mo := fun ρ h Q Q' E E' hq he q => ha.mo ρ h _ _ _ _ (fun ws h1 q1 x hx => mp _ _ _ _ _ _ (fun w h2 q2 => ⟨q2.1, hq _ _ q2.2⟩) (fun _ _ _ _ z => z) (q1 x hx)) he q
  pe := imE (pe_make M F hr hg hm hb .nil passL ha.pa hdb he hpl) fun σ H Q ⟨ρ, h, rs, rh, q⟩ => by
    refine liA_then ha.mo rs rh q fun ws h1 vs H1 g1 r1 d1 q1 x dx hx hdx ne => ?_
    rw [List.append_nil]
    have gd : Grow X.K H1 (upd H1 dx (.own x)) := grow_new hdx
    have hx' : upd H1 dx (.own x) x = none := by rw [upd_ne (Ne.symm ne)]; exact hx
    have g2 : Grow X.K H1 (upd (upd H1 dx (.own x)) x (.ins C dx [])) := gd.trans (grow_new hx')
    refine ⟨.ref x :: ws, _, .cons rfl (d1.grow g2), (r1.hid hdx).new hx' (.ins .nil), mp _ _ _ _ _ _ (fun w h2 q2 v H2 g3 r2 d2 => ?_) (fun _ _ _ _ z => z.elim) (q1 x (r1.none hx))⟩
    obtain ⟨rfl, q3⟩ := q2
    exact ⟨d2, q3 _ H2 ((g1.trans g2).trans g3) r2 rfl⟩
/-! ### fields -/
def wFld (C : Addr) (f : Str) (to : TWE) : TWE := fun ρ h Q E => to ρ h (fun x h1 => match x with
  | .ref a => match h1 a with
    | some (.ins C' fs) => C' = C ∧ (match fs.lookup f with
      | some w => Q w h1
      | none => False)
    | _ => False
  | _ => False) E
theorem jfld {n : Str} (c : Cls X.K C) (na : NoAttr X.K C n) (ho : JE X Z o to) (hb : attributeBase o n X.env (eval o X.env) = eval o X.env := by rfl) : JE X Z (.Attribute o n pos) (wFld C n to) where
  mo := fun ρ h Q Q' E E' hq he q => ho.mo ρ h _ _ _ _ (fun x h1 q1 => by
    cases x <;> first | exact q1.elim | skip
    rename_i a
    dsimp only at q1 ⊢
    split
    · rename_i C' fs e1
      rw [e1] at q1
      refine ⟨q1.1, ?_⟩
      have q1 := q1.2
      split
      · rename_i e2
        rw [e2] at q1
        exact hq _ _ q1
      · rename_i e2
        rw [e2] at q1
        exact q1
    · rename_i z
      split at q1
      · rename_i e1
        exact (z _ _ e1).elim
      · exact q1) he q
  pe := imE (pe_fld ho.pe hb) fun σ H Q ⟨ρ, h, rs, rh, q⟩ => by
    refine li_then (E := fun _ _ _ _ => False) ho.mo rs rh q fun x h1 v H1 g1 r1 d1 q1 => ?_
    cases x <;> first | exact q1.elim | skip
    rename_i a
    dsimp only at q1
    split at q1
    · rename_i C' fs e1
      obtain ⟨rfl, q2⟩ := q1
      obtain ⟨u, hu, od⟩ := r1 a _ e1
      cases od with
      | @ins _ dx _ gs r =>
        split at q2
        · rename_i w e2
          rcases PDen.lookN n r with ⟨z, _⟩ | ⟨w', v', z, z', dv⟩
          · rw [e2] at z
            cases z
          · rw [e2] at z
            cases z
            exact ⟨a, C', dx, gs, v', d1, hu, c, na, z', q2 v' H1 g1 r1 dv⟩
        · exact q2.elim
    · exact q1.elim
end
end Pd
set_option Elab.async false
set_option linter.all false
set_option maxRecDepth 100000
set_option maxHeartbeats 4000000
namespace Pd
open PySem PySem.Spec PyProof.Rows L2
/-! ### built-in functions and methods by values -/
inductive Ro where
  | val (w : Wv)
  | new (o : Wo)
  | put (a : Addr) (o : Wo) (w : Wv)
def outO : Option Ro → WH → WQ → Prop
  | some (.val w), h, Q => Q w h
  | some (.new o), h, Q => ∀ p, h p = none → Q (.ref p) (wup h p o)
  | some (.put a o w), h, Q => Q w (wup h a o)
  | none, _, _ => False
theorem outO_mo {r : Option Ro} {h : WH} {Q Q' : WQ} (hq : ∀ w h', Q w h' → Q' w h') (q : outO r h Q) : outO r h Q' := by
  match r, q with
  | some (.val w), q => exact hq _ _ q
  | some (.new o), q => exact fun p hp => hq _ _ (q p hp)
  | some (.put a o w), q => exact hq _ _ q
theorem outO_back {r : Option Ro} {K : PySem.W.Frag} {H H1 : Hp} {h : WH} {Q : VK} (g : Grow K H H1) (q : outO r h (okQ K H Q)) : outO r h (okQ K H1 Q) := outO_mo (fun _ _ q => q.back g) q
abbrev FC := List Wv → WH → Option Ro
abbrev FM := Wv → List Wv → WH → Option Ro
def SndC (K : PySem.W.Frag) (r : List V → Hp → VK → Prop) (F : FC) : Prop := ∀ (H : Hp) (h : WH) (ws : List Wv) (vs : List V) (Q : VK), RelH K h H → DenL K H ws vs → outO (F ws h) h (okQ K H Q) → r vs H Q
def SndM (K : PySem.W.Frag) (r : V → List V → Hp → VK → Prop) (F : FM) : Prop := ∀ (H : Hp) (h : WH) (w : Wv) (v : V) (ws : List Wv) (vs : List V) (Q : VK), RelH K h H → Den K H w v → DenL K H ws vs → outO (F w ws h) h (okQ K H Q) → r v vs H Q
def orC (F G : FC) : FC := fun ws h => (F ws h).orElse fun _ => G ws h
theorem SndC.or {K : PySem.W.Frag} {r r' : List V → Hp → VK → Prop} {F G : FC} (S : SndC K r F) (S' : SndC K r' G) : SndC K (fun xs H Q => r xs H Q ∨ r' xs H Q) (orC F G) := fun H h ws vs Q rh d q => by
  have q : outO ((F ws h).orElse fun _ => G ws h) h (okQ K H Q) := q
  cases e : F ws h with
  | some x =>
    rw [e] at q
    exact .inl (S H h ws vs Q rh d (by rw [e]; exact q))
  | none =>
    rw [e] at q
    exact .inr (S' H h ws vs Q rh d q)
def wCB (F : FC) (t : TWA) : TWE := fun ρ h Q E => t ρ h (fun ws h1 => outO (F ws h1) h1 Q) E
theorem wCB_mo {F : FC} {t : TWA} (m : MoA t) : MoE (wCB F t) := fun ρ h Q Q' E E' hq he q => m ρ h _ _ _ _ (fun ws h1 q1 => outO_mo hq q1) he q
def tyW (T : String) : Wv → WH → Prop
  | .str _, _ => T = "str"
  | .ref a, h => (T = "list" ∧ ∃ ws, h a = some (.lst ws)) ∨ (T = "dict" ∧ ((∃ kvs, h a = some (.dK kvs)) ∨ ∃ kvs, h a = some (.dT kvs)))
  | _, _ => False
theorem tyW_tyV {K : PySem.W.Frag} {H : Hp} {h : WH} {T : String} {w : Wv} {v : V} (rh : RelH K h H) (d : Den K H w v) (t : tyW T w h) : tyV K T v H := by
  cases w with
  | str x => have d : v = .str x := d; subst d; exact t
  | ref a =>
    have d : v = .ref a := d
    subst d
    rcases t with ⟨rfl, ws, e⟩ | ⟨rfl, ⟨kvs, e⟩ | ⟨kvs, e⟩⟩
    · obtain ⟨vs, e2, _⟩ := rh.lst e
      exact .inl ⟨rfl, vs, SqL.of e2⟩
    · obtain ⟨u, e2, od⟩ := rh a _ e
      cases od
      exact .inr (.inr (.inl ⟨rfl, .inl ⟨_, e2⟩⟩))
    · obtain ⟨u, e2, od⟩ := rh a _ e
      cases od
      exact .inr (.inr (.inl ⟨rfl, .inr ⟨_, e2⟩⟩))
  | non => exact t.elim
  | bl _ => exact t.elim
  | int _ => exact t.elim
  | tup _ => exact t.elim
  | scr _ => exact t.elim
def wBM (T : String) (F : FM) (to : TWE) (t : TWA) : TWE := fun ρ h Q E => to ρ h (fun x h1 => tyW T x h1 ∧ t ρ h1 (fun ws h2 => outO (F x ws h2) h2 Q) E) E
def wBM0 (T : String) (F : FM) (to : TWE) : TWE := fun ρ h Q E => to ρ h (fun x h1 => tyW T x h1 ∧ outO (F x [] h1) h1 Q) E
section
variable {X : Cx} {Z : L2.WX} {a b c e o : Expr} {ta tb tc te to : TWE} {t : TWA} {pos p apos cpos : Pos} {es rest : List Expr} {x name : Str} {id T : String} {r : List V → Hp → VK → Prop} {rm : V → List V → Hp → VK → Prop} {F : FC} {Fm : FM}
theorem li_cb (S : SndC X.K r F) (m : MoA t) {σ : L2.St} {H : Hp} {Q : VK} (q : liE X.K Z (wCB F t) σ H Q) : tCB r (liA X.K Z t) σ H Q := by
  obtain ⟨ρ, h, rs, rh, q⟩ := q
  refine liA_then m rs rh q fun ws h1 vs H1 g1 r1 d1 q1 => ?_
  exact S H1 h1 ws vs Q r1 d1 (outO_back g1 q1)
theorem jcb (S : SndC X.K r F) (hc : CallR X (.builtin id) r) (ha : JAn X Z (e :: es) t) (hm : X.mg x = none) (hv : bootBuiltins x = some (.builtin id) := by rfl) (hg : Gl X x := by rfl) (hn : x ≠ "__name__" := by decide) (hdb : (x == ("__debug__" : Str)) = false := by decide)
    (he : starEach (e :: es) X.env = (false, eval e X.env) :: starEach es X.env := by rfl) (hpl : (backTo pos (starEach es X.env)).any (·.1) = false := by rfl) : JE X Z (.Call (.Name x p) (e :: es) [] pos) (wCB F t) where
  mo := wCB_mo ha.mo
  pe := imE (pe_callB hc hg hm hv ha.pa hn hdb he hpl) fun σ H Q q => li_cb S ha.mo q
theorem jct (S : SndC X.K r F) (hc : CallR X (.type T) r) (ha : JAn X Z (e :: es) t) (hm : X.mg x = none) (hv : bootBuiltins x = some (.type T) := by rfl) (hg : Gl X x := by rfl) (hn : x ≠ "__name__" := by decide) (hdb : (x == ("__debug__" : Str)) = false := by decide)
    (he : starEach (e :: es) X.env = (false, eval e X.env) :: starEach es X.env := by rfl) (hpl : (backTo pos (starEach es X.env)).any (·.1) = false := by rfl) : JE X Z (.Call (.Name x p) (e :: es) [] pos) (wCB F t) where
  mo := wCB_mo ha.mo
  pe := imE (pe_callTy hc hg hm hv ha.pa hn hdb he hpl) fun σ H Q q => li_cb S ha.mo q
theorem jbm (pa : PlainAttrs T) (slot : Slot T name id) (hty : typeOf (.builtin id) = pure (.type "method_descriptor")) (hm : MtR X id rm) (S : SndM X.K rm Fm) (ho : JE X Z o to) (ha : JAn X Z (e :: es) t)
    (hbase : attributeBase o name X.env (eval o X.env) = eval o X.env := by rfl)
    (hfew : ((backTo cpos (starEach (e :: es) X.env)).all (fun x => !x.1) && (backToKw cpos (keywordEach [] X.env)).all (fun x => x.1.isSome)
      && decide ((e :: es).length + ([] : List Keyword).length + (if ([] : List Keyword).isEmpty then 0 else 1) < 30)) = true := by rfl)
    (hline : (apos.endLine == cpos.line) = true := by rfl) (hs : starEach (e :: es) X.env = (false, eval e X.env) :: starEach es X.env := by rfl) (hplain : (backTo cpos (starEach es X.env)).any (·.1) = false := by rfl) :
    JE X Z (.Call (.Attribute o name apos) (e :: es) [] cpos) (wBM T Fm to t) where
  mo := fun ρ h Q Q' E E' hq he q => ho.mo ρ h _ _ _ _ (fun x h1 q1 => ⟨q1.1, ha.mo ρ h1 _ _ _ _ (fun ws h2 q2 => outO_mo hq q2) he q1.2⟩) he q
  pe := imE (pe_bm pa slot hty hm ho.pe ha.pa hbase hfew hline hs hplain) fun σ H Q ⟨ρ, h, rs, rh, q⟩ => by
    refine li_then (E := fun _ _ _ _ => False) ho.mo rs rh q fun x h1 v H1 g1 r1 d1 q1 => ?_
    refine ⟨tyW_tyV r1 d1 q1.1, ?_⟩
    have q1' := ha.mo ρ h1 _ _ _ (exQ X.K H1 fun cls d H' => Z cls d σ H') (fun _ _ z => z) (exQ_back g1) q1.2
    refine liA_then ha.mo (rs.grow g1) r1 q1' fun ws h2 vs H2 g2 r2 d2 q2 => ?_
    exact S H2 h2 x v ws vs Q r2 (Den.grow g2 _ d1) d2 (outO_back (g1.trans g2) q2)
theorem jbm0 (pa : PlainAttrs T) (slot : Slot T name id) (hty : typeOf (.builtin id) = pure (.type "method_descriptor")) (hm : MtR X id rm) (S : SndM X.K rm Fm) (ho : JE X Z o to)
    (hbase : attributeBase o name X.env (eval o X.env) = eval o X.env := by rfl) (hline : (apos.endLine == cpos.line) = true := by rfl) : JE X Z (.Call (.Attribute o name apos) [] [] cpos) (wBM0 T Fm to) where
  mo := fun ρ h Q Q' E E' hq he q => ho.mo ρ h _ _ _ _ (fun x h1 q1 => ⟨q1.1, outO_mo hq q1.2⟩) he q
  pe := imE (pe_bm0 pa slot hty hm ho.pe hbase hline) fun σ H Q ⟨ρ, h, rs, rh, q⟩ => by
    refine li_then (E := fun _ _ _ _ => False) ho.mo rs rh q fun x h1 v H1 g1 r1 d1 q1 => ?_
    exact ⟨tyW_tyV r1 d1 q1.1, S H1 h1 x v [] [] Q r1 d1 .nil (outO_back g1 q1.2)⟩
/-! ### one argument, two -/
theorem DenL.inv1 {K : PySem.W.Frag} {H : Hp} {w : Wv} {vs : List V} (d : DenL K H [w] vs) : ∃ v, vs = [v] ∧ Den K H w v := by
  obtain ⟨v, vs', rfl, d1, d2⟩ := d
  have d2 : vs' = [] := d2
  subst d2
  exact ⟨v, rfl, d1⟩
theorem DenL.inv2 {K : PySem.W.Frag} {H : Hp} {w u : Wv} {vs : List V} (d : DenL K H [w, u] vs) : ∃ v x, vs = [v, x] ∧ Den K H w v ∧ Den K H u x := by
  obtain ⟨v, vs', rfl, d1, d2⟩ := d
  obtain ⟨x, rfl, d3⟩ := DenL.inv1 d2
  exact ⟨v, x, rfl, d1, d3⟩
def C1 (F : Wv → WH → Option Ro) : FC
  | [w], h => F w h
  | _, _ => none
def C2 (F : Wv → Wv → WH → Option Ro) : FC
  | [w, u], h => F w u h
  | _, _ => none
theorem sndC1 {K : PySem.W.Frag} {F : Wv → WH → Option Ro} (S : ∀ (H : Hp) (h : WH) (w : Wv) (v : V) (Q : VK), RelH K h H → Den K H w v → outO (F w h) h (okQ K H Q) → r [v] H Q) : SndC K r (C1 F) := fun H h ws vs Q rh d q => by
  match ws with
  | [w] =>
    obtain ⟨v, rfl, d1⟩ := DenL.inv1 d
    exact S H h w v Q rh d1 q
  | [] => exact q.elim
  | _ :: _ :: _ => exact q.elim
theorem sndC2 {K : PySem.W.Frag} {F : Wv → Wv → WH → Option Ro} (S : ∀ (H : Hp) (h : WH) (w u : Wv) (v x : V) (Q : VK), RelH K h H → Den K H w v → Den K H u x → outO (F w u h) h (okQ K H Q) → r [v, x] H Q) : SndC K r (C2 F) := fun H h ws vs Q rh d q => by
  match ws with
  | [w, u] =>
    obtain ⟨v, x, rfl, d1, d2⟩ := DenL.inv2 d
    exact S H h w u v x Q rh d1 d2 q
  | [] => exact q.elim
  | [_] => exact q.elim
  | _ :: _ :: _ :: _ => exact q.elim
theorem items_sq {K : PySem.W.Frag} {H : Hp} {h : WH} (rh : RelH K h H) {w : Wv} {v : V} {ws : List Wv} (d : Den K H w v) (e : itemsO h w = some ws) : ∃ p vs, v = .ref p ∧ ((H p = some (.lst vs) ∧ w = .ref p) ∨ (H p = some (.tup vs) ∧ w = .tup ws)) ∧ DenL K H ws vs := by
  cases w <;> simp [itemsO] at e
  · subst e
    obtain ⟨p, vs, e1, e2, l⟩ := d
    exact ⟨p, vs, e1, .inr ⟨e2, rfl⟩, l⟩
  · rename_i a
    have d : v = .ref a := d
    split at e
    · rename_i ws' e'
      simp at e
      subst e
      obtain ⟨vs, e3, l⟩ := rh.lst e'
      exact ⟨a, vs, d, .inl ⟨e3, rfl⟩, l⟩
    · cases e
/-- a list's or a tuple's items, then f -/
def onItems (f : List Wv → Option Ro) : Wv → WH → Option Ro := fun w h => (itemsO h w).bind f
theorem out_bind {α : Type} {o : Option α} {f : α → Option Ro} {h : WH} {Q : WQ} (q : outO (o.bind f) h Q) : ∃ x, o = some x ∧ outO (f x) h Q := by
  cases o with
  | none => exact q.elim
  | some x => exact ⟨x, rfl, q⟩
/-! ### len -/
def lenL : Wv → WH → Option Ro := onItems fun ws => some (.val (.int ws.length))
def lenS : Wv → WH → Option Ro
  | .str z, _ => if z.length ≤ sizeLine then some (.val (.int z.length)) else none
  | _, _ => none
def lenF : FC := orC (C1 lenL) (C1 lenS)
theorem call_lenLS : CallR X (.builtin "len") (fun xs H Q => (∃ x n, xs = [x] ∧ LenV X.K x H n ∧ Q (.int n) H) ∨ (∃ x n, xs = [x] ∧ LenV X.K x H n ∧ Q (.int n) H)) := CallR.or call_len call_len
theorem snd_len {K : PySem.W.Frag} : SndC K (fun xs H Q => (∃ x n, xs = [x] ∧ LenV K x H n ∧ Q (.int n) H) ∨ (∃ x n, xs = [x] ∧ LenV K x H n ∧ Q (.int n) H)) lenF := SndC.or
  (sndC1 fun H h w v Q rh d q => by
    obtain ⟨ws, e, q⟩ := out_bind q
    obtain ⟨p, vs, rfl, k, l⟩ := items_sq rh d e
    refine ⟨_, ws.length, rfl, ?_, q _ H (Grow.refl _ _) rh rfl⟩
    rcases k with ⟨k, _⟩ | ⟨k, _⟩
    · exact .inl ⟨vs, SqL.of k, l.length⟩
    · exact .inr ⟨vs, SqT.of k, l.length⟩)
  (sndC1 fun H h w v Q rh d q => by
    cases w <;> first | exact q.elim | skip
    rename_i z
    have d : v = .str z := d
    subst d
    have q : outO (if z.length ≤ sizeLine then some (.val (.int z.length)) else none) h (okQ K H Q) := q
    split at q
    · rename_i c
      exact ⟨_, z.length, rfl, ⟨c, rfl⟩, q _ H (Grow.refl _ _) rh rfl⟩
    · exact q.elim)
theorem jlen (hm : X.mg "len" = none) (ha : JAn X Z [e] t) (hg : Gl X "len" := by rfl) (he : starEach [e] X.env = (false, eval e X.env) :: starEach [] X.env := by rfl) : JE X Z (.Call (.Name "len" p) [e] [] pos) (wCB lenF t) := jcb snd_len call_lenLS ha hm (hg := hg) (he := he)
/-! ### int, abs -/
def int1 : Wv → WH → Option Ro
  | .int i, _ => some (.val (.int i))
  | .bl k, _ => some (.val (.int (if k then 1 else 0)))
  | _, _ => none
theorem snd_int {K : PySem.W.Frag} : SndC K (fun xs H Q => (∃ i, xs = [.int i] ∧ Q (.int i) H) ∨ ∃ k, xs = [.bl k] ∧ Q (.int (if k then 1 else 0)) H) (C1 int1) := sndC1 fun H h w v Q rh d q => by
  cases w <;> first | exact q.elim | skip
  · rename_i k
    have d : v = .bl k := d
    subst d
    exact .inr ⟨k, rfl, q _ H (Grow.refl _ _) rh rfl⟩
  · rename_i i
    have d : v = .int i := d
    subst d
    exact .inl ⟨i, rfl, q _ H (Grow.refl _ _) rh rfl⟩
theorem jint1 (hm : X.mg "int" = none) (ha : JAn X Z [e] t) (hg : Gl X "int" := by rfl) (he : starEach [e] X.env = (false, eval e X.env) :: starEach [] X.env := by rfl) : JE X Z (.Call (.Name "int" p) [e] [] pos) (wCB (C1 int1) t) := jct snd_int call_int1 ha hm (hg := hg) (he := he)
def abs1 : Wv → WH → Option Ro
  | .int i, _ => some (.val (.int (if i < 0 then -i else i)))
  | _, _ => none
theorem snd_abs {K : PySem.W.Frag} : SndC K (fun xs H Q => ∃ i, xs = [.int i] ∧ Q (.int (if i < 0 then -i else i)) H) (C1 abs1) := sndC1 fun H h w v Q rh d q => by
  cases w <;> first | exact q.elim | skip
  rename_i i
  have d : v = .int i := d
  subst d
  exact ⟨i, rfl, q _ H (Grow.refl _ _) rh rfl⟩
theorem jabs (hm : X.mg "abs" = none) (ha : JAn X Z [e] t) (hg : Gl X "abs" := by rfl) (he : starEach [e] X.env = (false, eval e X.env) :: starEach [] X.env := by rfl) : JE X Z (.Call (.Name "abs" p) [e] [] pos) (wCB (C1 abs1) t) := jcb snd_abs call_abs ha hm (hg := hg) (he := he)
/-! ### list(..), tuple(..) of a list, a tuple -/
def list1 : Wv → WH → Option Ro := onItems fun ws => some (.new (.lst ws))
theorem snd_list {K : PySem.W.Frag} : SndC K (fun xs H Q => ∃ p ys, xs = [.ref p] ∧ (SqL K H p ys ∨ SqT K H p ys) ∧ ∀ l, H l = none → Q (.ref l) (upd H l (.lst ys))) (C1 list1) := sndC1 fun H h w v Q rh d q => by
  obtain ⟨ws, e, q⟩ := out_bind q
  obtain ⟨p, vs, rfl, k, l⟩ := items_sq rh d e
  refine ⟨p, vs, rfl, ?_, fun z hz => q z (rh.none hz) _ _ (grow_new hz) (rh.new hz (.lst l)) rfl⟩
  rcases k with ⟨k, _⟩ | ⟨k, _⟩
  · exact .inl (SqL.of k)
  · exact .inr (SqT.of k)
theorem jlist1 (hm : X.mg "list" = none) (ha : JAn X Z [e] t) (hg : Gl X "list" := by rfl) (he : starEach [e] X.env = (false, eval e X.env) :: starEach [] X.env := by rfl) : JE X Z (.Call (.Name "list" p) [e] [] pos) (wCB (C1 list1) t) := jct snd_list call_list_of ha hm (hg := hg) (he := he)
/-- list(script) -/
def listZ1 : Wv → WH → Option Ro
  | .scr ns, _ => some (.new (.lst (ns.map .int)))
  | _, _ => none
theorem snd_listZ {K : PySem.W.Frag} : SndC K (fun xs H Q => ∃ p ys, xs = [.ref p] ∧ (SqL K H p ys ∨ SqT K H p ys) ∧ ∀ l, H l = none → Q (.ref l) (upd H l (.lst ys))) (C1 listZ1) := sndC1 fun H h w v Q rh d q => by
  cases w <;> first | exact q.elim | skip
  rename_i ns
  obtain ⟨a, rfl, s⟩ := d
  exact ⟨a, _, rfl, .inl s.seq, fun z hz => q z (rh.none hz) _ _ (grow_new hz) (rh.new hz (.lst (DenL.of_ints ns))) rfl⟩
theorem jlistZ (hm : X.mg "list" = none) (ha : JAn X Z [e] t) (hg : Gl X "list" := by rfl) (he : starEach [e] X.env = (false, eval e X.env) :: starEach [] X.env := by rfl) : JE X Z (.Call (.Name "list" p) [e] [] pos) (wCB (C1 listZ1) t) := jct snd_listZ call_list_of ha hm (hg := hg) (he := he)
/-- len(script) -/
def lenZ1 : Wv → WH → Option Ro
  | .scr ns, _ => some (.val (.int ns.length))
  | _, _ => none
def tup1 : Wv → WH → Option Ro := onItems fun ws => some (.val (.tup ws))
theorem snd_tup {K : PySem.W.Frag} : SndC K (fun xs H Q => ∃ p ys, xs = [.ref p] ∧ ((SqL K H p ys ∧ ∀ l, H l = none → Q (.ref l) (upd H l (.tup ys))) ∨ (SqT K H p ys ∧ Q (.ref p) H))) (C1 tup1) := sndC1 fun H h w v Q rh d q => by
  obtain ⟨ws, e, q⟩ := out_bind q
  obtain ⟨p, vs, rfl, k, l⟩ := items_sq rh d e
  refine ⟨p, vs, rfl, ?_⟩
  rcases k with ⟨k, _⟩ | ⟨k, rfl⟩
  · exact .inl ⟨SqL.of k, fun z hz => q _ _ (grow_new hz) (rh.hid hz) ⟨z, vs, rfl, upd_same, l.grow (grow_new hz)⟩⟩
  · exact .inr ⟨SqT.of k, q _ H (Grow.refl _ _) rh ⟨p, vs, rfl, k, l⟩⟩
theorem jtuple1 (hm : X.mg "tuple" = none) (ha : JAn X Z [e] t) (hg : Gl X "tuple" := by rfl) (he : starEach [e] X.env = (false, eval e X.env) :: starEach [] X.env := by rfl) : JE X Z (.Call (.Name "tuple" p) [e] [] pos) (wCB (C1 tup1) t) := jct snd_tup call_tuple_of ha hm (hg := hg) (he := he)
/-! ### sum of ints -/
def intsOf : List Wv → Option (List Int)
  | [] => some []
  | .int i :: r => (intsOf r).map fun ns => i :: ns
  | _ :: _ => none
theorem intsOf_eq : ∀ {ws : List Wv} {ns : List Int}, intsOf ws = some ns → ws = ns.map Wv.int
  | [], ns, e => by simp [intsOf] at e; subst e; rfl
  | w :: r, ns, e => by
    cases w <;> simp [intsOf] at e
    obtain ⟨ns', e1, rfl⟩ := e
    rw [intsOf_eq e1]
    rfl
theorem intsOf_map : ∀ (ns : List Int), intsOf (ns.map Wv.int) = some ns
  | [] => rfl
  | n :: r => by simp [intsOf, intsOf_map r]
def lstO (h : WH) : Wv → Option (List Wv)
  | .ref a => match h a with
    | some (.lst ws) => some ws
    | _ => none
  | _ => none
theorem lstO_sq {K : PySem.W.Frag} {H : Hp} {h : WH} (rh : RelH K h H) {w : Wv} {v : V} {ws : List Wv} (d : Den K H w v) (e : lstO h w = some ws) : ∃ p vs, w = .ref p ∧ v = .ref p ∧ h p = some (.lst ws) ∧ H p = some (.lst vs) ∧ DenL K H ws vs := by
  cases w <;> simp [lstO] at e
  rename_i a
  have d : v = .ref a := d
  split at e
  · rename_i ws' e'
    simp at e
    subst e
    obtain ⟨vs, e3, l⟩ := rh.lst e'
    exact ⟨a, vs, rfl, d, e', e3, l⟩
  · cases e
def sum1 : Wv → WH → Option Ro := fun w h => (lstO h w).bind fun ws => (intsOf ws).bind fun ns => some (.val (.int ns.sum))
theorem snd_sum {K : PySem.W.Frag} : SndC K (rSum K) (C1 sum1) := sndC1 fun H h w v Q rh d q => by
  obtain ⟨ws, e1, q1⟩ := out_bind q
  obtain ⟨ns, e, q2⟩ := out_bind q1
  obtain rfl := intsOf_eq e
  obtain ⟨p, vs, rfl, rfl, _, e3, l⟩ := lstO_sq rh d e1
  obtain rfl := l.ints
  have q3 : okQ K H Q (.int ns.sum) h := q2
  exact ⟨p, ns, rfl, SqL.of e3, q3 _ H (Grow.refl _ _) rh rfl⟩
theorem jsum (hc : X.calm = true) (hm : X.mg "sum" = none) (ha : JAn X Z [e] t) (hg : Gl X "sum" := by rfl) (he : starEach [e] X.env = (false, eval e X.env) :: starEach [] X.env := by rfl) : JE X Z (.Call (.Name "sum" p) [e] [] pos) (wCB (C1 sum1) t) := jcb snd_sum (cr_sum hc) ha hm (hg := hg) (he := he)
/-! ### isinstance -/
def tyName (h : WH) : Wv → Option String
  | .non => some "NoneType"
  | .bl _ => some "bool"
  | .int _ => some "int"
  | .str _ => some "str"
  | .tup _ => some "tuple"
  | .scr _ => none
  | .ref a => match h a with
    | some (.lst _) => some "list"
    | some (.dK _) => some "dict"
    | some (.dT _) => some "dict"
    | _ => none
theorem tyName_tyx {K : PySem.W.Frag} {H : Hp} {h : WH} (rh : RelH K h H) {w : Wv} {v : V} {n : String} (d : Den K H w v) (e : tyName h w = some n) : TyX K H v (.type n) := by
  cases w with
  | non => have d : v = _ := d; subst d; cases e; exact .base TyOf.non
  | bl _ => have d : v = _ := d; subst d; cases e; exact .base (TyOf.bl _)
  | int _ => have d : v = _ := d; subst d; cases e; exact .base (TyOf.int _)
  | str _ => have d : v = _ := d; subst d; cases e; exact .base (TyOf.str _)
  | tup _ => obtain ⟨a, vs, rfl, hp, _⟩ := d; cases e; exact .base (TyOf.tup hp)
  | scr _ => cases e
  | ref a =>
    have d : v = .ref a := d
    subst d
    have e : (match h a with
      | some (.lst _) => some "list"
      | some (.dK _) => some "dict"
      | some (.dT _) => some "dict"
      | _ => none) = some n := e
    split at e
    · rename_i e1
      cases e
      obtain ⟨vs, e3, l⟩ := rh.lst e1
      exact .base (TyOf.lst e3)
    · rename_i e1
      cases e
      obtain ⟨u, e2, od⟩ := rh a _ e1
      cases od
      exact .base (TyOf.dK e2)
    · rename_i e1
      cases e
      obtain ⟨u, e2, od⟩ := rh a _ e1
      cases od
      exact .base (TyOf.dT e2)
    · cases e

/-- isinstance(e, T) -/
def isiF (T : String) : Wv → WH → Option Rs := fun w h => (tyName h w).bind fun n => (kitB n T).map fun b => .val (.bl b)
theorem jisi {p2 : Pos} (ha : JE X Z e te) (hm : X.mg "isinstance" = none) (hx : X.mg x = none) (hv : bootBuiltins x = some (.type T) := by rfl) (hg : Gl X "isinstance" := by rfl) (hgx : Gl X x := by rfl) (hn : x ≠ "__name__" := by decide) (hdb : (x == ("__debug__" : Str)) = false := by decide)
    (he : starEach [e, .Name x p2] X.env = (false, eval e X.env) :: starEach [.Name x p2] X.env := by rfl) (hpl : (backTo pos (starEach [.Name x p2] X.env)).any (·.1) = false := by rfl) :
    JE X Z (.Call (.Name "isinstance" p) [e, .Name x p2] [] pos) (wUn (isiF T) te) where
  mo := wUn_mo ha.mo
  pe := imE (pe_callB call_isi hg hm rfl (pa_cons ha.pe (pa_cons (pe_bltn hgx hx hv (v := .ty T) rfl hn hdb) pa_nil rfl) he) (he := he) (hpl := hpl)) fun σ H Q ⟨ρ, h, rs, rh, q⟩ => by
    refine li_then (E := fun _ _ _ _ => False) ha.mo rs rh q fun w h1 v H1 g1 r1 d1 q1 => ?_
    have q1 : outR ((tyName h1 w).bind fun n => (kitB n T).map fun b => .val (.bl b)) h1 (okQ X.K H Q) := q1
    cases e1 : tyName h1 w with
    | none => rw [e1] at q1; exact q1.elim
    | some n =>
      cases e2 : kitB n T with
      | none => simp only [e1, e2, Option.bind_some, Option.map_none] at q1; exact q1.elim
      | some b =>
        simp only [e1, e2, Option.bind_some, Option.map_some] at q1
        exact ⟨_, _, _, _, b, rfl, .ty T, tyName_tyx r1 d1 e1, kit_ty e2, q1 _ H1 g1 r1 rfl⟩
end
end Pd
set_option Elab.async false
set_option linter.all false
set_option maxRecDepth 100000
set_option maxHeartbeats 4000000
namespace Pd
open PySem PySem.Spec PyProof.Rows L2
/-! ### targets: patterns of names -/
inductive Pat where
  | nm (i : Nat)
  | tp (ps : List Pat)
mutual
def bindW : Pat → Wv → Wen → Option Wen
  | .nm i, w, ρ => some (ρ.set i (some w))
  | .tp ps, .tup ws, ρ => bindWs ps ws ρ
  | .tp _, _, _ => none
def bindWs : List Pat → List Wv → Wen → Option Wen
  | [], [], ρ => some ρ
  | p :: ps, w :: ws, ρ => (bindW p w ρ).bind fun ρ' => bindWs ps ws ρ'
  | _, _, _ => none
end
mutual
def gP (K : PySem.W.Frag) : Pat → TG
  | .nm i => gName i
  | .tp ps => gTup K ps.length (gPs K ps)
def gPs (K : PySem.W.Frag) : List Pat → TGs
  | [] => gNil
  | p :: ps => gCons (gP K p) (gPs K ps)
end
mutual
def slotsP : Pat → List Nat
  | .nm i => [i]
  | .tp ps => slotsPs ps
def slotsPs : List Pat → List Nat
  | [] => []
  | p :: ps => slotsP p ++ slotsPs ps
end
theorem wipe_get (σ : L2.St) : ∀ (vs : List Nat) (j : Nat), (wipe σ vs)[j]? = if j ∈ vs then (σ[j]?).map (fun _ => none) else σ[j]?
  | [], j => by simp [wipe]
  | v :: vs, j => by
    unfold wipe
    by_cases hv : v = j
    · subst hv
      by_cases hl : v < (wipe σ vs).length
      · rw [List.getElem?_set_self hl]
        have hl' : v < σ.length := by rw [wipe_length] at hl; exact hl
        simp [List.getElem?_eq_getElem hl']
      · have hl' : ¬ v < σ.length := by rw [wipe_length] at hl; exact hl
        rw [List.getElem?_eq_none (by rw [List.length_set]; omega), List.getElem?_eq_none (by omega)]
        simp
    · rw [List.getElem?_set_ne hv, wipe_get σ vs j]
      have hv' : ¬ j = v := fun e => hv e.symm
      simp [hv']
theorem wipe_set {σ : L2.St} {i : Nat} {x : Option V} {vs : List Nat} (hi : i ∈ vs) : wipe (σ.set i x) vs = wipe σ vs := by
  apply List.ext_getElem?
  intro j
  rw [wipe_get, wipe_get]
  by_cases hj : j ∈ vs
  · rw [if_pos hj, if_pos hj]
    by_cases e : i = j
    · subst e
      by_cases hl : i < σ.length
      · rw [List.getElem?_set_self hl, List.getElem?_eq_getElem hl]
        rfl
      · rw [List.getElem?_eq_none (by rw [List.length_set]; omega), List.getElem?_eq_none (by omega)]
    · rw [List.getElem?_set_ne e]
  · rw [if_neg hj, if_neg hj, List.getElem?_set_ne ((by rintro rfl; exact hj hi))]
section
variable {K : PySem.W.Frag} {H : Hp}
mutual
theorem bindW_ok : ∀ (p : Pat) {w : Wv} {v : V} {ρ ρ' : Wen} {σ : L2.St}, RelS K H ρ σ → Den K H w v → bindW p w ρ = some ρ' →
    ∃ σ', RelS K H ρ' σ' ∧ (∀ vs, (∀ i, i ∈ slotsP p → i ∈ vs) → wipe σ' vs = wipe σ vs) ∧ ∀ Q : L2.St → Hp → Prop, Q σ' H → gP K p v σ H Q
  | .nm i, w, v, ρ, ρ', σ, rs, d, e => by
    have e : some (ρ.set i (some w)) = some ρ' := e
    cases e
    exact ⟨_, rs.set d, fun vs h => wipe_set (h i (by simp [slotsP])), fun Q q => q⟩
  | .tp ps, w, v, ρ, ρ', σ, rs, d, e => by
    cases w <;> first | (simp [bindW] at e; done) | skip
    rename_i ws
    obtain ⟨a, xs, rfl, ha, l⟩ := d
    have e : bindWs ps ws ρ = some ρ' := e
    obtain ⟨σ', r1, r2, r3, r4⟩ := bindWs_ok ps rs l e
    exact ⟨σ', r1, r2, fun Q q => ⟨a, xs, rfl, SqT.of ha, r3, r4 Q q⟩⟩
theorem bindWs_ok : ∀ (ps : List Pat) {ws : List Wv} {vs : List V} {ρ ρ' : Wen} {σ : L2.St}, RelS K H ρ σ → DenL K H ws vs → bindWs ps ws ρ = some ρ' →
    ∃ σ', RelS K H ρ' σ' ∧ (∀ zs, (∀ i, i ∈ slotsPs ps → i ∈ zs) → wipe σ' zs = wipe σ zs) ∧ vs.length = ps.length ∧ ∀ Q : L2.St → Hp → Prop, Q σ' H → gPs K ps vs σ H Q
  | [], ws, vs, ρ, ρ', σ, rs, d, e => by
    cases ws <;> first | (simp [bindWs] at e; done) | skip
    have d : vs = [] := d
    subst d
    have e : some ρ = some ρ' := e
    cases e
    exact ⟨σ, rs, fun _ _ => rfl, rfl, fun Q q => ⟨rfl, q⟩⟩
  | p :: ps, ws, vs, ρ, ρ', σ, rs, d, e => by
    cases ws <;> first | (simp [bindWs] at e; done) | skip
    rename_i w ws
    obtain ⟨v, vs', rfl, d1, d2⟩ := d
    have e : (bindW p w ρ).bind (fun ρ' => bindWs ps ws ρ') = some ρ' := e
    cases e1 : bindW p w ρ with
    | none => rw [e1] at e; cases e
    | some ρ1 =>
      rw [e1] at e
      obtain ⟨σ1, r1, r2, r3⟩ := bindW_ok p rs d1 e1
      obtain ⟨σ2, s1, s2, s3, s4⟩ := bindWs_ok ps r1 d2 e
      refine ⟨σ2, s1, fun zs h => ?_, by simp [s3], fun Q q => ⟨v, vs', rfl, r3 _ (s4 Q q)⟩⟩
      rw [s2 zs fun i hi => h i (by simp [slotsPs, hi]), r2 zs fun i hi => h i (by simp [slotsPs, hi])]
end
end
structure JP (X : Cx) (tg : Expr) (p : Pat) : Prop where
  pg : PG X tg (gP X.K p)
structure JPs (X : Cx) (tg : List Expr) (ps : List Pat) : Prop where
  pg : PGs X tg (gPs X.K ps)
  ln : (assignEach tg X.env).length = ps.length
section
variable {X : Cx} {Z : L2.WX} {a b c e o i' : Expr} {ta tb tc te to : TWE} {t : TWA} {pos p apos cpos pos' : Pos} {es rest : List Expr} {x name : Str}
theorem jp_nm (hN : X.N.Nodup) {i : Nat} {x : Str} (hi : X.N[i]? = some x := by rfl) (hx : Loc X.env.scope x := by first | exact Or.inl rfl | exact Or.inr rfl)
    (hf : X.fn x = true ∨ X.env.scope.names.lookup x = some .local := by first | exact .inl rfl | exact .inr rfl) : JP X (.Name x pos) (.nm i) := ⟨pg_name hN hi hx hf⟩
theorem jps_nil : JPs X [] [] := ⟨pgs_nil, rfl⟩
theorem jps_cons {p : Pat} {ps : List Pat} (h1 : JP X e p) (h2 : JPs X es ps) (hs : (assignEach (e :: es) X.env).map (·.2) = assign e X.env :: (assignEach es X.env).map (·.2) := by rfl)
    (hl : (assignEach (e :: es) X.env).length = (assignEach es X.env).length + 1 := by rfl) : JPs X (e :: es) (p :: ps) := ⟨pgs_cons h1.pg h2.pg hs, by rw [hl, h2.ln]; rfl⟩
theorem jp_tp {ps : List Pat} {k : Nat} (hc : X.calm = true) (h : JPs X es ps) (hst : (assignEach es X.env).findIdx? (·.1) = none := by rfl) : JP X (.Tuple es k pos) (.tp ps) := ⟨pg_tup hc h.pg h.ln hst⟩
/-! ### targets of any sort -/
abbrev TWG := Wv → Wen → WH → (Wen → WH → Prop) → Prop
abbrev TWGs := List Wv → Wen → WH → (Wen → WH → Prop) → Prop
def liG (K : PySem.W.Frag) (t : TWG) : TG := fun v σ H Q => ∃ w ρ h, Den K H w v ∧ RelS K H ρ σ ∧ RelH K h H ∧ t w ρ h (okS K H Q)
def liGs (K : PySem.W.Frag) (t : TWGs) : TGs := fun vs σ H Q => ∃ ws ρ h, DenL K H ws vs ∧ RelS K H ρ σ ∧ RelH K h H ∧ t ws ρ h (okS K H Q)
def MoG (t : TWG) : Prop := ∀ w ρ h Q Q', (∀ ρ h, Q ρ h → Q' ρ h) → t w ρ h Q → t w ρ h Q'
def MoGs (t : TWGs) : Prop := ∀ w ρ h Q Q', (∀ ρ h, Q ρ h → Q' ρ h) → t w ρ h Q → t w ρ h Q'
structure JG (X : Cx) (tg : Expr) (t : TWG) : Prop where
  mo : MoG t
  pg : PG X tg (liG X.K t)
structure JGs (X : Cx) (tg : List Expr) (t : TWGs) : Prop where
  mo : MoGs t
  pg : PGs X tg (liGs X.K t)
theorem imG {tg : Expr} {t t' : TG} (h : PG X tg t) (i : ∀ v σ H Q, t' v σ H Q → t v σ H Q) : PG X tg t' := ⟨fun pins s σ H v u Q I r q => h.run pins s σ H v u Q I r (i v σ H Q q)⟩
theorem imGs {tg : List Expr} {t t' : TGs} (h : PGs X tg t) (i : ∀ v σ H Q, t' v σ H Q → t v σ H Q) : PGs X tg t' := ⟨fun pins s σ H v u Q I r q => h.run pins s σ H v u Q I r (i v σ H Q q)⟩
def wgP (p : Pat) : TWG := fun w ρ h Q => ∃ ρ', bindW p w ρ = some ρ' ∧ Q ρ' h
theorem jg_pat {p : Pat} {tg : Expr} (h : JP X tg p) : JG X tg (wgP p) where
  mo := fun w ρ h Q Q' hq ⟨ρ', e, q⟩ => ⟨ρ', e, hq _ _ q⟩
  pg := imG h.pg fun v σ H Q ⟨w, ρ, h, d, rs, rh, ρ', e, q⟩ => by
    obtain ⟨σ', r1, _, r3⟩ := bindW_ok p rs d e
    exact r3 Q (q σ' H (Grow.refl _ _) r1 rh)
def wgNil : TWGs := fun ws ρ h Q => ws = [] ∧ Q ρ h
def wgCons (t : TWG) (u : TWGs) : TWGs := fun ws ρ h Q => ∃ w r, ws = w :: r ∧ t w ρ h fun ρ' h' => u r ρ' h' Q
def wgTup (n : Nat) (t : TWGs) : TWG := fun w ρ h Q => ∃ ws, w = .tup ws ∧ ws.length = n ∧ t ws ρ h Q
theorem jgs_nil : JGs X [] wgNil where
  mo := fun w ρ h Q Q' hq ⟨e, q⟩ => ⟨e, hq _ _ q⟩
  pg := imGs pgs_nil fun vs σ H Q ⟨ws, ρ, h, d, rs, rh, e, q⟩ => by
    subst e
    exact ⟨d, q σ H (Grow.refl _ _) rs rh⟩
theorem jgs_cons {t : TWG} {u : TWGs} (h1 : JG X e t) (h2 : JGs X es u) (hs : (assignEach (e :: es) X.env).map (·.2) = assign e X.env :: (assignEach es X.env).map (·.2) := by rfl) : JGs X (e :: es) (wgCons t u) where
  mo := fun ws ρ h Q Q' hq ⟨w, r, e, q⟩ => ⟨w, r, e, h1.mo w ρ h _ _ (fun ρ' h' q' => h2.mo r ρ' h' _ _ hq q') q⟩
  pg := imGs (pgs_cons h1.pg h2.pg hs) fun vs σ H Q ⟨ws, ρ, h, d, rs, rh, w, r, e, q⟩ => by
    subst e
    obtain ⟨v, vs', rfl, d1, d2⟩ := d
    refine ⟨v, vs', rfl, w, ρ, h, d1, rs, rh, h1.mo w ρ h _ _ (fun ρ' h' q' σ' H' g rs' rh' => ?_) q⟩
    exact ⟨r, ρ', h', d2.grow g, rs', rh', h2.mo r ρ' h' _ _ (fun ρ2 h2 q2 => q2.back g) q'⟩
theorem jg_tup {t : TWGs} {k n : Nat} (hc : X.calm = true) (h : JGs X es t) (hn : (assignEach es X.env).length = n := by rfl) (hst : (assignEach es X.env).findIdx? (·.1) = none := by rfl) : JG X (.Tuple es k pos) (wgTup n t) where
  mo := fun w ρ g Q Q' hq ⟨ws, e, l, q⟩ => ⟨ws, e, l, h.mo ws ρ g _ _ hq q⟩
  pg := imG (pg_tup hc h.pg hn hst) fun v σ H Q ⟨w, ρ, g, d, rs, rh, ws, e, l, q⟩ => by
    subst e
    obtain ⟨a, xs, rfl, ha, dl⟩ := d
    exact ⟨a, xs, rfl, SqT.of ha, by rw [← dl.length, l], ws, ρ, g, dl, rs, rh, q⟩
/-- o[i] = w -/
def setO (a : Addr) : Wo → Wv → Wv → Option (Addr × Wo)
  | .lst ws, .int k, w => (ixN ws.length k).map fun j => (a, .lst (ws.set j w))
  | .dK kvs, i, w => (keyK i).bind fun k => if kvs.length < sizeLine then some (a, .dK (putA k w kvs)) else none
  | .dT kvs, .tup is, w => (keysT is).bind fun k => if kvs.length < sizeLine then some (a, .dT (putA k w kvs)) else none
  | _, _, _ => none
def setW (o i w : Wv) (h : WH) : Option (Addr × Wo) := match o with
  | .ref a => (h a).bind fun ob => setO a ob i w
  | _ => none
def rSetA : V → V → V → Hp → (Hp → Prop) → Prop := fun o i v H Q => rSetL o i v H Q ∨ rSetD o i v H Q
theorem set_any (hu : X.A.units + 1 < cLine) : PSet X rSetA := by
  intro pins s σ H o i v ov iv u Q I ro ri rv h
  rcases h with h | h
  · exact set_list pins s σ H o i v ov iv u Q I ro ri rv h
  · exact set_dict hu pins s σ H o i v ov iv u Q I ro ri rv h
theorem setW_ok {K : PySem.W.Frag} {H : Hp} {h : WH} (rh : RelH K h H) {o i w : Wv} {ov iv v : V} (d1 : Den K H o ov) (d2 : Den K H i iv) (d3 : Den K H w v) {a : Addr} {ob : Wo} (e : setW o i w h = some (a, ob)) :
    ∃ H', Grow K H H' ∧ RelH K (wup h a ob) H' ∧ ∀ Q : Hp → Prop, Q H' → rSetA ov iv v H Q := by
  cases o <;> first | (simp [setW] at e; done) | skip
  rename_i p
  replace d1 : ov = .ref p := d1
  subst d1
  replace e : (h p).bind (fun ob => setO p ob i w) = some (a, ob) := e
  cases e1 : h p with
  | none => rw [e1] at e; cases e
  | some o1 =>
    rw [e1] at e
    replace e : setO p o1 i w = some (a, ob) := e
    cases o1 with
    | ins _ _ => simp [setO] at e
    | lst ws =>
      cases i <;> first | (simp [setO] at e; done) | skip
      rename_i k
      replace d2 : iv = .int k := d2
      subst d2
      obtain ⟨vs, e2, l⟩ := rh.lst e1
      cases e3 : ixN ws.length k with
      | none => simp [setO, e3] at e
      | some j =>
        simp [setO, e3] at e
        obtain ⟨rfl, rfl⟩ := e
        exact ⟨_, grow_mut e2 trivial, rh.write e2 trivial (.lst (l.set j d3)), fun Q q => .inl ⟨p, vs, k, j, rfl, rfl, e2, by rw [← l.length]; exact e3, q⟩⟩
    | dK kvs =>
      obtain ⟨u, e2, od⟩ := rh p _ e1
      cases od with
      | @dK _ kus r =>
        cases ek : keyK i with
        | none => simp [setO, ek] at e
        | some k =>
          simp [setO, ek] at e
          obtain ⟨hl, rfl, rfl⟩ := e
          refine ⟨_, grow_mut e2 trivial, rh.write e2 trivial (.dK (PDen.put k d3 r)), fun Q q => .inr ⟨p, _, rfl, ?_, q⟩⟩
          rw [keyK_kV d2 ek]
          exact DPut.k e2 (by rw [← r.length]; exact hl)
    | dT kvs =>
      obtain ⟨u, e2, od⟩ := rh p _ e1
      cases od with
      | @dT _ kus r =>
        cases i <;> first | (simp [setO] at e; done) | skip
        rename_i is
        obtain ⟨b, vs, rfl, hb, l⟩ := d2
        cases ek : keysT is with
        | none => simp [setO, ek] at e
        | some k =>
          simp [setO, ek] at e
          obtain ⟨hl, rfl, rfl⟩ := e
          refine ⟨_, grow_mut e2 trivial, rh.write e2 trivial (.dT (PDen.put k d3 r)), fun Q q => .inr ⟨p, _, rfl, ?_, q⟩⟩
          rw [keysT_kV l ek] at hb
          exact DPut.t e2 hb (by rw [← r.length]; exact hl)
def wgSub (to ti : TWE) : TWG := fun w ρ h Q => to ρ h (fun o h1 => ti ρ h1 (fun i h2 => match setW o i w h2 with
  | some (a, ob) => Q ρ (wup h2 a ob)
  | none => False) fun _ _ _ _ => False) fun _ _ _ _ => False
theorem jg_sub {ti : TWE} (hu : X.A.units + 1 < cLine) (ho : JE X Z o to) (hi : JE X Z i' ti)
    (ha : ∀ v, assign (.Subscript o i' pos) X.env v = (do
      let ov ← holding [v] (eval o X.env)
      let iv ← holding [v, ov] (eval i' X.env)
      standAt pos
      holding [v, ov, iv] (setItem ov iv v)
      release [v, ov, iv] []) := by intro _; rfl) : JG X (.Subscript o i' pos) (wgSub to ti) where
  mo := fun w ρ h Q Q' hq q => ho.mo ρ h _ _ _ _ (fun o h1 q1 => hi.mo ρ h1 _ _ _ _ (fun i h2 q2 => by
    split
    · rename_i e
      rw [e] at q2
      exact hq _ _ q2
    · rename_i e
      rw [e] at q2
      exact q2) (fun _ _ _ _ z => z) q1) (fun _ _ _ _ z => z) q
  pg := imG (pg_sub ho.pe hi.pe (set_any hu) ha) fun v σ H Q ⟨w, ρ, h, d, rs, rh, q⟩ => by
    refine li_then (E := fun _ _ _ _ => False) ho.mo rs rh (ho.mo ρ h _ _ _ _ (fun _ _ z => z) (fun _ _ _ _ z => z.elim) q) fun ow h1 ov H1 g1 r1 d1 q1 => ?_
    refine li_then (E := fun _ _ _ _ => False) hi.mo (rs.grow g1) r1 (hi.mo ρ h1 _ _ _ _ (fun _ _ z => z) (fun _ _ _ _ z => z.elim) q1) fun iw h2 iv H2 g2 r2 d2 q2 => ?_
    split at q2
    · rename_i a ob e
      have g := g1.trans g2
      obtain ⟨H3, g3, r3, k3⟩ := setW_ok r2 (Den.grow g2 _ d1) d2 (Den.grow g _ d) e
      exact k3 _ (q2 σ H3 (g.trans g3) (rs.grow (g.trans g3)) r3)
    · exact q2.elim
/-- o.f = w -/
def putFW (f : Str) (v : Wv) : List (Str × Wv) → List (Str × Wv)
  | [] => [(f, v)]
  | (g, x) :: r => if g = f then (g, v) :: r else (g, x) :: putFW f v r
theorem PDen.putF {K : PySem.W.Frag} {H : Hp} {f : Str} {w : Wv} {v : V} (d : Den K H w v) : ∀ {fs : List (Str × Wv)} {gs : List (Str × V)}, PDen K H fs gs → PDen K H (putFW f w fs) (putF f v gs)
  | _, _, .nil => .cons ⟨rfl, d⟩ .nil
  | (g, x) :: r, (g', x') :: r', .cons h t => by
    obtain ⟨h1, h2⟩ := h
    have h1 : g = g' := h1
    subst h1
    show PDen K H (if g = f then (g, w) :: r else (g, x) :: putFW f w r) (if g = f then (g, v) :: r' else (g, x') :: L2.putF f v r')
    split
    · exact .cons ⟨rfl, d⟩ t
    · exact .cons ⟨rfl, h2⟩ (PDen.putF d t)
def gFldV (K : PySem.W.Frag) (ta : TE) (f : Str) : TG := fun y σ H Q => ta σ H fun x H2 => ∃ a C dx fs, x = .ref a ∧ H2 a = some (.ins C dx fs) ∧ Cls K C ∧ NoAttr K C f ∧ fs.length < 1000 ∧ Q σ (upd H2 a (.ins C dx (L2.putF f y fs)))
theorem pg_fldV {o : Expr} {f : Str} {ta : TE} (ha : PE X o ta) : PG X (.Attribute o f pos) (gFldV X.K ta f) := by
  refine ⟨fun pins s σ H y u Q I ry q => ?_⟩
  rw [arm_assign_Attribute]
  refine wpAny_bind (wpAny_holding (thn (ha.run pins s σ H _ I q) fun ov s2 ⟨x, H2, I2, rx, a, C, dx, fs, ex, ea, c, n, l, q2⟩ => ?_))
  subst ex
  obtain rfl : ov = Value.ref a := rx
  refine wpAny_bind (wpAny_standAt (wpAny_bind (wpAny_holding (setattr_ok I2 ea c n l ry fun s3 I3 => ?_))))
  exact wpAny_release ⟨σ, _, I3, q2⟩
def wgFld (C : Addr) (f : Str) (to : TWE) : TWG := fun w ρ h Q => to ρ h (fun o h1 => match o with
  | .ref a => match h1 a with
    | some (.ins C' fs) => C' = C ∧ fs.length < 1000 ∧ Q ρ (wup h1 a (.ins C (putFW f w fs)))
    | _ => False
  | _ => False) fun _ _ _ _ => False
theorem jg_fld {C : Addr} {f : Str} (c : Cls X.K C) (na : NoAttr X.K C f) (ho : JE X Z o to) : JG X (.Attribute o f pos) (wgFld C f to) where
  mo := fun w ρ h Q Q' hq q => ho.mo ρ h _ _ _ _ (fun o h1 q1 => by
    cases o <;> first | exact q1.elim | skip
    dsimp only at q1 ⊢
    split
    · rename_i e
      rw [e] at q1
      exact ⟨q1.1, q1.2.1, hq _ _ q1.2.2⟩
    · rename_i z
      split at q1
      · rename_i e1
        exact (z _ _ e1).elim
      · exact q1) (fun _ _ _ _ z => z) q
  pg := imG (pg_fldV ho.pe) fun v σ H Q ⟨w, ρ, h, d, rs, rh, q⟩ => by
    refine li_then (E := fun _ _ _ _ => False) ho.mo rs rh (ho.mo ρ h _ _ _ _ (fun _ _ z => z) (fun _ _ _ _ z => z.elim) q) fun ow h1 ov H1 g1 r1 d1 q1 => ?_
    cases ow <;> first | exact q1.elim | skip
    rename_i a
    dsimp only at q1
    split at q1
    · rename_i C' fs e1
      obtain ⟨rfl, hl, q2⟩ := q1
      obtain ⟨u, hu, od⟩ := r1 a _ e1
      cases od with
      | @ins _ dx _ gs r =>
        refine ⟨a, C', dx, gs, d1, hu, c, na, by rw [← PDen.length r]; exact hl, ?_⟩
        have g : Grow X.K H (upd H1 a (.ins C' dx (L2.putF f v gs))) := g1.trans (grow_mut hu trivial)
        exact q2 σ _ g (rs.grow g) (r1.write hu trivial (.ins (PDen.putF (Den.grow g1 _ d) r)))
    · exact q1.elim
end
end Pd
set_option Elab.async false
set_option linter.all false
set_option maxRecDepth 100000
set_option maxHeartbeats 4000000
namespace Pd
open PySem PySem.Spec PyProof.Rows L2
/-! ### statements -/
section
variable {K : PySem.W.Frag} {Z : L2.WX} {H H1 : Hp} {ρ : Wen} {σ : L2.St}
theorem exS_exQ (rs : RelS K H ρ σ) {C : Addr} {f : Str} {w : Wv} {h' : WH} (q : exS K H Z ρ C f w h') : exQ K H (fun cls d H' => Z cls d σ H') C f w h' := fun d v H' g rh dn e => q d v σ H' g (rs.grow g) rh dn e
theorem exS_back (g : Grow K H H1) {C : Addr} {f : Str} {w : Wv} {h' : WH} (q : exS K H Z ρ C f w h') : exS K H1 Z ρ C f w h' := fun d v σ' H' g' rs rh dn e => q d v σ' H' (g.trans g') rs rh dn e
theorem liD_le {D : Ends} (g : Grow K H H1) : (liD K H Z D).Le (liD K H1 Z D) where
  nx := fun ρ h q => q.back g
  rt := fun w h q => q.back g
  bk := fun ρ h q => q.back g
  ct := fun ρ h q => q.back g
  ex := fun ρ C f w h q => exS_back g q
end
theorem WEnds.Le.refl (D : WEnds) : D.Le D := ⟨fun _ _ q => q, fun _ _ q => q, fun _ _ q => q, fun _ _ q => q, fun _ _ _ _ _ q => q⟩
def wNext : TWS := fun D ρ h => D.nx ρ h
def wSeq (t u : TWS) : TWS := fun D ρ h => t { D with nx := fun ρ' h' => u D ρ' h' } ρ h
def wBreak : TWS := fun D ρ h => D.bk ρ h
def wCont : TWS := fun D ρ h => D.ct ρ h
def wNever : TWS := fun _ _ _ => False
def wDrop (te : TWE) : TWS := fun D ρ h => te ρ h (fun _ h1 => D.nx ρ h1) (D.ex ρ)
def wRet (te : TWE) : TWS := fun D ρ h => te ρ h D.rt (D.ex ρ)
def wRetN : TWS := fun D _ h => D.rt .non h
def wIfS (c : TWT) (t u : TWS) : TWS := fun D ρ h => c ρ h (fun b h1 => if b = true then t D ρ h1 else u D ρ h1) (D.ex ρ)
def wSet (i : Nat) (te : TWE) : TWS := fun D ρ h => te ρ h (fun w h1 => D.nx (ρ.set i (some w)) h1) (D.ex ρ)
def wAsg (te : TWE) (g : TWG) : TWS := fun D ρ h => te ρ h (fun w h1 => g w ρ h1 D.nx) (D.ex ρ)
def wPar (i j : Nat) (t : TWA) : TWS := fun D ρ h => t ρ h (fun ws h1 => match ws with
  | [w, u] => D.nx ((ρ.set i (some w)).set j (some u)) h1
  | _ => False) (D.ex ρ)
def wPar3 (i j l : Nat) (t : TWA) : TWS := fun D ρ h => t ρ h (fun ws h1 => match ws with
  | [w, u, v] => D.nx (((ρ.set i (some w)).set j (some u)).set l (some v)) h1
  | _ => False) (D.ex ρ)
section
variable {X : Cx} {Z : L2.WX} {a b c e o : Expr} {ta tb tc te to : TWE} {ua : TWT} {t : TWA} {tu tt : TWS} {pos p apos cpos pos' : Pos} {es rest : List Expr} {x y : Str} {st : Stmt} {sts sts' : List Stmt}
theorem jss_nil : JSs X Z [] wNext where
  mo := fun D D' ρ h l q => l.nx _ _ q
  ps := imSs pss_nil fun D σ H ⟨ρ, h, rs, rh, q⟩ => q σ H (Grow.refl _ _) rs rh
theorem wSeq_mo {t u : TWS} (m : MoS t) (n : MoS u) : MoS (wSeq t u) := fun D D' ρ h l q => m { D with nx := fun ρ' h' => u D ρ' h' } { D' with nx := fun ρ' h' => u D' ρ' h' } ρ h ⟨fun ρ' h' q' => n _ _ _ _ l q', l.rt, l.bk, l.ct, l.ex⟩ q
theorem jss_cons {t u : TWS} (h1 : JS X Z st t) (h2 : JSs X Z sts u) : JSs X Z (st :: sts) (wSeq t u) where
  mo := wSeq_mo h1.mo h2.mo
  ps := imSs (pss_cons h1.ps h2.ps) fun D σ H ⟨ρ, h, rs, rh, q⟩ => ⟨ρ, h, rs, rh, h1.mo { liD X.K H Z D with nx := fun ρ' h' => u (liD X.K H Z D) ρ' h' } _ ρ h ⟨fun ρ' h' q' σ' H' g rs' rh' => ⟨ρ', h', rs', rh', h2.mo _ _ _ _ (liD_le g) q'⟩, fun _ _ z => z, fun _ _ z => z, fun _ _ z => z, fun _ _ _ _ _ z => z⟩ q⟩
theorem jss_one {t : TWS} (h1 : JS X Z st t) : JSs X Z [st] t := ⟨h1.mo, pss_one h1.ps⟩
theorem js_pass : JS X Z (.Pass pos) wNext where
  mo := fun D D' ρ h l q => l.nx _ _ q
  ps := imS ps_pass fun D σ H ⟨ρ, h, rs, rh, q⟩ => q σ H (Grow.refl _ _) rs rh
theorem js_break : JS X Z (.Break pos) wBreak where
  mo := fun D D' ρ h l q => l.bk _ _ q
  ps := imS ps_break fun D σ H ⟨ρ, h, rs, rh, q⟩ => q σ H (Grow.refl _ _) rs rh
theorem js_continue : JS X Z (.Continue pos) wCont where
  mo := fun D D' ρ h l q => l.ct _ _ q
  ps := imS ps_continue fun D σ H ⟨ρ, h, rs, rh, q⟩ => q σ H (Grow.refl _ _) rs rh
theorem js_never : JS X Z st wNever where
  mo := fun D D' ρ h l q => q.elim
  ps := imS ps_never fun D σ H ⟨ρ, h, rs, rh, q⟩ => q.elim
theorem jss_never : JSs X Z sts wNever where
  mo := fun D D' ρ h l q => q.elim
  ps := imSs pss_never fun D σ H ⟨ρ, h, rs, rh, q⟩ => q.elim
/-- an expression's reading, for a statement -/
theorem li_st {D : Ends} {σ : L2.St} {H : Hp} {t : TWE} {ρ : Wen} {h : WH} {k : V → Hp → Prop} {k' : WQ} (m : MoE t) (rs : RelS X.K H ρ σ) (rh : RelH X.K h H) (q : t ρ h k' ((liD X.K H Z D).ex ρ))
    (hk : ∀ w h1 v H1, Grow X.K H H1 → RelS X.K H1 ρ σ → RelH X.K h1 H1 → Den X.K H1 w v → k' w h1 → k v H1) : liE X.K Z t σ H k :=
  li_then (E := fun _ _ _ _ => False) m rs rh (m ρ h _ _ _ _ (fun _ _ z => z) (fun _ _ _ _ z => exS_exQ rs z) q) fun w h1 v H1 g r d q1 => hk w h1 v H1 g (rs.grow g) r d q1
theorem js_expr (he : JE X Z e te) (hs : swapsWith e none pos.line X.env = pure false := by rfl) : JS X Z (.Expr e pos) (wDrop te) where
  mo := fun D D' ρ h l q => he.mo ρ h _ _ _ _ (fun _ _ q => l.nx _ _ q) (fun _ _ _ _ q => l.ex _ _ _ _ _ q) q
  ps := imS (ps_expr he.pe hs) fun D σ H ⟨ρ, h, rs, rh, q⟩ => li_st he.mo rs rh q fun w h1 v H1 g rs1 r d q1 => q1 σ H1 g rs1 r
theorem js_ret (he : JE X Z e te) : JS X Z (.Return (some e) pos) (wRet te) where
  mo := fun D D' ρ h l q => he.mo ρ h _ _ _ _ (fun _ _ q => l.rt _ _ q) (fun _ _ _ _ q => l.ex _ _ _ _ _ q) q
  ps := imS (ps_ret he.pe) fun D σ H ⟨ρ, h, rs, rh, q⟩ => li_st he.mo rs rh q fun w h1 v H1 g rs1 r d q1 => q1 v H1 g r d
theorem js_retN : JS X Z (.Return none pos) wRetN where
  mo := fun D D' ρ h l q => l.rt _ _ q
  ps := imS ps_retN fun D σ H ⟨ρ, h, rs, rh, q⟩ => q _ H (Grow.refl _ _) rh rfl
theorem js_if {a b : List Stmt} {u v : TWS} (hc : JT X Z c ua) (ha : JSs X Z a u) (hb : JSs X Z b v) : JS X Z (.If c a b pos) (wIfS ua u v) where
  mo := fun D D' ρ h l q => hc.mo ρ h _ _ _ _ (fun k h1 q1 => by
    cases k with
    | true => exact ha.mo _ _ _ _ l q1
    | false => exact hb.mo _ _ _ _ l q1) (fun _ _ _ _ q => l.ex _ _ _ _ _ q) q
  ps := imS (ps_if hc.pt ha.ps hb.ps) fun D σ H ⟨ρ, h, rs, rh, q⟩ => by
    refine liT_then hc.mo rs rh (hc.mo ρ h _ _ _ _ (fun _ _ z => z) (fun _ _ _ _ z => exS_exQ rs z) q) fun k h1 H1 g1 r1 q1 => ?_
    cases k with
    | true => exact ⟨ρ, h1, rs.grow g1, r1, ha.mo _ _ _ _ (liD_le g1) q1⟩
    | false => exact ⟨ρ, h1, rs.grow g1, r1, hb.mo _ _ _ _ (liD_le g1) q1⟩
theorem js_set (hN : X.N.Nodup) {i : Nat} {x : Str} (he : JE X Z e te) (hi : X.N[i]? = some x := by rfl) (hx : Loc X.env.scope x := by first | exact Or.inl rfl | exact Or.inr rfl) (hs : swapsWith e (some (.Name x pos')) pos.line X.env = pure false := by rfl)
    (hf : X.fn x = true ∨ X.env.scope.names.lookup x = some .local := by first | exact .inl rfl | exact .inr rfl) : JS X Z (.Assign [.Name x pos'] e pos) (wSet i te) where
  mo := fun D D' ρ h l q => he.mo ρ h _ _ _ _ (fun _ _ q => l.nx _ _ q) (fun _ _ _ _ q => l.ex _ _ _ _ _ q) q
  ps := imS (ps_set hN hi hx he.pe hs hf) fun D σ H ⟨ρ, h, rs, rh, q⟩ => li_st he.mo rs rh q fun w h1 v H1 g rs1 r d q1 => q1 _ H1 g (rs1.set d) r
theorem js_asg {tg : Expr} {g : TWG} (he : JE X Z e te) (hg : JG X tg g) (hs : swapsWithSole [tg] e pos.line X.env = pure false := by rfl) (hw : swappedStores [tg] e X.env = pure none := by rfl)
    (h1 : (assignEach [tg] X.env).map (·.2) = [assign tg X.env] := by rfl) : JS X Z (.Assign [tg] e pos) (wAsg te g) where
  mo := fun D D' ρ h l q => he.mo ρ h _ _ _ _ (fun w h1 q1 => hg.mo w ρ h1 _ _ (fun _ _ z => l.nx _ _ z) q1) (fun _ _ _ _ q => l.ex _ _ _ _ _ q) q
  ps := imS (ps_asg he.pe hg.pg hs hw h1) fun D σ H ⟨ρ, h, rs, rh, q⟩ => li_st he.mo rs rh q fun w h1 v H1 g rs1 r d q1 => ⟨w, ρ, h1, d, rs1, r, hg.mo w ρ h1 _ _ (fun _ _ z => z.back g) q1⟩
theorem js_par {i j : Nat} {px py pt : Pos} {kt k2 pt2} (hc : X.calm = true) (hN : X.N.Nodup) (ha : JAn X Z [a, b] t) (hi : X.N[i]? = some x := by rfl) (hj : X.N[j]? = some y := by rfl) (hij : i ≠ j := by decide)
    (hx : X.env.scope.names.lookup x = some .local := by rfl) (hy : X.env.scope.names.lookup y = some .local := by rfl)
    (hw : swappedStores [.Tuple [.Name x px, .Name y py] kt pt] (.Tuple [a, b] k2 pt2) X.env = pure (some [x, y]) := by rfl)
    (hs : swapsWithSole [.Tuple [.Name x px, .Name y py] kt pt] (.Tuple [a, b] k2 pt2) pos.line X.env = pure false := by rfl) :
    JS X Z (.Assign [.Tuple [.Name x px, .Name y py] kt pt] (.Tuple [a, b] k2 pt2) pos) (wPar i j t) where
  mo := fun D D' ρ h l q => ha.mo ρ h _ _ _ _ (fun ws _ q => by
    match ws, q with
    | [w, u], q => exact l.nx _ _ q) (fun _ _ _ _ q => l.ex _ _ _ _ _ q) q
  ps := imS (ps_par hc hN hi hj hij hx hy ha.pa hw hs) fun D σ H ⟨ρ, h, rs, rh, q⟩ => by
    refine liA_then ha.mo rs rh (ha.mo ρ h _ _ _ _ (fun _ _ z => z) (fun _ _ _ _ z => exS_exQ rs z) q) fun ws h1 vs H1 g1 r1 d1 q1 => ?_
    match ws, d1, q1 with
    | [w, u], d1, q1 =>
      obtain ⟨v, v', rfl, e1, e2⟩ := DenL.inv2 d1
      exact ⟨v, v', rfl, q1 _ H1 g1 (((rs.grow g1).set e1).set e2) r1⟩
theorem js_par3 {i j l : Nat} {x y z : Str} {px py pz pt : Pos} {kt k2 pt2} (hc : X.calm = true) (hN : X.N.Nodup) (ha : JAn X Z [a, b, c] t) (hi : X.N[i]? = some x := by rfl) (hj : X.N[j]? = some y := by rfl) (hl : X.N[l]? = some z := by rfl)
    (hij : i ≠ j := by decide) (hil : i ≠ l := by decide) (hjl : j ≠ l := by decide)
    (hx : X.env.scope.names.lookup x = some .local := by rfl) (hy : X.env.scope.names.lookup y = some .local := by rfl) (hz : X.env.scope.names.lookup z = some .local := by rfl)
    (hw : swappedStores [.Tuple [.Name x px, .Name y py, .Name z pz] kt pt] (.Tuple [a, b, c] k2 pt2) X.env = pure (some [x, y, z]) := by rfl)
    (hs : swapsWithSole [.Tuple [.Name x px, .Name y py, .Name z pz] kt pt] (.Tuple [a, b, c] k2 pt2) pos.line X.env = pure false := by rfl) :
    JS X Z (.Assign [.Tuple [.Name x px, .Name y py, .Name z pz] kt pt] (.Tuple [a, b, c] k2 pt2) pos) (wPar3 i j l t) where
  mo := fun D D' ρ h l q => ha.mo ρ h _ _ _ _ (fun ws _ q => by
    match ws, q with
    | [w, u, v], q => exact l.nx _ _ q) (fun _ _ _ _ q => l.ex _ _ _ _ _ q) q
  ps := imS (ps_par3 hc hN hi hj hl hij hil hjl hx hy hz ha.pa hw hs) fun D σ H ⟨ρ, h, rs, rh, q⟩ => by
    refine liA_then ha.mo rs rh (ha.mo ρ h _ _ _ _ (fun _ _ z => z) (fun _ _ _ _ z => exS_exQ rs z) q) fun ws h1 vs H1 g1 r1 d1 q1 => ?_
    match ws, d1, q1 with
    | [w, u, u2], d1, q1 =>
      obtain ⟨v, vs', rfl, e1, d2⟩ := d1
      obtain ⟨v', v2, rfl, e2, e3⟩ := DenL.inv2 d2
      exact ⟨v, v', v2, rfl, q1 _ H1 g1 ((((rs.grow g1).set e1).set e2).set e3) r1⟩
/-! ### while -/
def wWhile (c : TWT) (tb : TWS) : TWS := fun D ρ h => ∃ P : Nat → Wen → WH → Prop, (∃ m, P m ρ h) ∧ ∀ m ρ h, P m ρ h →
  c ρ h (fun k h1 => if k = true then tb { D with nx := fun ρ' h' => ∃ m', m' < m ∧ P m' ρ' h', ct := fun ρ' h' => ∃ m', m' < m ∧ P m' ρ' h', bk := D.nx } ρ h1 else D.nx ρ h1) (D.ex ρ)
theorem js_while {body : List Stmt} {tb : TWS} (hp : PassesOwn (model X.prog X.w) X.A X.env X.xe) (hc : JT X Z c ua) (hb : JSs X Z body tb) : JS X Z (.While c body [] pos) (wWhile ua tb) where
  mo := fun D D' ρ h l ⟨P, i, q⟩ => ⟨P, i, fun m ρ h p => hc.mo ρ h _ _ _ _ (fun k h1 q1 => by
    cases k with
    | true => exact hb.mo { D with nx := fun ρ' h' => ∃ m', m' < m ∧ P m' ρ' h', ct := fun ρ' h' => ∃ m', m' < m ∧ P m' ρ' h', bk := D.nx } _ _ _ ⟨fun _ _ z => z, l.rt, l.nx, fun _ _ z => z, l.ex⟩ q1
    | false => exact l.nx _ _ q1) (fun _ _ _ _ z => l.ex _ _ _ _ _ z) (q m ρ h p)⟩
  ps := imS (ps_while hp hc.pt hb.ps) fun D σ H0 ⟨ρ0, h0, rs0, rh0, P, ⟨m0, i⟩, q⟩ => by
    refine ⟨fun m σ H => ∃ ρ h, RelS X.K H ρ σ ∧ RelH X.K h H ∧ Grow X.K H0 H ∧ P m ρ h, ⟨m0, ρ0, h0, rs0, rh0, Grow.refl _ _, i⟩, fun m σ H ⟨ρ, h, rs, rh, g, pm⟩ => ?_⟩
    have q1 := q m ρ h pm
    refine liT_then hc.mo rs rh (hc.mo ρ h _ _ _ _ (fun _ _ z => z) (fun _ _ _ _ z => exS_exQ rs (exS_back g z)) q1) fun k h1 H1 g1 r1 q1 => ?_
    cases k with
    | true =>
      refine ⟨fun σ' H' => ∃ m', m' < m ∧ ∃ ρ h, RelS X.K H' ρ σ' ∧ RelH X.K h H' ∧ Grow X.K H0 H' ∧ P m' ρ h, fun σ' H' z => z, ρ, h1, rs.grow g1, r1, ?_⟩
      have gg := g.trans g1
      refine hb.mo _ _ _ _ ⟨?_, ?_, ?_, ?_, ?_⟩ q1
      · rintro ρ' h' ⟨m', lt, pm'⟩ σ' H' g' rs' rh'
        exact ⟨m', lt, ρ', h', rs', rh', gg.trans g', pm'⟩
      · exact fun w h z => z.back gg
      · exact fun ρ h z => z.back gg
      · rintro ρ' h' ⟨m', lt, pm'⟩ σ' H' g' rs' rh'
        exact ⟨m', lt, ρ', h', rs', rh', gg.trans g', pm'⟩
      · exact fun ρ C f w h z => exS_back gg z
    | false => exact q1 σ H1 (g.trans g1) (rs.grow g1) r1
/-! ### for -/
structure Src (K : PySem.W.Frag) (H1 : Hp) (J : It) (items : List Wv) (kp : WH → Prop) : Prop where
  nth : ∀ i w h H, items[i]? = some w → Grow K H1 H → RelH K h H → kp h → J.go i H ∧ ∀ x H', J.yld i H x H' → Grow K H H' ∧ RelH K h H' ∧ Den K H' w x
  stop : ∀ h H, Grow K H1 H → RelH K h H → kp h → J.stop items.length H
abbrev TWI := Wen → WH → (List Wv → (WH → Prop) → WH → Prop) → WX → Prop
def MoI (t : TWI) : Prop := ∀ ρ h Q Q' E E', (∀ is kp h', Q is kp h' → Q' is kp h') → (∀ C f w h', E C f w h' → E' C f w h') → t ρ h Q E → t ρ h Q' E'
def liI (K : PySem.W.Frag) (Z : L2.WX) (t : TWI) : TI := fun σ H R => ∃ ρ h, RelS K H ρ σ ∧ RelH K h H ∧ t ρ h (fun is kp h1 => ∀ J H1, Grow K H H1 → RelH K h1 H1 → Src K H1 J is kp → R J H1) (exQ K H fun cls d H' => Z cls d σ H')
structure JI (X : Cx) (Z : L2.WX) (tg iter : Expr) (t : TWI) : Prop where
  mo : MoI t
  pi : PI X tg iter (liI X.K Z t)
theorem imI {tg iter : Expr} {t t' : TI} (h : PI X tg iter t) (i : ∀ σ H R, t' σ H R → t σ H R) : PI X tg iter t' := ⟨fun pins s σ H R I q => h.run pins s σ H R I (i σ H R q)⟩
def wFor (s : TWI) (p : Pat) (tb : TWS) : TWS := fun D ρ h => s ρ h (fun is kp h1 => ∃ P : Nat → Wen → WH → Prop, P 0 ρ h1 ∧ (∀ i ρ h, i ≤ is.length → P i ρ h → kp h) ∧
  (∀ i w ρ h, is[i]? = some w → P i ρ h → ∃ ρ2, bindW p w ρ = some ρ2 ∧ tb { D with nx := P (i + 1), ct := P (i + 1), bk := D.nx } ρ2 h) ∧ ∀ ρ h, P is.length ρ h → D.nx ρ h) (D.ex ρ)
theorem liI_then {σ : L2.St} {H : Hp} {t : TWI} {ρ : Wen} {h : WH} {k : It → Hp → Prop} {k' : List Wv → (WH → Prop) → WH → Prop} (m : MoI t) (rs : RelS X.K H ρ σ) (rh : RelH X.K h H) (q : t ρ h k' (exQ X.K H fun cls d H' => Z cls d σ H'))
    (hk : ∀ is kp h1 J H1, Grow X.K H H1 → RelH X.K h1 H1 → Src X.K H1 J is kp → k' is kp h1 → k J H1) : liI X.K Z t σ H k :=
  ⟨ρ, h, rs, rh, m ρ h _ _ _ _ (fun is kp h1 q1 J H1 g r s => hk is kp h1 J H1 g r s q1) (fun _ _ _ _ z => z) q⟩
theorem js_for {iter tg : Expr} {s : TWI} {pt : Pat} {body : List Stmt} {tb : TWS} (hp : PassesOwn (model X.prog X.w) X.A X.env X.xe) (hc : X.calm = true) (hi : JI X Z tg iter s) (hg : JP X tg pt) (hb : JSs X Z body tb)
    (hs : ∀ x, foldedSetIterable iter X.env x = pure x := by intro _; rfl) : JS X Z (.For tg iter body [] pos) (wFor s pt tb) where
  mo := fun D D' ρ h l q => hi.mo ρ h _ _ _ _ (fun is kp h1 ⟨P, p0, pk, ps, pe⟩ => ⟨P, p0, pk, fun i w ρ h e p => by
    obtain ⟨ρ2, e2, q2⟩ := ps i w ρ h e p
    exact ⟨ρ2, e2, hb.mo { D with nx := P (i + 1), ct := P (i + 1), bk := D.nx } _ _ _ ⟨fun _ _ z => z, l.rt, l.nx, fun _ _ z => z, l.ex⟩ q2⟩, fun ρ h p => l.nx _ _ (pe ρ h p)⟩) (fun _ _ _ _ z => l.ex _ _ _ _ _ z) q
  ps := imS (ps_for hp hc hi.pi hg.pg hb.ps hs) fun D σ0 H0 ⟨ρ0, h0, rs0, rh0, q⟩ => by
    refine liI_then hi.mo rs0 rh0 (hi.mo ρ0 h0 _ _ _ _ (fun _ _ _ z => z) (fun _ _ _ _ z => exS_exQ rs0 z) q) fun is kp h1 J H1 g1 r1 sr ⟨P, p0, pk, pst, pe⟩ => ?_
    refine ⟨fun i m σ H => ∃ ρ h, RelS X.K H ρ σ ∧ RelH X.K h H ∧ Grow X.K H1 H ∧ P i ρ h ∧ m = is.length - i ∧ i ≤ is.length, ⟨is.length, ρ0, h1, rs0.grow g1, r1, Grow.refl _ _, p0, by omega, by omega⟩, ?_⟩
    rintro i m σ H ⟨ρ, h, rs, rh, g, pi, hm, hle⟩
    have k := pk i ρ h hle pi
    by_cases hlt : i < is.length
    · obtain ⟨go, yl⟩ := sr.nth i is[i] h H (by simp [hlt]) g rh k
      refine .inr ⟨go, fun σ' H' => ∃ ρ h, RelS X.K H' ρ σ' ∧ RelH X.K h H' ∧ Grow X.K H1 H' ∧ P (i + 1) ρ h, fun σ' H' ⟨ρ', h', a1, a2, a3, a4⟩ => ⟨is.length - (i + 1), by omega, ρ', h', a1, a2, a3, a4, rfl, hlt⟩, fun x H' y => ?_⟩
      obtain ⟨g2, rh2, dx⟩ := yl x H' y
      obtain ⟨ρ2, e2, q2⟩ := pst i is[i] ρ h (by simp [hlt]) pi
      obtain ⟨σ2, rs2, _, k2⟩ := bindW_ok pt (rs.grow g2) dx e2
      refine k2 _ ⟨ρ2, h, rs2, rh2, hb.mo _ _ _ _ ⟨?_, ?_, ?_, ?_, ?_⟩ q2⟩
      · exact fun ρ' h' p' σ' H'' g' rs' rh' => ⟨ρ', h', rs', rh', (g.trans g2).trans g', p'⟩
      · exact fun w h z => z.back (g1.trans (g.trans g2))
      · exact fun ρ h z => z.back (g1.trans (g.trans g2))
      · exact fun ρ' h' p' σ' H'' g' rs' rh' => ⟨ρ', h', rs', rh', (g.trans g2).trans g', p'⟩
      · exact fun ρ C f w h z => exS_back (g1.trans (g.trans g2)) z
    · have e : i = is.length := by omega
      subst e
      exact .inl ⟨sr.stop h H g rh k, pe ρ h pi σ H (g1.trans g) rs rh⟩
end
end Pd
set_option Elab.async false
set_option linter.all false
set_option maxRecDepth 100000
set_option maxHeartbeats 4000000
namespace Pd
open PySem PySem.Spec PyProof.Rows L2
/-! ### from a raw walk over tuples to a tracked one -/
/-- what the raw walk's turn gives: a new tuple of tracked items -/
structure Steps (P : Program) (w : World) (X : Cx) (I : Addr) (wr : List Addr) (Own : Nat → Heap → Prop) (J : It) (i : Nat) (H : Hp) (s : Shared) : Prop where
  ex : ∃ fp n Pt St Mid, WalksT P w X.A I fp wr n Pt St Mid ∧ i < n ∧ St i s.heap ∧ (∀ h, St (i + 1) h → Own (i + 1) h) ∧
    ∀ vals : Array Value, Pt i vals → ∃ zs, Vals zs vals.toList ∧ zs.length ≤ sizeLine ∧ ∀ T, H T = none → J.yld i H (.ref T) (upd H T (.tup zs))
structure Ends (P : Program) (w : World) (X : Cx) (I : Addr) (wr : List Addr) (i : Nat) (s : Shared) : Prop where
  ex : ∃ fp Pt St Mid, WalksT P w X.A I fp wr i Pt St Mid ∧ St i s.heap
theorem turn_walksT {P : Program} {w : World} {K : PySem.W.Frag} {elts : List Expr} {kk : Nat} {tpos : Pos} {J : It} {wr : List Addr} {it : Addr} {Own : Nat → Heap → Prop} (mem : it ∈ wr)
    (obj : ∀ i h, Own i h → ∀ b ∈ wr, ∃ o, h.get? b = some o ∧ ∀ v, o.data ≠ .cell v)
    (keep : ∀ i h h', Own i h → (∀ b ∈ wr, ∀ o, h.get? b = some o → h'.get? b = some o) → Own i h')
    (step : ∀ (X : Cx), X.prog = P → X.w = w → X.K = K → X.calm = true → ∀ (i : Nat) (pins : List (Addr × Obj)) (s : Shared) (σ : L2.St) (H : Hp), Inv X pins σ H s → Own i s.heap → J.go i H → Steps P w X it wr Own J i H s)
    (fin : ∀ (X : Cx), X.prog = P → X.w = w → X.K = K → X.calm = true → ∀ (i : Nat) (pins : List (Addr × Obj)) (s : Shared) (σ : L2.St) (H : Hp), Inv X pins σ H s → Own i s.heap → J.stop i H → Ends P w X it wr i s)
    (self : ∀ (A : Around) (i : Nat) (s : Shared) (Q : Value → Shared → Prop) (E : Value → Shared → Prop), Own i s.heap → Q (.ref it) s → wpAny (model P w) A (pyIter (.ref it)) Q E s) :
    Turn P w K (.Tuple elts kk tpos) J wr it Own where
  mem := mem
  obj := obj
  keep := keep
  item := fun X e1 e2 e3 e4 i pins s σ H E inv away own go => by
    obtain ⟨fp, n, Pt, St, Mid, W, lt, st, back, tr⟩ := (step X e1 e2 e3 e4 i pins s σ H inv own go).ex
    subst e1 e2
    refine W.item i s _ E lt st fun T vals h1 tk pt new tup mid same => ⟨_, rfl, W.go elts kk tpos i T _ _ E mid fun h2 st2 same2 => ?_⟩
    obtain ⟨zs, rel, room, yl⟩ := tr vals pt
    have out := W.apart i T h1 mid
    have tup2 : IsTup h2 T vals := tup.at fun o q => same2 T o out q
    refine ⟨.ref T, _, inv.turnedNew (t' := tk) (ch := wr) (fun b o nb q => same2 b o nb (same b o nb q)) away new (ob := .tup zs) ⟨room, vals.toList, rel, by simpa using tup2⟩, rfl, yl T (inv.hok.fresh new), back _ st2, fun b hb => ?_⟩
    rw [upd_ne (by rintro rfl; exact out hb)]
    exact (away b hb).1
  done := fun X e1 e2 e3 e4 i pins s σ H E inv away own stop => by
    obtain ⟨fp, Pt, St, Mid, W, st⟩ := (fin X e1 e2 e3 e4 i pins s σ H inv own stop).ex
    subst e1 e2
    exact W.done s _ E st fun h1 tk same => ⟨rfl, inv.turnedL (t' := tk) (ch := wr) same away⟩
  self := self
/-! ### the tuple at a, each item in a new pair with its number -/
def IteT (K : PySem.W.Frag) (a : Addr) : It where
  go i H := ∃ (xs : List V) (x : V), SqT K H a xs ∧ xs[i]? = some x
  yld i H v H' := ∃ T x, v = .ref T ∧ H T = none ∧ H' = upd H T (.tup [.int (i : Nat), x]) ∧ ∀ xs, SqT K H a xs → xs[i]? = some x
  stop i H := ∃ xs : List V, SqT K H a xs ∧ xs.length = i
theorem two_room : (2 : Nat) ≤ sizeLine := by decide
/-- the cells of the walk: the counter's, the iterator's -/
abbrev EnumOwn (a e it : Addr) : Nat → Heap → Prop := fun i h => (∃ old, IsEnum h e it (0 + (i : Int)) old) ∧ h.IsTupleIter it a i
theorem turn_enumT {P : Program} {w : World} {K : PySem.W.Frag} {elts : List Expr} {kk : Nat} {tpos : Pos} {a e it : Addr} (n1 : e ≠ it) (n2 : a ≠ it) (n3 : a ≠ e) : Turn P w K (.Tuple elts kk tpos) (IteT K a) [e, it] e (EnumOwn a e it) :=
  turn_walksT (.head _)
    (fun i h ⟨⟨_, q⟩, ⟨o, q2, _, q3⟩⟩ b hb => by
      rcases List.mem_cons.mp hb with rfl | hb
      · exact ⟨_, q, nofun⟩
      · obtain rfl := List.mem_singleton.mp hb
        exact ⟨o, q2, fun v z => by simp [q3] at z⟩)
    (fun i h h' ⟨⟨old, q⟩, q2⟩ k => ⟨⟨old, k e (.head _) _ q⟩, q2.at (k it (.tail _ (.head _)))⟩)
    (fun X e1 e2 e3 e4 i pins s σ H inv own ⟨xs, x, sq, ex⟩ => by
      subst e1 e2 e3
      obtain ⟨its, rel, tup, _⟩ := inv.tuple sq
      obtain ⟨u, eu, ru⟩ := rel.get ex
      have lt : i < its.toArray.size := by simpa using (List.getElem?_eq_some_iff.mp eu).1
      refine ⟨_, _, _, _, _, WalksT.enumFrom 0 (Draws.tuple (A := X.A.in1) (inv.ok.hd e4) it a n2 its.toArray) e n1 (by simp [n1, Ne.symm n3]) (.head _), lt, ⟨own.1, own.2, tup⟩, fun h q => ⟨q.1, q.2.1⟩, ?_⟩
      rintro vals ⟨t, y, ey, rfl⟩
      have ey : its[i]? = some y := by simpa using ey
      rw [eu] at ey
      cases ey
      refine ⟨[.int (i : Nat), x], .cons ⟨t, by simp⟩ (.cons ru .nil), two_room, fun T hT => ⟨T, x, rfl, hT, rfl, fun ys sy => ?_⟩⟩
      rw [inv.tuple_inj sy sq, ex])
    (fun X e1 e2 e3 e4 i pins s σ H inv own ⟨xs, sq, len⟩ => by
      subst e1 e2 e3
      obtain ⟨its, rel, tup, _⟩ := inv.tuple sq
      have sz : its.toArray.size = i := by rw [List.size_toArray, ← rel.length, len]
      have W := WalksT.enumFrom (prog := X.prog) (w := X.w) (A := X.A) 0 (Draws.tuple (A := X.A.in1) (inv.ok.hd e4) it a n2 its.toArray) e n1 (by simp [n1, Ne.symm n3]) (.head _)
      rw [sz] at W
      exact ⟨_, _, _, _, W, own.1, own.2, tup⟩)
    (fun A i s Q E ⟨⟨_, q⟩, _⟩ h => wpAny_pyIter_enum q h)
end Pd
set_option Elab.async false
set_option linter.all false
set_option maxRecDepth 100000
set_option maxHeartbeats 4000000
namespace Pd
open PySem PySem.Spec PyProof.Rows L2
/-- the cell of an enumerate over the iterator at n -/
abbrev enumCell (n : Nat) : Obj := { cls := .type "enumerate", data := .fields #[.none, .bool false, .ref n, rawInt 0, .none, .none] }
theorem make_enum {v : Value} {o : Obj} {Hh : Heap → Prop} (B : Begins v o Hh) : Meets (Builtin.«enumerate.__new__» ⟨[.type "enumerate", v], []⟩) (fun _ R s => Hh s.heap ∧
    ∀ h', h' = (s.heap.push o).push (enumCell s.heap.objs.size) → R (.ok (.ret (.ref (s.heap.push o).objs.size))) { s with heap := h' }) :=
  .of_wp fun prog w A R s ⟨hb, k⟩ => by
    obtain ⟨hp, gs, dr, tk, os⟩ := s
    have sub := sub_enumerate
    have begin1 : ∀ {A' : Around} {E : Value → Shared → Prop} {Q : Value → Shared → Prop}, Q (.ref hp.objs.size) ⟨hp.push o, gs, dr, tk, os⟩ → wpAny (model prog w) A' (pyIter v) Q E ⟨hp, gs, dr, tk, os⟩ := fun q => B.iter prog w _ _ _ _ hb q
    wp_walk using begin1
    refine wpAny_stack_any fun _ => wpAny_pure ?_
    split
    · next c _ _ _ _ _ => cases (c == Value.type "enumerate") <;> (wp_walk using begin1; exact ⟨_, rfl, k _ rfl⟩)
    · wp_walk using begin1; exact ⟨_, rfl, k _ rfl⟩
/-- enumerate(v): two new cells -/
theorem call_enum {prog : Program} {w : World} {A : Around} {E : Value → Shared → Prop} {s : Shared} {v : Value} {o : Obj} {Hh : Heap → Prop} {Q : Value → Shared → Prop} (B : Begins v o Hh) (hb : Hh s.heap)
    (k : ∀ h', h' = (s.heap.push o).push (enumCell s.heap.objs.size) → Q (.ref (s.heap.objs.size + 1)) { s with heap := h' }) : wpAny (model prog w) A (call (.type "enumerate") [v]) Q E s := by
  have sz : (s.heap.push o).objs.size = s.heap.objs.size + 1 := Heap.size_push ..
  refine callType_new F.called_enumerate (by decide) (F.typeCall_enumerate_1 v) (F.newCall_enumerate_1 v) (F.args_object_init_2 · v) F.entry_enumerate_new (make_enum B) ⟨hb, fun h' e => ?_⟩
  subst e
  rw [sz]
  have there := Heap.get?_push_size (s.heap.push o) (o := enumCell s.heap.objs.size) rfl
  rw [sz] at there
  exact ⟨⟨_, there, rfl⟩, k _ rfl⟩
section
variable {X : Cx} {Z : L2.WX} {a b c e e2 l tg : Expr} {ta tb tc te tl : TWE} {t : TWA} {pos p apos cpos tpos : Pos} {es rest elts : List Expr} {kk : Nat} {x y : Str} {tl' : TE}
theorem pi_seq (hl : PE X l tl') : PI X tg l (fun σ H R => tl' σ H fun x H1 => ∃ a, x = .ref a ∧ ((∃ xs, H1 a = some (.lst xs) ∧ R (Itl X.K a) H1) ∨ (∃ xs, H1 a = some (.tup xs) ∧ R (Itt X.K a) H1))) where
  run pins s σ H R I h := thn (hl.run pins s σ H _ I h) fun v s1 ⟨x, H1, I1, r1, a, ex, k⟩ => by
    subst ex
    obtain rfl : v = .ref a := r1
    rcases k with ⟨xs, hq, q⟩ | ⟨xs, hq, q⟩
    · obtain ⟨its, _, p, _⟩ := I1.list (SqL.of hq)
      exact wpAny_pyIter_list p.isList (pi_one (tk := s1.toks) I1 _ (turn_list a _) ⟨_, Heap.get?_push_size _ rfl, rfl, rfl⟩ q)
    · obtain ⟨its, _, p, _⟩ := I1.tuple (SqT.of hq)
      exact wpAny_pyIter_tuple (items := its.toArray) p (pi_one (tk := s1.toks) I1 _ (turn_tuple a _) ⟨_, Heap.get?_push_size _ rfl, rfl, rfl⟩ q)
theorem pi_enumA {ta : TA} (hg : Gl X "enumerate") (hm : X.mg "enumerate" = none) (ha : PA X [e] ta) (hs : starEach [e] X.env = [(false, eval e X.env)]) :
    PI X (.Tuple elts kk tpos) (.Call (.Name "enumerate" p) [e] [] pos) (fun σ H R => ta σ H fun vs H1 => ∃ a, vs = [.ref a] ∧ ((∃ xs, H1 a = some (.lst xs) ∧ R (Ite X.K a) H1) ∨ (∃ xs, H1 a = some (.tup xs) ∧ R (IteT X.K a) H1))) where
  run pins s σ H R I h := Call_ (ld_blt I hg hm boot_enumerate (PyProof.Rows.callWith_type1 (thn (ha.run pos pins s σ H _ I h) fun us s1 ⟨vs, H1, I1, r1, a, ex, k⟩ => by
    subst ex
    obtain rfl := Vals.ref1 r1
    have kept : ∀ {ob : Obj} {h' : Heap}, h' = (s1.heap.push ob).push (enumCell s1.heap.objs.size) → ∀ b o, s1.heap.get? b = some o → h'.get? b = some o := fun e b o q => by
      subst e
      exact Heap.get?_push_of_some _ (Heap.get?_push_of_some _ q)
    have cell : ∀ {ob : Obj} {h' : Heap}, h' = (s1.heap.push ob).push (enumCell s1.heap.objs.size) → IsEnum h' (s1.heap.objs.size + 1) s1.heap.objs.size 0 .none := fun {ob h'} e => by
      subst e
      have there := Heap.get?_push_size (s1.heap.push ob) (o := enumCell s1.heap.objs.size) rfl
      rwa [Heap.size_push] at there
    have first : ∀ {ob : Obj} {h' : Heap}, ob.isFreed = false → h' = (s1.heap.push ob).push (enumCell s1.heap.objs.size) → h'.get? s1.heap.objs.size = some ob := fun live e => by
      subst e
      exact Heap.get?_push_of_some _ (Heap.get?_push_size _ live)
    have apart : ∀ b, b ∈ [s1.heap.objs.size + 1, s1.heap.objs.size] → FpOk X pins H1 b := fun b hb => by
      have above : s1.heap.objs.size ≤ b := by
        rcases List.mem_cons.mp hb with rfl | hb
        · exact Nat.le_succ _
        · exact Nat.le_of_eq (List.mem_singleton.mp hb).symm
      exact I1.fpOk above (I1.hok.fresh above)
    rcases k with ⟨xs, hq, q⟩ | ⟨xs, hq, q⟩
    · obtain ⟨its, _, p', _⟩ := I1.list (SqL.of hq)
      exact call_enum (begins_list a its.toArray) p'.isList fun h' eh => wpAny_pyIter_enum (cell eh) ⟨_, _, _, _, H1, rfl, I1.kept (t' := s1.toks) (kept eh), turn_enum a _ _, ⟨⟨.none, cell eh⟩, ⟨_, first rfl eh, rfl, rfl⟩, Nat.succ_ne_self _⟩, apart, q⟩
    · obtain ⟨its, _, p', _⟩ := I1.tuple (SqT.of hq)
      have low := I1.hok.lt hq
      exact call_enum (begins_tuple a its.toArray) p' fun h' eh => wpAny_pyIter_enum (cell eh) ⟨_, _, _, _, H1, rfl, I1.kept (t' := s1.toks) (kept eh), turn_enumT (a := a) (Nat.succ_ne_self _) (Nat.ne_of_lt low) (Nat.ne_of_lt (Nat.lt_succ_of_lt low)),
        ⟨⟨.none, cell eh⟩, ⟨_, first rfl eh, rfl, rfl⟩⟩, apart, q⟩) hs rfl))
/-! ### readings -/
/-- what holds of a list that is walked -/
def keepO (w : Wv) (ws : List Wv) : WH → Prop := match w with
  | .ref a => fun h => h a = some (.lst ws)
  | _ => fun _ => True
def onSeq (Q : List Wv → (WH → Prop) → WH → Prop) (f : List Wv → List Wv) (w : Wv) (h : WH) : Prop := match itemsO h w with
  | some ws => Q (f ws) (keepO w ws) h
  | none => False
theorem onSeq_mo {Q Q' : List Wv → (WH → Prop) → WH → Prop} {f : List Wv → List Wv} {w : Wv} {h : WH} (hq : ∀ is kp h', Q is kp h' → Q' is kp h') (q : onSeq Q f w h) : onSeq Q' f w h := by
  unfold onSeq at q ⊢
  split
  · rename_i e
    rw [e] at q
    exact hq _ _ _ q
  · rename_i e
    rw [e] at q
    exact q
def wISeq (te : TWE) : TWI := fun ρ h Q E => te ρ h (fun w h1 => onSeq Q id w h1) E
theorem items_at {K : PySem.W.Frag} {H : Hp} {h : WH} (rh : RelH K h H) {w : Wv} {v : V} {ws : List Wv} (d : Den K H w v) (e : itemsO h w = some ws) : ∃ p vs, v = .ref p ∧ ((H p = some (.lst vs) ∧ keepO w ws = fun h => h p = some (.lst ws)) ∨ H p = some (.tup vs)) ∧ DenL K H ws vs := by
  cases w <;> simp [itemsO] at e
  · subst e
    obtain ⟨p, vs, e1, e2, l⟩ := d
    exact ⟨p, vs, e1, .inr e2, l⟩
  · rename_i a
    have d : v = .ref a := d
    split at e
    · rename_i ws' e'
      simp at e
      subst e
      obtain ⟨vs, e3, l⟩ := rh.lst e'
      exact ⟨a, vs, d, .inl ⟨e3, rfl⟩, l⟩
    · cases e
theorem src_list {K : PySem.W.Frag} {H : Hp} {p : Addr} {ws : List Wv} : Src K H (Itl K p) ws (fun h => h p = some (.lst ws)) where
  nth := fun i w h H' e g rh k => by
    obtain ⟨vs, e2, l⟩ := rh.lst k
    obtain ⟨v, ev, dv⟩ := l.get e
    refine ⟨⟨vs, v, SqL.of e2, ev⟩, fun x H'' y => ?_⟩
    obtain ⟨rfl, y⟩ := y
    have := y vs (SqL.of e2)
    rw [ev] at this
    cases this
    exact ⟨Grow.refl _ _, rh, dv⟩
  stop := fun h H' g rh k => by
    obtain ⟨vs, e2, l⟩ := rh.lst k
    exact ⟨vs, SqL.of e2, by rw [← l.length]; exact Nat.le_refl _⟩
theorem src_tup {K : PySem.W.Frag} {H : Hp} {p : Addr} {ws : List Wv} {vs : List V} {kp : WH → Prop} (hp : H p = some (.tup vs)) (l : DenL K H ws vs) : Src K H (Itt K p) ws kp where
  nth := fun i w h H' e g rh k => by
    obtain ⟨v, ev, dv⟩ := (l.grow g).get e
    have hp' := g.1 p _ hp
    refine ⟨⟨vs, v, SqT.of hp', ev⟩, fun x H'' y => ?_⟩
    obtain ⟨rfl, y⟩ := y
    have := y vs (SqT.of hp')
    rw [ev] at this
    cases this
    exact ⟨Grow.refl _ _, rh, dv⟩
  stop := fun h H' g rh k => ⟨vs, SqT.of (g.1 p _ hp), by rw [← l.length]; exact Nat.le_refl _⟩
/-- a loop over the script -/
def wIScr (te : TWE) : TWI := fun ρ h Q E => te ρ h (fun w h1 => match w with
  | .scr ns => Q (ns.map .int) (fun _ => True) h1
  | _ => False) E
theorem SqZ.grow {K : PySem.W.Frag} {H H' : Hp} {a : Addr} {xs : List V} (s : SqZ K H a xs) (g : Grow K H H') : SqZ K H' a xs := by
  rcases s with ⟨o, e⟩ | s
  · exact .inl ⟨o, g.2 _ _ _ e⟩
  · exact .inr s
theorem src_scr {K : PySem.W.Frag} {H : Hp} {p : Addr} {ns : List Int} {kp : WH → Prop} (s : SqZ K H p (ns.map V.int)) : Src K H (Itl K p) (ns.map .int) kp where
  nth := fun i w h H' e g rh k => by
    rw [List.getElem?_map] at e
    cases er : ns[i]? with
    | none => rw [er] at e; cases e
    | some x =>
      rw [er] at e
      cases e
      have s' := (s.grow g).seq
      have ev : (ns.map V.int)[i]? = some (V.int x) := by rw [List.getElem?_map, er]; rfl
      refine ⟨⟨_, _, s', ev⟩, fun z H'' y => ?_⟩
      obtain ⟨rfl, y⟩ := y
      have := y _ s'
      rw [ev] at this
      cases this
      exact ⟨Grow.refl _ _, rh, rfl⟩
  stop := fun h H' g rh k => ⟨_, (s.grow g).seq, by rw [List.length_map, List.length_map]; exact Nat.le_refl _⟩
theorem ji_scr (he : JE X Z e te) : JI X Z tg e (wIScr te) where
  mo := fun ρ h Q Q' E E' hq hx q => he.mo ρ h _ _ _ _ (fun w h1 q1 => by
    cases w <;> first | exact q1.elim | skip
    exact hq _ _ _ q1) hx q
  pi := imI (pi_list he.pe) fun σ H R ⟨ρ, h, rs, rh, q⟩ => by
    refine li_then (E := fun _ _ _ _ => False) he.mo rs rh q fun w h1 v H1 g1 r1 d1 q1 => ?_
    cases w <;> first | exact q1.elim | skip
    rename_i ns
    obtain ⟨a, rfl, s⟩ := d1
    exact ⟨a, rfl, ⟨_, s.seq⟩, q1 _ _ g1 r1 (src_scr s)⟩
theorem ji_seq (he : JE X Z e te) : JI X Z tg e (wISeq te) where
  mo := fun ρ h Q Q' E E' hq hx q => he.mo ρ h _ _ _ _ (fun w h1 q1 => onSeq_mo hq q1) hx q
  pi := imI (pi_seq he.pe) fun σ H R ⟨ρ, h, rs, rh, q⟩ => by
    refine li_then (E := fun _ _ _ _ => False) he.mo rs rh q fun w h1 v H1 g1 r1 d1 q1 => ?_
    unfold onSeq at q1
    split at q1
    · rename_i ws e1
      obtain ⟨p, vs, rfl, k, l⟩ := items_at r1 d1 e1
      refine ⟨p, rfl, ?_⟩
      rcases k with ⟨k, ek⟩ | k
      · rw [ek] at q1
        exact .inl ⟨vs, k, q1 _ _ g1 r1 src_list⟩
      · exact .inr ⟨vs, k, q1 _ _ g1 r1 (src_tup k l)⟩
    · exact q1.elim
def enumW (i : Nat) : List Wv → List Wv
  | [] => []
  | w :: r => .tup [.int (i : Nat), w] :: enumW (i + 1) r
theorem enumW_length : ∀ (ws : List Wv) (i : Nat), (enumW i ws).length = ws.length
  | [], _ => rfl
  | w :: r, i => by simp [enumW, enumW_length r]
theorem enumW_get : ∀ (ws : List Wv) (i j : Nat), (enumW i ws)[j]? = (ws[j]?).map fun w => .tup [.int ((i + j : Nat) : Int), w]
  | [], _, _ => by simp [enumW]
  | w :: r, i, 0 => by simp [enumW]
  | w :: r, i, j + 1 => by
    simp only [enumW, List.getElem?_cons_succ]
    rw [enumW_get r (i + 1) j]
    have : i + 1 + j = i + (j + 1) := by omega
    rw [this]
def wIEnum (te : TWE) : TWI := fun ρ h Q E => te ρ h (fun w h1 => onSeq Q (enumW 0) w h1) E
theorem pair_new {K : PySem.W.Frag} {H : Hp} {h : WH} {T : Addr} {w1 w2 : Wv} {v1 v2 : V} (rh : RelH K h H) (hT : H T = none) (d1 : Den K H w1 v1) (d2 : Den K H w2 v2) :
    Grow K H (upd H T (.tup [v1, v2])) ∧ RelH K h (upd H T (.tup [v1, v2])) ∧ Den K (upd H T (.tup [v1, v2])) (.tup [w1, w2]) (.ref T) :=
  ⟨grow_new hT, rh.hid hT, T, _, rfl, upd_same, .cons (Den.grow (grow_new hT) _ d1) (.cons (Den.grow (grow_new hT) _ d2) rfl)⟩
theorem src_enumL {K : PySem.W.Frag} {H : Hp} {p : Addr} {ws : List Wv} : Src K H (Ite K p) (enumW 0 ws) (fun h => h p = some (.lst ws)) where
  nth := fun i w h H' e g rh k => by
    obtain ⟨vs, e2, l⟩ := rh.lst k
    rw [enumW_get] at e
    cases e1 : ws[i]? with
    | none => rw [e1] at e; cases e
    | some u =>
      rw [e1] at e
      simp at e
      subst e
      obtain ⟨v, ev, dv⟩ := l.get e1
      refine ⟨⟨vs, v, SqL.of e2, ev⟩, fun x H'' ⟨T, x', q1, q2, q3, q4⟩ => ?_⟩
      subst q1 q3
      have := q4 vs (SqL.of e2)
      rw [ev] at this
      cases this
      exact pair_new rh q2 rfl dv
  stop := fun h H' g rh k => by
    obtain ⟨vs, e2, l⟩ := rh.lst k
    rw [enumW_length]
    exact ⟨vs, SqL.of e2, by rw [← l.length]; exact Nat.le_refl _⟩
theorem src_enumT {K : PySem.W.Frag} {H : Hp} {p : Addr} {ws : List Wv} {vs : List V} {kp : WH → Prop} (hp : H p = some (.tup vs)) (l : DenL K H ws vs) : Src K H (IteT K p) (enumW 0 ws) kp where
  nth := fun i w h H' e g rh k => by
    have hp' := g.1 p _ hp
    rw [enumW_get] at e
    cases e1 : ws[i]? with
    | none => rw [e1] at e; cases e
    | some u =>
      rw [e1] at e
      simp at e
      subst e
      obtain ⟨v, ev, dv⟩ := (l.grow g).get e1
      refine ⟨⟨vs, v, SqT.of hp', ev⟩, fun x H'' ⟨T, x', q1, q2, q3, q4⟩ => ?_⟩
      subst q1 q3
      have := q4 vs (SqT.of hp')
      rw [ev] at this
      cases this
      exact pair_new rh q2 rfl dv
  stop := fun h H' g rh k => by
    rw [enumW_length]
    exact ⟨vs, SqT.of (g.1 p _ hp), by rw [← l.length]⟩
theorem ji_enum (he : JE X Z e te) (hm : X.mg "enumerate" = none) (hg : Gl X "enumerate" := by rfl) (hs : starEach [e] X.env = [(false, eval e X.env)] := by rfl) : JI X Z (.Tuple elts kk tpos) (.Call (.Name "enumerate" p) [e] [] pos) (wIEnum te) where
  mo := fun ρ h Q Q' E E' hq hx q => he.mo ρ h _ _ _ _ (fun w h1 q1 => onSeq_mo hq q1) hx q
  pi := imI (pi_enumA hg hm (pa_cons he.pe pa_nil hs) hs) fun σ H R ⟨ρ, h, rs, rh, q⟩ => by
    refine li_then (E := fun _ _ _ _ => False) he.mo rs rh q fun w h1 v H1 g1 r1 d1 q1 => ?_
    unfold onSeq at q1
    split at q1
    · rename_i ws e1
      obtain ⟨p, vs, rfl, k, l⟩ := items_at r1 d1 e1
      refine ⟨p, rfl, ?_⟩
      rcases k with ⟨k, ek⟩ | k
      · rw [ek] at q1
        exact .inl ⟨vs, k, q1 _ _ g1 r1 src_enumL⟩
      · exact .inr ⟨vs, k, q1 _ _ g1 r1 (src_enumT k l)⟩
    · exact q1.elim
/-! ### range -/
def rgW (a b : Int) : List Wv := (List.range (b - a).toNat).map fun i => .int (a + (i : Nat))
theorem rgW_length (a b : Int) : (rgW a b).length = (b - a).toNat := by unfold rgW; rw [List.length_map, List.length_range]
theorem src_range {K : PySem.W.Frag} {H : Hp} {a b : Int} {kp : WH → Prop} : Src K H (Itr a (b - a).toNat) (rgW a b) kp where
  nth := fun i w h H' e g rh k => by
    have hi : i < (b - a).toNat := by
      have := (List.getElem?_eq_some_iff.mp e).1
      rw [rgW_length] at this
      exact this
    unfold rgW at e
    rw [List.getElem?_map, List.getElem?_range hi] at e
    simp at e
    subst e
    refine ⟨hi, fun x H'' y => ?_⟩
    obtain ⟨rfl, rfl⟩ := y
    exact ⟨Grow.refl _ _, rh, rfl⟩
  stop := fun h H' g rh k => by
    rw [rgW_length]
    exact Nat.le_refl _
def rgOk (i : Int) : Bool := decide (-(2 ^ 62) ≤ i) && decide (i < 2 ^ 62)
theorem rgOk_iff {i : Int} (h : rgOk i = true) : -(2 ^ 62) ≤ i ∧ i < 2 ^ 62 := by
  unfold rgOk at h
  simp only [Bool.and_eq_true, decide_eq_true_eq] at h
  exact h
def wIRng1 (te : TWE) : TWI := fun ρ h Q E => te ρ h (fun w h1 => match w with
  | .int j => rgOk j = true ∧ Q (rgW 0 j) (fun _ => True) h1
  | _ => False) E
def wIRng2 (ta tb : TWE) : TWI := fun ρ h Q E => ta ρ h (fun w h1 => tb ρ h1 (fun u h2 => match w, u with
  | .int i, .int j => (rgOk i = true ∧ rgOk j = true) ∧ Q (rgW i j) (fun _ => True) h2
  | _, _ => False) E) E
theorem ji_rng1 (ha : JE X Z a ta) (hm : X.mg "range" = none) (hg : Gl X "range" := by rfl) (hs : starEach [a] X.env = [(false, eval a X.env)] := by rfl) : JI X Z tg (.Call (.Name "range" p) [a] [] pos) (wIRng1 ta) where
  mo := fun ρ h Q Q' E E' hq hx q => ha.mo ρ h _ _ _ _ (fun w h1 q1 => by
    cases w <;> first | exact q1.elim | skip
    exact ⟨q1.1, hq _ _ _ q1.2⟩) hx q
  pi := imI (pi_range1 hg hm (pa_cons ha.pe pa_nil hs) hs) fun σ H R ⟨ρ, h, rs, rh, q⟩ => by
    refine li_then (E := fun _ _ _ _ => False) ha.mo rs rh q fun w h1 v H1 g1 r1 d1 q1 => ?_
    cases w <;> first | exact q1.elim | skip
    rename_i j
    have d1 : v = .int j := d1
    subst d1
    obtain ⟨k1, k2⟩ := rgOk_iff q1.1
    refine ⟨j, rfl, k1, k2, ?_⟩
    have := q1.2 (Itr 0 (j - 0).toNat) H1 g1 r1 src_range
    rwa [Int.sub_zero] at this
theorem ji_rng2 (ha : JE X Z a ta) (hb : JE X Z b tb) (hm : X.mg "range" = none) (hg : Gl X "range" := by rfl) (hs : starEach [a, b] X.env = [(false, eval a X.env), (false, eval b X.env)] := by rfl) (hs2 : starEach [b] X.env = [(false, eval b X.env)] := by rfl) :
    JI X Z tg (.Call (.Name "range" p) [a, b] [] pos) (wIRng2 ta tb) where
  mo := fun ρ h Q Q' E E' hq hx q => ha.mo ρ h _ _ _ _ (fun w h1 q1 => hb.mo ρ h1 _ _ _ _ (fun u h2 q2 => by
    cases w <;> first | exact q2.elim | skip
    cases u <;> first | exact q2.elim | skip
    exact ⟨q2.1, hq _ _ _ q2.2⟩) hx q1) hx q
  pi := imI (pi_range2 hg hm (pa_cons ha.pe (pa_cons hb.pe pa_nil hs2) (by rw [hs, hs2])) hs hs2) fun σ H R ⟨ρ, h, rs, rh, q⟩ => by
    refine li_then (E := fun _ _ _ _ => False) ha.mo rs rh q fun w h1 v H1 g1 r1 d1 q1 => ?_
    have q1' := hb.mo ρ h1 _ _ _ (exQ X.K H1 fun cls d H' => Z cls d σ H') (fun _ _ z => z) (exQ_back g1) q1
    refine li_then (E := fun _ _ _ _ => False) hb.mo (rs.grow g1) r1 q1' fun u h2 v2 H2 g2 r2 d2 q2 => ?_
    cases w <;> first | exact q2.elim | skip
    cases u <;> first | exact q2.elim | skip
    rename_i i j
    have d1 : v = .int i := d1
    have d2 : v2 = .int j := d2
    subst d1 d2
    obtain ⟨k1, k2⟩ := rgOk_iff q2.1.1
    obtain ⟨k3, k4⟩ := rgOk_iff q2.1.2
    exact ⟨i, j, rfl, ⟨k1, k2, k3, k4⟩, q2.2 (Itr i (j - i).toNat) H2 (g1.trans g2) r2 src_range⟩
/-! ### range(a, b, c) -/
def rgcW (a c : Int) (n : Nat) : List Wv := (List.range n).map fun i => .int (a + (i : Nat) * c)
theorem rgcW_length (a c : Int) (n : Nat) : (rgcW a c n).length = n := by unfold rgcW; rw [List.length_map, List.length_range]
theorem src_rangeC {K : PySem.W.Frag} {H : Hp} {a c : Int} {n : Nat} {kp : WH → Prop} : Src K H (Itc a c n) (rgcW a c n) kp where
  nth := fun i w h H' e g rh k => by
    have hi : i < n := by
      have := (List.getElem?_eq_some_iff.mp e).1
      rw [rgcW_length] at this
      exact this
    unfold rgcW at e
    rw [List.getElem?_map, List.getElem?_range hi] at e
    simp at e
    subst e
    refine ⟨hi, fun x H'' y => ?_⟩
    obtain ⟨rfl, rfl⟩ := y
    exact ⟨Grow.refl _ _, rh, rfl⟩
  stop := fun h H' g rh k => by
    rw [rgcW_length]
    exact Nat.le_refl _
def rgcOk (i j c : Int) : Bool := decide (c ≠ 0) && decide (c.natAbs < 1073741824) && Builtin.Range.small i j c && decide (0 ≤ Builtin.Range.rangeSize i j c)
def wIRng3 (ta tb tc : TWE) : TWI := fun ρ h Q E => ta ρ h (fun w h1 => tb ρ h1 (fun u h2 => tc ρ h2 (fun x h3 => match w, u, x with
  | .int i, .int j, .int c => rgcOk i j c = true ∧ Q (rgcW i c (Builtin.Range.rangeSize i j c).toNat) (fun _ => True) h3
  | _, _, _ => False) E) E) E
theorem ji_rng3 (ha : JE X Z a ta) (hb : JE X Z b tb) (hc : JE X Z c tc) (hm : X.mg "range" = none) (hg : Gl X "range" := by rfl)
    (hs : starEach [a, b, c] X.env = (false, eval a X.env) :: starEach [b, c] X.env := by rfl) (hs2 : starEach [b, c] X.env = (false, eval b X.env) :: starEach [c] X.env := by rfl) (hs3 : starEach [c] X.env = [(false, eval c X.env)] := by rfl) 
    (hpl : (backTo pos (starEach [b, c] X.env)).any (·.1) = false := by rfl) : JI X Z tg (.Call (.Name "range" p) [a, b, c] [] pos) (wIRng3 ta tb tc) where
  mo := fun ρ h Q Q' E E' hq hx q => ha.mo ρ h _ _ _ _ (fun w h1 q1 => hb.mo ρ h1 _ _ _ _ (fun u h2 q2 => hc.mo ρ h2 _ _ _ _ (fun x h3 q3 => by
    cases w <;> first | exact q3.elim | skip
    cases u <;> first | exact q3.elim | skip
    cases x <;> first | exact q3.elim | skip
    exact ⟨q3.1, hq _ _ _ q3.2⟩) hx q2) hx q1) hx q
  pi := imI (pi_range3 hg hm (pa_cons ha.pe (pa_cons hb.pe (pa_cons hc.pe pa_nil hs3) hs2) hs) (by assumption) (by assumption)) fun σ H R ⟨ρ, h, rs, rh, q⟩ => by
    refine li_then (E := fun _ _ _ _ => False) ha.mo rs rh q fun w h1 v H1 g1 r1 d1 q1 => ?_
    have q1' := hb.mo ρ h1 _ _ _ (exQ X.K H1 fun cls d H' => Z cls d σ H') (fun _ _ z => z) (exQ_back g1) q1
    refine li_then (E := fun _ _ _ _ => False) hb.mo (rs.grow g1) r1 q1' fun u h2 v2 H2 g2 r2 d2 q2 => ?_
    have q2' := hc.mo ρ h2 _ _ _ (exQ X.K H2 fun cls d H' => Z cls d σ H') (fun _ _ z => z) (exQ_back (g1.trans g2)) q2
    refine li_then (E := fun _ _ _ _ => False) hc.mo (rs.grow (g1.trans g2)) r2 q2' fun x h3 v3 H3 g3 r3 d3 q3 => ?_
    cases w <;> first | exact q3.elim | skip
    cases u <;> first | exact q3.elim | skip
    cases x <;> first | exact q3.elim | skip
    rename_i i j c
    have d1 : v = .int i := d1
    have d2 : v2 = .int j := d2
    have d3 : v3 = .int c := d3
    subst d1 d2 d3
    obtain ⟨k, q4⟩ := q3
    unfold rgcOk at k
    simp only [Bool.and_eq_true, decide_eq_true_eq] at k
    obtain ⟨⟨⟨k1, k2⟩, k3⟩, k4⟩ := k
    exact ⟨i, j, c, (Builtin.Range.rangeSize i j c).toNat, rfl, ⟨k1, k2, k3, by omega⟩, q4 _ H3 ((g1.trans g2).trans g3) r3 src_rangeC⟩
/-! ### zip -/
def zipW : List Wv → List Wv → List Wv
  | w :: r, u :: s => .tup [w, u] :: zipW r s
  | _, _ => []
theorem zipW_get : ∀ (ws us : List Wv) (j : Nat) (z : Wv), (zipW ws us)[j]? = some z → ∃ w u, ws[j]? = some w ∧ us[j]? = some u ∧ z = .tup [w, u]
  | [], _, _, _, e => by simp [zipW] at e
  | _ :: _, [], _, _, e => by simp [zipW] at e
  | w :: r, u :: s, 0, z, e => by simp [zipW] at e; exact ⟨w, u, rfl, rfl, e.symm⟩
  | w :: r, u :: s, j + 1, z, e => by
    simp only [zipW, List.getElem?_cons_succ] at e
    simpa using zipW_get r s j z e
theorem zipW_length : ∀ (ws us : List Wv), (zipW ws us).length = min ws.length us.length
  | [], _ => by simp [zipW]
  | _ :: _, [] => by simp [zipW]
  | w :: r, u :: s => by simp [zipW, zipW_length r s, Nat.succ_min_succ]
theorem src_zipL {K : PySem.W.Frag} {H : Hp} {p1 p2 : Addr} {ws us : List Wv} : Src K H (Itz K p1 p2) (zipW ws us) (fun h => h p1 = some (.lst ws) ∧ h p2 = some (.lst us)) where
  nth := fun i w h H' e g rh k => by
    obtain ⟨vs, e2, l⟩ := rh.lst k.1
    obtain ⟨xs, e3, l3⟩ := rh.lst k.2
    obtain ⟨w1, u1, a1, a2, rfl⟩ := zipW_get _ _ _ _ e
    obtain ⟨v, ev, dv⟩ := l.get a1
    obtain ⟨x, ex, dx⟩ := l3.get a2
    refine ⟨⟨vs, xs, v, x, SqL.of e2, SqL.of e3, ev, ex⟩, fun z H'' ⟨T, x1, y1, q1, q2, q3, q4, q5⟩ => ?_⟩
    subst q1 q3
    have := q4 vs (SqL.of e2)
    rw [ev] at this
    cases this
    have := q5 xs (SqL.of e3)
    rw [ex] at this
    cases this
    exact pair_new rh q2 dv dx
  stop := fun h H' g rh k => by
    obtain ⟨vs, e2, l⟩ := rh.lst k.1
    obtain ⟨xs, e3, l3⟩ := rh.lst k.2
    rw [zipW_length, l.length, l3.length]
    exact ⟨vs, xs, SqL.of e2, SqL.of e3, by omega⟩
theorem src_zipT {K : PySem.W.Frag} {H : Hp} {p1 p2 : Addr} {ws us : List Wv} {vs xs : List V} {kp : WH → Prop} (h1 : H p1 = some (.tup vs)) (h2 : H p2 = some (.tup xs)) (l : DenL K H ws vs) (l3 : DenL K H us xs) : Src K H (RZ.ItzT K p1 p2) (zipW ws us) kp where
  nth := fun i w h H' e g rh k => by
    have e2 := g.1 _ _ h1
    have e3 := g.1 _ _ h2
    obtain ⟨w1, u1, a1, a2, rfl⟩ := zipW_get _ _ _ _ e
    obtain ⟨v, ev, dv⟩ := (l.grow g).get a1
    obtain ⟨x, ex, dx⟩ := (l3.grow g).get a2
    refine ⟨⟨vs, xs, v, x, SqT.of e2, SqT.of e3, ev, ex⟩, fun z H'' ⟨T, x1, y1, q1, q2, q3, q4, q5⟩ => ?_⟩
    subst q1 q3
    have := q4 vs (SqT.of e2)
    rw [ev] at this
    cases this
    have := q5 xs (SqT.of e3)
    rw [ex] at this
    cases this
    exact pair_new rh q2 dv dx
  stop := fun h H' g rh k => by
    rw [zipW_length, l.length, l3.length]
    exact ⟨vs, xs, SqT.of (g.1 _ _ h1), SqT.of (g.1 _ _ h2), by omega⟩
/-- both lists, or both tuples -/
def onZip (Q : List Wv → (WH → Prop) → WH → Prop) (w u : Wv) (h : WH) : Prop := match w, u with
  | .tup ws, .tup us => Q (zipW ws us) (fun _ => True) h
  | .ref a, .ref b => match h a, h b with
    | some (.lst ws), some (.lst us) => Q (zipW ws us) (fun h => h a = some (.lst ws) ∧ h b = some (.lst us)) h
    | _, _ => False
  | _, _ => False
theorem onZip_mo {Q Q' : List Wv → (WH → Prop) → WH → Prop} {w u : Wv} {h : WH} (hq : ∀ is kp h', Q is kp h' → Q' is kp h') (q : onZip Q w u h) : onZip Q' w u h := by
  cases w <;> first | exact q.elim | skip
  · cases u <;> first | exact q.elim | skip
    exact hq _ _ _ q
  · cases u <;> first | exact q.elim | skip
    unfold onZip at q ⊢
    dsimp only at q ⊢
    split
    · rename_i e1 e2
      rw [e1, e2] at q
      exact hq _ _ _ q
    · rename_i z
      split at q
      · rename_i e1 e2
        exact (z _ _ e1 e2).elim
      · exact q
def wIZip (ta tb : TWE) : TWI := fun ρ h Q E => ta ρ h (fun w h1 => tb ρ h1 (fun u h2 => onZip Q w u h2) E) E
theorem ji_zip (ha : JE X Z a ta) (hb : JE X Z b tb) (hm : X.mg "zip" = none) (hg : Gl X "zip" := by rfl) (hs : starEach [a, b] X.env = (false, eval a X.env) :: starEach [b] X.env := by rfl) (hs2 : starEach [b] X.env = (false, eval b X.env) :: starEach [] X.env := by rfl)
    (hpl : (backTo pos (starEach [b] X.env)).any (·.1) = false := by rfl) : JI X Z (.Tuple elts kk tpos) (.Call (.Name "zip" p) [a, b] [] pos) (wIZip ta tb) where
  mo := fun ρ h Q Q' E E' hq hx q => ha.mo ρ h _ _ _ _ (fun w h1 q1 => hb.mo ρ h1 _ _ _ _ (fun u h2 q2 => onZip_mo hq q2) hx q1) hx q
  pi := imI (RZ.pi_zipA hg hm (pa_cons ha.pe (pa_cons hb.pe pa_nil hs2) hs) hs hpl) fun σ H R ⟨ρ, h, rs, rh, q⟩ => by
    refine li_then (E := fun _ _ _ _ => False) ha.mo rs rh q fun w h1 v H1 g1 r1 d1 q1 => ?_
    have q1' := hb.mo ρ h1 _ _ _ (exQ X.K H1 fun cls d H' => Z cls d σ H') (fun _ _ z => z) (exQ_back g1) q1
    refine li_then (E := fun _ _ _ _ => False) hb.mo (rs.grow g1) r1 q1' fun u h2 v2 H2 g2 r2 d2 q2 => ?_
    have d1' := Den.grow g2 _ d1
    cases w <;> first | exact q2.elim | skip
    · cases u <;> first | exact q2.elim | skip
      obtain ⟨p1, vs, rfl, k1, l1⟩ := d1'
      obtain ⟨p2, xs, rfl, k2, l2⟩ := d2
      exact ⟨p1, p2, vs, xs, rfl, .inr ⟨SqT.of k1, SqT.of k2, q2 _ H2 (g1.trans g2) r2 (src_zipT k1 k2 l1 l2)⟩⟩
    · cases u <;> first | exact q2.elim | skip
      rename_i a1 b1
      replace d1' : v = .ref a1 := d1'
      replace d2 : v2 = .ref b1 := d2
      subst d1' d2
      unfold onZip at q2
      dsimp only at q2
      split at q2
      · rename_i e1 e2
        obtain ⟨vs, k1, l1⟩ := r2.lst e1
        obtain ⟨xs, k2, l2⟩ := r2.lst e2
        exact ⟨_, _, vs, xs, rfl, .inl ⟨SqL.of k1, SqL.of k2, q2 _ H2 (g1.trans g2) r2 src_zipL⟩⟩
      · exact q2.elim
end
end Pd
set_option Elab.async false
set_option linter.all false
set_option maxRecDepth 100000
set_option maxHeartbeats 4000000
namespace Pd
open PySem PySem.Spec PyProof.Rows L2
/-! ### list comprehensions -/
def wipeW (ρ : Wen) : List Nat → Wen
  | [] => ρ
  | v :: vs => (wipeW ρ vs).set v none
theorem wipeW_length (ρ : Wen) : ∀ vs, (wipeW ρ vs).length = ρ.length
  | [] => rfl
  | v :: vs => by unfold wipeW; rw [List.length_set, wipeW_length ρ vs]
theorem wipeW_some {ρ : Wen} {i : Nat} {w : Wv} : ∀ {vs : List Nat}, (wipeW ρ vs)[i]? = some (some w) → ρ[i]? = some (some w) ∧ i ∉ vs
  | [], h => ⟨h, by simp⟩
  | v :: vs, h => by
    unfold wipeW at h
    by_cases e : v = i
    · subst e
      by_cases hl : v < (wipeW ρ vs).length
      · rw [List.getElem?_set_self hl] at h
        simp at h
      · rw [List.getElem?_eq_none (by rw [List.length_set]; omega)] at h
        cases h
    · rw [List.getElem?_set_ne e] at h
      obtain ⟨a, b⟩ := wipeW_some h
      exact ⟨a, by simp [b, Ne.symm e]⟩
theorem RelS.wipe {K : PySem.W.Frag} {H : Hp} {ρ : Wen} {σ : L2.St} (r : RelS K H ρ σ) (vs : List Nat) : RelS K H (wipeW ρ vs) (wipe σ vs) := ⟨by rw [wipeW_length, wipe_length]; exact r.1, fun i w e => by
  obtain ⟨e1, n⟩ := wipeW_some e
  obtain ⟨v, e2, d⟩ := r.2 i w e1
  exact ⟨v, by rw [wipe_get, if_neg n]; exact e2, d⟩⟩
theorem wipe_wipe (σ : L2.St) (vs : List Nat) : wipe (wipe σ vs) vs = wipe σ vs := by
  apply List.ext_getElem?
  intro j
  rw [wipe_get, wipe_get]
  by_cases hj : j ∈ vs
  · rw [if_pos hj, if_pos hj, Option.map_map]
    rfl
  · rw [if_neg hj, if_neg hj]
abbrev F0 : WX := fun _ _ _ _ => False
abbrev Z0 : L2.WX := fun _ _ _ _ => False
structure JTs (X : Cx) (Z : L2.WX) (es : List Expr) (t : TWT) : Prop where
  mo : MoT t
  pt : PTs X es (liT X.K Z t)
def wYes : TWT := fun _ h Q _ => Q true h
theorem imTs {X : Cx} {es : List Expr} {t t' : TT} (h : PTs X es t) (i : ∀ σ H Q, t' σ H Q → t σ H Q) : PTs X es t' := ⟨fun pins s σ H Q I q => h.run pins s σ H Q I (i σ H Q q)⟩
theorem jts_nil {X : Cx} {Z : L2.WX} : JTs X Z [] wYes where
  mo := fun ρ h Q Q' E E' hq _ q => hq _ _ q
  pt := imTs pts_nil fun σ H Q ⟨ρ, h, rs, rh, q⟩ => q H (Grow.refl _ _) rh
theorem jts_one {X : Cx} {Z : L2.WX} {c : Expr} {t : TWT} (h : JT X Z c t) : JTs X Z [c] t := ⟨h.mo, pts_one h.pt⟩
def wLc (s : TWI) (p : Pat) (ut : TWT) (te : TWE) (vs : List Nat) : TWE := fun ρ h Q E => s ρ h (fun is kp h1 => ∀ D, h1 D = none → ∃ P : Nat → List Wv → WH → Prop, P 0 [] (wup h1 D (.lst [])) ∧
  (∀ i acc h, i ≤ is.length → P i acc h → kp h) ∧
  (∀ i acc w h, is[i]? = some w → P i acc h → ∃ ρ2, bindW p w (wipeW ρ vs) = some ρ2 ∧ ut ρ2 h (fun b h3 => if b = true then te ρ2 h3 (fun y h4 => h4 D = some (.lst acc) ∧ acc.length < sizeLine ∧ P (i + 1) (acc ++ [y]) (wup h4 D (.lst (acc ++ [y])))) F0 else P (i + 1) acc h3) F0) ∧
  ∀ acc h, P is.length acc h → Q (.ref D) h) E
theorem wLc_mo {s : TWI} {p : Pat} {ut : TWT} {te : TWE} {vs : List Nat} (ms : MoI s) : MoE (wLc s p ut te vs) := fun ρ h Q Q' E E' hq he q =>
  ms ρ h _ _ _ _ (fun is kp h1 q1 D hD => by
    obtain ⟨P, p0, pk, ps, pe⟩ := q1 D hD
    exact ⟨P, p0, pk, ps, fun acc h p => hq _ _ (pe acc h p)⟩) he q
section
variable {X : Cx} {Z : L2.WX} {a b c e elt iter tg : Expr} {ta tb tc te : TWE} {ut : TWT} {s : TWI} {pt : Pat} {pos p apos cpos pos' py spos : Pos} {ifs : List Expr} {scope : Scope} {own : List (Str × Nat)} {x y : Str} {vs : List Nat}
theorem li_lc (ms : MoI s) (mu : MoT ut) (me : MoE te) (hsl : ∀ i, i ∈ slotsP pt → i ∈ vs) {σ : L2.St} {H : Hp} {Q : VK} (q : liE X.K Z (wLc s pt ut te vs) σ H Q) : tLc (liI X.K Z s) (gP X.K pt) (liT X.K Z0 ut) (liE X.K Z0 te) vs σ H Q := by
  obtain ⟨ρ, h0, rs, rh0, q⟩ := q
  refine liI_then ms rs rh0 q fun is kp h1 J H1 g1 r1 sr q1 D hD => ?_
  obtain ⟨P, p0, pk, pst, pe⟩ := q1 D (r1.none hD)
  have gD : Grow X.K H1 (upd H1 D (.lst [])) := grow_new hD
  refine ⟨fun i m H' => ∃ acc h, RelH X.K h H' ∧ Grow X.K H1 H' ∧ P i acc h ∧ m = is.length - i ∧ i ≤ is.length, ⟨is.length, [], _, r1.new hD (.lst .nil), gD, p0, by omega, by omega⟩, ?_⟩
  rintro i m H' ⟨acc, h, rh, g, pi, hm, hle⟩
  have k := pk i acc h hle pi
  by_cases hlt : i < is.length
  · obtain ⟨go, yl⟩ := sr.nth i is[i] h H' (by simp [hlt]) g rh k
    refine .inr ⟨go, fun H2 => ∃ acc h, RelH X.K h H2 ∧ Grow X.K H1 H2 ∧ P (i + 1) acc h, fun H2 ⟨acc, h, a1, a2, a3⟩ => ⟨is.length - (i + 1), by omega, acc, h, a1, a2, a3, rfl, hlt⟩, fun x H2 y => ?_⟩
    obtain ⟨g2, rh2, dx⟩ := yl x H2 y
    obtain ⟨ρ2, e2, q2⟩ := pst i acc is[i] h (by simp [hlt]) pi
    have gg := g.trans g2
    obtain ⟨σ2, rs2, kw, k2⟩ := bindW_ok pt ((rs.grow (g1.trans gg)).wipe vs) dx e2
    refine k2 _ ⟨by rw [kw vs hsl, wipe_wipe], ?_⟩
    refine liT_then (k' := fun b h3 => if b = true then te ρ2 h3 (fun y h4 => h4 D = some (.lst acc) ∧ acc.length < sizeLine ∧ P (i + 1) (acc ++ [y]) (wup h4 D (.lst (acc ++ [y])))) F0 else P (i + 1) acc h3) mu rs2 rh2 (mu ρ2 h _ _ _ _ (fun _ _ z => z) (fun _ _ _ _ z => z.elim) q2) fun b h3 H3 g3 r3 q3 => ?_
    cases b with
    | true =>
      refine li_then (k' := fun y h4 => h4 D = some (.lst acc) ∧ acc.length < sizeLine ∧ P (i + 1) (acc ++ [y]) (wup h4 D (.lst (acc ++ [y])))) (E := fun _ _ _ _ => False) me (rs2.grow g3) r3 (me ρ2 h3 _ _ _ _ (fun _ _ z => z) (fun _ _ _ _ z => z.elim) q3) fun w h4 v H4 g4 r4 d4 q4 => ?_
      obtain ⟨hd, hz, q5⟩ := q4
      obtain ⟨vs4, e4, l4⟩ := r4.lst hd
      refine ⟨vs4, e4, by rw [← l4.length]; exact hz, acc ++ [w], _, ?_, ?_, q5⟩
      · exact r4.write e4 trivial (.lst (l4.append (.cons d4 rfl)))
      · exact gg.trans (g3.trans (g4.trans (grow_mut e4 trivial)))
    | false => exact ⟨acc, h3, r3, gg.trans g3, q3⟩
  · have e : i = is.length := by omega
    subst e
    exact .inl ⟨sr.stop h H' g rh k, pe acc h pi _ H' (g1.trans g) rh rfl⟩
theorem jlc (hc : X.calm = true) (hN : X.N.Nodup) (hi : JI X Z tg iter s) (ok : blkC X.N X.env.scope scope own = true)
    (hg : ∀ (s : Shared) (H : Hp) (C : Addr) (cl : List (Str × Addr)) (fp : List Addr), JP (X.blk s H scope (compEnvC scope cl C X.env) fp) tg pt)
    (ht : ∀ (s : Shared) (H : Hp) (C : Addr) (cl : List (Str × Addr)) (fp : List Addr), JTs (X.blk s H scope (compEnvC scope cl C X.env) fp) Z0 ifs ut)
    (he : ∀ (s : Shared) (H : Hp) (C : Addr) (cl : List (Str × Addr)) (fp : List Addr), JE (X.blk s H scope (compEnvC scope cl C X.env) fp) Z0 elt te)
    (hsl : ∀ i, i ∈ slotsP pt → i ∈ own.map (·.2)) (hs : ∀ x, foldedSetIterable iter X.env x = pure x := by intro _; rfl) : JE X Z (.ListComp elt [⟨tg, iter, ifs, 0⟩] scope pos) (wLc s pt ut te (own.map (·.2))) where
  mo := wLc_mo hi.mo
  pe := imE (pe_lc hc hN hi.pi (blkOk_by ok) (fun s H C cl fp => (hg s H C cl fp).pg) (fun s H C cl fp => (ht s H C cl fp).pt) (fun s H C cl fp => (he s H C cl fp).pe) hs) fun σ H Q q => li_lc hi.mo (ht X.s_0 X.H_0 0 [] []).mo (he X.s_0 X.H_0 0 [] []).mo hsl q
theorem js_setLc {i : Nat} (hc : X.calm = true) (hN : X.N.Nodup) (hy : X.N[i]? = some y) (hyl : X.env.scope.names.lookup y = some .local)
    (hsw : swapsWith (.ListComp elt [⟨tg, iter, ifs, 0⟩] scope pos) (some (.Name y py)) spos.line X.env = pure true) (hi : JI X Z tg iter s) (ok : blkC X.N X.env.scope scope own = true)
    (hg : ∀ (s : Shared) (H : Hp) (C : Addr) (cl : List (Str × Addr)) (fp : List Addr), JP (X.blk s H scope (compEnvC scope cl C X.env) fp) tg pt)
    (ht : ∀ (s : Shared) (H : Hp) (C : Addr) (cl : List (Str × Addr)) (fp : List Addr), JTs (X.blk s H scope (compEnvC scope cl C X.env) fp) Z0 ifs ut)
    (he : ∀ (s : Shared) (H : Hp) (C : Addr) (cl : List (Str × Addr)) (fp : List Addr), JE (X.blk s H scope (compEnvC scope cl C X.env) fp) Z0 elt te)
    (hsl : ∀ i, i ∈ slotsP pt → i ∈ own.map (·.2)) (hs : ∀ x, foldedSetIterable iter X.env x = pure x := by intro _; rfl) :
    JS X Z (.Assign [.Name y py] (.ListComp elt [⟨tg, iter, ifs, 0⟩] scope pos) spos) (wSet i (wLc s pt ut te (own.map (·.2)))) where
  mo := fun D D' ρ h l q => wLc_mo hi.mo ρ h _ _ _ _ (fun _ _ q => l.nx _ _ q) (fun _ _ _ _ q => l.ex _ _ _ _ _ q) q
  ps := imS (ps_setLc hc hN hy hyl hsw hi.pi (blkOk_by ok) (fun s H C cl fp => (hg s H C cl fp).pg) (fun s H C cl fp => (ht s H C cl fp).pt) (fun s H C cl fp => (he s H C cl fp).pe) hs) fun D σ H ⟨ρ, h, rs, rh, q⟩ => by
    have q' : liE X.K Z (wLc s pt ut te (own.map (·.2))) σ H (fun x H1 => gName i x σ H1 D.nx) := li_st (wLc_mo hi.mo) rs rh q fun w h1 v H1 g rs1 r d q1 => q1 _ H1 g (rs1.set d) r
    exact li_lc hi.mo (ht X.s_0 X.H_0 0 [] []).mo (he X.s_0 X.H_0 0 [] []).mo hsl q'
end
end Pd
set_option Elab.async false
set_option linter.all false
set_option maxRecDepth 100000
set_option maxHeartbeats 4000000
namespace L2
open PySem PySem.Spec PyProof.Rows
/-! ### t * k where t itself comes back, and where the empty tuple comes -/
abbrev TupCell (l : Addr) (items : Array Value) (n : Nat) (dd : Option Addr) (sl : Array (Option Value)) (s : Shared) : Prop := s.heap.get? l = some { cls := .type "tuple", dict := dd, data := .seq items n, slots := sl }
section
variable {l : Addr} {items : Array Value} {n : Nat} {dd : Option Addr} {sl : Array (Option Value)} {x : Int} {u : Tok}
theorem mul_same (fits : (decide (x < -(2 ^ 63)) || decide (x ≥ 2 ^ 63)) = false) (one : (items.isEmpty || x == 1) = true) :
    Meets (Builtin.«tuple.__mul__» ⟨[.ref l, .int x u], []⟩) (fun _ R s => TupCell l items n dd sl s ∧ R (.ok (.ret (Value.ref l))) s) := .of_wp fun prog w A R ⟨hp, g, d, tk, os⟩ ⟨hl, h⟩ => by
  have known := AutoSeq1.idx_int
  wp_walk using wpAny_loadPart' hl
  refine wpAny_ite_false (decide_eq_false (ne_true_of_eq_false fits)) ?_
  wp_walk using wpAny_loadPart' hl
  exact ⟨_, rfl, h⟩
theorem mul_none (fits : (decide (x < -(2 ^ 63)) || decide (x ≥ 2 ^ 63)) = false) (one : (items.isEmpty || x == 1) = false) (none : (decide (x ≤ 0) || items.isEmpty) = true) :
    Meets (Builtin.«tuple.__mul__» ⟨[.ref l, .int x u], []⟩) (fun _ R s => TupCell l items n dd sl s ∧ R (.ok (.ret (Value.ref s.heap.objs.size))) { s with heap := s.heap.push { cls := Value.type "tuple", data := Data.seq #[] } }) := .of_wp fun prog w A R ⟨hp, g, d, tk, os⟩ ⟨hl, h⟩ => by
  have known := AutoSeq1.idx_int
  wp_walk using wpAny_loadPart' hl
  refine wpAny_ite_false (decide_eq_false (ne_true_of_eq_false fits)) ?_
  wp_walk using wpAny_loadPart' hl
  exact ⟨_, rfl, h⟩
/-- tuple * int by what tuple.__mul__ does -/
theorem mul_road {P : Program} {w : World} {A : Around} {E Q : Value → Shared → Prop} {s : Shared} (cell : TupCell l items n dd sl s)
    (h : wpAny (model P w) A (call (.builtin "tuple.__mul__") [.ref l, .int x u]) Q E s) : wpAny (model P w) A (binaryOp .Mult (.ref l) (.int x u)) Q E s :=
  have declines := call_meets (A := A) (E := E) F.slot_int_rmul (typeIs_int s x u) F.entry_int_rmul (F.args_int_rmul_2 _ _) (int_rmul_tuple x u l items n dd sl) ⟨cell, rfl, ⟨_, cell, rfl⟩, h⟩
  wpAny_binaryOp_repeat_ref (by decide) ⟨_, cell, rfl⟩ (typeIs_int · x u) noFill_tuple_mul F.fills_int_mul F.slot_int_rmul repeat_tuple F.slot_int_index.lookup declines
end
def rRepTA (K : PySem.W.Frag) : R2 := fun x y H Q => ∃ l k xs, x = .ref l ∧ y = .int k ∧ SqT K H l xs ∧ -(2 ^ 63) ≤ k ∧ k ≤ 1000 ∧ xs.length ≤ 1000 ∧ (xs = [] ∨ k = 1 → Q (.ref l) H) ∧
  (xs ≠ [] → k ≤ 0 → ∀ p, H p = none → Q (.ref p) (upd H p (.tup []))) ∧ (xs ≠ [] → 2 ≤ k → ∀ p, H p = none → Q (.ref p) (upd H p (.tup (List.replicate k.toNat xs).flatten)))
theorem op_repTA {X : Cx} : OpR X (binaryOp .Mult) (rRepTA X.K) := fun pins s σ H x y v u Q I rx ry ⟨l, k, xs, ex, ey, sq, low, high, few, same, empty, more⟩ => by
  subst ex ey
  by_cases many : xs ≠ [] ∧ 2 ≤ k
  · exact op_repT pins s σ H _ _ v u Q I rx ry ⟨l, k, xs, rfl, rfl, sq, many.1, many.2, high, few, more many.1 many.2⟩
  obtain rfl : v = .ref l := rx
  obtain ⟨t, rfl⟩ : ∃ t, u = .int k t := ry
  obtain ⟨its, rel, ⟨⟨c, dd, dat, sl⟩, there, ec, n, ed⟩, _⟩ := I.tuple sq
  obtain rfl : c = .type "tuple" := ec
  obtain rfl : dat = .seq its.toArray n := ed
  have fits : (decide (k < -(2 ^ 63)) || decide (k ≥ 2 ^ 63)) = false := Bool.or_eq_false_iff.mpr ⟨decide_eq_false (by omega), decide_eq_false (by omega)⟩
  have none_iff : its.toArray.isEmpty = xs.isEmpty := by cases rel <;> rfl
  have goal : ∀ {S : PySem.Spec}, Meets (Builtin.«tuple.__mul__» ⟨[.ref l, .int k t], []⟩) S → S X.A (wants (EP X pins σ Q) X.xe) s → wpAny (model X.prog X.w) X.A (binaryOp .Mult (.ref l) (.int k t)) (EP X pins σ Q) X.xe s :=
    fun m q => mul_road there (call_meets F.slot_tuple_mul ⟨_, there, rfl⟩ F.entry_tuple_mul (F.args_tuple_mul_2 _ _) m q)
  by_cases c : xs = [] ∨ k = 1
  · refine goal (mul_same fits (Bool.or_eq_true_iff.mpr (c.imp (fun z => ?_) fun z => ?_))) ⟨there, .ref l, H, I, rfl, same c⟩
    · rw [none_iff, z]; rfl
    · rw [z]; rfl
  · have some1 : xs ≠ [] := fun z => c (.inl z)
    have small : k ≤ 0 := by
      have a1 : k ≠ 1 := fun z => c (.inr z)
      have a2 : ¬ 2 ≤ k := fun z => many ⟨some1, z⟩
      omega
    have full : its.toArray.isEmpty = false := by rw [none_iff]; cases xs with | nil => exact (some1 rfl).elim | cons _ _ => rfl
    refine goal (mul_none fits (by rw [full, Bool.false_or]; exact beq_eq_false_iff_ne.mpr (by omega)) (Bool.or_eq_true_iff.mpr (.inl (decide_eq_true small)))) ⟨there, ?_⟩
    exact ⟨.ref s.heap.objs.size, _, I.laid (t' := s.toks) (o := .tup []) (fun _ _ => Heap.get?_push_of_some _) (Nat.le_refl _) ⟨Nat.zero_le _, [], .nil, IsTup.new _ _⟩, rfl, empty some1 small _ (I.hok.fresh (Nat.le_refl _))⟩
end L2
namespace Pd
open PySem PySem.Spec PyProof.Rows L2
section
variable {X : Cx} {Z : L2.WX} {a b c e o : Expr} {ta tb tc te to : TWE} {t : TWA} {pos p p2 apos cpos : Pos} {es rest : List Expr} {x name : Str}
/-! ### * -/
def mulLF : F2
  | .ref a, .int k, h => match h a with
    | some (.lst ws) => if -(2 ^ 63) ≤ k ∧ k < 2 ^ 63 ∧ ws.length * k.toNat ≤ sizeLine then some (.lst (List.replicate k.toNat ws).flatten) else none
    | _ => none
  | _, _, _ => none
def mulTF : F2
  | .tup ws, .int k, _ => if -(2 ^ 63) ≤ k ∧ k ≤ 1000 ∧ ws.length ≤ 1000 then some (.val (.tup (List.replicate k.toNat ws).flatten)) else none
  | _, _, _ => none
theorem DenL.rep {K : PySem.W.Frag} {H : Hp} {ws : List Wv} {vs : List V} (d : DenL K H ws vs) : ∀ k : Nat, DenL K H (List.replicate k ws).flatten (List.replicate k vs).flatten
  | 0 => rfl
  | k + 1 => by
    simpa only [List.replicate_succ, List.flatten_cons] using d.append (DenL.rep d k)
theorem snd_mulL {K : PySem.W.Frag} : Snd2 K rRep mulLF := fun H h w1 w2 v1 v2 Q rh d1 d2 q => by
  cases w1 <;> first | exact q.elim | skip
  cases w2 <;> first | exact q.elim | skip
  rename_i a k
  replace d1 : v1 = .ref a := d1
  replace d2 : v2 = .int k := d2
  subst d1 d2
  unfold mulLF at q
  dsimp only at q
  split at q
  · rename_i ws e
    split at q
    · rename_i c
      obtain ⟨vs, e2, l⟩ := rh.lst e
      rw [l.length] at c
      exact ⟨a, k, vs, rfl, rfl, e2, c.1, c.2.1, c.2.2, fun p hp => q p (rh.none hp) _ _ (grow_new hp) (rh.new hp (.lst (l.rep k.toNat))) rfl⟩
    · exact q.elim
  · exact q.elim
theorem snd_mulT {K : PySem.W.Frag} : Snd2 K (rRepTA K) mulTF := fun H h w1 w2 v1 v2 Q rh d1 d2 q => by
  cases w1 <;> first | exact q.elim | skip
  cases w2 <;> first | exact q.elim | skip
  rename_i ws k
  replace d2 : v2 = .int k := d2
  subst d2
  obtain ⟨a, vs, rfl, ha, l⟩ := d1
  unfold mulTF at q
  dsimp only at q
  split at q
  · rename_i c
    have q1 : okQ K H Q (.tup (List.replicate k.toNat ws).flatten) h := q
    have hl := l.length
    refine ⟨a, k, vs, rfl, rfl, SqT.of ha, c.1, c.2.1, by rw [← hl]; exact c.2.2, fun z => ?_, fun z z' p hp => ?_, fun z z' p hp => ?_⟩
    · have : (List.replicate k.toNat ws).flatten = ws := by
        rcases z with z | z
        · subst z
          have : ws = [] := List.length_eq_zero_iff.mp hl
          subst this
          simp
        · subst z
          simp
      rw [this] at q1
      exact q1 _ H (Grow.refl _ _) rh ⟨a, vs, rfl, ha, l⟩
    · have : k.toNat = 0 := by omega
      rw [this] at q1
      exact q1 _ _ (grow_new hp) (rh.hid hp) ⟨p, [], rfl, upd_same, rfl⟩
    · exact q1 _ _ (grow_new hp) (rh.hid hp) ⟨p, _, rfl, upd_same, (l.rep k.toNat).grow (grow_new hp)⟩
  · exact q.elim
def mulF : F2 := orF (orF (iiF mulOk fun i j => .int (i * j)) mulLF) mulTF
theorem jmulA (ha : JE X Z a ta) (hb : JE X Z b tb) : JE X Z (.BinOp a .Mult b pos) (wBin mulF ta tb) :=
  jbin (OpR.or (OpR.or op_mul op_rep) op_repTA) (Snd2.or (Snd2.or (snd_ii (fun i j h => by
    unfold mulOk at h
    simp only [Bool.or_eq_true, Bool.and_eq_true, decide_eq_true_eq] at h
    exact h) fun _ _ _ => rfl) snd_mulL) snd_mulT) ha hb
/-! ### // by a number of any sign -/
def divOkN (i j : Int) : Bool := decide (j ≠ 0) && decide (j.natAbs < 1073741824)
theorem jfdivN (ha : JE X Z a ta) (hb : JE X Z b tb) : JE X Z (.BinOp a .FloorDiv b pos) (wBin (iiF divOkN fun i j => .int (i.fdiv j)) ta tb) :=
  jbin op_fdivN (snd_ii (fun i j h => by
    unfold divOkN at h
    simp only [Bool.and_eq_true, decide_eq_true_eq] at h
    exact h) fun _ _ _ => rfl) ha hb
/-! ### ** -/
def powOk (i j : Int) : Bool := decide (0 ≤ j) && decide (j ≤ 1000000) && decide (i.natAbs < 2 ^ 64)
theorem jpow (ha : JE X Z a ta) (hb : JE X Z b tb) : JE X Z (.BinOp a .Pow b pos) (wBin (iiF powOk fun i j => .int (i ^ j.toNat)) ta tb) :=
  jbin op_pow (snd_ii (fun i j h => by
    unfold powOk at h
    simp only [Bool.and_eq_true, decide_eq_true_eq] at h
    exact ⟨h.1.1, h.1.2, h.2⟩) fun _ _ _ => rfl) ha hb
/-! ### a[lo:hi] -/
abbrev TWO := Wen → WH → (Option Int → WH → Prop) → WX → Prop
def wNoPart : TWO := fun _ h Q _ => Q none h
def wPart (t : TWE) : TWO := fun ρ h Q E => t ρ h (fun w h1 => match w with
  | .int i => Q (some i) h1
  | _ => False) E
def liO (K : PySem.W.Frag) (Z : L2.WX) (t : TWO) : TO := fun σ H Q => ∃ ρ h, RelS K H ρ σ ∧ RelH K h H ∧ t ρ h (fun o h' => ∀ H', Grow K H H' → RelH K h' H' → Q o H') (exQ K H fun cls d H' => Z cls d σ H')
def MoO (t : TWO) : Prop := ∀ ρ h Q Q' E E', (∀ o h', Q o h' → Q' o h') → (∀ C f w h', E C f w h' → E' C f w h') → t ρ h Q E → t ρ h Q' E'
structure JO (X : Cx) (Z : L2.WX) (e : Option Expr) (t : TWO) : Prop where
  mo : MoO t
  po : PO X e (liO X.K Z t)
theorem imO {X : Cx} {e : Option Expr} {t t' : TO} (h : PO X e t) (i : ∀ σ H Q, t' σ H Q → t σ H Q) : PO X e t' := ⟨fun pins s σ H Q I q => h.run pins s σ H Q I (i σ H Q q)⟩
theorem jo_none : JO X Z none wNoPart where
  mo := fun ρ h Q Q' E E' hq _ q => hq _ _ q
  po := imO po_none fun σ H Q ⟨ρ, h, rs, rh, q⟩ => q H (Grow.refl _ _) rh
theorem jo_some (ha : JE X Z a ta) : JO X Z (some a) (wPart ta) where
  mo := fun ρ h Q Q' E E' hq he q => ha.mo ρ h _ _ _ _ (fun w h1 q1 => by
    cases w <;> first | exact q1.elim | skip
    exact hq _ _ q1) he q
  po := imO (po_some ha.pe) fun σ H Q ⟨ρ, h, rs, rh, q⟩ => by
    refine li_then (E := fun _ _ _ _ => False) ha.mo rs rh q fun w h1 v H1 g1 r1 d1 q1 => ?_
    cases w <;> first | exact q1.elim | skip
    exact ⟨_, d1, q1 H1 g1 r1⟩
def cutW (xs : List Wv) (lo hi : Option Int) : List Wv := (xs.drop (HT.sIx xs.length 0 lo)).take (HT.sIx xs.length xs.length hi - HT.sIx xs.length 0 lo)
def slF (w : Wv) (lo hi : Option Int) (h : WH) : Option Rs := match w with
  | .tup ws => some (.val (.tup (cutW ws lo hi)))
  | .ref a => match h a with
    | some (.lst ws) => some (.lst (cutW ws lo hi))
    | _ => none
  | _ => none
def wSl (te : TWE) (tl th : TWO) : TWE := fun ρ h Q E => te ρ h (fun w h1 => tl ρ h1 (fun lo h2 => th ρ h2 (fun hi h3 => outR (slF w lo hi h3) h3 Q) E) E) E
theorem cutW_whole {ws : List Wv} {lo hi : Option Int} (h : HT.sIx ws.length 0 lo = 0 ∧ HT.sIx ws.length ws.length hi = ws.length) : cutW ws lo hi = ws := by
  unfold cutW
  rw [h.1, h.2]
  simp
theorem slF_ok {K : PySem.W.Frag} {H : Hp} {h : WH} (rh : RelH K h H) {w : Wv} {v : V} (d : Den K H w v) {lo hi : Option Int} {Q : VK} (q : outR (slF w lo hi h) h (okQ K H Q)) : rSlL K v lo hi H Q ∨ rSlA K v lo hi H Q := by
  cases w <;> first | exact q.elim | skip
  · rename_i ws
    obtain ⟨a, vs, rfl, ha, l⟩ := d
    have q1 : okQ K H Q (.tup (cutW ws lo hi)) h := q
    have hl := l.length
    refine .inr ⟨a, vs, rfl, SqT.of ha, fun z => ?_, fun z p hp => ?_⟩
    · rw [← hl] at z
      rw [cutW_whole z] at q1
      exact q1 _ H (Grow.refl _ _) rh ⟨a, vs, rfl, ha, l⟩
    · refine q1 _ _ (grow_new hp) (rh.hid hp) ⟨p, _, rfl, upd_same, DenL.grow (grow_new hp) _ ?_⟩
      unfold cutW cutV
      rw [← hl]
      exact (l.drop _).take _
  · rename_i a
    replace d : v = .ref a := d
    subst d
    unfold slF at q
    dsimp only at q
    split at q
    · rename_i ws e
      obtain ⟨vs, e2, l⟩ := rh.lst e
      refine .inl ⟨a, vs, rfl, SqL.of e2, fun p hp => q p (rh.none hp) _ _ (grow_new hp) (rh.new hp (.lst ?_)) rfl⟩
      unfold cutW cutV
      rw [← l.length]
      exact (l.drop _).take _
    · exact q.elim
theorem jsl {lo hi : Option Expr} {tl th : TWO} (he : JE X Z e te) (hl : JO X Z lo tl) (hu : JO X Z hi th) : JE X Z (.Subscript e (.Slice lo hi none p2) pos) (wSl te tl th) where
  mo := fun ρ h Q Q' E E' hq hx q => he.mo ρ h _ _ _ _ (fun w h1 q1 => hl.mo ρ h1 _ _ _ _ (fun l h2 q2 => hu.mo ρ h2 _ _ _ _ (fun u h3 q3 => outR_mo hq q3) hx q2) hx q1) hx q
  pe := imE (pe_slice (SlR.or sl_list sl_tupA) he.pe hl.po hu.po) fun σ H Q ⟨ρ, h, rs, rh, q⟩ => by
    refine li_then (E := fun _ _ _ _ => False) he.mo rs rh q fun w h1 v H1 g1 r1 d1 q1 => ?_
    refine ⟨ρ, h1, rs.grow g1, r1, hl.mo ρ h1 _ _ _ _ (fun l h2 q2 H2 g2 r2 => ?_) (exQ_back g1) q1⟩
    refine ⟨ρ, h2, rs.grow (g1.trans g2), r2, hu.mo ρ h2 _ _ _ _ (fun u h3 q3 H3 g3 r3 => ?_) (exQ_back (g1.trans g2)) q2⟩
    exact slF_ok r3 (Den.grow (g2.trans g3) _ d1) (outR_back ((g1.trans g2).trans g3) q3)
/-! ### tuple(range(..)), list(range(..)) -/
def wRgE1 (ta : TWE) : TWE := fun ρ h Q E => ta ρ h (fun w h1 => match w with
  | .int n => n ≤ 16777216 ∧ -(2 ^ 62) ≤ n ∧ Q (.tup (rgW 0 n)) h1
  | _ => False) E
theorem rgW_den {K : PySem.W.Frag} {H : Hp} (a b : Int) : DenL K H (rgW a b) (rgV a b) := by
  unfold rgW rgV
  generalize List.range (b - a).toNat = l
  induction l with
  | nil => exact rfl
  | cons i r ih => exact ⟨_, _, rfl, rfl, ih⟩
theorem jtupRg1 (hc : X.calm = true) (ha : JE X Z a ta) (hm : X.mg "tuple" = none) (hm2 : X.mg "range" = none) (hg : Gl X "tuple" := by rfl) (hg2 : Gl X "range" := by rfl)
    (na : starEach [a] X.env = (false, eval a X.env) :: starEach [] X.env := by rfl) (na2 : starEach [.Call (.Name "range" p2) [a] [] apos] X.env = (false, eval (.Call (.Name "range" p2) [a] [] apos) X.env) :: starEach [] X.env := by rfl) :
    JE X Z (.Call (.Name "tuple" p) [.Call (.Name "range" p2) [a] [] apos] [] pos) (wRgE1 ta) where
  mo := fun ρ h Q Q' E E' hq he q => ha.mo ρ h _ _ _ _ (fun w h1 q1 => by
    cases w <;> first | exact q1.elim | skip
    exact ⟨q1.1, q1.2.1, hq _ _ q1.2.2⟩) he q
  pe := imE (pe_tupRg hc hg hm (prg_1 hg2 hm2 ha.pe na) na2) fun σ H Q ⟨ρ, h, rs, rh, q⟩ => by
    refine li_then (E := fun _ _ _ _ => False) ha.mo rs rh q fun w h1 v H1 g1 r1 d1 q1 => ?_
    cases w <;> first | exact q1.elim | skip
    rename_i n
    replace d1 : v = .int n := d1
    subst d1
    obtain ⟨k1, k2, q2⟩ := q1
    refine ⟨n, rfl, ⟨by omega, by omega, k2, by omega, by omega⟩, fun z hz => q2 _ _ (g1.trans (grow_new hz)) (r1.hid hz) ⟨z, _, rfl, upd_same, rgW_den 0 n⟩⟩
/-! ### methods of lists -/
def appendM : FM := fun w ws h => match w, ws with
  | .ref a, [u] => (lstO h w).bind fun xs => if xs.length < sizeLine then some (.put a (.lst (xs ++ [u])) .non) else none
  | _, _ => none
theorem snd_append {K : PySem.W.Frag} : SndM K rAppend appendM := fun H h w v ws vs Q rh d dl q => by
  cases w <;> first | exact q.elim | skip
  rename_i a
  match ws with
  | [u] =>
    obtain ⟨y, rfl, dy⟩ := DenL.inv1 dl
    obtain ⟨xs, e1, q1⟩ := out_bind q
    obtain ⟨p, zs, e2, rfl, _, e3, l⟩ := lstO_sq rh d e1
    cases e2
    split at q1
    · rename_i c
      exact ⟨a, zs, y, rfl, rfl, e3, by rw [← l.length]; exact c, q1 _ _ (grow_mut e3 trivial) (rh.write e3 trivial (.lst (l.append (.cons dy rfl)))) rfl⟩
    · exact q1.elim
  | [] => exact q.elim
  | _ :: _ :: _ => exact q.elim
theorem jappend (ho : JE X Z o to) (ha : JAn X Z [e] t)
    (hbase : attributeBase o "append" X.env (eval o X.env) = eval o X.env := by rfl)
    (hfew : ((backTo cpos (starEach [e] X.env)).all (fun x => !x.1) && (backToKw cpos (keywordEach [] X.env)).all (fun x => x.1.isSome)
      && decide (([e] : List Expr).length + ([] : List Keyword).length + (if ([] : List Keyword).isEmpty then 0 else 1) < 30)) = true := by rfl)
    (hline : (apos.endLine == cpos.line) = true := by rfl) (hs : starEach [e] X.env = (false, eval e X.env) :: starEach [] X.env := by rfl) :
    JE X Z (.Call (.Attribute o "append" apos) [e] [] cpos) (wBM "list" appendM to t) := jbm PySem.F.plainAttrs_list PySem.F.slot_list_append PySem.F.type_list_append mt_append snd_append ho ha hbase hfew hline hs
def extendM : FM := fun w ws h => match w, ws with
  | .ref a, [u] => (lstO h w).bind fun xs => (lstO h u).bind fun zs => if xs.length + zs.length ≤ sizeLine then some (.put a (.lst (xs ++ zs)) .non) else none
  | _, _ => none
theorem snd_extend {K : PySem.W.Frag} : SndM K rExtend extendM := fun H h w v ws vs Q rh d dl q => by
  cases w <;> first | exact q.elim | skip
  rename_i a
  match ws with
  | [u] =>
    obtain ⟨y, rfl, dy⟩ := DenL.inv1 dl
    obtain ⟨xs, e1, q1⟩ := out_bind q
    obtain ⟨us, e5, q2⟩ := out_bind q1
    obtain ⟨p, zs, e2, rfl, _, e3, l⟩ := lstO_sq rh d e1
    cases e2
    obtain ⟨b, ys, rfl, rfl, _, e4, l2⟩ := lstO_sq rh dy e5
    split at q2
    · rename_i c
      exact ⟨a, b, zs, ys, rfl, rfl, e3, e4, by rw [← l.length, ← l2.length]; exact c, q2 _ _ (grow_mut e3 trivial) (rh.write e3 trivial (.lst (l.append l2))) rfl⟩
    · exact q2.elim
  | [] => exact q.elim
  | _ :: _ :: _ => exact q.elim
theorem jextend (ho : JE X Z o to) (ha : JAn X Z [e] t)
    (hbase : attributeBase o "extend" X.env (eval o X.env) = eval o X.env := by rfl)
    (hfew : ((backTo cpos (starEach [e] X.env)).all (fun x => !x.1) && (backToKw cpos (keywordEach [] X.env)).all (fun x => x.1.isSome)
      && decide (([e] : List Expr).length + ([] : List Keyword).length + (if ([] : List Keyword).isEmpty then 0 else 1) < 30)) = true := by rfl)
    (hline : (apos.endLine == cpos.line) = true := by rfl) (hs : starEach [e] X.env = (false, eval e X.env) :: starEach [] X.env := by rfl) :
    JE X Z (.Call (.Attribute o "extend" apos) [e] [] cpos) (wBM "list" extendM to t) := jbm PySem.F.plainAttrs_list PySem.F.slot_list_extend PySem.F.type_list_extend mt_extend snd_extend ho ha hbase hfew hline hs
end
end Pd
set_option Elab.async false
set_option linter.all false
set_option maxRecDepth 100000
set_option maxHeartbeats 4000000
namespace Pd
open PySem PySem.Spec PyProof.Rows L2
/-! ### the pairs of a dict with tuple keys, each a new tuple -/
/-- a locked dict's raw table, entry by entry -/
theorem table_at {X : Cx} {pins : List (Addr × Obj)} {σ : L2.St} {H : Hp} {s : Shared} {d : Addr} {o : Obj} {kvs : List (List Key × V)} (I : Inv X pins σ H s) (h : H d = some (.frz o (.dT kvs))) : ∃ es ep, (d == sysModules) = false ∧ s.heap.get? d = some o ∧ o.ExactDict ∧ o.data = .dict es ep ∧ es.size = kvs.length ∧
    ∀ i (lt : i < es.size) k v, kvs[i]? = some (k, v) → ∃ q, es[i].key = .ref q ∧ H q = some (.tup (k.map kV)) ∧ RelV v es[i].val := by
  obtain ⟨same, _, nsys, rows, rel, o1, es, ep, there, exact1, dat, tab, _⟩ := I.hok d _ h
  obtain rfl : o1 = o := Option.some.inj (there.symm.trans same)
  have sz := size_of_entries tab
  refine ⟨es, ep, nsys, there, exact1, dat, sz.trans (Paired.length rel).symm, fun i lt k v e => ?_⟩
  obtain ⟨row, er, _, keyed, val⟩ := paired_get rel e
  have en := entry_at tab i
  rw [er, Array.getElem?_eq_getElem lt] at en
  obtain en := Option.some.inj en
  exact ⟨row.2.1, by rw [en]; rfl, keyed, by rw [en]; exact val⟩
def ItiT (d : Addr) (o : Obj) (kvs : List (List Key × V)) : It where
  go i H := H d = some (.frz o (.dT kvs)) ∧ i < kvs.length
  yld i H x H' := ∃ T q k v, kvs[i]? = some (k, v) ∧ x = .ref T ∧ H T = none ∧ H q = some (.tup (k.map kV)) ∧ H' = upd H T (.tup [.ref q, v])
  stop i H := H d = some (.frz o (.dT kvs)) ∧ kvs.length = i
abbrev ItemOwn (d : Addr) (n ep : Nat) (it : Addr) : Nat → Heap → Prop := fun i h => ∃ ok ov, IsItemIter h it d i n ep ok ov
theorem turn_itemsT {P : Program} {w : World} {K : PySem.W.Frag} {d : Addr} {o : Obj} {es : Array DictEntry} {ep : Nat} {kvs : List (List Key × V)} {elts : List Expr} {kk : Nat} {tpos : Pos} {it : Addr} (dat : o.data = .dict es ep) (ne : d ≠ it) :
    Turn P w K (.Tuple elts kk tpos) (ItiT d o kvs) [it] it (ItemOwn d es.size ep it) :=
  turn_walksT (.head _)
    (fun i h ⟨_, _, q⟩ b hb => by
      obtain rfl := List.mem_singleton.mp hb
      exact ⟨_, q, nofun⟩)
    (fun i h h' ⟨ok, ov, q⟩ k => ⟨ok, ov, k it (.head _) _ q⟩)
    (fun X e1 e2 e3 e4 i pins s σ H inv own ⟨fr, lt⟩ => by
      subst e1 e2 e3
      obtain ⟨es2, ep2, _, there, exact1, dat2, sz, rows⟩ := table_at inv fr
      obtain ⟨rfl, rfl⟩ := dict_ep dat dat2
      have lt2 : i < es2.size := sz ▸ lt
      refine ⟨_, _, _, _, _, WalksT.rawItems (inv.ok.hd e4) it d ne es2 ep2, lt2, ⟨own, o, there, exact1, dat⟩, fun h q => q.1, ?_⟩
      rintro vals ⟨_, rfl⟩
      have ek := List.getElem?_eq_getElem lt
      obtain ⟨q, e5, e6, rv⟩ := rows i lt2 kvs[i].1 kvs[i].2 ek
      exact ⟨[.ref q, kvs[i].2], .cons e5 (.cons rv .nil), two_room, fun T hT => ⟨T, q, _, _, ek, rfl, hT, e6, rfl⟩⟩)
    (fun X e1 e2 e3 e4 i pins s σ H inv own ⟨fr, len⟩ => by
      subst e1 e2 e3
      obtain ⟨es2, ep2, _, there, exact1, dat2, sz, rows⟩ := table_at inv fr
      obtain ⟨rfl, rfl⟩ := dict_ep dat dat2
      obtain rfl : i = es2.size := len.symm.trans sz.symm
      exact ⟨_, _, _, _, WalksT.rawItems (inv.ok.hd e4) it d ne es2 ep2, own, o, there, exact1, dat⟩)
    (fun A i s Q E ⟨_, _, q⟩ h => wpAny_pyIter_itemiter q h)
section
variable {X : Cx} {tg e : Expr} {td : TE} {apos cpos : Pos}
theorem pi_itemsT {elts : List Expr} {kk : Nat} {tpos : Pos} (he : PE X e td) (hbase : attributeBase e "items" X.env (eval e X.env) = eval e X.env := by rfl) (hline : (apos.endLine == cpos.line) = true := by rfl) :
    PI X (.Tuple elts kk tpos) (.Call (.Attribute e "items" apos) [] [] cpos) (fun σ H R => td σ H fun x H1 => ∃ d o kvs, x = .ref d ∧ H1 d = some (.frz o (.dT kvs)) ∧ R (ItiT d o kvs) H1) where
  run pins s σ H R I h := wpAny_Call_method hbase rfl hline F.plainAttrs_dict F.slot_dict_items F.type_dict_items (thn (he.run pins s σ H _ I h) fun u s1 ⟨x, H1, I1, rx, d, o, kvs, ex, fr, q⟩ => by
    subst ex
    obtain rfl : u = .ref d := rx
    obtain ⟨es, ep, nsys, there, exact1, dat, sz, rows⟩ := table_at I1 fr
    have isD : s1.TypeIs (.ref d) "dict" := ⟨o, there, exact1.1⟩
    refine ⟨isD, fun b eb => ⟨o, by cases eb; exact there, exact1.2.1⟩, ?_⟩
    have view : Obj.isFreed { cls := .type "dict_items", data := .fields #[.ref d] } = false := rfl
    refine method_meetsIn F.slot_dict_items F.entry_dict_items rfl (PySem.evalArgs_none ⟨rfl, isD, F.args_dict_items_1 _, _, meets_dict_items_raw d nsys, ⟨es, ep, o, there, exact1, dat⟩, ?_⟩)
    refine wpAny_pyIter_items_raw (es := es) (ep := ep) ⟨_, Heap.get?_push_size _ view, rfl, rfl⟩ ⟨o, Heap.get?_push_of_some _ there, exact1, dat⟩ ?_
    have I2 := I1.kept (t' := s1.toks) (h' := s1.heap.push { cls := .type "dict_items", data := .fields #[.ref d] }) fun _ _ => Heap.get?_push_of_some _
    have low : d < s1.heap.objs.size := Heap.lt_size there
    exact pi_one (tk := s1.toks) I2 _ (turn_itemsT dat (Nat.ne_of_lt (by rw [Heap.size_push]; exact Nat.lt_succ_of_lt low))) ⟨.none, .none, Heap.get?_push_size _ rfl⟩ q)
end
end Pd
namespace Pd
open PySem PySem.Spec PyProof.Rows L2
section
variable {X : Cx} {Z : L2.WX} {a b c e o tg : Expr} {ta tb tc te to : TWE} {t : TWA} {pos p p2 apos cpos tpos : Pos} {es rest elts : List Expr} {kk : Nat} {x name : Str}
/-! ### for .. in d.items() -/
def keyW : Key → Wv
  | .inl i => .int i
  | .inr x => .str x
theorem keyW_den {K : PySem.W.Frag} {H : Hp} (k : Key) : Den K H (keyW k) (kV k) := by cases k <;> exact rfl
theorem keysW_den {K : PySem.W.Frag} {H : Hp} : ∀ (ks : List Key), DenL K H (ks.map keyW) (ks.map kV)
  | [] => rfl
  | k :: ks => ⟨_, _, rfl, keyW_den k, keysW_den ks⟩
/-- a dict's pairs -/
def pairsO : Wo → Option (List Wv)
  | .dK kvs => some (kvs.map fun p => .tup [keyW p.1, p.2])
  | .dT kvs => some (kvs.map fun p => .tup [.tup (p.1.map keyW), p.2])
  | _ => none
def hidO (h : WH) (a : Addr) : WH := fun b => if b = a then none else h b
theorem hidO_self {h : WH} {a : Addr} : hidO h a a = none := if_pos rfl
theorem hidO_ne {h : WH} {a b : Addr} (n : b ≠ a) : hidO h a b = h b := if_neg n
/-- a loop over the pairs of the dict that the local i names; inside, that dict is not to be had -/
def wForItems (i : Nat) (pt : Pat) (tb : TWS) : TWS := fun D ρ h => ∃ a ob is, ρ[i]? = some (some (.ref a)) ∧ h a = some ob ∧ pairsO ob = some is ∧ ∃ P : Nat → Wen → WH → Prop, P 0 ρ (hidO h a) ∧
  (∀ j w ρ h, is[j]? = some w → P j ρ h → h a = none → ∃ ρ2, bindW pt w ρ = some ρ2 ∧
    tb { nx := P (j + 1), ct := P (j + 1), bk := fun ρ' h' => h' a = none → D.nx ρ' (wup h' a ob), rt := fun w h' => h' a = none → D.rt w (wup h' a ob), ex := fun _ _ _ _ _ => False } ρ2 h) ∧
  ∀ ρ h, P is.length ρ h → h a = none → D.nx ρ (wup h a ob)
theorem RelH.hid_none {K : PySem.W.Frag} {h : WH} {H : Hp} {a : Addr} {od : Obj} {u : HO} (r : RelH K h H) (e : H a = some (.frz od u)) : h a = Option.none := by
  cases q : h a with
  | none => rfl
  | some o =>
    obtain ⟨u1, e1, d1⟩ := r a o q
    rw [e] at e1
    cases e1
    cases d1
theorem pairs_srcK {K : PySem.W.Frag} {H : Hp} {d : Addr} {od : Obj} {kvs : List (Key × Wv)} {kus : List (Key × V)} {kp : WH → Prop} (hd : H d = some (.frz od (.dK kus))) (r : PDen K H kvs kus) : Src K H (Iti d od kus) (kvs.map fun p => .tup [keyW p.1, p.2]) kp where
  nth := fun i w h H' e g rh k => by
    rw [List.getElem?_map] at e
    cases e1 : kvs[i]? with
    | none => rw [e1] at e; cases e
    | some q =>
      rw [e1] at e
      cases e
      obtain ⟨b, hb, e2, dv⟩ := paired_get r e1
      have hl : i < kus.length := (List.getElem?_eq_some_iff.mp hb).1
      refine ⟨⟨g.2 _ _ _ hd, hl⟩, fun x H'' ⟨T, k', v, q1, q2, q3, q4⟩ => ?_⟩
      subst q2 q4
      rw [hb] at q1
      cases q1
      have e2 : q.1 = k' := e2
      dsimp only
      rw [e2]
      exact pair_new rh q3 (keyW_den k') (Den.grow g _ dv)
  stop := fun h H' g rh k => ⟨g.2 _ _ _ hd, by rw [List.length_map, Paired.length r]; exact Nat.le_refl _⟩
theorem pairs_srcT {K : PySem.W.Frag} {H : Hp} {d : Addr} {od : Obj} {kvs : List (List Key × Wv)} {kus : List (List Key × V)} {kp : WH → Prop} (hd : H d = some (.frz od (.dT kus))) (r : PDen K H kvs kus) : Src K H (ItiT d od kus) (kvs.map fun p => .tup [.tup (p.1.map keyW), p.2]) kp where
  nth := fun i w h H' e g rh k => by
    rw [List.getElem?_map] at e
    cases e1 : kvs[i]? with
    | none => rw [e1] at e; cases e
    | some q =>
      rw [e1] at e
      cases e
      obtain ⟨b, hb, e2, dv⟩ := paired_get r e1
      have hl : i < kus.length := (List.getElem?_eq_some_iff.mp hb).1
      refine ⟨⟨g.2 _ _ _ hd, hl⟩, fun x H'' ⟨T, q', k', v, q1, q2, q3, q5, q4⟩ => ?_⟩
      subst q2 q4
      rw [hb] at q1
      cases q1
      have e2 : q.1 = k' := e2
      dsimp only
      rw [e2]
      exact pair_new rh q3 ⟨q', _, rfl, q5, keysW_den k'⟩ (Den.grow g _ dv)
  stop := fun h H' g rh k => ⟨g.2 _ _ _ hd, by rw [List.length_map, Paired.length r]⟩
theorem RelH.hide {K : PySem.W.Frag} {h : WH} {H : Hp} {a : Addr} {od : Obj} {u : HO} (r : RelH K h H) (e : H a = some u) (m : Mut (some u)) : Grow K H (upd H a (.frz od u)) ∧ RelH K (hidO h a) (upd H a (.frz od u)) := by
  have g : Grow K H (upd H a (.frz od u)) := grow_mut e m
  refine ⟨g, fun b ob hb => ?_⟩
  by_cases n : b = a
  · subst n
    rw [hidO_self] at hb
    cases hb
  · rw [hidO_ne n] at hb
    obtain ⟨u1, e1, d1⟩ := r b ob hb
    exact ⟨u1, by rw [upd_ne n]; exact e1, d1.grow g⟩
theorem tup_unlock {H : Hp} {a : Addr} {od : Obj} {u : HO} (e : H a = some (.frz od u)) (hu : ∀ xs, u ≠ .lst xs) : GrT H (upd H a u) := ⟨fun b xs hb => by
  rw [upd_ne (by rintro rfl; rw [e] at hb; cases hb)]
  exact hb, fun b o xs hb => by
  rw [upd_ne (by rintro rfl; rw [e] at hb; cases hb; exact hu xs rfl)]
  exact hb⟩
theorem RelH.unhide {K : PySem.W.Frag} {h : WH} {H : Hp} {a : Addr} {od : Obj} {u : HO} {ob : Wo} (r : RelH K h H) (e : H a = some (.frz od u)) (hu : ∀ xs, u ≠ .lst xs) (d : ODen K H ob u) : RelH K (wup h a ob) (upd H a u) := fun b o hb => by
  by_cases n : b = a
  · subst n
    rw [wup_same] at hb
    cases hb
    exact ⟨u, upd_same, d.growT (tup_unlock e hu)⟩
  · rw [wup_ne n] at hb
    obtain ⟨u1, e1, d1⟩ := r b o hb
    exact ⟨u1, by rw [upd_ne n]; exact e1, d1.growT (tup_unlock e hu)⟩
theorem RelS.unhide {K : PySem.W.Frag} {ρ : Wen} {σ : L2.St} {H : Hp} {a : Addr} {od : Obj} {u : HO} (r : RelS K H ρ σ) (e : H a = some (.frz od u)) (hu : ∀ xs, u ≠ .lst xs) : RelS K (upd H a u) ρ σ := ⟨r.1, fun i w q =>
  let ⟨v, e', d⟩ := r.2 i w q
  ⟨v, e', Den.growT (tup_unlock e hu) w d⟩⟩
theorem PS.or {st : Stmt} {t u : TS} (h : PS X st t) (h' : PS X st u) : PS X st (fun D σ H => t D σ H ∨ u D σ H) := ⟨fun pins s σ H D I q => q.elim (h.run pins s σ H D I) (h'.run pins s σ H D I)⟩
theorem js_forItems {i : Nat} {pt : Pat} {body : List Stmt} {tb : TWS} {xn : Str} (hp : PassesOwn (model X.prog X.w) X.A X.env X.xe) (hc : X.calm = true) (hg : JP X (.Tuple elts kk tpos) pt) (hb : JSs X Z body tb) (hN : X.N[i]? = some xn := by rfl)
    (hv : Vis X.env.scope xn := by first | exact Or.inl rfl | exact Or.inr (Or.inl rfl) | exact Or.inr (Or.inr rfl)) (hd : (xn == ("__debug__" : Str)) = false := by decide) (hcd : (xn == ("__classdict__" : Str)) = false := by decide)
    (hbase : attributeBase (.Name xn p) "items" X.env (eval (.Name xn p) X.env) = eval (.Name xn p) X.env := by rfl) (hline : (apos.endLine == cpos.line) = true := by rfl)
    (hs : ∀ x, foldedSetIterable (.Call (.Attribute (.Name xn p) "items" apos) [] [] cpos) X.env x = pure x := by intro _; rfl) :
    JS X Z (.For (.Tuple elts kk tpos) (.Call (.Attribute (.Name xn p) "items" apos) [] [] cpos) body [] pos) (wForItems i pt tb) where
  mo := fun D D' ρ h l ⟨a, ob, is, e1, e2, e3, P, p0, ps, pe⟩ => ⟨a, ob, is, e1, e2, e3, P, p0, fun j w ρ h e p hn => by
    obtain ⟨ρ2, e4, q⟩ := ps j w ρ h e p hn
    refine ⟨ρ2, e4, hb.mo _ _ _ _ ⟨?_, ?_, ?_, ?_, ?_⟩ q⟩
    · exact fun _ _ z => z
    · exact fun _ _ z hn => l.rt _ _ (z hn)
    · exact fun _ _ z hn => l.nx _ _ (z hn)
    · exact fun _ _ z => z
    · exact fun _ _ _ _ _ z => z, fun ρ h p hn => l.nx _ _ (pe ρ h p hn)⟩
  ps := imS (PS.or (ps_lock (ps_for hp hc (pi_items (pe_var hN hv hd hcd) hbase hline) hg.pg hb.ps hs)) (ps_lock (ps_for hp hc (pi_itemsT (pe_var hN hv hd hcd) hbase hline) hg.pg hb.ps hs))) fun D σ0 H0 ⟨ρ0, h0, rs0, rh0, a, ob, is, e1, e2, e3, P, p0, pst, pe⟩ => by
    obtain ⟨u, hu, od⟩ := rh0 a ob e2
    obtain ⟨v0, ev0, dv0⟩ := rs0.2 i _ e1
    replace dv0 : v0 = .ref a := dv0
    subst dv0
    have hu' : ∀ xs, u ≠ .lst xs := by
      rintro xs rfl
      cases od
      simp [pairsO] at e3
    have main : ∀ (oc : Obj) {J : It}, (∀ H1, Grow X.K H0 H1 → H1 a = some (.frz oc u) → Src X.K H1 J is (fun _ => True)) → ∃ W : Nat → Nat → L2.St → Hp → Prop, (∃ m, W 0 m σ0 (upd H0 a (.frz oc u))) ∧ ∀ i m σ H, W i m σ H →
        (J.stop i H ∧ (H a = some (.frz oc u) ∧ D.nx σ (upd H a u))) ∨ (J.go i H ∧ ∃ N : L2.St → Hp → Prop, (∀ σ' H', N σ' H' → ∃ m', m' < m ∧ W (i + 1) m' σ' H') ∧ ∀ x H', J.yld i H x H' → gP X.K pt x σ H' fun σ2 H2 =>
          liS X.K Z tb { nx := N, ct := N, bk := fun σ' H' => H' a = some (.frz oc u) ∧ D.nx σ' (upd H' a u), rt := fun v H' => H' a = some (.frz oc u) ∧ D.rt v (upd H' a u) } σ2 H2) := fun oc {J} srs => by
      obtain ⟨g1, r1⟩ := rh0.hide (od := oc) hu od.mut
      have hfr : (upd H0 a (.frz oc u)) a = some (.frz oc u) := upd_same
      generalize hH1 : upd H0 a (.frz oc u) = H1 at g1 r1 hfr
      -- the ends
      have ends : ∀ {H' : Hp}, Grow X.K H1 H' → H' a = some (.frz oc u) ∧ Grow X.K H0 (upd H' a u) := fun {H'} g => ⟨g.2 _ _ _ hfr, grow_unlock hu od.mut (by rw [hH1]; exact g)⟩
      have nxe : ∀ {ρ' : Wen} {h' : WH} {σ' : L2.St} {H' : Hp}, Grow X.K H1 H' → RelS X.K H' ρ' σ' → RelH X.K h' H' → (liD X.K H0 Z D).nx ρ' (wup h' a ob) → H' a = some (.frz oc u) ∧ D.nx σ' (upd H' a u) := fun {ρ' h' σ' H'} g rs rh q => by
        obtain ⟨z1, z2⟩ := ends g
        exact ⟨z1, q σ' _ z2 (rs.unhide z1 hu') (rh.unhide z1 hu' (od.grow (g1.trans g)))⟩
      have body : ∀ {J : It}, Src X.K H1 J is (fun _ => True) → ∃ W : Nat → Nat → L2.St → Hp → Prop, (∃ m, W 0 m σ0 H1) ∧ ∀ i m σ H, W i m σ H →
          (J.stop i H ∧ (H a = some (.frz oc u) ∧ D.nx σ (upd H a u))) ∨ (J.go i H ∧ ∃ N : L2.St → Hp → Prop, (∀ σ' H', N σ' H' → ∃ m', m' < m ∧ W (i + 1) m' σ' H') ∧ ∀ x H', J.yld i H x H' → gP X.K pt x σ H' fun σ2 H2 =>
            liS X.K Z tb { nx := N, ct := N, bk := fun σ' H' => H' a = some (.frz oc u) ∧ D.nx σ' (upd H' a u), rt := fun v H' => H' a = some (.frz oc u) ∧ D.rt v (upd H' a u) } σ2 H2) := fun {J} sr => by
        refine ⟨fun i m σ H => ∃ ρ h, RelS X.K H ρ σ ∧ RelH X.K h H ∧ Grow X.K H1 H ∧ P i ρ h ∧ m = is.length - i ∧ i ≤ is.length, ⟨is.length, ρ0, _, rs0.grow g1, r1, Grow.refl _ _, p0, by omega, by omega⟩, ?_⟩
        rintro j m σ H ⟨ρ, h, rs, rh, g, pi, hm, hle⟩
        by_cases hlt : j < is.length
        · obtain ⟨go, yl⟩ := sr.nth j is[j] h H (by simp [hlt]) g rh trivial
          refine .inr ⟨go, fun σ' H' => ∃ ρ h, RelS X.K H' ρ σ' ∧ RelH X.K h H' ∧ Grow X.K H1 H' ∧ P (j + 1) ρ h, fun σ' H' ⟨ρ', h', a1, a2, a3, a4⟩ => ⟨is.length - (j + 1), by omega, ρ', h', a1, a2, a3, a4, rfl, hlt⟩, fun x H' y => ?_⟩
          obtain ⟨g2, rh2, dx⟩ := yl x H' y
          obtain ⟨ρ2, e4, q2⟩ := pst j is[j] ρ h (by simp [hlt]) pi (rh.hid_none (ends g).1)
          obtain ⟨σ2, rs2, _, k2⟩ := bindW_ok pt (rs.grow g2) dx e4
          have gg := g.trans g2
          refine k2 _ ⟨ρ2, h, rs2, rh2, hb.mo _ _ _ _ ⟨?_, ?_, ?_, ?_, ?_⟩ q2⟩
          · exact fun ρ' h' p' σ' H'' g' rs' rh' => ⟨ρ', h', rs', rh', gg.trans g', p'⟩
          · intro w h' q v' H'' g' rh' dv'
            obtain ⟨z1, z2⟩ := ends (gg.trans g')
            exact ⟨z1, q (rh'.hid_none z1) v' _ z2 (rh'.unhide z1 hu' (od.grow (g1.trans (gg.trans g')))) (Den.growT (tup_unlock z1 hu') w dv')⟩
          · exact fun ρ' h' q σ' H'' g' rs' rh' => nxe (gg.trans g') rs' rh' (q (rh'.hid_none (ends (gg.trans g')).1))
          · exact fun ρ' h' p' σ' H'' g' rs' rh' => ⟨ρ', h', rs', rh', gg.trans g', p'⟩
          · exact fun ρ C f w h z => z.elim
        · have e : j = is.length := by omega
          subst e
          exact .inl ⟨sr.stop h H g rh trivial, nxe g rs rh (pe ρ h pi (rh.hid_none (ends g).1))⟩
      exact body (srs H1 g1 hfr)
    cases od with
    | lst _ => simp [pairsO] at e3
    | ins _ => simp [pairsO] at e3
    | @dK kvs kus r =>
      simp [pairsO] at e3
      subst e3
      exact .inl ⟨a, _, hu, trivial, fun oc => ⟨.ref a, ev0, a, oc, kus, rfl, upd_same, main oc fun H1 g fr => pairs_srcK fr (Paired.mapP r fun _ _ q => ⟨q.1, Den.grow g _ q.2⟩)⟩⟩
    | @dT kvs kus r =>
      simp [pairsO] at e3
      subst e3
      exact .inr ⟨a, _, hu, trivial, fun oc => ⟨.ref a, ev0, a, oc, kus, rfl, upd_same, main oc fun H1 g fr => pairs_srcT fr (Paired.mapP r fun _ _ q => ⟨q.1, Den.grow g _ q.2⟩)⟩⟩
/-! ### d.get(k, z) -/
def wGet2 (td ty tx : TWE) : TWE := fun ρ h Q E => td ρ h (fun d h1 => tyW "dict" d h1 ∧ ty ρ h1 (fun k h2 => tx ρ h2 (fun z h3 => match dlookW h3 d k with
  | some o => Q (o.getD z) h3
  | none => False) E) E) E
theorem jget2 {f : Expr} {tf : TWE} (hu : X.A.units + 64 < cLine) (ho : JE X Z o to) (he : JE X Z e te) (hf : JE X Z f tf) (m : M2 X o "get" apos e f cpos := by exact ⟨rfl, rfl, rfl, rfl⟩) : JE X Z (.Call (.Attribute o "get" apos) [e, f] [] cpos) (wGet2 to te tf) where
  mo := fun ρ h Q Q' E E' hq hx q => ho.mo ρ h _ _ _ _ (fun d h1 q1 => ⟨q1.1, he.mo ρ h1 _ _ _ _ (fun k h2 q2 => hf.mo ρ h2 _ _ _ _ (fun z h3 q3 => by
    split
    · rename_i e
      rw [e] at q3
      exact hq _ _ q3
    · rename_i e
      rw [e] at q3
      exact q3) hx q2) hx q1.2⟩) hx q
  pe := imE (pe_dget2 (by omega) ho.pe he.pe hf.pe m) fun σ H Q ⟨ρ, h, rs, rh, q⟩ => by
    refine li_then (E := fun _ _ _ _ => False) ho.mo rs rh q fun d h1 v H1 g1 r1 d1 q1 => ?_
    obtain ⟨q0, q1⟩ := q1
    cases d <;> first | exact q0.elim | skip
    · exact absurd (show "dict" = "str" from q0) (by decide)
    rename_i a
    replace d1 : v = .ref a := d1
    subst d1
    have isd : IsD H1 a := by
      rcases q0 with ⟨z, _⟩ | ⟨_, ⟨kvs, z⟩ | ⟨kvs, z⟩⟩
      · exact absurd z (by decide)
      · obtain ⟨u, e2, od⟩ := r1 a _ z
        cases od
        exact .inl ⟨_, .inl e2⟩
      · obtain ⟨u, e2, od⟩ := r1 a _ z
        cases od
        exact .inr ⟨_, .inl e2⟩
    refine ⟨a, rfl, isd, ?_⟩
    have q1' := he.mo ρ h1 _ _ _ (exQ X.K H1 fun cls d H' => Z cls d σ H') (fun _ _ z => z) (exQ_back g1) q1
    refine li_then (E := fun _ _ _ _ => False) he.mo (rs.grow g1) r1 q1' fun k h2 v2 H2 g2 r2 d2 q2 => ?_
    have q2' := hf.mo ρ h2 _ _ _ (exQ X.K H2 fun cls d H' => Z cls d σ H') (fun _ _ z => z) (exQ_back (g1.trans g2)) q2
    refine li_then (E := fun _ _ _ _ => False) hf.mo (rs.grow (g1.trans g2)) r2 q2' fun z h3 v3 H3 g3 r3 d3 q3 => ?_
    split at q3
    · rename_i ov e
      obtain ⟨a', oo, ea, gt, rel⟩ := dlook_get r3 (d := .ref a) (vd := .ref a) rfl (Den.grow g3 _ d2) e
      cases ea
      refine ⟨oo, gt, ?_⟩
      have g := (g1.trans g2).trans g3
      rcases rel with ⟨rfl, rfl⟩ | ⟨w, x, rfl, rfl, dw⟩
      · exact q3 _ H3 g r3 d3
      · exact q3 _ H3 g r3 dw
    · exact q3.elim
end
end Pd
set_option Elab.async false
set_option linter.all false
set_option maxRecDepth 100000
set_option maxHeartbeats 4000000
namespace L2
open PySem PySem.Spec PyProof.Rows
/-! ### t[lo:hi:c] -/
/-- first and last place of the slice, as the model adjusts them; the places it picks -/
abbrev adj (n : Nat) (lo hi : Option Int) (c : Int) : Int × Int := Builtin.Slice.sliceAdjust lo hi c (n : Int)
abbrev placesN (n : Nat) (lo hi : Option Int) (c : Int) : Nat := Builtin.Slice.slicePlaces (adj n lo hi c).1 (adj n lo hi c).2 c
def stepOf (n : Nat) (lo hi : Option Int) (c : Int) : List Nat := (List.range (placesN n lo hi c)).map fun (m : Nat) => ((adj n lo hi c).1 + (m : Int) * c).toNat
abbrev picked {α : Type} (xs : List α) (lo hi : Option Int) (c : Int) : List α := (stepOf xs.length lo hi c).filterMap fun i => xs[i]?
theorem step_parts {P : Program} {wd : World} {A : Around} {E : Value → Shared → Prop} {s : Shared} {sl : Addr} {vl vu : Value} {lo hi : Option Int} {c : Int} {tk : Tok} {n : Nat} {R : Int × Int × Nat → Shared → Prop}
    (slice : s.heap.IsSliceOf sl vl vu (.int c tk)) (pl : IsPart vl lo) (pu : IsPart vu hi) (two : 2 ≤ c) (h : R ((adj n lo hi c).1, c, placesN n lo hi c) s) : wpAny (model P wd) A (Builtin.Slice.sliceApplied (.ref sl) (pure (n : Int))) R E s := by
  obtain ⟨ob, there, _, dat⟩ := slice
  have nz : ¬ ((c == 0) = true) := fun z => by have := eq_of_beq z; omega
  have tail : wpAny (model P wd) A (do
      if c == 0 then rule "slice.step-zero"; raiseError "ValueError" "slice step cannot be zero"
      let start ← Builtin.Slice.slicePartIndex vl
      let stop ← Builtin.Slice.slicePartIndex vu
      let (lo, hi) := Builtin.Slice.sliceAdjust start stop c (← pure (n : Int))
      return (lo, c, Builtin.Slice.slicePlaces lo hi c)) R E s := by
    rw [if_neg nz]
    exact HT.slicePart_ pl (HT.slicePart_ pu (wpAny_pure h) |> wpAny_bind) |> wpAny_bind
  exact wpAny_bind (wpAny_bind (wpAny_field there dat rfl (wpAny_bind (wpAny_field there dat rfl (wpAny_bind (wpAny_field there dat rfl (wpAny_pure (wpAny_bind (HT.slicePart_ (.int c tk) tail))))))))) 
theorem item_step {P : Program} {wd : World} {A : Around} {E : Value → Shared → Prop} {s : Shared} {t sl : Addr} {its : List Value} {vl vu : Value} {lo hi : Option Int} {c : Int} {tk : Tok} {Q : Value → Shared → Prop}
    (tup : IsTup s.heap t its.toArray) (slice : s.heap.IsSliceOf sl vl vu (.int c tk)) (pl : IsPart vl lo) (pu : IsPart vu hi) (two : 2 ≤ c) (room : (picked its lo hi c).length ≤ sizeLine)
    (h : Q (.ref s.heap.objs.size) { s with heap := s.heap.push { cls := .type "tuple", data := .seq (picked its lo hi c).toArray } }) : wpAny (model P wd) A (getItem (.ref t) (.ref sl)) Q E s := by
  have isSl : s.TypeIs (.ref sl) "slice" := let ⟨ob, there, cl, _⟩ := slice; ⟨ob, there, cl⟩
  have new : wpAny (model P wd) A.in1 (Builtin.Tuple.tupleExact (picked its lo hi c).toArray >>= ret) (fun f s' => ∃ v, f = .done (.ret v) ∧ Q v s') E s := by
    refine wpAny_bind (m := Builtin.Tuple.tupleExact _) (wpAny_newObj_type ?_ (by simpa [sizeOk] using room))
    exact wpAny_pure ⟨_, rfl, h⟩
  have none_whole : ¬ (((adj its.length lo hi c).1 == 0 && c == 1 && placesN its.length lo hi c == its.length) = true) := fun z => by
    have := eq_of_beq (Bool.and_eq_true_iff.mp (Bool.and_eq_true_iff.mp z).1).2
    omega
  have body : wpAny (model P wd) A.in1 (Builtin.«tuple.__getitem__» ⟨[.ref t, .ref sl], []⟩) (fun f s' => ∃ v, f = .done (.ret v) ∧ Q v s') E s := by
    show wpAny (model P wd) A.in1 (Builtin.Tuple.tupleItemsOf (.ref t) >>= _) _ E s
    refine wpAny_bind (PyProof.Rows.tupleItemsOf_ tup (wpAny_bind (wpAny_typeOf isSl ?_)))
    rw [if_pos (by decide)]
    have sz : its.toArray.size = its.length := List.size_toArray ..
    rw [sz]
    refine wpAny_bind (step_parts slice pl pu two ?_)
    show wpAny (model P wd) A.in1 (if ((adj its.length lo hi c).1 == 0 && c == 1 && placesN its.length lo hi c == its.length) = true then _ else _) _ E s
    rw [if_neg none_whole]
    have same : ((List.range (placesN its.length lo hi c)).filterMap fun (m : Nat) => its.toArray[((adj its.length lo hi c).1 + (m : Int) * c).toNat]?) = picked its lo hi c := by
      simp only [picked, stepOf, List.filterMap_map, List.getElem?_toArray]
      rfl
    rw [same]
    exact new
  unfold getItem
  refine wpAny_holding (wpAny_bind (wpAny_sequenceKey tup.typeIs (by decide) (wpAny_bind (wpAny_callSpecial?_slot tup.typeIs PyProof.Rows.slot_tuple_getitem (wpAny_call_entry PyProof.Rows.slot_tuple_getitem tup.typeIs entry_tuple_getitem ?_ (args_tuple_getitem _ _))))))
  exact wpAny_mono body (fun f s' ⟨v, e1, z⟩ => ⟨v, e1, wpAny_pure z⟩) fun _ _ z => z
section
variable {X : Cx} {e st : Expr} {te ts : TE} {lo hi : Option Expr} {tl th : TO} {pos p2 : Pos}
theorem Vals.pick {xs : List V} {us : List Value} (r : Vals xs us) : ∀ is : List Nat, Vals (is.filterMap fun i => xs[i]?) (is.filterMap fun i => us[i]?)
  | [] => .nil
  | i :: is => by
    have rest := Vals.pick r is
    cases ex : xs[i]? with
    | none => simpa only [List.filterMap_cons_none ex, List.filterMap_cons_none (r.none_of ex)] using rest
    | some x =>
      obtain ⟨u, eu, ru⟩ := r.get ex
      simpa only [List.filterMap_cons_some ex, List.filterMap_cons_some eu] using Paired.cons ru rest
def tStep (te : TE) (tl th : TO) (ts : TE) : TE := fun σ H Q => te σ H fun x H1 => tl σ H1 fun l H2 => th σ H2 fun u H3 => ts σ H3 fun c H4 =>
  ∃ a xs k, x = .ref a ∧ c = .int k ∧ 2 ≤ k ∧ H4 a = some (.tup xs) ∧ (picked xs l u k).length ≤ 1000 ∧ ∀ p, H4 p = none → Q (.ref p) (upd H4 p (.tup (picked xs l u k)))
theorem pe_step (he : PE X e te) (hl : PO X lo tl) (hu : PO X hi th) (hs : PE X st ts) : PE X (.Subscript e (.Slice lo hi (some st) p2) pos) (tStep te tl th ts) where
  run pins s σ H Q I h := Subscript_ (thn (he.run pins s σ H _ I h) fun v s1 ⟨x, H1, I1, r1, q1⟩ => wpAny_Slice (thn (hl.run pins s1 σ H1 _ I1 q1) fun vl s2 ⟨l, H2, I2, pl, q2⟩ => thn (hu.run pins s2 σ H2 _ I2 q2) fun vu s3 ⟨u, H3, I3, pu, q3⟩ => by
    rw [evalPart_some]
    refine thn (hs.run pins s3 σ H3 _ I3 q3) fun vs s4 ⟨c, H4, I4, r4, a, xs, k, ex, ec, two, tracked, room, q⟩ => ?_
    subst ex ec
    obtain rfl : v = .ref a := r1
    obtain ⟨tk, rfl⟩ : ∃ tk, vs = .int k tk := r4
    have I5 := I4.kept (t' := s4.toks) (h' := s4.heap.push { cls := .type "slice", data := .fields #[vl, vu, .int k tk] }) fun _ _ => Heap.get?_push_of_some _
    obtain ⟨its, rel, tup, _⟩ := I5.tuple (SqT.of tracked)
    have rel2 : Vals (picked xs l u k) (picked its l u k) := by
      show Vals _ ((stepOf its.length l u k).filterMap fun i => its[i]?)
      rw [← rel.length]
      exact rel.pick _
    have fits : (picked its l u k).length ≤ sizeLine := by
      rw [← rel2.length]
      exact Nat.le_trans room (by decide)
    refine tail_any (ops := [.ref a, .ref s4.heap.objs.size]) tup.typeIs PyProof.Rows.slot_tuple_getitem.lookup (item_step tup (Heap.IsSliceOf.new ..) pl pu two fits ?_) (by with_unfolding_all rfl)
    exact ⟨.ref _, _, I5.laid (t' := s4.toks) (o := .tup (picked xs l u k)) (fun _ _ => Heap.get?_push_of_some _) (Nat.le_refl _) ⟨by rw [rel2.length]; exact fits, _, rel2, IsTup.new _ _⟩, rfl, q _ (I5.hok.fresh (Nat.le_refl _))⟩))
end
end L2
namespace Pd
open PySem PySem.Spec PyProof.Rows L2
section
variable {X : Cx} {Z : L2.WX} {e st : Expr} {te ts : TWE} {lo hi : Option Expr} {tl th : TWO} {pos p2 : Pos}
theorem DenL.pick {K : PySem.W.Frag} {H : Hp} {ws : List Wv} {vs : List V} (d : DenL K H ws vs) : ∀ is : List Nat, DenL K H (is.filterMap fun i => ws[i]?) (is.filterMap fun i => vs[i]?)
  | [] => rfl
  | i :: is => by
    have rest := DenL.pick d is
    cases e : ws[i]? with
    | none =>
      have e2 : vs[i]? = none := by
        rw [List.getElem?_eq_none_iff] at e ⊢
        rw [← d.length]
        exact e
      simpa only [List.filterMap_cons_none e, List.filterMap_cons_none e2] using rest
    | some w =>
      obtain ⟨v, e2, dv⟩ := d.get e
      simpa only [List.filterMap_cons_some e, List.filterMap_cons_some e2] using DenL.cons dv rest
def wStep (te : TWE) (tl th : TWO) (ts : TWE) : TWE := fun ρ h Q E => te ρ h (fun w h1 => tl ρ h1 (fun l h2 => th ρ h2 (fun u h3 => ts ρ h3 (fun c h4 => match w, c with
  | .tup ws, .int k => 2 ≤ k ∧ (picked ws l u k).length ≤ 1000 ∧ Q (.tup (picked ws l u k)) h4
  | _, _ => False) E) E) E) E
theorem jstep (he : JE X Z e te) (hl : JO X Z lo tl) (hu : JO X Z hi th) (hs : JE X Z st ts) : JE X Z (.Subscript e (.Slice lo hi (some st) p2) pos) (wStep te tl th ts) where
  mo := fun ρ h Q Q' E E' hq hx q => he.mo ρ h _ _ _ _ (fun w h1 q1 => hl.mo ρ h1 _ _ _ _ (fun l h2 q2 => hu.mo ρ h2 _ _ _ _ (fun u h3 q3 => hs.mo ρ h3 _ _ _ _ (fun c h4 q4 => by
    cases w <;> first | exact q4.elim | skip
    cases c <;> first | exact q4.elim | skip
    exact ⟨q4.1, q4.2.1, hq _ _ q4.2.2⟩) hx q3) hx q2) hx q1) hx q
  pe := imE (pe_step he.pe hl.po hu.po hs.pe) fun σ H Q ⟨ρ, h, rs, rh, q⟩ => by
    refine li_then (E := fun _ _ _ _ => False) he.mo rs rh q fun w h1 v H1 g1 r1 d1 q1 => ?_
    refine ⟨ρ, h1, rs.grow g1, r1, hl.mo ρ h1 _ _ _ _ (fun l h2 q2 H2 g2 r2 => ?_) (exQ_back g1) q1⟩
    refine ⟨ρ, h2, rs.grow (g1.trans g2), r2, hu.mo ρ h2 _ _ _ _ (fun u h3 q3 H3 g3 r3 => ?_) (exQ_back (g1.trans g2)) q2⟩
    have g := (g1.trans g2).trans g3
    have q3' := hs.mo ρ h3 _ _ _ (exQ X.K H3 fun cls d H' => Z cls d σ H') (fun _ _ z => z) (exQ_back g) q3
    refine li_then (E := fun _ _ _ _ => False) hs.mo (rs.grow g) r3 q3' fun c h4 x H4 g4 r4 d4 q4 => ?_
    cases w <;> first | exact q4.elim | skip
    cases c <;> first | exact q4.elim | skip
    rename_i ws k
    replace d4 : x = .int k := d4
    subst d4
    obtain ⟨a, vs, rfl, ha, dl⟩ := Den.grow (g2.trans (g3.trans g4)) _ d1
    have same : DenL X.K H4 (picked ws l u k) (picked vs l u k) := by
      show DenL _ _ _ ((stepOf vs.length l u k).filterMap fun i => vs[i]?)
      rw [← dl.length]
      exact dl.pick _
    exact ⟨a, vs, k, rfl, rfl, q4.1, ha, by rw [← same.length]; exact q4.2.1, fun p hp => q4.2.2 _ _ ((g.trans g4).trans (grow_new hp)) (r4.hid hp) ⟨p, _, rfl, upd_same, same.grow (grow_new hp)⟩⟩
end
end Pd
set_option Elab.async false
set_option linter.all false
set_option maxRecDepth 100000
set_option maxHeartbeats 4000000
namespace Pd
open PySem PySem.Spec PyProof.Rows L2
/-- the items of a list or a tuple, gathered in a list of the model's own -/
theorem gather {P : Program} {wd : World} {A : Around} {E : Value → Shared → Prop} {s : Shared} {it : Addr} {T : String} {o : Obj} {vs : List Value} {n : Nat} {Q : List Value → Shared → Prop} (kind : T = "list" ∨ T = "tuple") (there : s.heap.get? it = some o) (cl : o.cls = .type T) (dat : o.data = .seq vs.toArray n)
    (room : vs.length ≤ sizeLine) (h : ∀ h1, (∀ b ob, s.heap.get? b = some ob → h1.get? b = some ob) → s.heap.objs.size ≤ h1.objs.size → Q vs { s with heap := h1 }) : wpAny (model P wd) A (collect (.ref it)) Q E s := by
  let fresh : Obj := { cls := .type "list", data := .seq ([] : List Value).toArray }
  let full : Heap := (s.heap.push fresh).update s.heap.objs.size (Obj.mapSeq (· ++ vs.toArray))
  have new : (s.heap.push fresh).get? s.heap.objs.size = some fresh := Heap.get?_push_size _ rfl
  have got := Heap.get?_update_self (Obj.mapSeq (· ++ vs.toArray)) new rfl
  have ends : wpAny (model P wd) A (do
      match (← load s.heap.objs.size).data with
      | .seq xs _ => pure xs.toList
      | _ => unsupported "internal:collect") Q E { s with heap := full } := by
    refine wpAny_bind (wpAny_load got (wpAny_pure ?_))
    have : (#[] ++ vs.toArray : Array Value).toList = vs := by simp
    rw [this]
    refine h full (fun b ob q => ?_) ?_
    · exact (Heap.get?_update_other _ _ (Nat.ne_of_lt (Heap.lt_size q)).symm).trans (Heap.get?_push_of_some _ q)
    · show s.heap.objs.size ≤ ((s.heap.push fresh).update _ _).objs.size
      rw [Heap.size_update, Heap.size_push]
      exact Nat.le_succ _
  have extend := wpAny_extend_seq (prog := P) (w := wd) (A := A) (hsz := by simpa using room) (R := fun r s' => r = .ok (.ret (.ref s.heap.objs.size)) ∧ s' = { s with heap := full }) (s := { s with heap := s.heap.push fresh }) _ it (.ref s.heap.objs.size) 0 kind new (Heap.get?_push_of_some _ there) cl dat ⟨rfl, rfl⟩
  unfold collect
  refine wpAny_bind (wpAny_runValue (codeAny_builtin F.entry_proto_collect ?_))
  refine wpAny_bind (wpAny_newObj_type (wpAny_pure ⟨plainId_quiet F.plain_list_iadd _, codeAny_builtin F.entry_list_iadd ?_⟩))
  simp only [Around.under_plainId F.plain_list_iadd, Around.under_plainId F.plain_proto_collect]
  refine wpAny_mono extend (fun fin s' k => ?_) fun _ _ k => nomatch k.1
  match fin, k with
  | .done f, ⟨e1, e2⟩ =>
    subst e2
    cases e1
    exact ends
  | .again c, ⟨q1, q2⟩ =>
    refine ⟨q1, codeAny_mono q2 fun r s2 k => ?_⟩
    obtain ⟨rfl, rfl⟩ := k
    exact ends
end Pd
namespace SrtO
open PySem PyProof.Rows Srt
section
variable {prog : Program} {w : World} {A : Around} {E : Value → Shared → Prop} {s : Shared}
/-- sorted(x), x a list or a tuple -/
theorem sort_seq {it : Addr} {T : String} {o : Obj} {vs : List Value} {n : Nat} {less : Value → Value → Bool} {Q : Value → Shared → Prop} (O : Swo less) (kind : T = "list" ∨ T = "tuple") (there : s.heap.get? it = some o) (cl : o.cls = .type T) (dat : o.data = .seq vs.toArray n) (room : vs.length ≤ sizeLine)
    (able : 2 ≤ vs.length → ∀ h₁ a, SortableO prog w A.in1.in1 { s with heap := h₁ } a vs less)
    (h : ∀ out h1 a, Srtd less out → Stb less out vs → s.heap.objs.size ≤ a → (∀ b ob, s.heap.get? b = some ob → h1.get? b = some ob) → (∃ ep, h1.get? a = some (seqObj "list" out.toArray ep)) → Q (.ref a) { s with heap := h1 }) :
    wpAny (model prog w) A (call (.builtin "sorted") [.ref it]) Q E s := by
  have body : wpAny (model prog w) A.in1 (Builtin.«sorted» ⟨[.ref it], []⟩) (fun f s' => ∃ v, f = .done (.ret v) ∧ Q v s') E s := by
    refine wpAny_bind (wpAny_pure (wpAny_bind (Pd.gather kind there cl dat room fun h2 same grown => wpAny_bind (wpAny_newList ?_ room))))
    have list : (h2.push (seqObj "list" vs.toArray 0)).get? h2.objs.size = some (seqObj "list" vs.toArray 0) := Heap.get?_push_size _ rfl
    refine wpAny_bind (wpAny_holding (wpAny_call_entry slot_list_sort ⟨_, list, rfl⟩ entry_list_sort (list_sort_ord O list room (able · _ _) fun out up stable => ⟨_, rfl, wpAny_pure ⟨_, rfl, h out _ _ up stable grown (fun b ob q => ?_) (sortedHeap_at list)⟩⟩) (args_list_sort _)))
    have low := Heap.lt_size (same b ob q)
    exact (sortedHeap_old (Nat.ne_of_lt low) (Nat.lt_of_lt_of_eq (Nat.lt_succ_of_lt low) (size_push' ..).symm)).trans (Heap.get?_push_of_some _ (same b ob q))
  exact Calls.call_function_entry kind_sorted plain_sorted entry_sorted (args_sorted1 _) body
end
end SrtO

namespace L2
open PySem PySem.Spec PyProof.Rows
/-- sorted(x) for ints: the list that is sorted -/
def rSortedA : List V → Hp → VK → Prop := fun vs H Q => ∃ (a : Addr) (ns : List Int), vs = [V.ref a] ∧ (H a = some (.lst (ns.map V.int)) ∨ H a = some (.tup (ns.map V.int))) ∧
  ∀ up p, List.Perm up ns → List.Pairwise (· ≤ ·) up → H p = none → Q (.ref p) (upd H p (.lst (up.map V.int)))
theorem cr_sortedA {X : Cx} : CallR X (.builtin "sorted") rSortedA := fun pins s σ H vs us Q I r ⟨a, ns, ev, tracked, q⟩ => by
  subst ev
  obtain rfl := Vals.ref1 r
  obtain ⟨T, o, its, n, kind, there, cl, dat, rel, room⟩ : ∃ (T : String) (o : Obj) (its : List Value) (n : Nat), (T = "list" ∨ T = "tuple") ∧ s.heap.get? a = some o ∧ o.cls = .type T ∧ o.data = .seq its.toArray n ∧ Vals (ns.map V.int) its ∧ ns.length ≤ sizeLine := by
    rcases tracked with t | t
    · obtain ⟨its, n, rel, there, room⟩ := I.lst t
      exact ⟨"list", _, its, n, .inl rfl, there, rfl, rfl, rel, by simpa using room⟩
    · obtain ⟨its, rel, ⟨o, there, cl, n, dat⟩, room⟩ := I.tuple (SqT.of t)
      exact ⟨"tuple", o, its, n, .inr rfl, there, cl, dat, rel, by simpa using room⟩
  have whole := rel.ints
  have len : its.length = ns.length := by simpa using rel.length.symm
  refine SrtO.sort_seq SrtO.swo_int kind there cl dat (len ▸ room) (fun two _ _ => SrtO.ints_sortable whole two) fun out h1 p up stable above same ⟨ep, new⟩ => ?_
  obtain ⟨b1, b2, b3⟩ := SrtO.ints_out whole up stable
  exact ⟨.ref p, _, I.laid (t' := s.toks) same above (o := .lst ((out.map SrtO.iv).map V.int)) ⟨by rw [List.length_map, b2.length_eq]; exact room, out, ep, vals_of_ints b1, new⟩, rfl, q _ _ b2 b3 (I.hok.fresh above)⟩
/-! ### list(d.values()) -/
/-- the values of a dict, as its table has them -/
theorem values_at {X : Cx} {pins : List (Addr × Obj)} {σ : L2.St} {H : Hp} {s : Shared} {d : Addr} {xs : List V} (I : Inv X pins σ H s) (h : (∃ kvs, H d = some (.dK kvs) ∧ xs = kvs.map (·.2)) ∨ ∃ kvs, H d = some (.dT kvs) ∧ xs = kvs.map (·.2)) :
    ∃ o es ep, (d == sysModules) = false ∧ s.heap.get? d = some o ∧ o.ExactDict ∧ o.data = .dict es ep ∧ xs.length = es.size ∧ xs.length ≤ sizeLine ∧ ∀ i (lt : i < es.size) x, xs[i]? = some x → RelV x es[i].val := by
  rcases h with ⟨kvs, tracked, rfl⟩ | ⟨kvs, tracked, rfl⟩
  · obtain ⟨room, nsys, vs, rel, o, es, ep, there, exact1, dat, _, tab, _⟩ := I.hok d _ tracked
    have sz : es.toList.length = vs.length := tab.length
    refine ⟨o, es, ep, nsys, there, exact1, dat, by simpa using (Paired.length rel).trans sz.symm, by simpa using room, fun i lt x ex => ?_⟩
    obtain ⟨kv, ek, rfl⟩ : ∃ kv, kvs[i]? = some kv ∧ kv.2 = x := by simpa using ex
    obtain ⟨u, eu, ru⟩ := kv_get rel (k := kv.1) (v := kv.2) ek
    exact (tab.get? (e := es[i]) (by simp [lt]) eu).2 ▸ ru
  · obtain ⟨room, nsys, rows, rel, o, es, ep, there, exact1, dat, tab, _⟩ := I.hok d _ tracked
    refine ⟨o, es, ep, nsys, there, exact1, dat, by simpa using (Paired.length rel).trans (size_of_entries tab).symm, by simpa using room, fun i lt x ex => ?_⟩
    obtain ⟨kv, ek, rfl⟩ : ∃ kv, kvs[i]? = some kv ∧ kv.2 = x := by simpa using ex
    obtain ⟨row, er, _, _, val⟩ := paired_get rel ek
    have en := entry_at tab i
    rw [er, Array.getElem?_eq_getElem lt] at en
    exact Option.some.inj en ▸ val
def tVals (te : TE) : TE := fun σ H Q => te σ H fun x H1 => ∃ d xs, x = .ref d ∧ ((∃ kvs, H1 d = some (.dK kvs) ∧ xs = kvs.map (·.2)) ∨ ∃ kvs, H1 d = some (.dT kvs) ∧ xs = kvs.map (·.2)) ∧ ∀ q, H1 q = none → Q (.ref q) (upd H1 q (.lst xs))
theorem pe_listVals {X : Cx} (hc : X.calm = true) {e : Expr} {te : TE} {apos cpos p pos : Pos} (he : PE X e te) (hg : Gl X "list") (hm : X.mg "list" = none) (hbase : attributeBase e "values" X.env (eval e X.env) = eval e X.env := by rfl) (hline : (apos.endLine == cpos.line) = true := by rfl)
    (hs : starEach [.Call (.Attribute e "values" apos) [] [] cpos] X.env = (false, eval (.Call (.Attribute e "values" apos) [] [] cpos) X.env) :: starEach [] X.env := by rfl) :
    PE X (.Call (.Name "list" p) [.Call (.Attribute e "values" apos) [] [] cpos] [] pos) (tVals te) where
  run pins s σ H Q I hq := by
    have view : wpAny (model X.prog X.w) X.A (eval (.Call (.Attribute e "values" apos) [] [] cpos) X.env) (fun u s2 => wpAny (model X.prog X.w) X.A (call (.type "list") [u]) (EP X pins σ Q) X.xe s2) X.xe s := by
      refine wpAny_Call_method hbase rfl hline F.plainAttrs_dict F.slot_dict_values F.type_dict_values (thn (he.run pins s σ H _ I hq) fun u s1 ⟨x, H1, I1, rx, d, xs, ex, tracked, q⟩ => ?_)
      subst ex
      obtain rfl : u = .ref d := rx
      obtain ⟨o, es, ep, nsys, there, exact1, dat, sz, room, vals⟩ := values_at I1 tracked
      have isD : s1.TypeIs (.ref d) "dict" := ⟨o, there, exact1.1⟩
      refine ⟨isD, fun b eb => ⟨o, by cases eb; exact there, exact1.2.1⟩, ?_⟩
      refine method_meetsIn F.slot_dict_values F.entry_dict_values rfl (PySem.evalArgs_none ⟨rfl, isD, F.args_dict_values_1 _, _, meets_dict_values_raw d nsys, ⟨es, ep, o, there, exact1, dat⟩, ?_⟩)
      refine PySem.W.kdl_call (KdlSrc.rawValues (r := s1.heap.objs.size) (d := d) (es := es) (ep := ep)) (I1.ok.hd hc) ⟨⟨_, Heap.get?_push_size _ rfl, rfl, rfl⟩, ⟨o, Heap.get?_push_of_some _ there, exact1, dat⟩⟩ (sz ▸ room) fun h' tk acc c same new its => ?_
      have I2 := I1.kept (t' := s1.toks) (h' := s1.heap.push { cls := .type "dict_values", data := .fields #[.ref d] }) fun _ _ => Heap.get?_push_of_some _
      have rel : Vals xs acc.toList := vals_of_at (by rw [Array.length_toList]; exact sz.trans its.1.symm) fun j x u e1 e2 => by
        obtain ⟨lt, rfl⟩ := its.2 j u (Array.getElem?_toList .. ▸ e2)
        exact vals j lt x e1
      exact ⟨.ref _, _, I2.laid (t' := tk) (o := .lst xs) same (Nat.le_refl _) ⟨room, acc.toList, c, rel, new⟩, rfl, q _ (I2.hok.fresh (Nat.le_refl _))⟩
    refine wpAny_Call_Name_kw (ld_blt I hg hm rfl (PyProof.Rows.callWith_type1 ?_ hs rfl))
    rw [hs]
    exact Calls.spliced_cons (thn view fun u s2 k => Calls.spliced_nil k)
end L2
set_option Elab.async false
set_option linter.all false
set_option maxRecDepth 100000
set_option maxHeartbeats 4000000
namespace Pd
open PySem PySem.Spec PyProof.Rows L2
/-! ### the sorted list -/
def insI (x : Int) : List Int → List Int
  | [] => [x]
  | y :: r => if x ≤ y then x :: y :: r else y :: insI x r
def sortI : List Int → List Int
  | [] => []
  | x :: r => insI x (sortI r)
theorem insI_perm (x : Int) : ∀ l, (insI x l).Perm (x :: l)
  | [] => .refl _
  | y :: r => by
    unfold insI
    split
    · exact .refl _
    · exact ((insI_perm x r).cons y).trans (.swap x y r)
theorem sortI_perm : ∀ l, (sortI l).Perm l
  | [] => .refl _
  | x :: r => (insI_perm x _).trans ((sortI_perm r).cons x)
theorem insI_up {x : Int} : ∀ {l}, List.Pairwise (· ≤ ·) l → List.Pairwise (· ≤ ·) (insI x l)
  | [], _ => by simp [insI]
  | y :: r, h => by
    unfold insI
    obtain ⟨h1, h2⟩ := List.pairwise_cons.mp h
    split
    · rename_i c
      refine List.pairwise_cons.mpr ⟨fun z hz => ?_, h⟩
      rcases List.mem_cons.mp hz with rfl | hz
      · exact c
      · have := h1 z hz; omega
    · rename_i c
      refine List.pairwise_cons.mpr ⟨fun z hz => ?_, insI_up h2⟩
      rcases List.mem_cons.mp ((insI_perm x r).mem_iff.mp hz) with rfl | hz
      · omega
      · exact h1 z hz
theorem sortI_up : ∀ l, List.Pairwise (· ≤ ·) (sortI l)
  | [] => .nil
  | x :: r => insI_up (sortI_up r)
theorem up_unique : ∀ {l m : List Int}, l.Perm m → List.Pairwise (· ≤ ·) l → List.Pairwise (· ≤ ·) m → l = m
  | [], m, p, _, _ => (List.nil_perm.mp p).symm
  | a :: r, [], p, _, _ => by simpa using p.length_eq
  | a :: r, b :: s, p, h1, h2 => by
    obtain ⟨a1, a2⟩ := List.pairwise_cons.mp h1
    obtain ⟨b1, b2⟩ := List.pairwise_cons.mp h2
    have e1 : b ≤ a := by
      rcases List.mem_cons.mp (p.mem_iff.mp (List.mem_cons_self)) with e | e
      · omega
      · exact b1 a e
    have e2 : a ≤ b := by
      rcases List.mem_cons.mp (p.mem_iff.mpr (List.mem_cons_self)) with e | e
      · omega
      · exact a1 b e
    have e : a = b := by omega
    subst e
    rw [up_unique p.cons_inv a2 b2]
theorem sort_is {up ns : List Int} (p : up.Perm ns) (h : List.Pairwise (· ≤ ·) up) : up = sortI ns := up_unique (p.trans (sortI_perm ns).symm) h (sortI_up ns)
section
variable {X : Cx} {Z : L2.WX} {a b c e o : Expr} {ta tb tc te to : TWE} {t : TWA} {pos p p2 apos cpos : Pos} {es rest : List Expr} {x name : Str}
def sorted1 : Wv → WH → Option Ro := fun w h => (itemsO h w).bind fun ws => (intsOf ws).bind fun ns => some (.new (.lst ((sortI ns).map .int)))
theorem snd_sorted {K : PySem.W.Frag} : SndC K rSortedA (C1 sorted1) := sndC1 fun H h w v Q rh d q => by
  obtain ⟨ws, e1, q1⟩ := out_bind q
  obtain ⟨ns, e2, q2⟩ := out_bind q1
  obtain rfl := intsOf_eq e2
  obtain ⟨p, vs, rfl, k, l⟩ := items_at rh d e1
  obtain rfl := l.ints
  refine ⟨p, ns, rfl, k.imp (·.1) id, fun up q up1 up2 hq => ?_⟩
  rw [sort_is up1 up2]
  have q3 : ∀ p, h p = none → okQ K H Q (.ref p) (wup h p (.lst ((sortI ns).map .int))) := q2
  exact q3 q (rh.none hq) _ _ (grow_new hq) (rh.new hq (.lst (DenL.of_ints _))) rfl
theorem jsorted (hm : X.mg "sorted" = none) (ha : JAn X Z [e] t) (hg : Gl X "sorted" := by rfl) (he : starEach [e] X.env = (false, eval e X.env) :: starEach [] X.env := by rfl) : JE X Z (.Call (.Name "sorted" p) [e] [] pos) (wCB (C1 sorted1) t) := jcb snd_sorted cr_sortedA ha hm (hg := hg) (he := he)
/-! ### list(d.values()) -/
def valsO : Wo → Option (List Wv)
  | .dK kvs => some (kvs.map (·.2))
  | .dT kvs => some (kvs.map (·.2))
  | _ => none
def wVals (te : TWE) : TWE := fun ρ h Q E => te ρ h (fun w h1 => match w with
  | .ref a => match (h1 a).bind valsO with
    | some ws => ∀ p, h1 p = none → Q (.ref p) (wup h1 p (.lst ws))
    | none => False
  | _ => False) E
theorem PDen.vals {κ : Type} [DecidableEq κ] {K : PySem.W.Frag} {H : Hp} : ∀ {kvs : List (κ × Wv)} {kus : List (κ × V)}, PDen K H kvs kus → DenL K H (kvs.map (·.2)) (kus.map (·.2))
  | _, _, .nil => rfl
  | _, _, .cons h t => .cons h.2 (PDen.vals t)
theorem jvals (hc : X.calm = true) (he : JE X Z e te) (hm : X.mg "list" = none) (hg : Gl X "list" := by rfl) (hbase : attributeBase e "values" X.env (eval e X.env) = eval e X.env := by rfl) (hline : (apos.endLine == cpos.line) = true := by rfl)
    (hs : starEach [.Call (.Attribute e "values" apos) [] [] cpos] X.env = (false, eval (.Call (.Attribute e "values" apos) [] [] cpos) X.env) :: starEach [] X.env := by rfl) : JE X Z (.Call (.Name "list" p) [.Call (.Attribute e "values" apos) [] [] cpos] [] pos) (wVals te) where
  mo := fun ρ h Q Q' E E' hq hx q => he.mo ρ h _ _ _ _ (fun w h1 q1 => by
    cases w <;> first | exact q1.elim | skip
    dsimp only at q1 ⊢
    split
    · rename_i e1
      rw [e1] at q1
      exact fun p hp => hq _ _ (q1 p hp)
    · rename_i e1
      rw [e1] at q1
      exact q1) hx q
  pe := imE (pe_listVals hc he.pe hg hm hbase hline hs) fun σ H Q ⟨ρ, h, rs, rh, q⟩ => by
    refine li_then (E := fun _ _ _ _ => False) he.mo rs rh q fun w h1 v H1 g1 r1 d1 q1 => ?_
    cases w <;> first | exact q1.elim | skip
    rename_i a
    replace d1 : v = .ref a := d1
    subst d1
    dsimp only at q1
    split at q1
    · rename_i ws e1
      cases e2 : h1 a with
      | none => simp [e2] at e1
      | some ob =>
        rw [e2] at e1
        obtain ⟨u, hu, od⟩ := r1 a ob e2
        cases od with
        | lst _ => simp [valsO] at e1
        | ins _ => simp [valsO] at e1
        | @dK kvs kus r =>
          simp [valsO] at e1
          subst e1
          exact ⟨a, _, rfl, .inl ⟨kus, hu, rfl⟩, fun p hp => q1 p (r1.none hp) _ _ (g1.trans (grow_new hp)) (r1.new hp (.lst (PDen.vals r))) rfl⟩
        | @dT kvs kus r =>
          simp [valsO] at e1
          subst e1
          exact ⟨a, _, rfl, .inr ⟨kus, hu, rfl⟩, fun p hp => q1 p (r1.none hp) _ _ (g1.trans (grow_new hp)) (r1.new hp (.lst (PDen.vals r))) rfl⟩
    · exact q1.elim
/-! ### {k: v, ..}, keys ints and texts -/
abbrev TWD := Wen → WH → (List (Wv × Wv) → WH → Prop) → WX → Prop
def PairD (K : PySem.W.Frag) (H : Hp) : List (Wv × Wv) → List (V × V) → Prop := Paired fun p q => Den K H p.1 q.1 ∧ Den K H p.2 q.2
structure JD (X : Cx) (Z : L2.WX) (dpos : Pos) (keys : List (Option Expr)) (values : List Expr) (t : TWD) : Prop where
  mo : ∀ ρ h Q Q' E E', (∀ ps h', Q ps h' → Q' ps h') → (∀ C f w h', E C f w h' → E' C f w h') → t ρ h Q E → t ρ h Q' E'
  ex : ∃ trs, PPs X dpos keys values trs ∧ ∀ (σ : L2.St) (H : Hp) (ρ : Wen) (h : WH) (k : List (V × V) → Hp → Prop) (k' : List (Wv × Wv) → WH → Prop), RelS X.K H ρ σ → RelH X.K h H → t ρ h k' (exQ X.K H fun cls d H' => Z cls d σ H') →
    (∀ ps h1 vs H1, Grow X.K H H1 → RelH X.K h1 H1 → PairD X.K H1 ps vs → k' ps h1 → k vs H1) → tPairs trs σ H k
def wdNil : TWD := fun _ h Q _ => Q [] h
def wdCons (tk tv : TWE) (t : TWD) : TWD := fun ρ h Q E => tk ρ h (fun k h1 => tv ρ h1 (fun v h2 => t ρ h2 (fun ps h3 => Q ((k, v) :: ps) h3) E) E) E
theorem jd_nil {dpos : Pos} : JD X Z dpos [] [] wdNil where
  mo := fun ρ h Q Q' E E' hq _ q => hq _ _ q
  ex := ⟨[], pps_nil, fun σ H ρ h k k' rs rh q hk => hk [] h [] H (Grow.refl _ _) rh .nil q⟩
theorem jd_cons {dpos : Pos} {k v : Expr} {ks : List (Option Expr)} {vs : List Expr} {tk tv : TWE} {t : TWD} (hk : JE X Z k tk) (hv : JE X Z v tv) (hr : JD X Z dpos ks vs t) : JD X Z dpos (some k :: ks) (v :: vs) (wdCons tk tv t) where
  mo := fun ρ h Q Q' E E' hq hx q => hk.mo ρ h _ _ _ _ (fun kw h1 q1 => hv.mo ρ h1 _ _ _ _ (fun vw h2 q2 => hr.mo ρ h2 _ _ _ _ (fun ps h3 q3 => hq _ _ q3) hx q2) hx q1) hx q
  ex := by
    obtain ⟨trs, pp, run⟩ := hr.ex
    refine ⟨(liE X.K Z tk, liE X.K Z tv) :: trs, pps_cons hk.pe hv.pe pp, fun σ H ρ h k k' rs rh q fin => ?_⟩
    refine li_then (E := fun _ _ _ _ => False) hk.mo rs rh q fun kw h1 kv H1 g1 r1 d1 q1 => ?_
    have q1' := hv.mo ρ h1 _ _ _ (exQ X.K H1 fun cls d H' => Z cls d σ H') (fun _ _ z => z) (exQ_back g1) q1
    refine li_then (E := fun _ _ _ _ => False) hv.mo (rs.grow g1) r1 q1' fun vw h2 vv H2 g2 r2 d2 q2 => ?_
    have g := g1.trans g2
    have q2' := hr.mo ρ h2 _ _ _ (exQ X.K H2 fun cls d H' => Z cls d σ H') (fun _ _ z => z) (exQ_back g) q2
    exact run σ H2 ρ h2 _ _ (rs.grow g) r2 q2' fun ps h3 us H3 g3 r3 d3 q3 => fin ((kw, vw) :: ps) h3 ((kv, vv) :: us) H3 (g.trans g3) r3 (.cons ⟨Den.grow (g2.trans g3) _ d1, Den.grow g3 _ d2⟩ d3) q3
def keyed : List (Wv × Wv) → Option (List (Key × Wv))
  | [] => some []
  | p :: r => (keyK p.1).bind fun k => (keyed r).map fun kvs => (k, p.2) :: kvs
def mergeA {κ : Type} [DecidableEq κ] (kvs more : List (κ × Wv)) : List (κ × Wv) := more.foldl (fun acc kv => putA kv.1 kv.2 acc) kvs
theorem keyed_den {K : PySem.W.Frag} {H : Hp} : ∀ {ps : List (Wv × Wv)} {vs : List (V × V)} {kvs : List (Key × Wv)}, PairD K H ps vs → keyed ps = some kvs → ∃ kus, vs = kus.map (fun kv => (kV kv.1, kv.2)) ∧ PDen K H kvs kus
  | _, _, kvs, .nil, e => by
    simp [keyed] at e
    subst e
    exact ⟨[], rfl, .nil⟩
  | p :: r, q :: s, kvs, .cons h t, e => by
    obtain ⟨q1, q2⟩ := q
    cases e1 : keyK p.1 with
    | none => simp [keyed, e1] at e
    | some k =>
      cases e2 : keyed r with
      | none => simp [keyed, e1, e2] at e
      | some rest =>
        simp [keyed, e1, e2] at e
        subst e
        obtain ⟨kus, e3, d⟩ := keyed_den t e2
        refine ⟨(k, q2) :: kus, ?_, .cons ⟨rfl, h.2⟩ d⟩
        have := keyK_kV h.1 e1
        simp only at this
        rw [this, e3]
        rfl
theorem merge_den {K : PySem.W.Frag} {H : Hp} : ∀ {more : List (Key × Wv)} {mus : List (Key × V)} {kvs : List (Key × Wv)} {kus : List (Key × V)}, PDen K H more mus → PDen K H kvs kus → PDen K H (mergeA kvs more) (mergeK kus mus)
  | _, _, _, _, .nil, d => d
  | p :: r, q :: s, kvs, kus, .cons h t, d => by
    obtain ⟨q1, q2⟩ := q
    have e : p.1 = q1 := h.1
    subst e
    show PDen K H (mergeA (putA p.1 p.2 kvs) r) (mergeK (putK kus p.1 q2) s)
    exact merge_den t (PDen.put p.1 h.2 d)
def wDisp (t : TWD) : TWE := fun ρ h Q E => ∀ p, h p = none → t ρ (wup h p (.dK [])) (fun ps h2 => h2 p = some (.dK []) ∧ ps.length ≤ 15 ∧ match keyed ps with
  | some kvs => Q (.ref p) (wup h2 p (.dK (mergeA [] kvs)))
  | none => False) E
theorem jdisp {keys : List (Option Expr)} {values : List Expr} {t : TWD} (h : JD X Z pos keys values t) (hall : keys.all (·.isSome) = true := by rfl) (hl : keys.length = values.length := by rfl) (h0 : keys ≠ [] := by exact List.cons_ne_nil _ _) (h15 : keys.length ≤ 15 := by decide) : JE X Z (.Dict keys values pos) (wDisp t) where
  mo := fun ρ g Q Q' E E' hq hx q p hp => h.mo ρ _ _ _ _ _ (fun ps h2 q2 => ⟨q2.1, q2.2.1, by
    have q3 := q2.2.2
    split
    · rename_i e
      rw [e] at q3
      exact hq _ _ q3
    · rename_i e
      rw [e] at q3
      exact q3⟩) hx (q p hp)
  pe := by
    obtain ⟨trs, pp, run⟩ := h.ex
    refine imE (pe_disp pp hall hl h0 h15) fun σ H Q ⟨ρ, g, rs, rh, q⟩ p hp => ?_
    have gp : Grow X.K H (upd H p (.dK [])) := grow_new hp
    refine run σ _ ρ _ _ _ (rs.grow gp) (rh.new hp (.dK .nil)) (h.mo ρ _ _ _ _ _ (fun _ _ z => z) (exQ_back gp) (q p (rh.none hp))) fun ps h1 vs H1 g1 r1 d1 q1 => ?_
    obtain ⟨e1, e2, q2⟩ := q1
    obtain ⟨u, hu, od⟩ := r1 p _ e1
    cases od with
    | @dK _ kus r =>
      cases r
      split at q2
      · rename_i kvs ek
        obtain ⟨mus, e3, dm⟩ := keyed_den d1 ek
        refine ⟨hu, mus, e3, ?_, ?_⟩
        · have l1 := Paired.length d1
          rw [e3, List.length_map] at l1
          omega
        · exact q2 _ _ (gp.trans (g1.trans (grow_mut hu trivial))) (r1.write hu trivial (.dK (merge_den dm .nil))) rfl
      · exact q2.elim
end
end Pd
set_option Elab.async false
set_option linter.all false
set_option maxRecDepth 100000
set_option maxHeartbeats 4000000
namespace Pd
open PySem PySem.Spec PyProof.Rows L2
/-! ### a def, by its body's reading -/
/-- what leaves the def's frame is what its caller takes -/
abbrev ZE (E : XK) : L2.WX := fun cls d _ H' => E cls d H'
def wStart (n : Nat) (ws : List Wv) : Wen := ws.map some ++ List.replicate (n - ws.length) none
theorem start_den {K : PySem.W.Frag} {H : Hp} {N : List Str} {ws : List Wv} {vs : List V} (d : DenL K H ws vs) : RelS K H (wStart N.length ws) (L2.start N vs) := by
  refine ⟨?_, fun i w e => ?_⟩
  · unfold wStart L2.start
    simp [d.length]
  · unfold wStart at e
    by_cases hi : i < ws.length
    · rw [List.getElem?_append_left (by simpa using hi), List.getElem?_map] at e
      cases e1 : ws[i]? with
      | none => rw [e1] at e; cases e
      | some w' =>
        rw [e1] at e
        cases e
        obtain ⟨v, e2, dv⟩ := d.get e1
        refine ⟨v, ?_, dv⟩
        unfold L2.start
        rw [List.getElem?_append_left (by rw [List.length_map, ← d.length]; exact hi), List.getElem?_map, e2]
        rfl
    · rw [List.getElem?_append_right (by simpa using hi), List.getElem?_replicate] at e
      split at e <;> cases e
/-- what a def's body is asked: its value or none at the end -/
def wBody (t : TWS) (n : Nat) : WSp := fun ws h Q E => t { nx := fun _ h' => Q .non h', rt := Q, ex := fun _ => E } (wStart n ws) h
/-- a def's context -/
abbrev Cxt (P : Program) (w : World) (K : PySem.W.Frag) (mg : Str → Option Value) (base : Heap) (N : List Str) (qual : Str) (sc : Scope) (f : Addr) (cdv : Value) (A : Around) (outer : List Env) (s : Shared) (H : Hp) (E : XK) : Cx := cxOf (L2.CX P w) P w K mg base N qual sc f cdv A outer s H E
section
variable {P : Program} {w : World} {K : PySem.W.Frag} {mg : Str → Option Value} {base : Heap} {N ps : List Str} {x qual : Str} {params : Arguments} {body : List Stmt} {sc : Scope} {f : Addr} {fd : FuncData} {k : Nat}
theorem takesE {cdv : Value} {A : Around} {outer : List Env} {s : Shared} {H : Hp} {E : XK} : L2.Takes (Cxt P w K mg base N qual sc f cdv A outer s H E) (ZE E) := takes_of rfl rfl rfl rfl
theorem passesE {cdv : Value} {A : Around} {outer : List Env} {s : Shared} {H : Hp} {E : XK} : PassesOwn (model P w) (Cxt P w K mg base N qual sc f cdv A outer s H E).A (Cxt P w K mg base N qual sc f cdv A outer s H E).env (Cxt P w K mg base N qual sc f cdv A outer s H E).xe := passes_of rfl
/-- what the walk of a body may use: its room -/
theorem w_def {sp : WSp} (F : FunD K x qual params body sc [] [] f fd) (S : FnScope N ps sc) (len : ∀ ws h Q E, sp ws h Q E → ws.length = ps.length)
    (hbody : ∀ (cdv : Value) (A : Around) (outer : List Env) (s : Shared) (H : Hp) (E : XK), Room k (A.deeper (envOfC qual sc s.heap.objs.size f cdv)) → ∃ t, JSs (Cxt P w K mg base N qual sc f cdv A outer s H E) (ZE E) body t ∧ ∀ ws h Q E', sp ws h Q E' → wBody t N.length ws h Q E') :
    FnOk P w K mg base (L2.CX P w) (k + 1) f fd ps (liP K sp) := by
  refine F.ok S (fun vs H Q E ⟨ws, h, d, _, q⟩ => by rw [← d.length]; exact len ws h _ _ q) fun cdv A outer s H vs Q E hr ⟨ws, h, d, rh, q⟩ => ?_
  obtain ⟨t, j, imp⟩ := hbody cdv A outer s H E hr
  refine ⟨_, j.ps, wStart N.length ws, h, start_den d, rh, j.mo _ _ _ _ ⟨?_, ?_, ?_, ?_, ?_⟩ (imp ws h _ _ q)⟩
  · exact fun ρ h' z σ' H' g rs r => z .non H' g r rfl
  · exact fun w h' z => z
  · exact fun _ _ z => z.elim
  · exact fun _ _ z => z.elim
  · exact fun ρ C fn w h' z d v σ' H' g rs r dn e => z d v H' g r dn e
end
/-- a def that stands in the module -/
structure WFn (P : Program) (w : World) (K : PySem.W.Frag) (mg : Str → Option Value) (base : Heap) (k : Nat) (x : Str) (sp : WSp) : Prop where
  ex : ∃ f fd ps, mg x = some (.ref f) ∧ PySem.W.keepIn K (.ref f) = true ∧ Binds K fd ps [] ∧ FnOk P w K mg base (L2.CX P w) k f fd ps (liP K sp)
  mo : MoP sp
theorem WFn.lift {P : Program} {w : World} {K : PySem.W.Frag} {mg : Str → Option Value} {base : Heap} {j k : Nat} {x : Str} {sp : WSp} (F : WFn P w K mg base j x sp) (le : j ≤ k) : WFn P w K mg base k x sp :=
  let ⟨f, fd, ps, a, b, c, d⟩ := F.ex
  ⟨⟨f, fd, ps, a, b, c, d.mono le⟩, F.mo⟩
section
variable {X : Cx} {Z : L2.WX} {e : Expr} {es : List Expr} {t : TWA} {p pos : Pos} {x : Str} {k : Nat} {sp : WSp}
theorem jfn (F : WFn X.prog X.w X.K X.mg X.base k x sp) (tk : Takes X Z) (hr : Room k X.A) (ha : JAn X Z (e :: es) t) (hg : Gl X x := by rfl) (hdb : (x == ("__debug__" : Str)) = false := by decide)
    (he : starEach (e :: es) X.env = (false, eval e X.env) :: starEach es X.env := by rfl) (hpl : (backTo pos (starEach es X.env)).any (·.1) = false := by rfl) : JE X Z (.Call (.Name x p) (e :: es) [] pos) (wCall sp t) := by
  obtain ⟨f, fd, ps, hm, hk, hb, ok⟩ := F.ex
  exact jcall ok F.mo tk hr hm hk hb ha hg hdb he hpl
theorem takes0 {s : Shared} {H : Hp} {scope : Scope} {cenv : Env} {fp : List Addr} : Takes (X.blk s H scope cenv fp) Z0 := fun u s' h => by
  obtain ⟨a, B, sI, pins, σ, H', cls, d, e, I, nb, up, sky, na, os, ag, w⟩ := h
  exact w.elim
end
end Pd
set_option Elab.async false
set_option linter.all false
set_option maxRecDepth 100000
set_option maxHeartbeats 4000000
namespace Pd
open PySem PySem.Spec PyProof.Rows L2
/-! ### short names for printed walks -/
abbrev subI : F2 := iiF0 fun i j => .int (i - j)
abbrev divI : F2 := iiF divOk fun i j => .int (i / j)
abbrev divN : F2 := iiF divOkN fun i j => .int (i.fdiv j)
abbrev modI : F2 := iiF (fun _ j => decide (0 < j)) fun i j => .int (i % j)
abbrev powI : F2 := iiF powOk fun i j => .int (i ^ j.toNat)
abbrev ltI : F2 := iiF0 fun i j => .bl (decide (i < j))
abbrev leI : F2 := iiF0 fun i j => .bl (decide (i ≤ j))
abbrev gtI : F2 := iiF0 fun i j => .bl (decide (j < i))
abbrev geI : F2 := iiF0 fun i j => .bl (decide (j ≤ i))
section
variable {X : Cx} {Z : L2.WX} {a b c : Expr} {ta tb tc : TWE} {pos : Pos}
theorem jlele (ha : JE X Z a ta) (hb : JE X Z b tb) (hc : JE X Z c tc) : JC X Z (.Compare a [.LtE, .LtE] [b, c] pos) (wChain leI leI ta tb tc) := jchain op_le (snd_ii0 fun _ _ _ => rfl) op_le (snd_ii0 fun _ _ _ => rfl) ha hb hc (nomark _)
theorem jlelt (ha : JE X Z a ta) (hb : JE X Z b tb) (hc : JE X Z c tc) : JC X Z (.Compare a [.LtE, .Lt] [b, c] pos) (wChain leI ltI ta tb tc) := jchain op_le (snd_ii0 fun _ _ _ => rfl) op_lt (snd_ii0 fun _ _ _ => rfl) ha hb hc (nomark _)
theorem jltlt (ha : JE X Z a ta) (hb : JE X Z b tb) (hc : JE X Z c tc) : JC X Z (.Compare a [.Lt, .Lt] [b, c] pos) (wChain ltI ltI ta tb tc) := jchain op_lt (snd_ii0 fun _ _ _ => rfl) op_lt (snd_ii0 fun _ _ _ => rfl) ha hb hc (nomark _)
theorem jgintE {x : Str} {i : Int} (hm : ∃ t, X.mg x = some (.int i t)) (hg : Gl X x := by rfl) (hd : (x == ("__debug__" : Str)) = false := by decide) : JE X Z (.Name x pos) (wC (.int i)) := by
  obtain ⟨t, hm⟩ := hm
  exact jgint hm hg hd
/-- a class of the module: how it is made -/
structure WCls (P : Program) (w : World) (K : PySem.W.Frag) (mg : Str → Option Value) (base : Heap) (x : Str) (C : Addr) : Prop where
  mg : mg x = some (.ref C)
  cls : Cls K C
/-- its method m, at depth k -/
structure WMet (P : Program) (w : World) (K : PySem.W.Frag) (mg : Str → Option Value) (base : Heap) (k : Nat) (C : Addr) (m : Str) (sp : WSp) : Prop where
  ex : ∃ f fd ps, Meth K C m f ∧ Binds K fd ps [] ∧ FnOk P w K mg base (L2.CX P w) k f fd ps (liP K sp)
  mo : MoP sp
structure WMak (P : Program) (w : World) (K : PySem.W.Frag) (mg : Str → Option Value) (base : Heap) (k : Nat) (x : Str) (C : Addr) (sp : WSp) : Prop where
  ex : ∃ f fd ps, Mk K C f ∧ mg x = some (.ref C) ∧ Binds K fd ps [] ∧ FnOk P w K mg base (L2.CX P w) k f fd ps (liP K sp)
  mo : MoP sp
variable {e o : Expr} {es : List Expr} {t : TWA} {to : TWE} {p apos : Pos} {x m : Str} {k : Nat} {sp : WSp} {C : Addr}
theorem jme (W : WCls X.prog X.w X.K X.mg X.base x C) (F : WMet X.prog X.w X.K X.mg X.base k C m sp) (hr : Room k X.A) (ho : JE X Z o to) (ha : JAn X Z (e :: es) t) {pl : Sem Bool}
    (hst : starEach (e :: es) X.env = (false, eval e X.env) :: starEach es X.env := by rfl) (hpl : (backTo pos (starEach es X.env)).any (·.1) = false := by rfl)
    (ht : eval (.Call (.Attribute o m apos) (e :: es) [] pos) X.env = (do
      let ov ← eval o X.env
      standAt apos.atName
      let (f, first) ← holding [ov] (getMethod ov m pl)
      callWith pos f first (backTo pos (starEach (e :: es) X.env)) (backToKw pos (keywordEach [] X.env))) := by rfl) :
    JE X Z (.Call (.Attribute o m apos) (e :: es) [] pos) (wMeth C m sp to t) := by
  obtain ⟨f, fd, ps, hm, hb, ok⟩ := F.ex
  exact jmeth W.cls hm ok F.mo hr hb ho ha hst hpl ht
theorem jmk (F : WMak X.prog X.w X.K X.mg X.base k x C sp) (hr : Room (k + 1) X.A) (ha : JAn X Z (e :: es) t) (hg : Gl X x := by rfl)
    (hdb : (x == ("__debug__" : Str)) = false := by decide) (he : starEach (e :: es) X.env = (false, eval e X.env) :: starEach es X.env := by rfl) (hpl : (backTo pos (starEach es X.env)).any (·.1) = false := by rfl) :
    JE X Z (.Call (.Name x p) (e :: es) [] pos) (wMake C sp t) := by
  obtain ⟨f, fd, ps, M, hm, hb, ok⟩ := F.ex
  exact jmake M ok F.mo hr hm hb ha hg hdb he hpl
end
end Pd
set_option Elab.async false
set_option linter.all false
set_option maxRecDepth 100000
set_option maxHeartbeats 4000000
namespace Pd
open PySem PySem.Spec PyProof.Rows L2
/-! ### {k: v}, one key, a tuple -/
theorem room_tup {P : Program} {w : World} {A : Around} (hu : A.units + 1 < cLine) : (tupleKind (mixKind P w)).room A := Nat.lt_of_succ_lt hu
def tDisp1T (tk tv : TE) : TE := fun σ H Q => ∀ p, H p = none → tk σ (upd H p (.dT [])) fun x H1 => tv σ H1 fun y H2 => ∃ b ks, x = .ref b ∧ H2 b = some (.tup (ks.map kV)) ∧ H2 p = some (.dT []) ∧ Q (.ref p) (upd H2 p (.dT [(ks, y)]))
theorem pe_disp1T {X : Cx} {pos : Pos} {k v : Expr} {tk tv : TE} (hu : X.A.units + 1 < cLine) (hk : PE X k tk) (hv : PE X v tv) : PE X (.Dict [some k] [v] pos) (tDisp1T tk tv) where
  run pins s σ H Q I q := by
    have free := I.hok.fresh (Nat.le_refl s.heap.objs.size)
    have I1 := I.laid (a := s.heap.objs.size) (o := .dT []) (h' := s.heap.push { cls := .type "dict", data := .dict #[] }) (t' := s.toks) (fun _ _ => Heap.get?_push_of_some _) (Nat.le_refl _) (dt_empty s.heap I.big)
    have shape := zip_pairTrees [some k] [v] X.env pos rfl rfl
    have ne : pairTrees [some k] [v] X.env pos ≠ [] := List.cons_ne_nil _ _
    have one : (pairTrees [some k] [v] X.env pos).length = 1 := rfl
    have pairs := (pps_cons (pos := pos) hk hv pps_nil).run pins _ σ _ (fun ps H2 => match ps with
      | [(x, y)] => ∃ b ks, x = .ref b ∧ H2 b = some (.tup (ks.map kV)) ∧ H2 s.heap.objs.size = some (.dT []) ∧ Q (.ref s.heap.objs.size) (upd H2 s.heap.objs.size (.dT [(ks, y)]))
      | _ => False) I1 (q _ free)
    rw [arm_eval_Dict, shape, dictDisplay_pairs _ ne (by rw [one]; decide)]
    refine wpAny_bind (wpAny_standAt (wpAny_bind (wpAny_subDictH (knd := tupleKind (mixKind X.prog X.w)) (Q := fun d s' => wpAny (model X.prog X.w) X.A (pure (Value.ref d)) (EP X pins σ Q) X.xe s') (room_tup hu) (by rw [one]; decide) (thn pairs fun vs s2 ⟨ps, H2, I2, rel, q2⟩ => ?_))))
    cases rel with
    | nil => exact q2.elim
    | @cons p r ps rs h t =>
      cases t with
      | cons _ _ => exact q2.elim
      | nil =>
        obtain ⟨x, y⟩ := p
        obtain ⟨u, w⟩ := r
        obtain ⟨b, ks, ex, eb, ed, q3⟩ := q2
        subst ex
        obtain ⟨ru, rw'⟩ := h
        obtain rfl : u = .ref b := ru
        obtain ⟨room, nsys, rows, rel0, table⟩ := dt_of I2.hok ed
        cases rel0
        refine ⟨[(ks, b, w)], ⟨rfl, rfl, key_of I2.hok eb, trivial⟩, table, fun h' tk new same => wpAny_pure ⟨.ref _, _, ?_, rfl, q3⟩⟩
        have alone : storedAllH [] [(ks, b, w)] = [(ks, b, w)] := rfl
        rw [alone] at new
        obtain ⟨o, es, ep, there, c1, c2, c3, _, c5⟩ := new
        refine d_write I2 (by rw [ed]; trivial) same ⟨o, there⟩ ⟨by show 1 ≤ sizeLine; decide, nsys, _, .cons ⟨rfl, ?_, rw'⟩ .nil, o, es, ep, there, c1, c2, c3, c5⟩
        show upd H2 s.heap.objs.size _ b = _
        rw [upd_ne (ne_of eb ed nofun)]
        exact eb
/-! ### zip over two tuples, its pair still out -/
section
variable {P : Program} {w : World} {A : Around} {E : Value → Shared → Prop} {s : Shared} {z TI TO i1 i2 l1 l2 T : Addr} {f : Bool} {oT : Obj} {k : Nat} {xs ys : Array Value} {x y : Value}
/-- what a zip over two tuples walks, at turn k -/
structure ZipAt (h : Heap) (TI i1 i2 l1 l2 : Addr) (xs ys : Array Value) (k : Nat) : Prop where
  pair : IsPair h TI (.ref i1) (.ref i2)
  it1 : h.IsTupleIter i1 l1 k
  it2 : h.IsTupleIter i2 l2 k
  tup1 : h.IsTuple l1 xs
  tup2 : h.IsTuple l2 ys
theorem ZipAt.keep {h h' : Heap} (Y : ZipAt h TI i1 i2 l1 l2 xs ys k) (same : ∀ c, c ∈ [TI, i1, i2, l1, l2] → ∀ o, h.get? c = some o → h'.get? c = some o) : ZipAt h' TI i1 i2 l1 l2 xs ys k :=
  ⟨same TI (by simp) _ Y.pair, Y.it1.at (same i1 (by simp)), Y.it2.at (same i2 (by simp)), Y.tup1.at (same l1 (by simp)), Y.tup2.at (same l2 (by simp))⟩
/-- all cells but the zip's and the iterators' stay -/
abbrev Rest (z i1 i2 : Addr) (h h' : Heap) : Prop := ∀ c o, c ≠ z → c ≠ i1 → c ≠ i2 → h.get? c = some o → h'.get? c = some o
theorem held_item (D : ZipApart z TI TO i1 i2 l1 l2) (hz : IsZipHeld s.heap z TI TO T f) (hT : s.heap.get? T = some oT) (Y : ZipAt s.heap TI i1 i2 l1 l2 xs ys k) (ex : xs[k]? = some x) (ey : ys[k]? = some y) {Q : Value → Shared → Prop}
    (hQ : ∀ h', IsZipHeld h' z TI TO T true → ZipAt h' TI i1 i2 l1 l2 xs ys (k + 1) → IsPair h' s.heap.objs.size x y → Rest z i1 i2 s.heap h' → Q (.ref s.heap.objs.size) { s with heap := h' }) :
    wpAny (model P w) A (Builtin.«zip.__next__» ⟨[.ref z], []⟩) (fun fin s' => ∃ v, fin = .done (.ret v) ∧ Q v s') E s := by
  show wpAny (model P w) A (field (.ref z) 2 >>= _) _ E s
  refine wpAny_bind (wpAny_field hz rfl (x := .bool false) rfl ?_)
  show wpAny (model P w) A (field (.ref z) 3 >>= _) _ E s
  refine wpAny_bind (wpAny_field hz rfl (x := .ref TI) rfl (wpAny_bind (wpAny_seqItems Y.pair rfl ?_)))
  show wpAny (model P w) A (Builtin.SmallTypes.ownedTupleIsFree (.ref z) >>= _) _ E s
  refine wpAny_bind (wpAny_tupleHeld_zip hz hT fun h1 z1 b1 => ?_)
  simp only [Bool.false_eq_true, if_false, ← Array.forIn_toList, List.forIn_cons, List.forIn_nil]
  have first : ∀ {R : Option Value → Shared → Prop}, (∀ h2, h2.IsTupleIter i1 l1 (k + 1) → Heap.SameBut i1 h1 h2 → R (some x) { s with heap := h2 }) → wpAny (model P w) A (do pure (some (← Builtin.SmallTypes.nextOf (.ref i1)))) R E { s with heap := h1 } := fun h =>
    wpAny_bind (wpAny_nextOf_tuple_item (s := { s with heap := h1 }) (Y.it1.extBut b1.extBut D.i1z) (Y.tup1.extBut b1.extBut D.l1z) ex fun h2 a b => wpAny_pure (h h2 a b))
  refine wpAny_bind (wpAny_bind (wpAny_bind (wpAny_holding (first fun h2 a2 b2 => wpAny_pure ?_))))
  have second : ∀ {R : Option Value → Shared → Prop}, (∀ h3, h3.IsTupleIter i2 l2 (k + 1) → Heap.SameBut i2 h2 h3 → R (some y) { s with heap := h3 }) → wpAny (model P w) A (do pure (some (← Builtin.SmallTypes.nextOf (.ref i2)))) R E { s with heap := h2 } := fun h =>
    wpAny_bind (wpAny_nextOf_tuple_item (s := { s with heap := h2 }) ((Y.it2.extBut b1.extBut D.i2z).extBut b2.extBut D.i12.symm) ((Y.tup2.extBut b1.extBut D.l2z).extBut b2.extBut D.l2i1) ey fun h3 a b => wpAny_pure (h h3 a b))
  refine wpAny_bind (wpAny_bind (wpAny_holding (second fun h3 a3 b3 => wpAny_pure (wpAny_pure ?_))))
  refine wpAny_bind (wpAny_newTuple (wpAny_pure ⟨_, rfl, ?_⟩) two_room)
  have size3 : h3.objs.size = s.heap.objs.size := b3.1.trans (b2.1.trans b1.1)
  have rest : Rest z i1 i2 s.heap h3 := fun c o n1 n2 n3 q => b3.extBut c o n3 (b2.extBut c o n2 (b1.extBut c o n1 q))
  have up : ∀ {c o}, h3.get? c = some o → (h3.push { cls := .type "tuple", data := .seq #[x, y] }).get? c = some o := fun q => Heap.get?_push_of_some _ q
  have new : IsPair (h3.push { cls := .type "tuple", data := .seq #[x, y] }) h3.objs.size x y := Heap.get?_push_size _ rfl
  show Q (.ref h3.objs.size) { s with heap := h3.push { cls := .type "tuple", data := .seq #[x, y] } }
  rw [size3] at new ⊢
  refine hQ _ (up (b3.extBut _ _ D.i2z.symm (b2.extBut _ _ D.i1z.symm z1))) ⟨up (rest _ _ D.TIz D.TIi1 D.TIi2 Y.pair), (a2.extBut b3.extBut D.i12).at fun o q => up q, a3.at fun o q => up q, Y.tup1.at fun o q => up (rest _ o D.l1z D.l1i1 D.l1i2 q), Y.tup2.at fun o q => up (rest _ o D.l2z D.l2i1 D.l2i2 q)⟩ new fun c o n1 n2 n3 q => up (rest c o n1 n2 n3 q)
theorem held_end (hh : A.handled = none) (D : ZipApart z TI TO i1 i2 l1 l2) (hz : IsZipHeld s.heap z TI TO T f) (hT : s.heap.get? T = some oT) (Y : ZipAt s.heap TI i1 i2 l1 l2 xs ys k) (none1 : xs[k]? = none ∨ ys[k]? = none) {Q : PySem.Fin → Shared → Prop}
    (hE : ∀ h' e, Rest z i1 i2 s.heap h' → (∃ o, h'.get? e = some o ∧ o.cls = .type "StopIteration") → E (.ref e) { s with heap := h' }) : wpAny (model P w) A (Builtin.«zip.__next__» ⟨[.ref z], []⟩) Q E s := by
  show wpAny (model P w) A (field (.ref z) 2 >>= _) _ E s
  refine wpAny_bind (wpAny_field hz rfl (x := .bool false) rfl ?_)
  show wpAny (model P w) A (field (.ref z) 3 >>= _) _ E s
  refine wpAny_bind (wpAny_field hz rfl (x := .ref TI) rfl (wpAny_bind (wpAny_seqItems Y.pair rfl ?_)))
  show wpAny (model P w) A (Builtin.SmallTypes.ownedTupleIsFree (.ref z) >>= _) _ E s
  refine wpAny_bind (wpAny_tupleHeld_zip hz hT fun h1 z1 b1 => ?_)
  simp only [Bool.false_eq_true, if_false, ← Array.forIn_toList, List.forIn_cons, List.forIn_nil]
  have at1 := Y.it1.extBut b1.extBut D.i1z
  have tup1 := Y.tup1.extBut b1.extBut D.l1z
  cases e1 : xs[k]? with
  | none =>
    have first : ∀ {R : Option Value → Shared → Prop}, wpAny (model P w) A (do pure (some (← Builtin.SmallTypes.nextOf (.ref i1)))) R E { s with heap := h1 } := fun {R} =>
      wpAny_bind (wpAny_nextOf_tuple_end (s := { s with heap := h1 }) hh at1 tup1 e1 fun h2 e b2 he => hE h2 e (fun c o n1 n2 _ q => b2 c o n2 (b1.extBut c o n1 q)) he)
    exact wpAny_bind (wpAny_bind (wpAny_bind (wpAny_holding first)))
  | some x =>
    have e2 : ys[k]? = none := none1.resolve_left (by rw [e1]; nofun)
    have first : ∀ {R : Option Value → Shared → Prop}, (∀ h2, Heap.SameBut i1 h1 h2 → R (some x) { s with heap := h2 }) → wpAny (model P w) A (do pure (some (← Builtin.SmallTypes.nextOf (.ref i1)))) R E { s with heap := h1 } := fun h =>
      wpAny_bind (wpAny_nextOf_tuple_item (s := { s with heap := h1 }) at1 tup1 e1 fun h2 a b => wpAny_pure (h h2 b))
    refine wpAny_bind (wpAny_bind (wpAny_bind (wpAny_holding (first fun h2 b2 => wpAny_pure ?_))))
    have second : ∀ {R : Option Value → Shared → Prop}, wpAny (model P w) A (do pure (some (← Builtin.SmallTypes.nextOf (.ref i2)))) R E { s with heap := h2 } := fun {R} =>
      wpAny_bind (wpAny_nextOf_tuple_end (s := { s with heap := h2 }) hh ((Y.it2.extBut b1.extBut D.i2z).extBut b2.extBut D.i12.symm) ((Y.tup2.extBut b1.extBut D.l2z).extBut b2.extBut D.l2i1) e2 fun h3 e b3 he => hE h3 e (fun c o n1 n2 n3 q => b3 c o n3 (b2.extBut c o n2 (b1.extBut c o n1 q))) he)
    exact wpAny_bind (wpAny_bind (wpAny_holding second))
/-- z.__next__() with an item; at the end -/
theorem next_held (D : ZipApart z TI TO i1 i2 l1 l2) (hz : IsZipHeld s.heap z TI TO T f) (hT : s.heap.get? T = some oT) (Y : ZipAt s.heap TI i1 i2 l1 l2 xs ys k) (ex : xs[k]? = some x) (ey : ys[k]? = some y) {Q : Option Value → Shared → Prop}
    (hQ : ∀ h', IsZipHeld h' z TI TO T true → ZipAt h' TI i1 i2 l1 l2 xs ys (k + 1) → IsPair h' s.heap.objs.size x y → Rest z i1 i2 s.heap h' → Q (some (.ref s.heap.objs.size)) { s with heap := h' }) : wpAny (model P w) A (pyNext (.ref z)) Q E s :=
  have isZ : s.TypeIs (.ref z) "zip" := ⟨_, hz, rfl⟩
  wpAny_bind (wpAny_attempt (wpAny_callSpecial?_slot isZ F.slot_zip_next (wpAny_call_entry F.slot_zip_next isZ F.entry_zip_next (held_item D hz hT Y ex ey fun h' a b c d => wpAny_pure (hQ h' a b c d)) (F.args_zip_next_1 _))))
theorem stop_held (hh : A.handled = none) (D : ZipApart z TI TO i1 i2 l1 l2) (hz : IsZipHeld s.heap z TI TO T f) (hT : s.heap.get? T = some oT) (Y : ZipAt s.heap TI i1 i2 l1 l2 xs ys k) (none1 : xs[k]? = none ∨ ys[k]? = none) {Q : Option Value → Shared → Prop}
    (hQ : ∀ h', Rest z i1 i2 s.heap h' → Q none { s with heap := h' }) : wpAny (model P w) A (pyNext (.ref z)) Q E s :=
  by
  have isZ : s.TypeIs (.ref z) "zip" := ⟨_, hz, rfl⟩
  unfold pyNext
  refine wpAny_bind (wpAny_attempt (wpAny_callSpecial?_slot isZ F.slot_zip_next (wpAny_call_entry F.slot_zip_next isZ F.entry_zip_next (held_end (show A.in1.handled = none from hh) D hz hT Y none1 fun h' e rest stops => ?_) (F.args_zip_next_1 _))))
  obtain ⟨o, there, cl⟩ := stops
  exact wpAny_bind (wpAny_isInstance (T := "StopIteration") (b := true) ⟨o, there, cl⟩ isSubtype_stop (wpAny_pure (hQ h' rest)))
/-- a zip over two tuples as what dict(..) takes -/
abbrev ZipNew (z TI TO i1 i2 l1 l2 : Addr) (xs ys : Array Value) (h : Heap) : Prop := IsZip h z TI TO .none ∧ (∃ a b, IsPair h TO a b) ∧ ZipAt h TI i1 i2 l1 l2 xs ys 0
/-- its state at turn k, the dict at d being filled -/
def ZipState (z TI TO i1 i2 l1 l2 d : Addr) (xs ys : Array Value) (k : Nat) (h : Heap) : Prop := ZipAt h TI i1 i2 l1 l2 xs ys k ∧
  ((IsZip h z TI TO .none ∧ ∃ a b, IsPair h TO a b) ∨ ∃ T f oT, IsZipHeld h z TI TO T f ∧ h.get? T = some oT ∧ T ≠ z ∧ T ≠ i1 ∧ T ≠ i2 ∧ T ≠ d)
theorem zip_src (hh : A.handled = none) (D : ZipApart z TI TO i1 i2 l1 l2) {d : Addr} (off : d ∉ [z, TI, TO, i1, i2, l1, l2]) : PairSrc P w A z d [z, TO, i1, i2] (min xs.size ys.size) (fun i k v => xs[i]? = some k ∧ ys[i]? = some v) (ZipState z TI TO i1 i2 l1 l2 d xs ys) where
  off := fun m => off (by simp only [List.mem_cons, List.not_mem_nil, or_false] at m ⊢; rcases m with m | m | m | m <;> simp [m])
  frame := fun i h h' ⟨Y, st⟩ same => by
    have ne : ∀ c, c ∈ [z, TI, TO, i1, i2, l1, l2] → ∀ o, h.get? c = some o → h'.get? c = some o := fun c m o q => same c o (fun e => off (e ▸ m)) q
    refine ⟨Y.keep fun c m o q => ne c (by simp only [List.mem_cons, List.not_mem_nil, or_false] at m ⊢; rcases m with m | m | m | m | m <;> simp [m]) o q, ?_⟩
    rcases st with ⟨q1, a, b, q2⟩ | ⟨T, f, oT, q1, q2, n1, n2, n3, n4⟩
    · exact .inl ⟨ne z (by simp) _ q1, a, b, ne TO (by simp) _ q2⟩
    · exact .inr ⟨T, f, oT, ne z (by simp) _ q1, same T _ n4 q2, n1, n2, n3, n4⟩
  item := fun i s1 Q E lt ⟨Y, st⟩ low k => by
    have lx : i < xs.size := Nat.lt_of_lt_of_le lt (Nat.min_le_left ..)
    have ly : i < ys.size := Nat.lt_of_lt_of_le lt (Nat.min_le_right ..)
    have ex := Array.getElem?_eq_getElem lx
    have ey := Array.getElem?_eq_getElem ly
    have new : ∀ {c o}, s1.heap.get? c = some o → s1.heap.objs.size ≠ c := fun q => Nat.ne_of_gt (Heap.lt_size q)
    have n1 : s1.heap.objs.size ≠ i1 := let ⟨_, q, _⟩ := Y.it1; new q
    have n2 : s1.heap.objs.size ≠ i2 := let ⟨_, q, _⟩ := Y.it2; new q
    have out : ∀ {c}, c ∉ [z, TO, i1, i2] → c ≠ z ∧ c ≠ TO ∧ c ≠ i1 ∧ c ≠ i2 := fun {c} m => by simpa using m
    rcases st with ⟨q1, a, b, q2⟩ | ⟨T, f, oT, q1, q2, m1, m2, m3, m4⟩
    · refine RZ.pyNext_zipT_item D q1 Y.pair q2 Y.it1 Y.it2 Y.tup1 Y.tup2 ex ey fun h' a1 a2 a3 a4 a5 a6 rest => ?_
      refine k s1.heap.objs.size _ _ h' s1.toks ⟨ex, ey⟩ (.inl ⟨_, a5, rfl, _, rfl⟩) ⟨⟨rest _ _ D.TIz D.TITO D.TIi1 D.TIi2 Y.pair, a3, a4, Y.tup1.at fun o q => rest _ o D.l1z D.l1TO D.l1i1 D.l1i2 q, Y.tup2.at fun o q => rest _ o D.l2z D.l2TO D.l2i1 D.l2i2 q⟩,
        .inr ⟨s1.heap.objs.size, false, _, a1, a5, new q1, n1, n2, Nat.ne_of_gt low⟩⟩ fun c o m q => ?_
      obtain ⟨o1, o2, o3, o4⟩ := out m
      exact rest c o o1 o2 o3 o4 q
    · refine next_held D q1 q2 Y ex ey fun h' a1 a2 a3 rest => ?_
      refine k s1.heap.objs.size _ _ h' s1.toks ⟨ex, ey⟩ (.inl ⟨_, a3, rfl, _, rfl⟩) ⟨a2, .inr ⟨T, true, oT, a1, rest _ _ m1 m2 m3 q2, m1, m2, m3, m4⟩⟩ fun c o m q => ?_
      obtain ⟨o1, _, o3, o4⟩ := out m
      exact rest c o o1 o3 o4 q
  done := fun s1 Q E ⟨Y, st⟩ k => by
    have none1 : xs[min xs.size ys.size]? = none ∨ ys[min xs.size ys.size]? = none := by
      rcases Nat.le_total xs.size ys.size with le | le
      · exact .inl (Array.getElem?_eq_none (by omega))
      · exact .inr (Array.getElem?_eq_none (by omega))
    have out : ∀ {c}, c ∉ [z, TO, i1, i2] → c ≠ z ∧ c ≠ TO ∧ c ≠ i1 ∧ c ≠ i2 := fun {c} m => by simpa using m
    rcases st with ⟨q1, a, b, q2⟩ | ⟨T, f, oT, q1, q2, _⟩
    · exact RZ.pyNext_zipT_end hh D q1 Y.pair q2 Y.it1 Y.it2 Y.tup1 Y.tup2 none1 fun h' rest => k h' s1.toks fun c o m q => rest c o (out m).1 (out m).2.1 (out m).2.2.1 (out m).2.2.2 q
    · exact stop_held hh D q1 q2 Y none1 fun h' rest => k h' s1.toks fun c o m q => rest c o (out m).1 (out m).2.2.1 (out m).2.2.2 q
theorem zip_arg (D : ZipApart z TI TO i1 i2 l1 l2) : PairArg P w "zip" z [z, TI, TO, i1, i2, l1, l2] [z, TO, i1, i2] (min xs.size ys.size) (fun i k v => xs[i]? = some k ∧ ys[i]? = some v) (ZipNew z TI TO i1 i2 l1 l2 xs ys) where
  type := fun s ok => ⟨_, ok.1, rfl⟩
  notDict := rfl
  keep := fun h h' ⟨q1, ⟨a, b, q2⟩, Y⟩ same => ⟨same _ _ q1, ⟨a, b, same _ _ q2⟩, Y.keep fun c _ o q => same c o q⟩
  there := fun h ⟨q1, ⟨a, b, q2⟩, Y⟩ c m => by
    obtain ⟨o1, e1, _⟩ := Y.it1
    obtain ⟨o2, e2, _⟩ := Y.it2
    obtain ⟨o3, e3, _⟩ := Y.tup1
    obtain ⟨o4, e4, _⟩ := Y.tup2
    have e0 := Y.pair
    simp only [List.mem_cons, List.not_mem_nil, or_false] at m
    rcases m with rfl | rfl | rfl | rfl | rfl | rfl | rfl <;> exact ⟨_, by assumption⟩
  sub := fun b m => by
    simp only [List.mem_cons, List.not_mem_nil, or_false] at m ⊢
    rcases m with m | m | m | m <;> simp [m]
  noKeys := fun A s Q E hh ok k => getAttrOr_miss_zip ok.1 rfl rfl rfl zip_no_keys (by decide +kernel) hh k
  iter := fun A s d Q E hh ⟨q1, ⟨a, b, q2⟩, Y⟩ _ off k => wpAny_pyIter_zip q1 (k z [z, TO, i1, i2] (ZipState z TI TO i1 i2 l1 l2 d xs ys) s.heap s.toks (zip_src hh D off) ⟨Y, .inl ⟨q1, a, b, q2⟩⟩ (fun _ _ q => q) fun _ => .inl)
end
end Pd
set_option Elab.async false
set_option linter.all false
set_option maxRecDepth 100000
set_option maxHeartbeats 1000000
namespace Pd
open PySem PySem.Spec PyProof.Rows L2
/-! ### dict(zip(t, u)), the keys tuples -/
def KeyTups (H : Hp) : List (List Key) → List V → Prop := Paired fun ks x => ∃ q, x = V.ref q ∧ H q = some (.tup (ks.map kV))
def mergeV (kvs more : List (List Key × V)) : List (List Key × V) := more.foldl (fun acc kv => putK acc kv.1 kv.2) kvs
abbrev RowIs (H : Hp) (p : List Key × V) (q : List Key × Addr × Value) : Prop := p.1 = q.1 ∧ H q.2.1 = some (.tup (p.1.map kV)) ∧ RelV p.2 q.2.2
theorem rows_of {H : Hp} : ∀ {kss : List (List Key)} {xs ys : List V} {is js : List Value}, KeyTups H kss xs → Vals xs is → Vals ys js → ∃ ps : List (List Key × Addr × Value), ps.length = min is.length js.length ∧
    (∀ (i : Nat) key v, is[i]? = some key → js[i]? = some v → ∃ k b, ps[i]? = some (k, b, v) ∧ key = .ref b) ∧ Paired (RowIs H) (kss.zip ys) ps
  | _, _, _, _, _, .nil, .nil, _ => ⟨[], by simp, fun i key v e => by simp at e, .nil⟩
  | _, _, _, _, _, .cons _ _, .cons _ _, .nil => ⟨[], by simp, fun i key v _ e => by simp at e, .nil⟩
  | ks :: kss, _, _, u :: is, v :: js, .cons ⟨q, ex, eq⟩ t, .cons r1 t1, .cons r2 t2 => by
    subst ex
    obtain rfl : u = .ref q := r1
    obtain ⟨ps, l, at1, rel⟩ := rows_of t t1 t2
    refine ⟨(ks, q, v) :: ps, by simp [l, Nat.succ_min_succ], fun i key w e1 e2 => ?_, .cons ⟨rfl, eq, r2⟩ rel⟩
    cases i with
    | zero =>
      simp at e1 e2
      subst e1 e2
      exact ⟨ks, q, rfl, rfl⟩
    | succ i => simpa using at1 i key w (by simpa using e1) (by simpa using e2)
theorem paired_back {α β : Type} {F : α → β → Prop} : ∀ {xs : List α} {ys : List β}, Paired F xs ys → ∀ {i : Nat} {y : β}, ys[i]? = some y → ∃ x, xs[i]? = some x ∧ F x y
  | _, _, .nil, i, y, h => by simp at h
  | x :: _, _, .cons r t, 0, y, h => by
    simp at h
    subst h
    exact ⟨x, rfl, r⟩
  | _, _, .cons r t, i + 1, y, h => by simpa using paired_back t (i := i) (y := y) (by simpa using h)
theorem merge_rows {H : Hp} : ∀ {ps : List (List Key × V)} {qs rows : List (List Key × Addr × Value)} {kvs : List (List Key × V)}, Paired (RowIs H) ps qs → KT H kvs rows → KT H (mergeV kvs ps) (storedAllH rows qs)
  | _, _, _, _, .nil, r => r
  | p :: ps, q :: qs, rows, kvs, .cons h t, r => by
    have step : KT H (putK kvs p.1 p.2) (storedH rows q.1 q.2.1 q.2.2) := h.1 ▸ r.put p.1 h.2.1 h.2.2
    show KT H (mergeV (putK kvs p.1 p.2) ps) (storedAllH (storedH rows q.1 q.2.1 q.2.2) qs)
    exact merge_rows t step
theorem mergeV_length : ∀ (ps kvs : List (List Key × V)), (mergeV kvs ps).length ≤ kvs.length + ps.length
  | [], kvs => Nat.le_refl _
  | p :: ps, kvs => by
    have a := mergeV_length ps (putK kvs p.1 p.2)
    have b := length_putK kvs p.1 p.2
    show (mergeV (putK kvs p.1 p.2) ps).length ≤ _
    simp only [List.length_cons]
    omega
def tDictZip (ta : TA) : TE := fun σ H Q => ta σ H fun vs H2 => ∃ a b xs ys kss, vs = [.ref a, .ref b] ∧ H2 a = some (.tup xs) ∧ H2 b = some (.tup ys) ∧ KeyTups H2 kss xs ∧ xs.length ≤ 1000 ∧
  ∀ p, H2 p = none → Q (.ref p) (upd H2 p (.dT (mergeV [] (kss.zip ys))))
theorem pe_dictzip {X : Cx} {e1 e2 : Expr} {ta : TA} {p p2 pos pos2 : Pos} (hu : X.A.units + 64 < cLine) (hc : X.calm = true) (ha : PA X [e1, e2] ta) (hg : Gl X "dict") (hm : X.mg "dict" = none) (hg2 : Gl X "zip") (hm2 : X.mg "zip" = none)
    (hs : starEach [.Call (.Name "zip" p2) [e1, e2] [] pos2] X.env = (false, eval (.Call (.Name "zip" p2) [e1, e2] [] pos2) X.env) :: starEach [] X.env)
    (hs2 : starEach [e1, e2] X.env = (false, eval e1 X.env) :: starEach [e2] X.env) (hpl : (backTo pos2 (starEach [e2] X.env)).any (·.1) = false) :
    PE X (.Call (.Name "dict" p) [.Call (.Name "zip" p2) [e1, e2] [] pos2] [] pos) (tDictZip ta) where
  run pins s σ H Q I q := by
    have inner : wpAny (model X.prog X.w) X.A (eval (.Call (.Name "zip" p2) [e1, e2] [] pos2) X.env) (fun u s2 => wpAny (model X.prog X.w) X.A (call (.type "dict") [u]) (EP X pins σ Q) X.xe s2) X.xe s := by
      refine Call_ (ld_blt I hg2 hm2 PyProof.Rows.boot_zip (PyProof.Rows.callWith_type1 (thn (ha.run pos2 pins s σ H _ I q) fun us s1 ⟨vs, H2, I2, rel, a, b, xs, ys, kss, ev, ta1, tb1, keys, few, k⟩ => ?_) hs2 hpl))
      subst ev
      obtain ⟨u1, u2, rfl, r1, r2⟩ := Vals.two rel
      obtain rfl : u1 = .ref a := r1
      obtain rfl : u2 = .ref b := r2
      obtain ⟨is, ri, tupA, _⟩ := I2.tuple (SqT.of ta1)
      obtain ⟨js, rj, tupB, _⟩ := I2.tuple (SqT.of tb1)
      refine RZ.call_zipT (xs := is.toArray) (ys := js.toArray) tupA tupB fun h1 z1 pr pt it1 it2 size1 same1 => ?_
      have D := PySem.W.ktu_apart s1.heap.objs.size a b (I2.hok.lt ta1) (I2.hok.lt tb1)
      obtain ⟨ps, len, at1, rows⟩ := rows_of keys ri rj
      have stay : ∀ h' : Heap, (∀ b o, b ≠ h1.objs.size → b ∉ [s1.heap.objs.size + 4, s1.heap.objs.size + 3, s1.heap.objs.size, s1.heap.objs.size + 1] → h1.get? b = some o → h'.get? b = some o) → ∀ c o, s1.heap.get? c = some o → h'.get? c = some o := fun h' same c o there => by
        have low := Heap.lt_size there
        refine same c o (Nat.ne_of_lt (Nat.lt_of_lt_of_le low (by rw [size1]; exact Nat.le_add_right _ _))) (fun m => ?_) (same1 c o there)
        have big : s1.heap.objs.size ≤ c := by
          simp only [List.mem_cons, List.not_mem_nil, or_false] at m
          rcases m with rfl | rfl | rfl | rfl <;> first | exact Nat.le_refl _ | exact Nat.le_add_right _ _
        exact absurd low (Nat.not_lt.mpr big)
      refine call_dict_pairsH (A := X.A) (s := { s1 with heap := h1 }) (knd := tupleKind (mixKind X.prog X.w)) (ps := ps) (zip_arg (xs := is.toArray) (ys := js.toArray) D) (I2.ok.hd hc) (show X.A.units + 1 + 1 < cLine by omega)
        ⟨z1, ⟨_, _, pt⟩, pr, it1, it2, Heap.IsTuple.at tupA fun o t => same1 _ o t, Heap.IsTuple.at tupB fun o t => same1 _ o t⟩ ⟨by simpa using len, fun i key v ⟨t1, t2⟩ => at1 i key v (by simpa using t1) (by simpa using t2)⟩ ?_ ?_ ?_
      · intro h' same row mem
        obtain ⟨j, e3⟩ := List.mem_iff_getElem?.mp mem
        have I3 := I2.kept (t' := s1.toks) (h' := h') (stay h' same)
        obtain ⟨p', e4, r⟩ : ∃ p', (kss.zip ys)[j]? = some p' ∧ RowIs H2 p' row := by
          exact paired_back rows e3
        exact r.1 ▸ key_of I3.hok r.2.1
      · have l1 : is.length ≤ 1000 := by rw [← ri.length]; exact few
        have : min is.toArray.size js.toArray.size ≤ 1000 := Nat.le_trans (Nat.min_le_left ..) (by simpa using l1)
        exact Nat.le_trans this (by decide)
      · intro h' tk new same
        have old : ∀ c o, s1.heap.get? c = some o → h'.get? c = some o := stay h' fun c o _ m t => same c o m t
        obtain ⟨o, es, ep, there, c1, c2, c3, _, c5⟩ := new
        have above : s1.heap.objs.size ≤ h1.objs.size := by rw [size1]; omega
        have nsys : (h1.objs.size == sysModules) = false := beq_eq_false_iff_ne.mpr (Nat.ne_of_gt (Nat.lt_of_lt_of_le I2.big above))
        have room : (mergeV [] (kss.zip ys)).length ≤ sizeLine := by
          have a := mergeV_length (kss.zip ys) []
          have b : (kss.zip ys).length ≤ 1000 := by
            rw [List.length_zip]
            exact Nat.le_trans (Nat.min_le_left ..) (by rw [Paired.length keys]; exact few)
          exact Nat.le_trans (Nat.le_trans a (by simpa using b)) (by decide)
        refine ⟨.ref h1.objs.size, _, I2.laid (t' := tk) (o := .dT (mergeV [] (kss.zip ys))) old above ⟨room, nsys, _, (merge_rows rows .nil).keeps fun c zs t => ?_, o, es, ep, there, c1, c2, c3, c5⟩, rfl, k _ (I2.hok.fresh above)⟩
        rw [upd_ne (ne_of_none t (I2.hok.fresh above))]
        exact t
    refine wpAny_Call_Name_kw (ld_blt I hg hm rfl (PyProof.Rows.callWith_type1 ?_ hs rfl))
    rw [hs]
    exact Calls.spliced_cons (thn inner fun u s2 k => Calls.spliced_nil k)
end Pd
set_option Elab.async false
set_option linter.all false
set_option maxRecDepth 100000
set_option maxHeartbeats 1000000
namespace Pd
open PySem PySem.Spec PyProof.Rows L2
section
variable {X : Cx} {Z : L2.WX} {a b k v : Expr} {ta tb tk tv : TWE} {pos p p2 pos2 : Pos}
/-! ### {k: v}, k a tuple -/
def wDisp1T (tk tv : TWE) : TWE := fun ρ h Q E => ∀ p, h p = none → tk ρ (wup h p (.dT [])) (fun x h1 => tv ρ h1 (fun y h2 => match x with
  | .tup ws => match keysT ws with
    | some ks => h2 p = some (.dT []) ∧ Q (.ref p) (wup h2 p (.dT [(ks, y)]))
    | none => False
  | _ => False) E) E
theorem jdisp1T (hu : X.A.units + 64 < cLine) (hk : JE X Z k tk) (hv : JE X Z v tv) : JE X Z (.Dict [some k] [v] pos) (wDisp1T tk tv) where
  mo := fun ρ g Q Q' E E' hq hx q p hp => hk.mo ρ _ _ _ _ _ (fun x h1 q1 => hv.mo ρ h1 _ _ _ _ (fun y h2 q2 => by
    cases x <;> first | exact q2.elim | skip
    dsimp only at q2 ⊢
    split
    · rename_i e
      rw [e] at q2
      exact ⟨q2.1, hq _ _ q2.2⟩
    · rename_i e
      rw [e] at q2
      exact q2) hx q1) hx (q p hp)
  pe := imE (pe_disp1T (by omega) hk.pe hv.pe) fun σ H Q ⟨ρ, g, rs, rh, q⟩ p hp => by
    have gp : Grow X.K H (upd H p (.dT [])) := grow_new hp
    refine li_then (E := fun _ _ _ _ => False) hk.mo (rs.grow gp) (rh.new hp (.dT .nil)) (hk.mo ρ _ _ _ _ _ (fun _ _ z => z) (exQ_back gp) (q p (rh.none hp))) fun x h1 xv H1 g1 r1 d1 q1 => ?_
    have q1' := hv.mo ρ h1 _ _ _ (exQ X.K H1 fun cls d H' => Z cls d σ H') (fun _ _ z => z) (exQ_back (gp.trans g1)) q1
    refine li_then (E := fun _ _ _ _ => False) hv.mo (rs.grow (gp.trans g1)) r1 q1' fun y h2 yv H2 g2 r2 d2 q2 => ?_
    cases x <;> first | exact q2.elim | skip
    rename_i ws
    dsimp only at q2
    split at q2
    · rename_i ks ek
      obtain ⟨e1, q3⟩ := q2
      obtain ⟨bA, vs, rfl, hb, dl⟩ := Den.grow g2 _ d1
      obtain ⟨u, hu', od⟩ := r2 p _ e1
      cases od with
      | @dT _ kus r =>
        cases r
        rw [keysT_kV dl ek] at hb
        exact ⟨bA, ks, rfl, hb, hu', q3 _ _ ((gp.trans g1).trans (g2.trans (grow_mut hu' trivial))) (r2.write hu' trivial (.dT (.cons ⟨rfl, d2⟩ .nil))) rfl⟩
    · exact q2.elim
/-! ### dict(zip(t, u)) -/
def keyRows : List Wv → Option (List (List Key))
  | [] => some []
  | .tup is :: r => (keysT is).bind fun ks => (keyRows r).map fun kss => ks :: kss
  | _ :: _ => none
theorem keyRows_den {K : PySem.W.Frag} {H : Hp} : ∀ {ws : List Wv} {vs : List V} {kss : List (List Key)}, DenL K H ws vs → keyRows ws = some kss → KeyTups H kss vs
  | [], _, kss, d, e => by
    have d : _ = ([] : List V) := d
    simp [keyRows] at e
    subst d e
    exact .nil
  | w :: ws, _, kss, d, e => by
    obtain ⟨v, vs', rfl, d1, d2⟩ := d
    cases w <;> first | (simp [keyRows] at e; done) | skip
    rename_i is
    cases e1 : keysT is with
    | none => simp [keyRows, e1] at e
    | some ks =>
      cases e2 : keyRows ws with
      | none => simp [keyRows, e1, e2] at e
      | some rest =>
        simp [keyRows, e1, e2] at e
        subst e
        obtain ⟨q, us, rfl, hq, dl⟩ := d1
        rw [keysT_kV dl e1] at hq
        exact .cons ⟨q, rfl, hq⟩ (keyRows_den d2 e2)
theorem zip_den {K : PySem.W.Frag} {H : Hp} : ∀ (kss : List (List Key)) {ws : List Wv} {vs : List V}, DenL K H ws vs → PDen K H (kss.zip ws) (kss.zip vs)
  | [], _, _, _ => .nil
  | _ :: _, [], _, d => by
    have d : _ = ([] : List V) := d
    subst d
    exact .nil
  | ks :: kss, w :: ws, _, d => by
    obtain ⟨v, vs', rfl, d1, d2⟩ := d
    exact .cons ⟨rfl, d1⟩ (zip_den kss d2)
theorem mergeT_den {K : PySem.W.Frag} {H : Hp} : ∀ {more : List (List Key × Wv)} {mus : List (List Key × V)} {kvs : List (List Key × Wv)} {kus : List (List Key × V)}, PDen K H more mus → PDen K H kvs kus → PDen K H (mergeA kvs more) (mergeV kus mus)
  | _, _, _, _, .nil, d => d
  | p :: r, q :: s, kvs, kus, .cons h t, d => by
    obtain ⟨q1, q2⟩ := q
    have e : p.1 = q1 := h.1
    subst e
    show PDen K H (mergeA (putA p.1 p.2 kvs) r) (mergeV (putK kus p.1 q2) s)
    exact mergeT_den t (PDen.put p.1 h.2 d)
def wDictZip (ta tb : TWE) : TWE := fun ρ h Q E => ta ρ h (fun w h1 => tb ρ h1 (fun u h2 => match w, u with
  | .tup ws, .tup us => match keyRows ws with
    | some kss => ws.length ≤ 1000 ∧ ∀ p, h2 p = none → Q (.ref p) (wup h2 p (.dT (mergeA [] (kss.zip us))))
    | none => False
  | _, _ => False) E) E
theorem jdictzip (hu : X.A.units + 64 < cLine) (hc : X.calm = true) (ha : JE X Z a ta) (hb : JE X Z b tb) (hm : X.mg "dict" = none) (hm2 : X.mg "zip" = none) (hg : Gl X "dict" := by rfl) (hg2 : Gl X "zip" := by rfl)
    (hs : starEach [.Call (.Name "zip" p2) [a, b] [] pos2] X.env = (false, eval (.Call (.Name "zip" p2) [a, b] [] pos2) X.env) :: starEach [] X.env := by rfl)
    (hs2 : starEach [a, b] X.env = (false, eval a X.env) :: starEach [b] X.env := by rfl) (hs3 : starEach [b] X.env = (false, eval b X.env) :: starEach [] X.env := by rfl) (hpl : (backTo pos2 (starEach [b] X.env)).any (·.1) = false := by rfl) :
    JE X Z (.Call (.Name "dict" p) [.Call (.Name "zip" p2) [a, b] [] pos2] [] pos) (wDictZip ta tb) where
  mo := fun ρ h Q Q' E E' hq hx q => ha.mo ρ h _ _ _ _ (fun w h1 q1 => hb.mo ρ h1 _ _ _ _ (fun u h2 q2 => by
    cases w <;> first | exact q2.elim | skip
    cases u <;> first | exact q2.elim | skip
    dsimp only at q2 ⊢
    split
    · rename_i e
      rw [e] at q2
      exact ⟨q2.1, fun p hp => hq _ _ (q2.2 p hp)⟩
    · rename_i e
      rw [e] at q2
      exact q2) hx q1) hx q
  pe := imE (pe_dictzip hu hc (pa_cons ha.pe (pa_cons hb.pe pa_nil hs3) hs2) hg hm hg2 hm2 hs hs2 hpl) fun σ H Q ⟨ρ, h, rs, rh, q⟩ => by
    refine li_then (E := fun _ _ _ _ => False) ha.mo rs rh q fun w h1 v1 H1 g1 r1 d1 q1 => ?_
    have q1' := hb.mo ρ h1 _ _ _ (exQ X.K H1 fun cls d H' => Z cls d σ H') (fun _ _ z => z) (exQ_back g1) q1
    refine li_then (E := fun _ _ _ _ => False) hb.mo (rs.grow g1) r1 q1' fun u h2 v2 H2 g2 r2 d2 q2 => ?_
    cases w <;> first | exact q2.elim | skip
    cases u <;> first | exact q2.elim | skip
    rename_i ws us
    dsimp only at q2
    split at q2
    · rename_i kss ek
      obtain ⟨A1, xs, rfl, ha1, dl1⟩ := Den.grow g2 _ d1
      obtain ⟨B1, ys, rfl, hb1, dl2⟩ := d2
      exact ⟨A1, B1, xs, ys, kss, rfl, ha1, hb1, keyRows_den dl1 ek, by rw [← dl1.length]; exact q2.1, fun p hp => q2.2 p (r2.none hp) _ _ ((g1.trans g2).trans (grow_new hp)) (r2.new hp (.dT (mergeT_den (zip_den kss dl2) .nil))) rfl⟩
    · exact q2.elim
end
end Pd
set_option Elab.async false
set_option linter.all false
set_option maxRecDepth 100000
set_option maxHeartbeats 1000000
namespace Pd
open PySem PySem.Spec PyProof.Rows L2
/-! ### readings laid open -/

section
variable {ρ : Wen} {h : WH} {Q : WQ} {E : WX} {QB : Bool → WH → Prop} {QA : List Wv → WH → Prop} {D : WEnds} {ta tb tc te to : TWE} {ua ub : TWT} {t : TWA} {tt uu : TWS} {F : F2} {i j l : Nat} {w : Wv} {sp : WSp} {p : Pat}
@[simp] theorem e_wC : wC w ρ h Q E = Q w h := rfl
@[simp] theorem e_wBin : wBin F ta tb ρ h Q E = ta ρ h (fun w h1 => tb ρ h1 (fun u h2 => outR (F w u h2) h2 Q) E) E := rfl
@[simp] theorem e_wUn {G : Wv → WH → Option Rs} : wUn G ta ρ h Q E = ta ρ h (fun w h1 => outR (G w h1) h1 Q) E := rfl
@[simp] theorem e_outV : outR (some (.val w)) h Q = Q w h := rfl
@[simp] theorem e_outL {ws : List Wv} : outR (some (.lst ws)) h Q = ∀ p, h p = none → Q (.ref p) (wup h p (.lst ws)) := rfl
@[simp] theorem e_outN : outR none h Q = False := rfl
@[simp] theorem e_oV : outO (some (.val w)) h Q = Q w h := rfl
@[simp] theorem e_oN {o : Wo} : outO (some (.new o)) h Q = ∀ p, h p = none → Q (.ref p) (wup h p o) := rfl
@[simp] theorem e_oP {a : Addr} {o : Wo} : outO (some (.put a o w)) h Q = Q w (wup h a o) := rfl
@[simp] theorem e_oO : outO none h Q = False := rfl
@[simp] theorem e_wTest : wTest ta ρ h QB E = ta ρ h (fun w h' => match w with
  | .bl b => QB b h'
  | _ => False) E := rfl
@[simp] theorem e_wNot : wNot ua ρ h QB E = ua ρ h (fun c h1 => QB (!c) h1) E := rfl
@[simp] theorem e_wAnd : wAnd ua ub ρ h QB E = ua ρ h (fun c h1 => if c = true then ub ρ h1 QB E else QB false h1) E := rfl
@[simp] theorem e_wOr : wOr ua ub ρ h QB E = ua ρ h (fun c h1 => if c = true then QB true h1 else ub ρ h1 QB E) E := rfl
@[simp] theorem e_wAndV : wAndV ta tb ρ h Q E = ta ρ h (fun w h1 => match w with
  | .bl c => if c = true then tb ρ h1 Q E else Q (.bl false) h1
  | _ => False) E := rfl
@[simp] theorem e_wOrV : wOrV ta tb ρ h Q E = ta ρ h (fun w h1 => match w with
  | .bl c => if c = true then Q (.bl true) h1 else tb ρ h1 Q E
  | _ => False) E := rfl
@[simp] theorem e_wNotV : wNotV ta ρ h Q E = ta ρ h (fun w h1 => match w with
  | .bl c => Q (.bl (!c)) h1
  | _ => False) E := rfl
@[simp] theorem e_wIf : wIf ua ta tb ρ h Q E = ua ρ h (fun c h1 => if c = true then ta ρ h1 Q E else tb ρ h1 Q E) E := rfl
@[simp] theorem e_wChain {G : F2} : wChain F G ta tb tc ρ h Q E = ta ρ h (fun w h1 => tb ρ h1 (fun u h2 => outR (F w u h2) h2 fun z h3 => match z with
  | .bl k => if k = true then tc ρ h3 (fun x h4 => outR (G u x h4) h4 Q) E else Q (.bl false) h3
  | _ => False) E) E := rfl
@[simp] theorem e_wNil : wNil ρ h QA E = QA [] h := rfl
@[simp] theorem e_wCons : wCons te t ρ h QA E = te ρ h (fun w h1 => t ρ h1 (fun ws h2 => QA (w :: ws) h2) E) E := rfl
@[simp] theorem e_wTup : wTup t ρ h Q E = t ρ h (fun ws h1 => Q (.tup ws) h1) E := rfl
@[simp] theorem e_wLst : wLst t ρ h Q E = t ρ h (fun ws h1 => ∀ p, h1 p = none → Q (.ref p) (wup h1 p (.lst ws))) E := rfl
@[simp] theorem e_wCall : wCall sp t ρ h Q E = t ρ h (fun ws h1 => sp ws h1 Q E) E := rfl
@[simp] theorem e_wCB {G : FC} : wCB G t ρ h Q E = t ρ h (fun ws h1 => outO (G ws h1) h1 Q) E := rfl
@[simp] theorem e_wBM {T : String} {G : FM} : wBM T G to t ρ h Q E = to ρ h (fun x h1 => tyW T x h1 ∧ t ρ h1 (fun ws h2 => outO (G x ws h2) h2 Q) E) E := rfl
@[simp] theorem e_wNext : wNext D ρ h = D.nx ρ h := rfl
@[simp] theorem e_wSeq : wSeq tt uu D ρ h = tt { D with nx := fun ρ' h' => uu D ρ' h' } ρ h := rfl
@[simp] theorem e_wBreak : wBreak D ρ h = D.bk ρ h := rfl
@[simp] theorem e_wCont : wCont D ρ h = D.ct ρ h := rfl
@[simp] theorem e_wNever : wNever D ρ h = False := rfl
@[simp] theorem e_wDrop : wDrop te D ρ h = te ρ h (fun _ h1 => D.nx ρ h1) (D.ex ρ) := rfl
@[simp] theorem e_wRet : wRet te D ρ h = te ρ h D.rt (D.ex ρ) := rfl
@[simp] theorem e_wRetN : wRetN D ρ h = D.rt .non h := rfl
@[simp] theorem e_wIfS : wIfS ua tt uu D ρ h = ua ρ h (fun b h1 => if b = true then tt D ρ h1 else uu D ρ h1) (D.ex ρ) := rfl
@[simp] theorem e_wSet : wSet i te D ρ h = te ρ h (fun w h1 => D.nx (ρ.set i (some w)) h1) (D.ex ρ) := rfl
@[simp] theorem e_wAsg {g : TWG} : wAsg te g D ρ h = te ρ h (fun w h1 => g w ρ h1 D.nx) (D.ex ρ) := rfl
@[simp] theorem e_wPar : wPar i j t D ρ h = t ρ h (fun ws h1 => match ws with
  | [w, u] => D.nx ((ρ.set i (some w)).set j (some u)) h1
  | _ => False) (D.ex ρ) := rfl
@[simp] theorem e_wPar3 : wPar3 i j l t D ρ h = t ρ h (fun ws h1 => match ws with
  | [w, u, v] => D.nx (((ρ.set i (some w)).set j (some u)).set l (some v)) h1
  | _ => False) (D.ex ρ) := rfl
@[simp] theorem e_wBody {n : Nat} {ws : List Wv} : wBody tt n ws h Q E = tt { nx := fun _ h' => Q .non h', rt := Q, ex := fun _ => E } (wStart n ws) h := rfl
end
theorem wVar_at {i : Nat} {ρ : Wen} {h : WH} {Q : WQ} {E : WX} {w : Wv} (e : ρ[i]? = some (some w)) : wVar i ρ h Q E = Q w h := by unfold wVar; rw [e]
@[simp] theorem wVar_0 {x : Wv} {r : Wen} {h : WH} {Q : WQ} {E : WX} : wVar 0 (some x :: r) h Q E = Q x h := rfl
@[simp] theorem wVar_s {i : Nat} {x : Option Wv} {r : Wen} {h : WH} {Q : WQ} {E : WX} : wVar (i + 1) (x :: r) h Q E = wVar i r h Q E := rfl
/-- everything that stands stays -/
def Ext (h h' : WH) : Prop := ∀ a o, h a = some o → h' a = some o
theorem Ext.refl (h : WH) : Ext h h := fun _ _ q => q
theorem Ext.trans {h h1 h2 : WH} (a : Ext h h1) (b : Ext h1 h2) : Ext h h2 := fun x o q => b x o (a x o q)
theorem Ext.new {h : WH} {p : Addr} {o : Wo} (hp : h p = none) : Ext h (wup h p o) := fun a u q => by
  rw [wup_ne ?_]
  · exact q
  · rintro rfl
    rw [hp] at q
    cases q
theorem Ext.free {h h' : WH} (e : Ext h h') {p : Addr} (hp : h' p = none) : h p = none := by
  cases q : h p with
  | none => rfl
  | some o => rw [e p o q] at hp; cases hp
@[simp] theorem wStart_def (n : Nat) (ws : List Wv) : wStart n ws = ws.map some ++ List.replicate (n - ws.length) none := rfl
end Pd
set_option Elab.async false
set_option linter.all false
set_option maxRecDepth 100000
set_option maxHeartbeats 1000000
namespace Pd
open PySem PySem.Spec PyProof.Rows L2
/-! ### isinstance of data -/
@[simp] theorem kit_NoneType_int : kitB "NoneType" "int" = some false := by decide +kernel
@[simp] theorem kit_NoneType_bool : kitB "NoneType" "bool" = some false := by decide +kernel
@[simp] theorem kit_NoneType_tuple : kitB "NoneType" "tuple" = some false := by decide +kernel
@[simp] theorem kit_NoneType_str : kitB "NoneType" "str" = some false := by decide +kernel
@[simp] theorem kit_NoneType_list : kitB "NoneType" "list" = some false := by decide +kernel
@[simp] theorem kit_NoneType_dict : kitB "NoneType" "dict" = some false := by decide +kernel
@[simp] theorem kit_bool_int : kitB "bool" "int" = some true := by decide +kernel
@[simp] theorem kit_bool_bool : kitB "bool" "bool" = some true := by decide +kernel
@[simp] theorem kit_bool_tuple : kitB "bool" "tuple" = some false := by decide +kernel
@[simp] theorem kit_bool_str : kitB "bool" "str" = some false := by decide +kernel
@[simp] theorem kit_bool_list : kitB "bool" "list" = some false := by decide +kernel
@[simp] theorem kit_bool_dict : kitB "bool" "dict" = some false := by decide +kernel
@[simp] theorem kit_int_int : kitB "int" "int" = some true := by decide +kernel
@[simp] theorem kit_int_bool : kitB "int" "bool" = some false := by decide +kernel
@[simp] theorem kit_int_tuple : kitB "int" "tuple" = some false := by decide +kernel
@[simp] theorem kit_int_str : kitB "int" "str" = some false := by decide +kernel
@[simp] theorem kit_int_list : kitB "int" "list" = some false := by decide +kernel
@[simp] theorem kit_int_dict : kitB "int" "dict" = some false := by decide +kernel
@[simp] theorem kit_str_int : kitB "str" "int" = some false := by decide +kernel
@[simp] theorem kit_str_bool : kitB "str" "bool" = some false := by decide +kernel
@[simp] theorem kit_str_tuple : kitB "str" "tuple" = some false := by decide +kernel
@[simp] theorem kit_str_str : kitB "str" "str" = some true := by decide +kernel
@[simp] theorem kit_str_list : kitB "str" "list" = some false := by decide +kernel
@[simp] theorem kit_str_dict : kitB "str" "dict" = some false := by decide +kernel
@[simp] theorem kit_tuple_int : kitB "tuple" "int" = some false := by decide +kernel
@[simp] theorem kit_tuple_bool : kitB "tuple" "bool" = some false := by decide +kernel
@[simp] theorem kit_tuple_tuple : kitB "tuple" "tuple" = some true := by decide +kernel
@[simp] theorem kit_tuple_str : kitB "tuple" "str" = some false := by decide +kernel
@[simp] theorem kit_tuple_list : kitB "tuple" "list" = some false := by decide +kernel
@[simp] theorem kit_tuple_dict : kitB "tuple" "dict" = some false := by decide +kernel
@[simp] theorem kit_list_int : kitB "list" "int" = some false := by decide +kernel
@[simp] theorem kit_list_bool : kitB "list" "bool" = some false := by decide +kernel
@[simp] theorem kit_list_tuple : kitB "list" "tuple" = some false := by decide +kernel
@[simp] theorem kit_list_str : kitB "list" "str" = some false := by decide +kernel
@[simp] theorem kit_list_list : kitB "list" "list" = some true := by decide +kernel
@[simp] theorem kit_list_dict : kitB "list" "dict" = some false := by decide +kernel
@[simp] theorem kit_dict_int : kitB "dict" "int" = some false := by decide +kernel
@[simp] theorem kit_dict_bool : kitB "dict" "bool" = some false := by decide +kernel
@[simp] theorem kit_dict_tuple : kitB "dict" "tuple" = some false := by decide +kernel
@[simp] theorem kit_dict_str : kitB "dict" "str" = some false := by decide +kernel
@[simp] theorem kit_dict_list : kitB "dict" "list" = some false := by decide +kernel
@[simp] theorem kit_dict_dict : kitB "dict" "dict" = some true := by decide +kernel
end Pd
set_option Elab.async false
set_option linter.all false
set_option maxRecDepth 100000
set_option maxHeartbeats 1000000
namespace Pd
open PySem PySem.Spec PyProof.Rows L2
/-! ### operators at numbers, tuples and lists -/
section
variable {i j : Int} {h : WH} {a b : Addr} {xs ys ws : List Wv} {w u : Wv}
@[simp] theorem o_addI : addF (.int i) (.int j) h = some (.val (.int (i + j))) := rfl
@[simp] theorem o_addT : addF (.tup xs) (.tup ys) h = if xs.length + ys.length ≤ sizeLine then some (.val (.tup (xs ++ ys))) else none := rfl
theorem o_addL (e : h a = some (.lst xs)) (e' : h b = some (.lst ys)) : addF (.ref a) (.ref b) h = if xs.length + ys.length ≤ sizeLine then some (.lst (xs ++ ys)) else none := by simp [addF, e, e']
@[simp] theorem o_sub : subI (.int i) (.int j) h = some (.val (.int (i - j))) := rfl
@[simp] theorem o_lt : ltI (.int i) (.int j) h = some (.val (.bl (decide (i < j)))) := rfl
@[simp] theorem o_le : leI (.int i) (.int j) h = some (.val (.bl (decide (i ≤ j)))) := rfl
@[simp] theorem o_gt : gtI (.int i) (.int j) h = some (.val (.bl (decide (j < i)))) := rfl
@[simp] theorem o_ge : geI (.int i) (.int j) h = some (.val (.bl (decide (j ≤ i)))) := rfl
@[simp] theorem o_div : divI (.int i) (.int j) h = if divOk i j = true then some (.val (.int (i / j))) else none := rfl
@[simp] theorem o_divN : divN (.int i) (.int j) h = if divOkN i j = true then some (.val (.int (i.fdiv j))) else none := rfl
@[simp] theorem o_mod : modI (.int i) (.int j) h = if 0 < j then some (.val (.int (i % j))) else none := by
  show (if decide (0 < j) = true then _ else _) = _
  simp
@[simp] theorem o_pow : powI (.int i) (.int j) h = if powOk i j = true then some (.val (.int (i ^ j.toNat))) else none := rfl
@[simp] theorem o_mul : mulF (.int i) (.int j) h = if mulOk i j = true then some (.val (.int (i * j))) else none := by
  unfold mulF orF iiF mulLF mulTF
  by_cases c : mulOk i j = true <;> simp [c]
theorem o_mulL (e : h a = some (.lst ws)) : mulF (.ref a) (.int j) h = if -(2 ^ 63) ≤ j ∧ j < 2 ^ 63 ∧ ws.length * j.toNat ≤ sizeLine then some (.lst (List.replicate j.toNat ws).flatten) else none := by
  simp [mulF, orF, iiF, mulTF, mulLF, e]
@[simp] theorem o_mulT : mulF (.tup ws) (.int j) h = if -(2 ^ 63) ≤ j ∧ j ≤ 1000 ∧ ws.length ≤ 1000 then some (.val (.tup (List.replicate j.toNat ws).flatten)) else none := by
  unfold mulF orF iiF mulTF mulLF
  simp
@[simp] theorem o_neg : negF (.int i) h = some (.val (.int (-i))) := rfl
@[simp] theorem o_okI : okO h (.int i) = true := by simp [okO, okT]
@[simp] theorem o_eqI : eqF (.int i) (.int j) h = some (.val (.bl (decide (i = j)))) := by simp [eqF, eqO, eqW]
@[simp] theorem o_neI : neF (.int i) (.int j) h = some (.val (.bl (!decide (i = j)))) := by simp [neF, eqO, eqW]
theorem o_okL (e : h a = some (.lst ws)) : okO h (.ref a) = okTs 60 ws := by simp [okO, e]
theorem o_eqL (e : h a = some (.lst xs)) (e' : h b = some (.lst ys)) (o : okTs 60 xs = true) (o' : okTs 60 ys = true) : eqF (.ref a) (.ref b) h = some (.val (.bl (eqWs xs ys))) := by simp [eqF, eqO, okO, e, e', o, o']
theorem o_neL (e : h a = some (.lst xs)) (e' : h b = some (.lst ys)) (o : okTs 60 xs = true) (o' : okTs 60 ys = true) : neF (.ref a) (.ref b) h = some (.val (.bl (!eqWs xs ys))) := by simp [neF, eqO, okO, e, e', o, o']
@[simp] theorem o_isN : isNF false .non h = some (.val (.bl true)) := rfl
@[simp] theorem o_isNi : isNF false (.int i) h = some (.val (.bl false)) := rfl
@[simp] theorem o_isNt : isNF false (.tup ws) h = some (.val (.bl false)) := rfl
/-! ### subscripts -/
@[simp] theorem o_ixT : ixF (.tup ws) (.int j) h = (atI ws j).map .val := by
  cases e : atI ws j <;> simp [ixF, orF, ixLF, itemsO, ixDF, dlookW, ixSF, e]
theorem o_ixL (e : h a = some (.lst ws)) : ixF (.ref a) (.int j) h = (atI ws j).map .val := by
  cases e2 : atI ws j <;> simp [ixF, orF, ixLF, itemsO, ixDF, dlookW, ixSF, e, e2]
theorem o_ixK {kvs : List (Key × Wv)} {k : Wv} {x : Key} {v : Wv} (e : h a = some (.dK kvs)) (ek : keyK k = some x) (el : lookA x kvs = some v) : ixF (.ref a) k h = some (.val v) := by
  have n : ixLF (.ref a) k h = none := by cases k <;> simp [ixLF, itemsO, e]
  simp [ixF, orF, n, ixDF, dlookW, e, ek, el]
theorem o_ixD {kvs : List (List Key × Wv)} {ks : List Wv} {x : List Key} {v : Wv} (e : h a = some (.dT kvs)) (ek : keysT ks = some x) (el : lookA x kvs = some v) : ixF (.ref a) (.tup ks) h = some (.val v) := by
  simp [ixF, orF, ixLF, ixDF, dlookW, e, ek, el]
/-! ### in -/
theorem o_memK {kvs : List (Key × Wv)} {k : Wv} {x : Key} {n : Bool} (e : h a = some (.dK kvs)) (ek : keyK k = some x) : memF n k (.ref a) h = some (.val (.bl (if n then !(lookA x kvs).isSome else (lookA x kvs).isSome))) := by
  simp [memF, orF, inF, itemsO, inDF, dlookW, e, ek]
theorem o_memD {kvs : List (List Key × Wv)} {ks : List Wv} {x : List Key} {n : Bool} (e : h a = some (.dT kvs)) (ek : keysT ks = some x) : memF n (.tup ks) (.ref a) h = some (.val (.bl (if n then !(lookA x kvs).isSome else (lookA x kvs).isSome))) := by
  simp [memF, orF, inF, itemsO, inDF, dlookW, e, ek]
@[simp] theorem o_memT {n : Bool} : memF n (.int i) (.tup ws) h = if okTs 60 ws = true then some (.val (.bl (if n then !memW (.int i) ws else memW (.int i) ws))) else none := by
  by_cases c : okTs 60 ws = true <;> simp [memF, orF, inF, itemsO, inDF, dlookW, okT, c]
/-! ### built-ins -/
@[simp] theorem o_lenT : lenF [.tup ws] h = some (.val (.int ws.length)) := rfl
theorem o_lenL (e : h a = some (.lst ws)) : lenF [.ref a] h = some (.val (.int ws.length)) := by simp [lenF, orC, C1, lenL, onItems, itemsO, e]
@[simp] theorem o_intI : C1 int1 [.int i] h = some (.val (.int i)) := rfl
@[simp] theorem o_intB {c : Bool} : C1 int1 [.bl c] h = some (.val (.int (if c then 1 else 0))) := rfl
@[simp] theorem o_tupT : C1 tup1 [.tup ws] h = some (.val (.tup ws)) := rfl
theorem o_tupL (e : h a = some (.lst ws)) : C1 tup1 [.ref a] h = some (.val (.tup ws)) := by simp [C1, tup1, onItems, itemsO, e]
@[simp] theorem o_lstT : C1 list1 [.tup ws] h = some (.new (.lst ws)) := rfl
theorem o_lstL (e : h a = some (.lst ws)) : C1 list1 [.ref a] h = some (.new (.lst ws)) := by simp [C1, list1, onItems, itemsO, e]
theorem o_sum {ns : List Int} (e : h a = some (.lst (ns.map .int))) : C1 sum1 [.ref a] h = some (.val (.int ns.sum)) := by simp [C1, sum1, lstO, e, intsOf_map]
theorem o_sortT {ns : List Int} : C1 sorted1 [.tup (ns.map .int)] h = some (.new (.lst ((sortI ns).map .int))) := by simp [C1, sorted1, itemsO, intsOf_map]
/-! ### loops' sources -/
variable {Q : List Wv → (WH → Prop) → WH → Prop} {E : WX} {ρ : Wen} {te ta tb : TWE}
@[simp] theorem s_seq : wISeq te ρ h Q E = te ρ h (fun w h1 => onSeq Q id w h1) E := rfl
@[simp] theorem s_enum : wIEnum te ρ h Q E = te ρ h (fun w h1 => onSeq Q (enumW 0) w h1) E := rfl
@[simp] theorem s_onT {f : List Wv → List Wv} : onSeq Q f (.tup ws) h = Q (f ws) (fun _ => True) h := rfl
theorem s_onL {f : List Wv → List Wv} (e : h a = some (.lst ws)) : onSeq Q f (.ref a) h = Q (f ws) (fun h => h a = some (.lst ws)) h := by simp [onSeq, itemsO, e, keepO]
@[simp] theorem s_rng1 : wIRng1 te ρ h Q E = te ρ h (fun w h1 => match w with
  | .int j => rgOk j = true ∧ Q (rgW 0 j) (fun _ => True) h1
  | _ => False) E := rfl
@[simp] theorem s_rng2 : wIRng2 ta tb ρ h Q E = ta ρ h (fun w h1 => tb ρ h1 (fun u h2 => match w, u with
  | .int i, .int j => (rgOk i = true ∧ rgOk j = true) ∧ Q (rgW i j) (fun _ => True) h2
  | _, _ => False) E) E := rfl
@[simp] theorem s_zip : wIZip ta tb ρ h Q E = ta ρ h (fun w h1 => tb ρ h1 (fun u h2 => onZip Q w u h2) E) E := rfl
@[simp] theorem s_zipT : onZip Q (.tup xs) (.tup ys) h = Q (zipW xs ys) (fun _ => True) h := rfl
theorem s_zipL (e : h a = some (.lst xs)) (e' : h b = some (.lst ys)) : onZip Q (.ref a) (.ref b) h = Q (zipW xs ys) (fun h => h a = some (.lst xs) ∧ h b = some (.lst ys)) h := by simp [onZip, e, e']
/-! ### targets -/
variable {p : Pat} {ps : List Pat} {i' : Nat} {QS : Wen → WH → Prop}
@[simp] theorem g_nm : bindW (.nm i') w ρ = some (ρ.set i' (some w)) := rfl
@[simp] theorem g_tp : bindW (.tp ps) (.tup ws) ρ = bindWs ps ws ρ := rfl
@[simp] theorem g_nil : bindWs [] [] ρ = some ρ := rfl
@[simp] theorem g_cons : bindWs (p :: ps) (w :: ws) ρ = (bindW p w ρ).bind fun ρ' => bindWs ps ws ρ' := rfl
@[simp] theorem g_sub {to ti : TWE} : wgSub to ti w ρ h QS = to ρ h (fun o h1 => ti ρ h1 (fun i h2 => match setW o i w h2 with
  | some (a, ob) => QS ρ (wup h2 a ob)
  | none => False) fun _ _ _ _ => False) fun _ _ _ _ => False := rfl
theorem o_setL {n : Nat} (e : h a = some (.lst ws)) (l : n < ws.length) : setW (.ref a) (.int (n : Nat)) w h = some (a, .lst (ws.set n w)) := by simp [setW, e, setO, ixN, l]
theorem o_setK {kvs : List (Key × Wv)} {k : Wv} {x : Key} (e : h a = some (.dK kvs)) (ek : keyK k = some x) (l : kvs.length < sizeLine) : setW (.ref a) k w h = some (a, .dK (putA x w kvs)) := by simp [setW, e, setO, ek, l]
theorem o_setD {kvs : List (List Key × Wv)} {ks : List Wv} {x : List Key} (e : h a = some (.dT kvs)) (ek : keysT ks = some x) (l : kvs.length < sizeLine) : setW (.ref a) (.tup ks) w h = some (a, .dT (putA x w kvs)) := by simp [setW, e, setO, ek, l]
theorem o_app (e : h a = some (.lst ws)) : appendM (.ref a) [w] h = if ws.length < sizeLine then some (.put a (.lst (ws ++ [w])) .non) else none := by simp [appendM, lstO, e]
theorem o_ext (e : h a = some (.lst ws)) (e' : h b = some (.lst xs)) : extendM (.ref a) [.ref b] h = if ws.length + xs.length ≤ sizeLine then some (.put a (.lst (ws ++ xs)) .non) else none := by simp [extendM, lstO, e, e']
@[simp] theorem e_newT {QE : WQ} : wNewT ρ h QE E = ∀ p, h p = none → QE (.ref p) (wup h p (.dT [])) := rfl
@[simp] theorem e_wNoPart {QO : Option Int → WH → Prop} : wNoPart ρ h QO E = QO none h := rfl
end
/-- a new place may be written again -/
theorem Ext.put {h h1 : WH} {p : Addr} {o : Wo} (hp : h p = none) (x : Ext h h1) : Ext h (wup h1 p o) := fun a u e => by
  by_cases c : a = p
  · subst c; rw [hp] at e; cases e
  · rw [wup_ne c]; exact x a u e
@[simp] theorem wup_at {h : WH} {a : Addr} {o : Wo} : wup h a o a = some o := wup_same
end Pd
set_option Elab.async false
set_option linter.all false
set_option maxRecDepth 100000
set_option maxHeartbeats 0
namespace Pd
open PySem PySem.Spec PyProof.Rows L2
def top (i : Nat) : Stmt := PySem.Challenge.pw_pairedoff_k35_whole_two_sides_counted.main.body.getD i (.Pass ⟨0, 0, 0, 0⟩)
abbrev s_is_number : Stmt := top 5
abbrev s_is_among : Stmt := top 6
abbrev s_is_tuple_of : Stmt := top 7
abbrev s_is_road : Stmt := top 11
abbrev s_need_net : Stmt := top 12
abbrev s_RoadCounts_xinitx : Stmt := inClass (top 14) 0
abbrev s_RoadCounts_counts : Stmt := inClass (top 14) 1
abbrev s_put_behind : Stmt := top 15
abbrev s_counts_by : Stmt := top 16
abbrev s_whole_count_by : Stmt := top 17
abbrev s_whole_count : Stmt := top 18
abbrev s_counts_by_number : Stmt := top 19
abbrev s_filled_count : Stmt := top 20
abbrev s_need_right_signs : Stmt := top 22
abbrev s_need_signs : Stmt := top 23
abbrev s_SignedSums_xinitx : Stmt := inClass (top 24) 0
abbrev s_SignedSums_total : Stmt := inClass (top 24) 1
abbrev s_signed_sum_by : Stmt := top 25
abbrev s_signed_sum : Stmt := top 26
abbrev s_matrix_by : Stmt := top 27
abbrev s_determinant_by : Stmt := top 28
abbrev s_matrix_determinant : Stmt := top 29
abbrev s_xlaw_begun : Stmt := top 31
abbrev s_xlaw_next : Stmt := top 32
abbrev s_xlaw_of : Stmt := top 33
abbrev s_xlaw_like : Stmt := top 34
abbrev s_xlaw_orders_sum : Stmt := top 35
abbrev s_xlaw_is_odd : Stmt := top 36
abbrev s_xlaw_by_number : Stmt := top 37
abbrev s_xlaw_sides_right : Stmt := top 38
abbrev s_xlaw_product : Stmt := top 39
abbrev s_xlaw_signs_right : Stmt := top 40
abbrev s_law : Stmt := top 41
structure Mf (mg : Str → Option Value) : Prop where
  b_bool : mg "bool" = none
  b_dict : mg "dict" = none
  b_enumerate : mg "enumerate" = none
  b_int : mg "int" = none
  b_isinstance : mg "isinstance" = none
  b_len : mg "len" = none
  b_list : mg "list" = none
  b_range : mg "range" = none
  b_sorted : mg "sorted" = none
  b_str : mg "str" = none
  b_sum : mg "sum" = none
  b_tuple : mg "tuple" = none
  b_zip : mg "zip" = none
  i_MOST_PLACES : ∃ t, mg "MOST_PLACES" = some (.int 14 t)
  i_MOST_ROADS : ∃ t, mg "MOST_ROADS" = some (.int 40 t)
theorem room64 {k : Nat} {A : Around} (hr : Room k A) : A.units + 64 < cLine := by have := hr.un; omega
theorem room1 {k : Nat} {A : Around} (hr : Room k A) : A.units + 1 < cLine := by have := hr.un; omega
section
variable {P : Program} {w : World} {K : PySem.W.Frag} {mg : Str → Option Value} {base : Heap} {f : Addr} {cdv : Value} {A : Around} {outer : List Env} {s : Shared} {H : Hp} {E : XK} {k : Nat}
def N_is_number : List Str := ["thing"]
theorem sc_is_number : FnScope N_is_number ["thing"] (defScope s_is_number) := ⟨rfl, rfl, rfl, by decide +kernel, rfl, by decide +kernel, by decide +kernel⟩
def t_is_number : TWS := wRet (wAndV (wUn (isiF "int") (wVar 0)) (wNotV (wUn (isiF "bool") (wVar 0))))
theorem j_is_number (M : Mf mg)  (hr : Room (k + 1) (A.deeper (envOfC "is_number" (defScope s_is_number) s.heap.objs.size f cdv))) : JSs (Cxt P w K mg base N_is_number "is_number" (defScope s_is_number) f cdv A outer s H E) (ZE E) (defBody s_is_number) (t_is_number ) :=
  have hN : (Cxt P w K mg base N_is_number "is_number" (defScope s_is_number) f cdv A outer s H E).N.Nodup := sc_is_number.nd
  have hu : (Cxt P w K mg base N_is_number "is_number" (defScope s_is_number) f cdv A outer s H E).A.units + 64 < cLine := room64 hr
  have hu1 : (Cxt P w K mg base N_is_number "is_number" (defScope s_is_number) f cdv A outer s H E).A.units + 1 < cLine := room1 hr
  have TK : L2.Takes (Cxt P w K mg base N_is_number "is_number" (defScope s_is_number) f cdv A outer s H E) (ZE E) := takesE
  have hp := passesE (P := P) (w := w) (K := K) (mg := mg) (base := base) (N := N_is_number) (qual := "is_number") (sc := defScope s_is_number) (f := f) (cdv := cdv) (A := A) (outer := outer) (s := s) (H := H) (E := E)
  jss_one (js_ret (jand (jisi (jv 0) M.b_isinstance M.b_int) (jone (jnot (jisi (jv 0) M.b_isinstance M.b_bool)))))
def N_is_among : List Str := ["thing", "least", "most"]
theorem sc_is_among : FnScope N_is_among ["thing", "least", "most"] (defScope s_is_among) := ⟨rfl, rfl, rfl, by decide +kernel, rfl, by decide +kernel, by decide +kernel⟩
def t_is_among (sp_is_number : WSp) : TWS := wRet (wAndV (wCall sp_is_number (wCons (wVar 0) (wNil))) (wChain leI leI (wVar 1) (wVar 0) (wVar 2)))
theorem j_is_among {sp_is_number : WSp} (M : Mf mg) (F_is_number : WFn P w K mg base k "is_number" sp_is_number) (hr : Room (k + 1) (A.deeper (envOfC "is_among" (defScope s_is_among) s.heap.objs.size f cdv))) : JSs (Cxt P w K mg base N_is_among "is_among" (defScope s_is_among) f cdv A outer s H E) (ZE E) (defBody s_is_among) (t_is_among sp_is_number) :=
  have hN : (Cxt P w K mg base N_is_among "is_among" (defScope s_is_among) f cdv A outer s H E).N.Nodup := sc_is_among.nd
  have hu : (Cxt P w K mg base N_is_among "is_among" (defScope s_is_among) f cdv A outer s H E).A.units + 64 < cLine := room64 hr
  have hu1 : (Cxt P w K mg base N_is_among "is_among" (defScope s_is_among) f cdv A outer s H E).A.units + 1 < cLine := room1 hr
  have TK : L2.Takes (Cxt P w K mg base N_is_among "is_among" (defScope s_is_among) f cdv A outer s H E) (ZE E) := takesE
  have hp := passesE (P := P) (w := w) (K := K) (mg := mg) (base := base) (N := N_is_among) (qual := "is_among") (sc := defScope s_is_among) (f := f) (cdv := cdv) (A := A) (outer := outer) (s := s) (H := H) (E := E)
  jss_one (js_ret (jand (jfn F_is_number TK (by exact hr.mono (Nat.le_succ _)) (ja_cons (jv 0) (ja_nil))) (jone ((jlele (jv 1) (jv 0) (jv 2)).je))))
def N_is_tuple_of : List Str := ["thing", "least", "most"]
theorem sc_is_tuple_of : FnScope N_is_tuple_of ["thing", "least", "most"] (defScope s_is_tuple_of) := ⟨rfl, rfl, rfl, by decide +kernel, rfl, by decide +kernel, by decide +kernel⟩
def t_is_tuple_of : TWS := wRet (wAndV (wUn (isiF "tuple") (wVar 0)) (wChain leI leI (wVar 1) (wCB lenF (wCons (wVar 0) (wNil))) (wVar 2)))
theorem j_is_tuple_of (M : Mf mg)  (hr : Room (k + 1) (A.deeper (envOfC "is_tuple_of" (defScope s_is_tuple_of) s.heap.objs.size f cdv))) : JSs (Cxt P w K mg base N_is_tuple_of "is_tuple_of" (defScope s_is_tuple_of) f cdv A outer s H E) (ZE E) (defBody s_is_tuple_of) (t_is_tuple_of ) :=
  have hN : (Cxt P w K mg base N_is_tuple_of "is_tuple_of" (defScope s_is_tuple_of) f cdv A outer s H E).N.Nodup := sc_is_tuple_of.nd
  have hu : (Cxt P w K mg base N_is_tuple_of "is_tuple_of" (defScope s_is_tuple_of) f cdv A outer s H E).A.units + 64 < cLine := room64 hr
  have hu1 : (Cxt P w K mg base N_is_tuple_of "is_tuple_of" (defScope s_is_tuple_of) f cdv A outer s H E).A.units + 1 < cLine := room1 hr
  have TK : L2.Takes (Cxt P w K mg base N_is_tuple_of "is_tuple_of" (defScope s_is_tuple_of) f cdv A outer s H E) (ZE E) := takesE
  have hp := passesE (P := P) (w := w) (K := K) (mg := mg) (base := base) (N := N_is_tuple_of) (qual := "is_tuple_of") (sc := defScope s_is_tuple_of) (f := f) (cdv := cdv) (A := A) (outer := outer) (s := s) (H := H) (E := E)
  jss_one (js_ret (jand (jisi (jv 0) M.b_isinstance M.b_tuple) (jone ((jlele (jv 1) (jlen M.b_len (ja_cons (jv 0) (ja_nil))) (jv 2)).je))))
def N_is_road : List Str := ["thing", "places"]
theorem sc_is_road : FnScope N_is_road ["thing", "places"] (defScope s_is_road) := ⟨rfl, rfl, rfl, by decide +kernel, rfl, by decide +kernel, by decide +kernel⟩
def t_is_road (sp_is_tuple_of sp_is_among : WSp) : TWS := wSeq (wIfS (wOr (wNot (wTest (wCall sp_is_tuple_of (wCons (wVar 0) (wCons (wC (.int 2)) (wCons (wC (.int 2)) (wNil))))))) (wNot (wTest (wCall sp_is_among (wCons (wBin ixF (wVar 0) (wC (.int 0))) (wCons (wC (.int 0)) (wCons (wBin subI (wVar 1) (wC (.int 1))) (wNil)))))))) (wRet (wC (.bl false))) (wNext)) (wRet (wCall sp_is_among (wCons (wBin ixF (wVar 0) (wC (.int 1))) (wCons (wBin addF (wBin ixF (wVar 0) (wC (.int 0))) (wC (.int 1))) (wCons (wBin subI (wVar 1) (wC (.int 1))) (wNil))))))
theorem j_is_road {sp_is_tuple_of sp_is_among : WSp} (M : Mf mg) (F_is_tuple_of : WFn P w K mg base k "is_tuple_of" sp_is_tuple_of) (F_is_among : WFn P w K mg base k "is_among" sp_is_among) (hr : Room (k + 1) (A.deeper (envOfC "is_road" (defScope s_is_road) s.heap.objs.size f cdv))) : JSs (Cxt P w K mg base N_is_road "is_road" (defScope s_is_road) f cdv A outer s H E) (ZE E) (defBody s_is_road) (t_is_road sp_is_tuple_of sp_is_among) :=
  have hN : (Cxt P w K mg base N_is_road "is_road" (defScope s_is_road) f cdv A outer s H E).N.Nodup := sc_is_road.nd
  have hu : (Cxt P w K mg base N_is_road "is_road" (defScope s_is_road) f cdv A outer s H E).A.units + 64 < cLine := room64 hr
  have hu1 : (Cxt P w K mg base N_is_road "is_road" (defScope s_is_road) f cdv A outer s H E).A.units + 1 < cLine := room1 hr
  have TK : L2.Takes (Cxt P w K mg base N_is_road "is_road" (defScope s_is_road) f cdv A outer s H E) (ZE E) := takesE
  have hp := passesE (P := P) (w := w) (K := K) (mg := mg) (base := base) (N := N_is_road) (qual := "is_road") (sc := defScope s_is_road) (f := f) (cdv := cdv) (A := A) (outer := outer) (s := s) (H := H) (E := E)
  jss_cons (js_if ((jw_or (jtnot (jtv (jfn F_is_tuple_of TK (by exact hr.mono (Nat.le_succ _)) (ja_cons (jv 0) (ja_cons (jint) (ja_cons (jint) (ja_nil))))))) (jw_or1 (jtnot (jtv (jfn F_is_among TK (by exact hr.mono (Nat.le_succ _)) (ja_cons (jidx (by exact hu) (jv 0) (jint)) (ja_cons (jint) (ja_cons (jsub (jv 1) (jint)) (ja_nil))))))))).jt) (jss_one (js_ret (jbl))) (jss_nil)) (jss_one (js_ret (jfn F_is_among TK (by exact hr.mono (Nat.le_succ _)) (ja_cons (jidx (by exact hu) (jv 0) (jint)) (ja_cons (jadd (jidx (by exact hu) (jv 0) (jint)) (jint)) (ja_cons (jsub (jv 1) (jint)) (ja_nil)))))))
def N_need_net : List Str := ["net", "known", "number", "road"]
theorem sc_need_net : FnScope N_need_net ["net"] (defScope s_need_net) := ⟨rfl, rfl, rfl, by decide +kernel, rfl, by decide +kernel, by decide +kernel⟩
def t_need_net (sp_is_tuple_of sp_is_among sp_is_road : WSp) : TWS := wSeq (wIfS (wNot (wTest (wCall sp_is_tuple_of (wCons (wVar 0) (wCons (wC (.int 2)) (wCons (wC (.int 2)) (wNil))))))) (wNever) (wNext)) (wSeq (wIfS (wNot (wTest (wCall sp_is_among (wCons (wBin ixF (wVar 0) (wC (.int 0))) (wCons (wC (.int 0)) (wCons (wC (.int 14)) (wNil))))))) (wNever) (wNext)) (wSeq (wIfS (wNot (wTest (wCall sp_is_tuple_of (wCons (wBin ixF (wVar 0) (wC (.int 1))) (wCons (wC (.int 0)) (wCons (wC (.int 40)) (wNil))))))) (wNever) (wNext)) (wSeq (wSet 1 (wNewT)) (wSeq (wFor (wIEnum (wBin ixF (wVar 0) (wC (.int 1)))) (.tp [.nm 2, .nm 3]) (wSeq (wIfS (wOr (wNot (wTest (wCall sp_is_road (wCons (wVar 3) (wCons (wBin ixF (wVar 0) (wC (.int 0))) (wNil)))))) (wTest (wBin (memF false) (wVar 3) (wVar 1)))) (wNever) (wNext)) (wAsg (wC (.bl true)) (wgSub (wVar 1) (wVar 3))))) (wRet (wVar 0))))))
theorem j_need_net {sp_is_tuple_of sp_is_among sp_is_road : WSp} (M : Mf mg) (F_is_tuple_of : WFn P w K mg base k "is_tuple_of" sp_is_tuple_of) (F_is_among : WFn P w K mg base k "is_among" sp_is_among) (F_is_road : WFn P w K mg base k "is_road" sp_is_road) (hr : Room (k + 1) (A.deeper (envOfC "need_net" (defScope s_need_net) s.heap.objs.size f cdv))) : JSs (Cxt P w K mg base N_need_net "need_net" (defScope s_need_net) f cdv A outer s H E) (ZE E) (defBody s_need_net) (t_need_net sp_is_tuple_of sp_is_among sp_is_road) :=
  have hN : (Cxt P w K mg base N_need_net "need_net" (defScope s_need_net) f cdv A outer s H E).N.Nodup := sc_need_net.nd
  have hu : (Cxt P w K mg base N_need_net "need_net" (defScope s_need_net) f cdv A outer s H E).A.units + 64 < cLine := room64 hr
  have hu1 : (Cxt P w K mg base N_need_net "need_net" (defScope s_need_net) f cdv A outer s H E).A.units + 1 < cLine := room1 hr
  have TK : L2.Takes (Cxt P w K mg base N_need_net "need_net" (defScope s_need_net) f cdv A outer s H E) (ZE E) := takesE
  have hp := passesE (P := P) (w := w) (K := K) (mg := mg) (base := base) (N := N_need_net) (qual := "need_net") (sc := defScope s_need_net) (f := f) (cdv := cdv) (A := A) (outer := outer) (s := s) (H := H) (E := E)
  jss_cons (js_if (jtnot (jtv (jfn F_is_tuple_of TK (by exact hr.mono (Nat.le_succ _)) (ja_cons (jv 0) (ja_cons (jint) (ja_cons (jint) (ja_nil))))))) (jss_one (js_never)) (jss_nil)) (jss_cons (js_if (jtnot (jtv (jfn F_is_among TK (by exact hr.mono (Nat.le_succ _)) (ja_cons (jidx (by exact hu) (jv 0) (jint)) (ja_cons (jint) (ja_cons (jgintE M.i_MOST_PLACES) (ja_nil))))))) (jss_one (js_never)) (jss_nil)) (jss_cons (js_if (jtnot (jtv (jfn F_is_tuple_of TK (by exact hr.mono (Nat.le_succ _)) (ja_cons (jidx (by exact hu) (jv 0) (jint)) (ja_cons (jint) (ja_cons (jgintE M.i_MOST_ROADS) (ja_nil))))))) (jss_one (js_never)) (jss_nil)) (jss_cons (js_set hN (i := 1) (jnewT pe_dnewT)) (jss_cons (js_for hp rfl (ji_enum (jidx (by exact hu) (jv 0) (jint)) M.b_enumerate) (jp_tp rfl (jps_cons (jp_nm (by exact hN)) (jps_cons (jp_nm (by exact hN)) (jps_nil)))) (jss_cons (js_if ((jw_or (jtnot (jtv (jfn F_is_road TK (by exact hr.mono (Nat.le_succ _)) (ja_cons (jv 3) (ja_cons (jidx (by exact hu) (jv 0) (jint)) (ja_nil)))))) (jw_or1 ((jin (by exact hu) (jv 3) (jv 1) rfl).jt))).jt) (jss_one (js_never)) (jss_nil)) (jss_one (js_asg (jbl) (jg_sub hu1 (Z := ZE E) (jv 1) (jv 3)))))) (jss_one (js_ret (jv 0)))))))
def N_RoadCounts_xinitx : List Str := ["self", "net", "one", "other", "place"]
theorem sc_RoadCounts_xinitx : FnScope N_RoadCounts_xinitx ["self", "net"] (defScope s_RoadCounts_xinitx) := ⟨rfl, rfl, rfl, by decide +kernel, rfl, by decide +kernel, by decide +kernel⟩
def t_RoadCounts_xinitx (C_RoadCounts : Addr) : TWS := wSeq (wAsg (wLc (wIRng1 (wBin ixF (wVar 1) (wC (.int 0)))) (.nm 4) (wYes) (wLst (wNil)) [4]) (wgFld C_RoadCounts "own_later" (wVar 0))) (wSeq (wFor (wISeq (wBin ixF (wVar 1) (wC (.int 1)))) (.tp [.nm 2, .nm 3]) (wDrop (wBM "list" appendM (wBin ixF (wFld C_RoadCounts "own_later" (wVar 0)) (wVar 2)) (wCons (wVar 3) (wNil))))) (wSeq (wAsg (wTup (wCons (wDisp (wdCons (wC (.int 0)) (wLst (wCons (wC (.int 1)) (wNil))) (wdNil))) (wCons (wLst (wCons (wC (.int 1)) (wNil))) (wNil)))) (wgTup 2 (wgCons (wgFld C_RoadCounts "own_known" (wVar 0)) (wgCons (wgFld C_RoadCounts "own_powers" (wVar 0)) (wgNil))))) (wFor (wIRng1 (wBin ixF (wVar 1) (wC (.int 0)))) (.nm 4) (wDrop (wBM "list" appendM (wFld C_RoadCounts "own_powers" (wVar 0)) (wCons (wBin mulF (wC (.int 2)) (wBin ixF (wFld C_RoadCounts "own_powers" (wVar 0)) (wUn negF (wC (.int 1))))) (wNil)))))))
theorem j_RoadCounts_xinitx {C_RoadCounts : Addr} (M : Mf mg) (W_RoadCounts : WCls P w K mg base "RoadCounts" C_RoadCounts) (n_RoadCounts_own_later : NoAttr K C_RoadCounts "own_later") (n_RoadCounts_own_powers : NoAttr K C_RoadCounts "own_powers") (n_RoadCounts_own_known : NoAttr K C_RoadCounts "own_known") (hr : Room (k + 1) (A.deeper (envOfC "RoadCounts.__init__" (defScope s_RoadCounts_xinitx) s.heap.objs.size f cdv))) : JSs (Cxt P w K mg base N_RoadCounts_xinitx "RoadCounts.__init__" (defScope s_RoadCounts_xinitx) f cdv A outer s H E) (ZE E) (defBody s_RoadCounts_xinitx) (t_RoadCounts_xinitx C_RoadCounts) :=
  have hN : (Cxt P w K mg base N_RoadCounts_xinitx "RoadCounts.__init__" (defScope s_RoadCounts_xinitx) f cdv A outer s H E).N.Nodup := sc_RoadCounts_xinitx.nd
  have hu : (Cxt P w K mg base N_RoadCounts_xinitx "RoadCounts.__init__" (defScope s_RoadCounts_xinitx) f cdv A outer s H E).A.units + 64 < cLine := room64 hr
  have hu1 : (Cxt P w K mg base N_RoadCounts_xinitx "RoadCounts.__init__" (defScope s_RoadCounts_xinitx) f cdv A outer s H E).A.units + 1 < cLine := room1 hr
  have TK : L2.Takes (Cxt P w K mg base N_RoadCounts_xinitx "RoadCounts.__init__" (defScope s_RoadCounts_xinitx) f cdv A outer s H E) (ZE E) := takesE
  have hp := passesE (P := P) (w := w) (K := K) (mg := mg) (base := base) (N := N_RoadCounts_xinitx) (qual := "RoadCounts.__init__") (sc := defScope s_RoadCounts_xinitx) (f := f) (cdv := cdv) (A := A) (outer := outer) (s := s) (H := H) (E := E)
  jss_cons (js_asg (jlc rfl (by exact hN) (ji_rng1 (jidx (by exact hu) (jv 1) (jint)) M.b_range) (own := [("place", 4)]) (by kernel_rfl) (fun _ _ _ _ _ => jp_nm (by exact hN)) (fun _ _ _ _ _ => jts_nil) (fun _ _ _ _ _ => jlst (ja_nil)) (by decide)) (jg_fld (Z := ZE E) W_RoadCounts.cls n_RoadCounts_own_later (jv 0))) (jss_cons (js_for hp rfl (ji_seq (jidx (by exact hu) (jv 1) (jint))) (jp_tp rfl (jps_cons (jp_nm (by exact hN)) (jps_cons (jp_nm (by exact hN)) (jps_nil)))) (jss_one (js_expr (jappend (jidx (by exact hu) (jfld W_RoadCounts.cls n_RoadCounts_own_later (jv 0)) (jv 2)) (ja_cons (jv 3) (ja_nil)))))) (jss_cons (js_asg (jtup (ja_cons (jdisp (jd_cons (jint) (jlst (ja_cons (jint) (ja_nil))) (jd_nil))) (ja_cons (jlst (ja_cons (jint) (ja_nil))) (ja_nil)))) (jg_tup rfl (jgs_cons (jg_fld (Z := ZE E) W_RoadCounts.cls n_RoadCounts_own_known (jv 0)) (jgs_cons (jg_fld (Z := ZE E) W_RoadCounts.cls n_RoadCounts_own_powers (jv 0)) (jgs_nil))))) (jss_one (js_for hp rfl (ji_rng1 (jidx (by exact hu) (jv 1) (jint)) M.b_range) (jp_nm (by exact hN)) (jss_one (js_expr (jappend (jfld W_RoadCounts.cls n_RoadCounts_own_powers (jv 0)) (ja_cons (jmulA (jint) (jidx (by exact hu) (jfld W_RoadCounts.cls n_RoadCounts_own_powers (jv 0)) (jneg (jint)))) (ja_nil)))))))))
def N_RoadCounts_counts : List Str := ["self", "bits", "place", "rest", "found", "other"]
theorem sc_RoadCounts_counts : FnScope N_RoadCounts_counts ["self", "bits", "place"] (defScope s_RoadCounts_counts) := ⟨rfl, rfl, rfl, by decide +kernel, rfl, by decide +kernel, by decide +kernel⟩
def t_RoadCounts_counts (sp_put_behind sp_RoadCounts_counts : WSp) (C_RoadCounts : Addr) : TWS := wSeq (wWhile (wAnd (wTest (wBin gtI (wVar 1) (wC (.int 0)))) (wTest (wBin eqF (wBin modI (wBin divI (wVar 1) (wBin ixF (wFld C_RoadCounts "own_powers" (wVar 0)) (wVar 2))) (wC (.int 2))) (wC (.int 0))))) (wSet 2 (wBin addF (wVar 2) (wC (.int 1))))) (wSeq (wIfS (wTest (wBin (memF true) (wVar 1) (wFld C_RoadCounts "own_known" (wVar 0)))) (wSeq (wSet 3 (wBin subI (wVar 1) (wBin ixF (wFld C_RoadCounts "own_powers" (wVar 0)) (wVar 2)))) (wSeq (wSet 4 (wCB (C1 list1) (wCons (wMeth C_RoadCounts "counts" sp_RoadCounts_counts (wVar 0) (wCons (wVar 3) (wCons (wBin addF (wVar 2) (wC (.int 1))) (wNil)))) (wNil)))) (wSeq (wFor (wISeq (wBin ixF (wFld C_RoadCounts "own_later" (wVar 0)) (wVar 2))) (.nm 5) (wIfS (wTest (wBin eqF (wBin modI (wBin divI (wVar 3) (wBin ixF (wFld C_RoadCounts "own_powers" (wVar 0)) (wVar 5))) (wC (.int 2))) (wC (.int 1)))) (wDrop (wCall sp_put_behind (wCons (wVar 4) (wCons (wMeth C_RoadCounts "counts" sp_RoadCounts_counts (wVar 0) (wCons (wBin subI (wVar 3) (wBin ixF (wFld C_RoadCounts "own_powers" (wVar 0)) (wVar 5))) (wCons (wBin addF (wVar 2) (wC (.int 1))) (wNil)))) (wNil))))) (wNext))) (wAsg (wVar 4) (wgSub (wFld C_RoadCounts "own_known" (wVar 0)) (wVar 1)))))) (wNext)) (wRet (wBin ixF (wFld C_RoadCounts "own_known" (wVar 0)) (wVar 1))))
theorem j_RoadCounts_counts {sp_put_behind sp_RoadCounts_counts : WSp} {C_RoadCounts : Addr} (M : Mf mg) (F_put_behind : WFn P w K mg base k "put_behind" sp_put_behind) (F_RoadCounts_counts : WMet P w K mg base k C_RoadCounts "counts" sp_RoadCounts_counts) (W_RoadCounts : WCls P w K mg base "RoadCounts" C_RoadCounts) (n_RoadCounts_own_powers : NoAttr K C_RoadCounts "own_powers") (n_RoadCounts_own_known : NoAttr K C_RoadCounts "own_known") (n_RoadCounts_own_later : NoAttr K C_RoadCounts "own_later") (hr : Room (k + 1) (A.deeper (envOfC "RoadCounts.counts" (defScope s_RoadCounts_counts) s.heap.objs.size f cdv))) : JSs (Cxt P w K mg base N_RoadCounts_counts "RoadCounts.counts" (defScope s_RoadCounts_counts) f cdv A outer s H E) (ZE E) (defBody s_RoadCounts_counts) (t_RoadCounts_counts sp_put_behind sp_RoadCounts_counts C_RoadCounts) :=
  have hN : (Cxt P w K mg base N_RoadCounts_counts "RoadCounts.counts" (defScope s_RoadCounts_counts) f cdv A outer s H E).N.Nodup := sc_RoadCounts_counts.nd
  have hu : (Cxt P w K mg base N_RoadCounts_counts "RoadCounts.counts" (defScope s_RoadCounts_counts) f cdv A outer s H E).A.units + 64 < cLine := room64 hr
  have hu1 : (Cxt P w K mg base N_RoadCounts_counts "RoadCounts.counts" (defScope s_RoadCounts_counts) f cdv A outer s H E).A.units + 1 < cLine := room1 hr
  have TK : L2.Takes (Cxt P w K mg base N_RoadCounts_counts "RoadCounts.counts" (defScope s_RoadCounts_counts) f cdv A outer s H E) (ZE E) := takesE
  have hp := passesE (P := P) (w := w) (K := K) (mg := mg) (base := base) (N := N_RoadCounts_counts) (qual := "RoadCounts.counts") (sc := defScope s_RoadCounts_counts) (f := f) (cdv := cdv) (A := A) (outer := outer) (s := s) (H := H) (E := E)
  jss_cons (js_while hp ((jw_and ((jgt0 (jv 1) (jint)).jt) (jw_and1 ((jeq (by exact hu) (jmod (jfdiv (jv 1) (jidx (by exact hu) (jfld W_RoadCounts.cls n_RoadCounts_own_powers (jv 0)) (jv 2))) (jint)) (jint)).jt))).jt) (jss_one (js_set hN (i := 2) (jadd (jv 2) (jint))))) (jss_cons (js_if ((jnin (by exact hu) (jv 1) (jfld W_RoadCounts.cls n_RoadCounts_own_known (jv 0)) rfl).jt) (jss_cons (js_set hN (i := 3) (jsub (jv 1) (jidx (by exact hu) (jfld W_RoadCounts.cls n_RoadCounts_own_powers (jv 0)) (jv 2)))) (jss_cons (js_set hN (i := 4) (jlist1 M.b_list (ja_cons (jme W_RoadCounts F_RoadCounts_counts (by exact hr.mono (Nat.le_succ _)) (jv 0) (ja_cons (jv 3) (ja_cons (jadd (jv 2) (jint)) (ja_nil)))) (ja_nil)))) (jss_cons (js_for hp rfl (ji_seq (jidx (by exact hu) (jfld W_RoadCounts.cls n_RoadCounts_own_later (jv 0)) (jv 2))) (jp_nm (by exact hN)) (jss_one (js_if ((jeq (by exact hu) (jmod (jfdiv (jv 3) (jidx (by exact hu) (jfld W_RoadCounts.cls n_RoadCounts_own_powers (jv 0)) (jv 5))) (jint)) (jint)).jt) (jss_one (js_expr (jfn F_put_behind TK (by exact hr.mono (Nat.le_succ _)) (ja_cons (jv 4) (ja_cons (jme W_RoadCounts F_RoadCounts_counts (by exact hr.mono (Nat.le_succ _)) (jv 0) (ja_cons (jsub (jv 3) (jidx (by exact hu) (jfld W_RoadCounts.cls n_RoadCounts_own_powers (jv 0)) (jv 5))) (ja_cons (jadd (jv 2) (jint)) (ja_nil)))) (ja_nil)))))) (jss_nil)))) (jss_one (js_asg (jv 4) (jg_sub hu1 (Z := ZE E) (jfld W_RoadCounts.cls n_RoadCounts_own_known (jv 0)) (jv 1))))))) (jss_nil)) (jss_one (js_ret (jidx (by exact hu) (jfld W_RoadCounts.cls n_RoadCounts_own_known (jv 0)) (jv 1)))))
def N_put_behind : List Str := ["found", "more", "many", "often"]
theorem sc_put_behind : FnScope N_put_behind ["found", "more"] (defScope s_put_behind) := ⟨rfl, rfl, rfl, by decide +kernel, rfl, by decide +kernel, by decide +kernel⟩
def t_put_behind : TWS := wFor (wIEnum (wVar 1)) (.tp [.nm 2, .nm 3]) (wIfS (wTest (wBin eqF (wBin addF (wVar 2) (wC (.int 1))) (wCB lenF (wCons (wVar 0) (wNil))))) (wDrop (wBM "list" appendM (wVar 0) (wCons (wVar 3) (wNil)))) (wAsg (wBin addF (wBin ixF (wVar 0) (wBin addF (wVar 2) (wC (.int 1)))) (wVar 3)) (wgSub (wVar 0) (wBin addF (wVar 2) (wC (.int 1))))))
theorem j_put_behind (M : Mf mg)  (hr : Room (k + 1) (A.deeper (envOfC "put_behind" (defScope s_put_behind) s.heap.objs.size f cdv))) : JSs (Cxt P w K mg base N_put_behind "put_behind" (defScope s_put_behind) f cdv A outer s H E) (ZE E) (defBody s_put_behind) (t_put_behind ) :=
  have hN : (Cxt P w K mg base N_put_behind "put_behind" (defScope s_put_behind) f cdv A outer s H E).N.Nodup := sc_put_behind.nd
  have hu : (Cxt P w K mg base N_put_behind "put_behind" (defScope s_put_behind) f cdv A outer s H E).A.units + 64 < cLine := room64 hr
  have hu1 : (Cxt P w K mg base N_put_behind "put_behind" (defScope s_put_behind) f cdv A outer s H E).A.units + 1 < cLine := room1 hr
  have TK : L2.Takes (Cxt P w K mg base N_put_behind "put_behind" (defScope s_put_behind) f cdv A outer s H E) (ZE E) := takesE
  have hp := passesE (P := P) (w := w) (K := K) (mg := mg) (base := base) (N := N_put_behind) (qual := "put_behind") (sc := defScope s_put_behind) (f := f) (cdv := cdv) (A := A) (outer := outer) (s := s) (H := H) (E := E)
  jss_one (js_for hp rfl (ji_enum (jv 1) M.b_enumerate) (jp_tp rfl (jps_cons (jp_nm (by exact hN)) (jps_cons (jp_nm (by exact hN)) (jps_nil)))) (jss_one (js_if ((jeq (by exact hu) (jadd (jv 2) (jint)) (jlen M.b_len (ja_cons (jv 0) (ja_nil)))).jt) (jss_one (js_expr (jappend (jv 0) (ja_cons (jv 3) (ja_nil))))) (jss_one (js_asg (jadd (jidx (by exact hu) (jv 0) (jadd (jv 2) (jint))) (jv 3)) (jg_sub hu1 (Z := ZE E) (jv 0) (jadd (jv 2) (jint))))))))
def N_counts_by : List Str := ["net", "found"]
theorem sc_counts_by : FnScope N_counts_by ["net"] (defScope s_counts_by) := ⟨rfl, rfl, rfl, by decide +kernel, rfl, by decide +kernel, by decide +kernel⟩
def t_counts_by (sp_RoadCounts_xinitx sp_RoadCounts_counts : WSp) (C_RoadCounts : Addr) : TWS := wSeq (wSet 1 (wMake C_RoadCounts sp_RoadCounts_xinitx (wCons (wVar 0) (wNil)))) (wRet (wMeth C_RoadCounts "counts" sp_RoadCounts_counts (wVar 1) (wCons (wBin subI (wBin ixF (wFld C_RoadCounts "own_powers" (wVar 1)) (wUn negF (wC (.int 1)))) (wC (.int 1))) (wCons (wC (.int 0)) (wNil)))))
theorem j_counts_by {sp_RoadCounts_xinitx sp_RoadCounts_counts : WSp} {C_RoadCounts : Addr} (M : Mf mg) (K_RoadCounts : WMak P w K mg base k "RoadCounts" C_RoadCounts sp_RoadCounts_xinitx) (F_RoadCounts_counts : WMet P w K mg base k C_RoadCounts "counts" sp_RoadCounts_counts) (W_RoadCounts : WCls P w K mg base "RoadCounts" C_RoadCounts) (n_RoadCounts_own_powers : NoAttr K C_RoadCounts "own_powers") (hr : Room (k + 1) (A.deeper (envOfC "counts_by" (defScope s_counts_by) s.heap.objs.size f cdv))) : JSs (Cxt P w K mg base N_counts_by "counts_by" (defScope s_counts_by) f cdv A outer s H E) (ZE E) (defBody s_counts_by) (t_counts_by sp_RoadCounts_xinitx sp_RoadCounts_counts C_RoadCounts) :=
  have hN : (Cxt P w K mg base N_counts_by "counts_by" (defScope s_counts_by) f cdv A outer s H E).N.Nodup := sc_counts_by.nd
  have hu : (Cxt P w K mg base N_counts_by "counts_by" (defScope s_counts_by) f cdv A outer s H E).A.units + 64 < cLine := room64 hr
  have hu1 : (Cxt P w K mg base N_counts_by "counts_by" (defScope s_counts_by) f cdv A outer s H E).A.units + 1 < cLine := room1 hr
  have TK : L2.Takes (Cxt P w K mg base N_counts_by "counts_by" (defScope s_counts_by) f cdv A outer s H E) (ZE E) := takesE
  have hp := passesE (P := P) (w := w) (K := K) (mg := mg) (base := base) (N := N_counts_by) (qual := "counts_by") (sc := defScope s_counts_by) (f := f) (cdv := cdv) (A := A) (outer := outer) (s := s) (H := H) (E := E)
  jss_cons (js_set hN (i := 1) (jmk K_RoadCounts (by exact hr) (ja_cons (jv 0) (ja_nil)))) (jss_one (js_ret (jme W_RoadCounts F_RoadCounts_counts (by exact hr.mono (Nat.le_succ _)) (jv 1) (ja_cons (jsub (jidx (by exact hu) (jfld W_RoadCounts.cls n_RoadCounts_own_powers (jv 1)) (jneg (jint))) (jint)) (ja_cons (jint) (ja_nil))))))
def N_whole_count_by : List Str := ["net", "found"]
theorem sc_whole_count_by : FnScope N_whole_count_by ["net"] (defScope s_whole_count_by) := ⟨rfl, rfl, rfl, by decide +kernel, rfl, by decide +kernel, by decide +kernel⟩
def t_whole_count_by (sp_counts_by : WSp) : TWS := wSeq (wSet 1 (wCall sp_counts_by (wCons (wVar 0) (wNil)))) (wRet (wIf (wAnd (wTest (wBin eqF (wBin modI (wBin ixF (wVar 0) (wC (.int 0))) (wC (.int 2))) (wC (.int 0)))) (wTest (wBin gtI (wCB lenF (wCons (wVar 1) (wNil))) (wBin divI (wBin ixF (wVar 0) (wC (.int 0))) (wC (.int 2)))))) (wBin ixF (wVar 1) (wBin divI (wBin ixF (wVar 0) (wC (.int 0))) (wC (.int 2)))) (wC (.int 0))))
theorem j_whole_count_by {sp_counts_by : WSp} (M : Mf mg) (F_counts_by : WFn P w K mg base k "counts_by" sp_counts_by) (hr : Room (k + 1) (A.deeper (envOfC "whole_count_by" (defScope s_whole_count_by) s.heap.objs.size f cdv))) : JSs (Cxt P w K mg base N_whole_count_by "whole_count_by" (defScope s_whole_count_by) f cdv A outer s H E) (ZE E) (defBody s_whole_count_by) (t_whole_count_by sp_counts_by) :=
  have hN : (Cxt P w K mg base N_whole_count_by "whole_count_by" (defScope s_whole_count_by) f cdv A outer s H E).N.Nodup := sc_whole_count_by.nd
  have hu : (Cxt P w K mg base N_whole_count_by "whole_count_by" (defScope s_whole_count_by) f cdv A outer s H E).A.units + 64 < cLine := room64 hr
  have hu1 : (Cxt P w K mg base N_whole_count_by "whole_count_by" (defScope s_whole_count_by) f cdv A outer s H E).A.units + 1 < cLine := room1 hr
  have TK : L2.Takes (Cxt P w K mg base N_whole_count_by "whole_count_by" (defScope s_whole_count_by) f cdv A outer s H E) (ZE E) := takesE
  have hp := passesE (P := P) (w := w) (K := K) (mg := mg) (base := base) (N := N_whole_count_by) (qual := "whole_count_by") (sc := defScope s_whole_count_by) (f := f) (cdv := cdv) (A := A) (outer := outer) (s := s) (H := H) (E := E)
  jss_cons (js_set hN (i := 1) (jfn F_counts_by TK (by exact hr.mono (Nat.le_succ _)) (ja_cons (jv 0) (ja_nil)))) (jss_one (js_ret (jif ((jw_and ((jeq (by exact hu) (jmod (jidx (by exact hu) (jv 0) (jint)) (jint)) (jint)).jt) (jw_and1 ((jgt0 (jlen M.b_len (ja_cons (jv 1) (ja_nil))) (jfdiv (jidx (by exact hu) (jv 0) (jint)) (jint))).jt))).jt) (jidx (by exact hu) (jv 1) (jfdiv (jidx (by exact hu) (jv 0) (jint)) (jint))) (jint))))
def N_whole_count : List Str := ["net"]
theorem sc_whole_count : FnScope N_whole_count ["net"] (defScope s_whole_count) := ⟨rfl, rfl, rfl, by decide +kernel, rfl, by decide +kernel, by decide +kernel⟩
def t_whole_count (sp_need_net sp_whole_count_by : WSp) : TWS := wRet (wCall sp_whole_count_by (wCons (wCall sp_need_net (wCons (wVar 0) (wNil))) (wNil)))
theorem j_whole_count {sp_need_net sp_whole_count_by : WSp} (M : Mf mg) (F_need_net : WFn P w K mg base k "need_net" sp_need_net) (F_whole_count_by : WFn P w K mg base k "whole_count_by" sp_whole_count_by) (hr : Room (k + 1) (A.deeper (envOfC "whole_count" (defScope s_whole_count) s.heap.objs.size f cdv))) : JSs (Cxt P w K mg base N_whole_count "whole_count" (defScope s_whole_count) f cdv A outer s H E) (ZE E) (defBody s_whole_count) (t_whole_count sp_need_net sp_whole_count_by) :=
  have hN : (Cxt P w K mg base N_whole_count "whole_count" (defScope s_whole_count) f cdv A outer s H E).N.Nodup := sc_whole_count.nd
  have hu : (Cxt P w K mg base N_whole_count "whole_count" (defScope s_whole_count) f cdv A outer s H E).A.units + 64 < cLine := room64 hr
  have hu1 : (Cxt P w K mg base N_whole_count "whole_count" (defScope s_whole_count) f cdv A outer s H E).A.units + 1 < cLine := room1 hr
  have TK : L2.Takes (Cxt P w K mg base N_whole_count "whole_count" (defScope s_whole_count) f cdv A outer s H E) (ZE E) := takesE
  have hp := passesE (P := P) (w := w) (K := K) (mg := mg) (base := base) (N := N_whole_count) (qual := "whole_count") (sc := defScope s_whole_count) (f := f) (cdv := cdv) (A := A) (outer := outer) (s := s) (H := H) (E := E)
  jss_one (js_ret (jfn F_whole_count_by TK (by exact hr.mono (Nat.le_succ _)) (ja_cons (jfn F_need_net TK (by exact hr.mono (Nat.le_succ _)) (ja_cons (jv 0) (ja_nil))) (ja_nil))))
def N_counts_by_number : List Str := ["net"]
theorem sc_counts_by_number : FnScope N_counts_by_number ["net"] (defScope s_counts_by_number) := ⟨rfl, rfl, rfl, by decide +kernel, rfl, by decide +kernel, by decide +kernel⟩
def t_counts_by_number (sp_need_net sp_counts_by : WSp) : TWS := wRet (wCB (C1 tup1) (wCons (wCall sp_counts_by (wCons (wCall sp_need_net (wCons (wVar 0) (wNil))) (wNil))) (wNil)))
theorem j_counts_by_number {sp_need_net sp_counts_by : WSp} (M : Mf mg) (F_need_net : WFn P w K mg base k "need_net" sp_need_net) (F_counts_by : WFn P w K mg base k "counts_by" sp_counts_by) (hr : Room (k + 1) (A.deeper (envOfC "counts_by_number" (defScope s_counts_by_number) s.heap.objs.size f cdv))) : JSs (Cxt P w K mg base N_counts_by_number "counts_by_number" (defScope s_counts_by_number) f cdv A outer s H E) (ZE E) (defBody s_counts_by_number) (t_counts_by_number sp_need_net sp_counts_by) :=
  have hN : (Cxt P w K mg base N_counts_by_number "counts_by_number" (defScope s_counts_by_number) f cdv A outer s H E).N.Nodup := sc_counts_by_number.nd
  have hu : (Cxt P w K mg base N_counts_by_number "counts_by_number" (defScope s_counts_by_number) f cdv A outer s H E).A.units + 64 < cLine := room64 hr
  have hu1 : (Cxt P w K mg base N_counts_by_number "counts_by_number" (defScope s_counts_by_number) f cdv A outer s H E).A.units + 1 < cLine := room1 hr
  have TK : L2.Takes (Cxt P w K mg base N_counts_by_number "counts_by_number" (defScope s_counts_by_number) f cdv A outer s H E) (ZE E) := takesE
  have hp := passesE (P := P) (w := w) (K := K) (mg := mg) (base := base) (N := N_counts_by_number) (qual := "counts_by_number") (sc := defScope s_counts_by_number) (f := f) (cdv := cdv) (A := A) (outer := outer) (s := s) (H := H) (E := E)
  jss_one (js_ret (jtuple1 M.b_tuple (ja_cons (jfn F_counts_by TK (by exact hr.mono (Nat.le_succ _)) (ja_cons (jfn F_need_net TK (by exact hr.mono (Nat.le_succ _)) (ja_cons (jv 0) (ja_nil))) (ja_nil))) (ja_nil))))
def N_filled_count : List Str := ["net", "total", "sign", "many", "often", "odd", "number"]
theorem sc_filled_count : FnScope N_filled_count ["net"] (defScope s_filled_count) := ⟨rfl, rfl, rfl, by decide +kernel, rfl, by decide +kernel, by decide +kernel⟩
def t_filled_count (sp_need_net sp_counts_by : WSp) : TWS := wSeq (wDrop (wCall sp_need_net (wCons (wVar 0) (wNil)))) (wSeq (wIfS (wTest (wBin eqF (wBin modI (wBin ixF (wVar 0) (wC (.int 0))) (wC (.int 2))) (wC (.int 1)))) (wRet (wC (.int 0))) (wNext)) (wSeq (wAsg (wTup (wCons (wC (.int 0)) (wCons (wC (.int 1)) (wNil)))) (wgTup 2 (wgCons (wgP (.nm 1)) (wgCons (wgP (.nm 2)) (wgNil))))) (wSeq (wFor (wIEnum (wCall sp_counts_by (wCons (wVar 0) (wNil)))) (.tp [.nm 3, .nm 4]) (wSeq (wSet 5 (wC (.int 1))) (wSeq (wFor (wIRng3 (wC (.int 1)) (wBin subI (wBin ixF (wVar 0) (wC (.int 0))) (wBin mulF (wC (.int 2)) (wVar 3))) (wC (.int 2))) (.nm 6) (wSet 5 (wBin mulF (wVar 5) (wVar 6)))) (wPar 1 2 (wCons (wBin addF (wVar 1) (wBin mulF (wBin mulF (wVar 2) (wVar 4)) (wVar 5))) (wCons (wUn negF (wVar 2)) (wNil))))))) (wRet (wVar 1)))))
theorem j_filled_count {sp_need_net sp_counts_by : WSp} (M : Mf mg) (F_need_net : WFn P w K mg base k "need_net" sp_need_net) (F_counts_by : WFn P w K mg base k "counts_by" sp_counts_by) (hr : Room (k + 1) (A.deeper (envOfC "filled_count" (defScope s_filled_count) s.heap.objs.size f cdv))) : JSs (Cxt P w K mg base N_filled_count "filled_count" (defScope s_filled_count) f cdv A outer s H E) (ZE E) (defBody s_filled_count) (t_filled_count sp_need_net sp_counts_by) :=
  have hN : (Cxt P w K mg base N_filled_count "filled_count" (defScope s_filled_count) f cdv A outer s H E).N.Nodup := sc_filled_count.nd
  have hu : (Cxt P w K mg base N_filled_count "filled_count" (defScope s_filled_count) f cdv A outer s H E).A.units + 64 < cLine := room64 hr
  have hu1 : (Cxt P w K mg base N_filled_count "filled_count" (defScope s_filled_count) f cdv A outer s H E).A.units + 1 < cLine := room1 hr
  have TK : L2.Takes (Cxt P w K mg base N_filled_count "filled_count" (defScope s_filled_count) f cdv A outer s H E) (ZE E) := takesE
  have hp := passesE (P := P) (w := w) (K := K) (mg := mg) (base := base) (N := N_filled_count) (qual := "filled_count") (sc := defScope s_filled_count) (f := f) (cdv := cdv) (A := A) (outer := outer) (s := s) (H := H) (E := E)
  jss_cons (js_expr (jfn F_need_net TK (by exact hr.mono (Nat.le_succ _)) (ja_cons (jv 0) (ja_nil)))) (jss_cons (js_if ((jeq (by exact hu) (jmod (jidx (by exact hu) (jv 0) (jint)) (jint)) (jint)).jt) (jss_one (js_ret (jint))) (jss_nil)) (jss_cons (js_asg (jtup (ja_cons (jint) (ja_cons (jint) (ja_nil)))) (jg_tup rfl (jgs_cons (jg_pat (jp_nm (by exact hN))) (jgs_cons (jg_pat (jp_nm (by exact hN))) (jgs_nil))))) (jss_cons (js_for hp rfl (ji_enum (jfn F_counts_by TK (by exact hr.mono (Nat.le_succ _)) (ja_cons (jv 0) (ja_nil))) M.b_enumerate) (jp_tp rfl (jps_cons (jp_nm (by exact hN)) (jps_cons (jp_nm (by exact hN)) (jps_nil)))) (jss_cons (js_set hN (i := 5) (jint)) (jss_cons (js_for hp rfl (ji_rng3 (jint) (jsub (jidx (by exact hu) (jv 0) (jint)) (jmulA (jint) (jv 3))) (jint) M.b_range) (jp_nm (by exact hN)) (jss_one (js_set hN (i := 5) (jmulA (jv 5) (jv 6))))) (jss_one (js_par (i := 1) (j := 2) rfl hN (ja_cons (jadd (jv 1) (jmulA (jmulA (jv 2) (jv 4)) (jv 5))) (ja_cons (jneg (jv 2)) (ja_nil)))))))) (jss_one (js_ret (jv 1))))))
def N_need_right_signs : List Str := ["net", "signs", "number", "sign"]
theorem sc_need_right_signs : FnScope N_need_right_signs ["net", "signs"] (defScope s_need_right_signs) := ⟨rfl, rfl, rfl, by decide +kernel, rfl, by decide +kernel, by decide +kernel⟩
def t_need_right_signs (sp_is_tuple_of sp_is_number : WSp) : TWS := wSeq (wIfS (wNot (wTest (wCall sp_is_tuple_of (wCons (wVar 1) (wCons (wCB lenF (wCons (wBin ixF (wVar 0) (wC (.int 1))) (wNil))) (wCons (wCB lenF (wCons (wBin ixF (wVar 0) (wC (.int 1))) (wNil))) (wNil))))))) (wNever) (wNext)) (wFor (wIEnum (wVar 1)) (.tp [.nm 2, .nm 3]) (wIfS (wOr (wNot (wTest (wCall sp_is_number (wCons (wVar 3) (wNil))))) (wTest (wBin (memF true) (wVar 3) (wTup (wCons (wC (.int 1)) (wCons (wUn negF (wC (.int 1))) (wNil))))))) (wNever) (wNext)))
theorem j_need_right_signs {sp_is_tuple_of sp_is_number : WSp} (M : Mf mg) (F_is_tuple_of : WFn P w K mg base k "is_tuple_of" sp_is_tuple_of) (F_is_number : WFn P w K mg base k "is_number" sp_is_number) (hr : Room (k + 1) (A.deeper (envOfC "need_right_signs" (defScope s_need_right_signs) s.heap.objs.size f cdv))) : JSs (Cxt P w K mg base N_need_right_signs "need_right_signs" (defScope s_need_right_signs) f cdv A outer s H E) (ZE E) (defBody s_need_right_signs) (t_need_right_signs sp_is_tuple_of sp_is_number) :=
  have hN : (Cxt P w K mg base N_need_right_signs "need_right_signs" (defScope s_need_right_signs) f cdv A outer s H E).N.Nodup := sc_need_right_signs.nd
  have hu : (Cxt P w K mg base N_need_right_signs "need_right_signs" (defScope s_need_right_signs) f cdv A outer s H E).A.units + 64 < cLine := room64 hr
  have hu1 : (Cxt P w K mg base N_need_right_signs "need_right_signs" (defScope s_need_right_signs) f cdv A outer s H E).A.units + 1 < cLine := room1 hr
  have TK : L2.Takes (Cxt P w K mg base N_need_right_signs "need_right_signs" (defScope s_need_right_signs) f cdv A outer s H E) (ZE E) := takesE
  have hp := passesE (P := P) (w := w) (K := K) (mg := mg) (base := base) (N := N_need_right_signs) (qual := "need_right_signs") (sc := defScope s_need_right_signs) (f := f) (cdv := cdv) (A := A) (outer := outer) (s := s) (H := H) (E := E)
  jss_cons (js_if (jtnot (jtv (jfn F_is_tuple_of TK (by exact hr.mono (Nat.le_succ _)) (ja_cons (jv 1) (ja_cons (jlen M.b_len (ja_cons (jidx (by exact hu) (jv 0) (jint)) (ja_nil))) (ja_cons (jlen M.b_len (ja_cons (jidx (by exact hu) (jv 0) (jint)) (ja_nil))) (ja_nil))))))) (jss_one (js_never)) (jss_nil)) (jss_one (js_for hp rfl (ji_enum (jv 1) M.b_enumerate) (jp_tp rfl (jps_cons (jp_nm (by exact hN)) (jps_cons (jp_nm (by exact hN)) (jps_nil)))) (jss_one (js_if ((jw_or (jtnot (jtv (jfn F_is_number TK (by exact hr.mono (Nat.le_succ _)) (ja_cons (jv 3) (ja_nil))))) (jw_or1 ((jnin (by exact hu) (jv 3) (jtup (ja_cons (jint) (ja_cons (jneg (jint)) (ja_nil)))) rfl).jt))).jt) (jss_one (js_never)) (jss_nil)))))
def N_need_signs : List Str := ["net", "signs"]
theorem sc_need_signs : FnScope N_need_signs ["net", "signs"] (defScope s_need_signs) := ⟨rfl, rfl, rfl, by decide +kernel, rfl, by decide +kernel, by decide +kernel⟩
def t_need_signs (sp_need_net sp_need_right_signs : WSp) : TWS := wSeq (wDrop (wCall sp_need_right_signs (wCons (wCall sp_need_net (wCons (wVar 0) (wNil))) (wCons (wVar 1) (wNil))))) (wRet (wVar 1))
theorem j_need_signs {sp_need_net sp_need_right_signs : WSp} (M : Mf mg) (F_need_net : WFn P w K mg base k "need_net" sp_need_net) (F_need_right_signs : WFn P w K mg base k "need_right_signs" sp_need_right_signs) (hr : Room (k + 1) (A.deeper (envOfC "need_signs" (defScope s_need_signs) s.heap.objs.size f cdv))) : JSs (Cxt P w K mg base N_need_signs "need_signs" (defScope s_need_signs) f cdv A outer s H E) (ZE E) (defBody s_need_signs) (t_need_signs sp_need_net sp_need_right_signs) :=
  have hN : (Cxt P w K mg base N_need_signs "need_signs" (defScope s_need_signs) f cdv A outer s H E).N.Nodup := sc_need_signs.nd
  have hu : (Cxt P w K mg base N_need_signs "need_signs" (defScope s_need_signs) f cdv A outer s H E).A.units + 64 < cLine := room64 hr
  have hu1 : (Cxt P w K mg base N_need_signs "need_signs" (defScope s_need_signs) f cdv A outer s H E).A.units + 1 < cLine := room1 hr
  have TK : L2.Takes (Cxt P w K mg base N_need_signs "need_signs" (defScope s_need_signs) f cdv A outer s H E) (ZE E) := takesE
  have hp := passesE (P := P) (w := w) (K := K) (mg := mg) (base := base) (N := N_need_signs) (qual := "need_signs") (sc := defScope s_need_signs) (f := f) (cdv := cdv) (A := A) (outer := outer) (s := s) (H := H) (E := E)
  jss_cons (js_expr (jfn F_need_right_signs TK (by exact hr.mono (Nat.le_succ _)) (ja_cons (jfn F_need_net TK (by exact hr.mono (Nat.le_succ _)) (ja_cons (jv 0) (ja_nil))) (ja_cons (jv 1) (ja_nil))))) (jss_one (js_ret (jv 1)))
def N_SignedSums_xinitx : List Str := ["self", "net", "signs"]
theorem sc_SignedSums_xinitx : FnScope N_SignedSums_xinitx ["self", "net", "signs"] (defScope s_SignedSums_xinitx) := ⟨rfl, rfl, rfl, by decide +kernel, rfl, by decide +kernel, by decide +kernel⟩
def t_SignedSums_xinitx (C_SignedSums : Addr) : TWS := wAsg (wTup (wCons (wDictZip (wBin ixF (wVar 1) (wC (.int 1))) (wVar 2)) (wCons (wDisp1T (wTup (wNil)) (wC (.int 1))) (wNil)))) (wgTup 2 (wgCons (wgFld C_SignedSums "own_signs" (wVar 0)) (wgCons (wgFld C_SignedSums "own_known" (wVar 0)) (wgNil))))
theorem j_SignedSums_xinitx {C_SignedSums : Addr} (M : Mf mg) (W_SignedSums : WCls P w K mg base "SignedSums" C_SignedSums) (n_SignedSums_own_known : NoAttr K C_SignedSums "own_known") (n_SignedSums_own_signs : NoAttr K C_SignedSums "own_signs") (hr : Room (k + 1) (A.deeper (envOfC "SignedSums.__init__" (defScope s_SignedSums_xinitx) s.heap.objs.size f cdv))) : JSs (Cxt P w K mg base N_SignedSums_xinitx "SignedSums.__init__" (defScope s_SignedSums_xinitx) f cdv A outer s H E) (ZE E) (defBody s_SignedSums_xinitx) (t_SignedSums_xinitx C_SignedSums) :=
  have hN : (Cxt P w K mg base N_SignedSums_xinitx "SignedSums.__init__" (defScope s_SignedSums_xinitx) f cdv A outer s H E).N.Nodup := sc_SignedSums_xinitx.nd
  have hu : (Cxt P w K mg base N_SignedSums_xinitx "SignedSums.__init__" (defScope s_SignedSums_xinitx) f cdv A outer s H E).A.units + 64 < cLine := room64 hr
  have hu1 : (Cxt P w K mg base N_SignedSums_xinitx "SignedSums.__init__" (defScope s_SignedSums_xinitx) f cdv A outer s H E).A.units + 1 < cLine := room1 hr
  have TK : L2.Takes (Cxt P w K mg base N_SignedSums_xinitx "SignedSums.__init__" (defScope s_SignedSums_xinitx) f cdv A outer s H E) (ZE E) := takesE
  have hp := passesE (P := P) (w := w) (K := K) (mg := mg) (base := base) (N := N_SignedSums_xinitx) (qual := "SignedSums.__init__") (sc := defScope s_SignedSums_xinitx) (f := f) (cdv := cdv) (A := A) (outer := outer) (s := s) (H := H) (E := E)
  jss_one (js_asg (jtup (ja_cons (jdictzip (by exact hu) rfl (jidx (by exact hu) (jv 1) (jint)) (jv 2) M.b_dict M.b_zip) (ja_cons (jdisp1T (by exact hu) (jtup (ja_nil)) (jint)) (ja_nil)))) (jg_tup rfl (jgs_cons (jg_fld (Z := ZE E) W_SignedSums.cls n_SignedSums_own_signs (jv 0)) (jgs_cons (jg_fld (Z := ZE E) W_SignedSums.cls n_SignedSums_own_known (jv 0)) (jgs_nil)))))
def N_SignedSums_total : List Str := ["self", "places", "found", "turn", "spot", "other", "sign"]
theorem sc_SignedSums_total : FnScope N_SignedSums_total ["self", "places"] (defScope s_SignedSums_total) := ⟨rfl, rfl, rfl, by decide +kernel, rfl, by decide +kernel, by decide +kernel⟩
def t_SignedSums_total (sp_SignedSums_total : WSp) (C_SignedSums : Addr) : TWS := wSeq (wIfS (wTest (wBin (memF true) (wVar 1) (wFld C_SignedSums "own_known" (wVar 0)))) (wSeq (wAsg (wTup (wCons (wC (.int 0)) (wCons (wC (.int 1)) (wNil)))) (wgTup 2 (wgCons (wgP (.nm 2)) (wgCons (wgP (.nm 3)) (wgNil))))) (wSeq (wFor (wIEnum (wSl (wVar 1) (wPart (wC (.int 1))) (wNoPart))) (.tp [.nm 4, .nm 5]) (wSeq (wSet 6 (wGet2 (wFld C_SignedSums "own_signs" (wVar 0)) (wTup (wCons (wBin ixF (wVar 1) (wC (.int 0))) (wCons (wVar 5) (wNil)))) (wC (.int 0)))) (wSeq (wIfS (wTest (wBin neF (wVar 6) (wC (.int 0)))) (wSet 2 (wBin addF (wVar 2) (wBin mulF (wBin mulF (wVar 3) (wVar 6)) (wMeth C_SignedSums "total" sp_SignedSums_total (wVar 0) (wCons (wBin addF (wSl (wVar 1) (wPart (wC (.int 1))) (wPart (wBin addF (wVar 4) (wC (.int 1))))) (wSl (wVar 1) (wPart (wBin addF (wVar 4) (wC (.int 2)))) (wNoPart))) (wNil)))))) (wNext)) (wSet 3 (wUn negF (wVar 3)))))) (wAsg (wVar 2) (wgSub (wFld C_SignedSums "own_known" (wVar 0)) (wVar 1))))) (wNext)) (wRet (wBin ixF (wFld C_SignedSums "own_known" (wVar 0)) (wVar 1)))
theorem j_SignedSums_total {sp_SignedSums_total : WSp} {C_SignedSums : Addr} (M : Mf mg) (F_SignedSums_total : WMet P w K mg base k C_SignedSums "total" sp_SignedSums_total) (W_SignedSums : WCls P w K mg base "SignedSums" C_SignedSums) (n_SignedSums_own_known : NoAttr K C_SignedSums "own_known") (n_SignedSums_own_signs : NoAttr K C_SignedSums "own_signs") (hr : Room (k + 1) (A.deeper (envOfC "SignedSums.total" (defScope s_SignedSums_total) s.heap.objs.size f cdv))) : JSs (Cxt P w K mg base N_SignedSums_total "SignedSums.total" (defScope s_SignedSums_total) f cdv A outer s H E) (ZE E) (defBody s_SignedSums_total) (t_SignedSums_total sp_SignedSums_total C_SignedSums) :=
  have hN : (Cxt P w K mg base N_SignedSums_total "SignedSums.total" (defScope s_SignedSums_total) f cdv A outer s H E).N.Nodup := sc_SignedSums_total.nd
  have hu : (Cxt P w K mg base N_SignedSums_total "SignedSums.total" (defScope s_SignedSums_total) f cdv A outer s H E).A.units + 64 < cLine := room64 hr
  have hu1 : (Cxt P w K mg base N_SignedSums_total "SignedSums.total" (defScope s_SignedSums_total) f cdv A outer s H E).A.units + 1 < cLine := room1 hr
  have TK : L2.Takes (Cxt P w K mg base N_SignedSums_total "SignedSums.total" (defScope s_SignedSums_total) f cdv A outer s H E) (ZE E) := takesE
  have hp := passesE (P := P) (w := w) (K := K) (mg := mg) (base := base) (N := N_SignedSums_total) (qual := "SignedSums.total") (sc := defScope s_SignedSums_total) (f := f) (cdv := cdv) (A := A) (outer := outer) (s := s) (H := H) (E := E)
  jss_cons (js_if ((jnin (by exact hu) (jv 1) (jfld W_SignedSums.cls n_SignedSums_own_known (jv 0)) rfl).jt) (jss_cons (js_asg (jtup (ja_cons (jint) (ja_cons (jint) (ja_nil)))) (jg_tup rfl (jgs_cons (jg_pat (jp_nm (by exact hN))) (jgs_cons (jg_pat (jp_nm (by exact hN))) (jgs_nil))))) (jss_cons (js_for hp rfl (ji_enum (jsl (jv 1) (jo_some (jint)) (jo_none)) M.b_enumerate) (jp_tp rfl (jps_cons (jp_nm (by exact hN)) (jps_cons (jp_nm (by exact hN)) (jps_nil)))) (jss_cons (js_set hN (i := 6) (jget2 (by exact hu) (jfld W_SignedSums.cls n_SignedSums_own_signs (jv 0)) (jtup (ja_cons (jidx (by exact hu) (jv 1) (jint)) (ja_cons (jv 5) (ja_nil)))) (jint))) (jss_cons (js_if ((jne (by exact hu) (jv 6) (jint)).jt) (jss_one (js_set hN (i := 2) (jadd (jv 2) (jmulA (jmulA (jv 3) (jv 6)) (jme W_SignedSums F_SignedSums_total (by exact hr.mono (Nat.le_succ _)) (jv 0) (ja_cons (jadd (jsl (jv 1) (jo_some (jint)) (jo_some (jadd (jv 4) (jint)))) (jsl (jv 1) (jo_some (jadd (jv 4) (jint))) (jo_none))) (ja_nil))))))) (jss_nil)) (jss_one (js_set hN (i := 3) (jneg (jv 3))))))) (jss_one (js_asg (jv 2) (jg_sub hu1 (Z := ZE E) (jfld W_SignedSums.cls n_SignedSums_own_known (jv 0)) (jv 1)))))) (jss_nil)) (jss_one (js_ret (jidx (by exact hu) (jfld W_SignedSums.cls n_SignedSums_own_known (jv 0)) (jv 1))))
def N_signed_sum_by : List Str := ["net", "signs"]
theorem sc_signed_sum_by : FnScope N_signed_sum_by ["net", "signs"] (defScope s_signed_sum_by) := ⟨rfl, rfl, rfl, by decide +kernel, rfl, by decide +kernel, by decide +kernel⟩
def t_signed_sum_by (sp_SignedSums_xinitx sp_SignedSums_total : WSp) (C_SignedSums : Addr) : TWS := wRet (wIf (wTest (wBin eqF (wBin modI (wBin ixF (wVar 0) (wC (.int 0))) (wC (.int 2))) (wC (.int 0)))) (wMeth C_SignedSums "total" sp_SignedSums_total (wMake C_SignedSums sp_SignedSums_xinitx (wCons (wVar 0) (wCons (wVar 1) (wNil)))) (wCons (wRgE1 (wBin ixF (wVar 0) (wC (.int 0)))) (wNil))) (wC (.int 0)))
theorem j_signed_sum_by {sp_SignedSums_xinitx sp_SignedSums_total : WSp} {C_SignedSums : Addr} (M : Mf mg) (K_SignedSums : WMak P w K mg base k "SignedSums" C_SignedSums sp_SignedSums_xinitx) (F_SignedSums_total : WMet P w K mg base k C_SignedSums "total" sp_SignedSums_total) (W_SignedSums : WCls P w K mg base "SignedSums" C_SignedSums) (hr : Room (k + 1) (A.deeper (envOfC "signed_sum_by" (defScope s_signed_sum_by) s.heap.objs.size f cdv))) : JSs (Cxt P w K mg base N_signed_sum_by "signed_sum_by" (defScope s_signed_sum_by) f cdv A outer s H E) (ZE E) (defBody s_signed_sum_by) (t_signed_sum_by sp_SignedSums_xinitx sp_SignedSums_total C_SignedSums) :=
  have hN : (Cxt P w K mg base N_signed_sum_by "signed_sum_by" (defScope s_signed_sum_by) f cdv A outer s H E).N.Nodup := sc_signed_sum_by.nd
  have hu : (Cxt P w K mg base N_signed_sum_by "signed_sum_by" (defScope s_signed_sum_by) f cdv A outer s H E).A.units + 64 < cLine := room64 hr
  have hu1 : (Cxt P w K mg base N_signed_sum_by "signed_sum_by" (defScope s_signed_sum_by) f cdv A outer s H E).A.units + 1 < cLine := room1 hr
  have TK : L2.Takes (Cxt P w K mg base N_signed_sum_by "signed_sum_by" (defScope s_signed_sum_by) f cdv A outer s H E) (ZE E) := takesE
  have hp := passesE (P := P) (w := w) (K := K) (mg := mg) (base := base) (N := N_signed_sum_by) (qual := "signed_sum_by") (sc := defScope s_signed_sum_by) (f := f) (cdv := cdv) (A := A) (outer := outer) (s := s) (H := H) (E := E)
  jss_one (js_ret (jif ((jeq (by exact hu) (jmod (jidx (by exact hu) (jv 0) (jint)) (jint)) (jint)).jt) (jme W_SignedSums F_SignedSums_total (by exact hr.mono (Nat.le_succ _)) (jmk K_SignedSums (by exact hr) (ja_cons (jv 0) (ja_cons (jv 1) (ja_nil)))) (ja_cons (jtupRg1 rfl (jidx (by exact hu) (jv 0) (jint)) M.b_tuple M.b_range) (ja_nil))) (jint)))
def N_signed_sum : List Str := ["net", "signs"]
theorem sc_signed_sum : FnScope N_signed_sum ["net", "signs"] (defScope s_signed_sum) := ⟨rfl, rfl, rfl, by decide +kernel, rfl, by decide +kernel, by decide +kernel⟩
def t_signed_sum (sp_need_signs sp_signed_sum_by : WSp) : TWS := wSeq (wDrop (wCall sp_need_signs (wCons (wVar 0) (wCons (wVar 1) (wNil))))) (wRet (wCall sp_signed_sum_by (wCons (wVar 0) (wCons (wVar 1) (wNil)))))
theorem j_signed_sum {sp_need_signs sp_signed_sum_by : WSp} (M : Mf mg) (F_need_signs : WFn P w K mg base k "need_signs" sp_need_signs) (F_signed_sum_by : WFn P w K mg base k "signed_sum_by" sp_signed_sum_by) (hr : Room (k + 1) (A.deeper (envOfC "signed_sum" (defScope s_signed_sum) s.heap.objs.size f cdv))) : JSs (Cxt P w K mg base N_signed_sum "signed_sum" (defScope s_signed_sum) f cdv A outer s H E) (ZE E) (defBody s_signed_sum) (t_signed_sum sp_need_signs sp_signed_sum_by) :=
  have hN : (Cxt P w K mg base N_signed_sum "signed_sum" (defScope s_signed_sum) f cdv A outer s H E).N.Nodup := sc_signed_sum.nd
  have hu : (Cxt P w K mg base N_signed_sum "signed_sum" (defScope s_signed_sum) f cdv A outer s H E).A.units + 64 < cLine := room64 hr
  have hu1 : (Cxt P w K mg base N_signed_sum "signed_sum" (defScope s_signed_sum) f cdv A outer s H E).A.units + 1 < cLine := room1 hr
  have TK : L2.Takes (Cxt P w K mg base N_signed_sum "signed_sum" (defScope s_signed_sum) f cdv A outer s H E) (ZE E) := takesE
  have hp := passesE (P := P) (w := w) (K := K) (mg := mg) (base := base) (N := N_signed_sum) (qual := "signed_sum") (sc := defScope s_signed_sum) (f := f) (cdv := cdv) (A := A) (outer := outer) (s := s) (H := H) (E := E)
  jss_cons (js_expr (jfn F_need_signs TK (by exact hr.mono (Nat.le_succ _)) (ja_cons (jv 0) (ja_cons (jv 1) (ja_nil))))) (jss_one (js_ret (jfn F_signed_sum_by TK (by exact hr.mono (Nat.le_succ _)) (ja_cons (jv 0) (ja_cons (jv 1) (ja_nil))))))
def N_matrix_by : List Str := ["net", "signs", "rows", "one", "other", "sign", "place"]
theorem sc_matrix_by : FnScope N_matrix_by ["net", "signs"] (defScope s_matrix_by) := ⟨rfl, rfl, rfl, by decide +kernel, rfl, by decide +kernel, by decide +kernel⟩
def t_matrix_by : TWS := wSeq (wSet 2 (wLc (wIRng1 (wBin ixF (wVar 0) (wC (.int 0)))) (.nm 6) (wYes) (wBin mulF (wLst (wCons (wC (.int 0)) (wNil))) (wBin ixF (wVar 0) (wC (.int 0)))) [6])) (wSeq (wFor (wIZip (wBin ixF (wVar 0) (wC (.int 1))) (wVar 1)) (.tp [.tp [.nm 3, .nm 4], .nm 5]) (wAsg (wTup (wCons (wVar 5) (wCons (wUn negF (wVar 5)) (wNil)))) (wgTup 2 (wgCons (wgSub (wBin ixF (wVar 2) (wVar 3)) (wVar 4)) (wgCons (wgSub (wBin ixF (wVar 2) (wVar 4)) (wVar 3)) (wgNil)))))) (wRet (wVar 2)))
theorem j_matrix_by (M : Mf mg)  (hr : Room (k + 1) (A.deeper (envOfC "matrix_by" (defScope s_matrix_by) s.heap.objs.size f cdv))) : JSs (Cxt P w K mg base N_matrix_by "matrix_by" (defScope s_matrix_by) f cdv A outer s H E) (ZE E) (defBody s_matrix_by) (t_matrix_by ) :=
  have hN : (Cxt P w K mg base N_matrix_by "matrix_by" (defScope s_matrix_by) f cdv A outer s H E).N.Nodup := sc_matrix_by.nd
  have hu : (Cxt P w K mg base N_matrix_by "matrix_by" (defScope s_matrix_by) f cdv A outer s H E).A.units + 64 < cLine := room64 hr
  have hu1 : (Cxt P w K mg base N_matrix_by "matrix_by" (defScope s_matrix_by) f cdv A outer s H E).A.units + 1 < cLine := room1 hr
  have TK : L2.Takes (Cxt P w K mg base N_matrix_by "matrix_by" (defScope s_matrix_by) f cdv A outer s H E) (ZE E) := takesE
  have hp := passesE (P := P) (w := w) (K := K) (mg := mg) (base := base) (N := N_matrix_by) (qual := "matrix_by") (sc := defScope s_matrix_by) (f := f) (cdv := cdv) (A := A) (outer := outer) (s := s) (H := H) (E := E)
  jss_cons (js_setLc (i := 2) rfl hN rfl rfl (sw_true rfl rfl rfl rfl) (ji_rng1 (jidx (by exact hu) (jv 0) (jint)) M.b_range) (own := [("place", 6)]) (by kernel_rfl) (fun _ _ _ _ _ => jp_nm (by exact hN)) (fun _ _ _ _ _ => jts_nil) (fun _ _ _ _ _ => jmulA (jlst (ja_cons (jint) (ja_nil))) (jidx (by exact hu) (jv 0) (jint))) (by decide)) (jss_cons (js_for hp rfl (ji_zip (jidx (by exact hu) (jv 0) (jint)) (jv 1) M.b_zip) (jp_tp rfl (jps_cons (jp_tp rfl (jps_cons (jp_nm (by exact hN)) (jps_cons (jp_nm (by exact hN)) (jps_nil)))) (jps_cons (jp_nm (by exact hN)) (jps_nil)))) (jss_one (js_asg (jtup (ja_cons (jv 5) (ja_cons (jneg (jv 5)) (ja_nil)))) (jg_tup rfl (jgs_cons (jg_sub hu1 (Z := ZE E) (jidx (by exact hu) (jv 2) (jv 3)) (jv 4)) (jgs_cons (jg_sub hu1 (Z := ZE E) (jidx (by exact hu) (jv 2) (jv 4)) (jv 3)) (jgs_nil))))))) (jss_one (js_ret (jv 2))))
def N_determinant_by : List Str := ["rows", "last", "sign", "spot", "far", "number", "column", "much"]
theorem sc_determinant_by : FnScope N_determinant_by ["rows"] (defScope s_determinant_by) := ⟨rfl, rfl, rfl, by decide +kernel, rfl, by decide +kernel, by decide +kernel⟩
def t_determinant_by : TWS := wSeq (wAsg (wTup (wCons (wC (.int 1)) (wCons (wC (.int 1)) (wNil)))) (wgTup 2 (wgCons (wgP (.nm 1)) (wgCons (wgP (.nm 2)) (wgNil))))) (wSeq (wFor (wIRng1 (wCB lenF (wCons (wVar 0) (wNil)))) (.nm 3) (wSeq (wSet 4 (wLc (wIRng2 (wVar 3) (wCB lenF (wCons (wVar 0) (wNil)))) (.nm 5) (wTest (wBin neF (wBin ixF (wBin ixF (wVar 0) (wVar 5)) (wVar 3)) (wC (.int 0)))) (wVar 5) [5])) (wSeq (wIfS (wTest (wBin eqF (wVar 4) (wLst (wNil)))) (wRet (wC (.int 0))) (wNext)) (wSeq (wIfS (wTest (wBin neF (wBin ixF (wVar 4) (wC (.int 0))) (wVar 3))) (wAsg (wTup (wCons (wBin ixF (wVar 0) (wBin ixF (wVar 4) (wC (.int 0)))) (wCons (wBin ixF (wVar 0) (wVar 3)) (wCons (wUn negF (wVar 2)) (wNil))))) (wgTup 3 (wgCons (wgSub (wVar 0) (wVar 3)) (wgCons (wgSub (wVar 0) (wBin ixF (wVar 4) (wC (.int 0)))) (wgCons (wgP (.nm 2)) (wgNil)))))) (wNext)) (wSeq (wFor (wIRng2 (wBin addF (wVar 3) (wC (.int 1))) (wCB lenF (wCons (wVar 0) (wNil)))) (.nm 5) (wFor (wIRng2 (wBin addF (wVar 3) (wC (.int 1))) (wCB lenF (wCons (wVar 0) (wNil)))) (.nm 6) (wSeq (wSet 7 (wBin subI (wBin mulF (wBin ixF (wBin ixF (wVar 0) (wVar 5)) (wVar 6)) (wBin ixF (wBin ixF (wVar 0) (wVar 3)) (wVar 3))) (wBin mulF (wBin ixF (wBin ixF (wVar 0) (wVar 5)) (wVar 3)) (wBin ixF (wBin ixF (wVar 0) (wVar 3)) (wVar 6))))) (wAsg (wBin divN (wVar 7) (wVar 1)) (wgSub (wBin ixF (wVar 0) (wVar 5)) (wVar 6)))))) (wSet 1 (wBin ixF (wBin ixF (wVar 0) (wVar 3)) (wVar 3)))))))) (wRet (wBin mulF (wVar 2) (wVar 1))))
theorem j_determinant_by (M : Mf mg)  (hr : Room (k + 1) (A.deeper (envOfC "determinant_by" (defScope s_determinant_by) s.heap.objs.size f cdv))) : JSs (Cxt P w K mg base N_determinant_by "determinant_by" (defScope s_determinant_by) f cdv A outer s H E) (ZE E) (defBody s_determinant_by) (t_determinant_by ) :=
  have hN : (Cxt P w K mg base N_determinant_by "determinant_by" (defScope s_determinant_by) f cdv A outer s H E).N.Nodup := sc_determinant_by.nd
  have hu : (Cxt P w K mg base N_determinant_by "determinant_by" (defScope s_determinant_by) f cdv A outer s H E).A.units + 64 < cLine := room64 hr
  have hu1 : (Cxt P w K mg base N_determinant_by "determinant_by" (defScope s_determinant_by) f cdv A outer s H E).A.units + 1 < cLine := room1 hr
  have TK : L2.Takes (Cxt P w K mg base N_determinant_by "determinant_by" (defScope s_determinant_by) f cdv A outer s H E) (ZE E) := takesE
  have hp := passesE (P := P) (w := w) (K := K) (mg := mg) (base := base) (N := N_determinant_by) (qual := "determinant_by") (sc := defScope s_determinant_by) (f := f) (cdv := cdv) (A := A) (outer := outer) (s := s) (H := H) (E := E)
  jss_cons (js_asg (jtup (ja_cons (jint) (ja_cons (jint) (ja_nil)))) (jg_tup rfl (jgs_cons (jg_pat (jp_nm (by exact hN))) (jgs_cons (jg_pat (jp_nm (by exact hN))) (jgs_nil))))) (jss_cons (js_for hp rfl (ji_rng1 (jlen M.b_len (ja_cons (jv 0) (ja_nil))) M.b_range) (jp_nm (by exact hN)) (jss_cons (js_setLc (i := 4) rfl hN rfl rfl (sw_true rfl rfl rfl rfl) (ji_rng2 (jv 3) (jlen M.b_len (ja_cons (jv 0) (ja_nil))) M.b_range) (own := [("number", 5)]) (by kernel_rfl) (fun _ _ _ _ _ => jp_nm (by exact hN)) (fun _ _ _ _ _ => jts_one ((jne (by exact hu) (jidx (by exact hu) (jidx (by exact hu) (jv 0) (jv 5)) (jv 3)) (jint)).jt)) (fun _ _ _ _ _ => jv 5) (by decide)) (jss_cons (js_if ((jeq (by exact hu) (jv 4) (jlst (ja_nil))).jt) (jss_one (js_ret (jint))) (jss_nil)) (jss_cons (js_if ((jne (by exact hu) (jidx (by exact hu) (jv 4) (jint)) (jv 3)).jt) (jss_one (js_asg (jtup (ja_cons (jidx (by exact hu) (jv 0) (jidx (by exact hu) (jv 4) (jint))) (ja_cons (jidx (by exact hu) (jv 0) (jv 3)) (ja_cons (jneg (jv 2)) (ja_nil))))) (jg_tup rfl (jgs_cons (jg_sub hu1 (Z := ZE E) (jv 0) (jv 3)) (jgs_cons (jg_sub hu1 (Z := ZE E) (jv 0) (jidx (by exact hu) (jv 4) (jint))) (jgs_cons (jg_pat (jp_nm (by exact hN))) (jgs_nil))))))) (jss_nil)) (jss_cons (js_for hp rfl (ji_rng2 (jadd (jv 3) (jint)) (jlen M.b_len (ja_cons (jv 0) (ja_nil))) M.b_range) (jp_nm (by exact hN)) (jss_one (js_for hp rfl (ji_rng2 (jadd (jv 3) (jint)) (jlen M.b_len (ja_cons (jv 0) (ja_nil))) M.b_range) (jp_nm (by exact hN)) (jss_cons (js_set hN (i := 7) (jsub (jmulA (jidx (by exact hu) (jidx (by exact hu) (jv 0) (jv 5)) (jv 6)) (jidx (by exact hu) (jidx (by exact hu) (jv 0) (jv 3)) (jv 3))) (jmulA (jidx (by exact hu) (jidx (by exact hu) (jv 0) (jv 5)) (jv 3)) (jidx (by exact hu) (jidx (by exact hu) (jv 0) (jv 3)) (jv 6))))) (jss_one (js_asg (jfdivN (jv 7) (jv 1)) (jg_sub hu1 (Z := ZE E) (jidx (by exact hu) (jv 0) (jv 5)) (jv 6)))))))) (jss_one (js_set hN (i := 1) (jidx (by exact hu) (jidx (by exact hu) (jv 0) (jv 3)) (jv 3))))))))) (jss_one (js_ret (jmulA (jv 2) (jv 1)))))
def N_matrix_determinant : List Str := ["net", "signs"]
theorem sc_matrix_determinant : FnScope N_matrix_determinant ["net", "signs"] (defScope s_matrix_determinant) := ⟨rfl, rfl, rfl, by decide +kernel, rfl, by decide +kernel, by decide +kernel⟩
def t_matrix_determinant (sp_need_signs sp_matrix_by sp_determinant_by : WSp) : TWS := wSeq (wDrop (wCall sp_need_signs (wCons (wVar 0) (wCons (wVar 1) (wNil))))) (wRet (wCall sp_determinant_by (wCons (wCall sp_matrix_by (wCons (wVar 0) (wCons (wVar 1) (wNil)))) (wNil))))
theorem j_matrix_determinant {sp_need_signs sp_matrix_by sp_determinant_by : WSp} (M : Mf mg) (F_need_signs : WFn P w K mg base k "need_signs" sp_need_signs) (F_matrix_by : WFn P w K mg base k "matrix_by" sp_matrix_by) (F_determinant_by : WFn P w K mg base k "determinant_by" sp_determinant_by) (hr : Room (k + 1) (A.deeper (envOfC "matrix_determinant" (defScope s_matrix_determinant) s.heap.objs.size f cdv))) : JSs (Cxt P w K mg base N_matrix_determinant "matrix_determinant" (defScope s_matrix_determinant) f cdv A outer s H E) (ZE E) (defBody s_matrix_determinant) (t_matrix_determinant sp_need_signs sp_matrix_by sp_determinant_by) :=
  have hN : (Cxt P w K mg base N_matrix_determinant "matrix_determinant" (defScope s_matrix_determinant) f cdv A outer s H E).N.Nodup := sc_matrix_determinant.nd
  have hu : (Cxt P w K mg base N_matrix_determinant "matrix_determinant" (defScope s_matrix_determinant) f cdv A outer s H E).A.units + 64 < cLine := room64 hr
  have hu1 : (Cxt P w K mg base N_matrix_determinant "matrix_determinant" (defScope s_matrix_determinant) f cdv A outer s H E).A.units + 1 < cLine := room1 hr
  have TK : L2.Takes (Cxt P w K mg base N_matrix_determinant "matrix_determinant" (defScope s_matrix_determinant) f cdv A outer s H E) (ZE E) := takesE
  have hp := passesE (P := P) (w := w) (K := K) (mg := mg) (base := base) (N := N_matrix_determinant) (qual := "matrix_determinant") (sc := defScope s_matrix_determinant) (f := f) (cdv := cdv) (A := A) (outer := outer) (s := s) (H := H) (E := E)
  jss_cons (js_expr (jfn F_need_signs TK (by exact hr.mono (Nat.le_succ _)) (ja_cons (jv 0) (ja_cons (jv 1) (ja_nil))))) (jss_one (js_ret (jfn F_determinant_by TK (by exact hr.mono (Nat.le_succ _)) (ja_cons (jfn F_matrix_by TK (by exact hr.mono (Nat.le_succ _)) (ja_cons (jv 0) (ja_cons (jv 1) (ja_nil)))) (ja_nil)))))
def N_xlaw_begun : List Str := ["script", "cell"]
theorem sc_xlaw_begun : FnScope N_xlaw_begun ["script"] (defScope s_xlaw_begun) := ⟨rfl, rfl, rfl, by decide +kernel, rfl, by decide +kernel, by decide +kernel⟩
def t_xlaw_begun : TWS := wRet (wDisp (wdCons (wC (.str "cells")) (wCB (C1 listZ1) (wCons (wVar 0) (wNil))) (wdCons (wC (.str "at")) (wC (.int 0)) (wdCons (wC (.str "left")) (wLc (wIScr (wVar 0)) (.nm 1) (wTest (wBin geI (wCB (C1 int1) (wCons (wVar 1) (wNil))) (wBin powI (wC (.int 10)) (wC (.int 18))))) (wCB (C1 int1) (wCons (wVar 1) (wNil))) [1]) (wdNil)))))
theorem j_xlaw_begun (M : Mf mg)  (hr : Room (k + 1) (A.deeper (envOfC "_law_begun" (defScope s_xlaw_begun) s.heap.objs.size f cdv))) : JSs (Cxt P w K mg base N_xlaw_begun "_law_begun" (defScope s_xlaw_begun) f cdv A outer s H E) (ZE E) (defBody s_xlaw_begun) (t_xlaw_begun ) :=
  have hN : (Cxt P w K mg base N_xlaw_begun "_law_begun" (defScope s_xlaw_begun) f cdv A outer s H E).N.Nodup := sc_xlaw_begun.nd
  have hu : (Cxt P w K mg base N_xlaw_begun "_law_begun" (defScope s_xlaw_begun) f cdv A outer s H E).A.units + 64 < cLine := room64 hr
  have hu1 : (Cxt P w K mg base N_xlaw_begun "_law_begun" (defScope s_xlaw_begun) f cdv A outer s H E).A.units + 1 < cLine := room1 hr
  have TK : L2.Takes (Cxt P w K mg base N_xlaw_begun "_law_begun" (defScope s_xlaw_begun) f cdv A outer s H E) (ZE E) := takesE
  have hp := passesE (P := P) (w := w) (K := K) (mg := mg) (base := base) (N := N_xlaw_begun) (qual := "_law_begun") (sc := defScope s_xlaw_begun) (f := f) (cdv := cdv) (A := A) (outer := outer) (s := s) (H := H) (E := E)
  jss_one (js_ret (jdisp (jd_cons (jstr) (jlistZ M.b_list (ja_cons (jv 0) (ja_nil))) (jd_cons (jstr) (jint) (jd_cons (jstr) (jlc rfl (by exact hN) (ji_scr (jv 0)) (own := [("cell", 1)]) (by kernel_rfl) (fun _ _ _ _ _ => jp_nm (by exact hN)) (fun _ _ _ _ _ => jts_one ((jge0 (jint1 M.b_int (ja_cons (jv 1) (ja_nil))) (jpow (jint) (jint))).jt)) (fun _ _ _ _ _ => jint1 M.b_int (ja_cons (jv 1) (ja_nil))) (by decide)) (jd_nil))))))
def N_xlaw_next : List Str := ["m", "many", "at", "cell", "blend", "rest"]
theorem sc_xlaw_next : FnScope N_xlaw_next ["m", "many"] (defScope s_xlaw_next) := ⟨rfl, rfl, rfl, by decide +kernel, rfl, by decide +kernel, by decide +kernel⟩
def t_xlaw_next : TWS := wSeq (wIfS (wTest (wBin neF (wBin ixF (wVar 0) (wC (.str "left"))) (wLst (wNil)))) (wSeq (wSet 5 (wBin ixF (wBin ixF (wVar 0) (wC (.str "left"))) (wC (.int 0)))) (wSeq (wAsg (wBin divI (wVar 5) (wVar 1)) (wgSub (wBin ixF (wVar 0) (wC (.str "left"))) (wC (.int 0)))) (wSeq (wIfS (wTest (wBin eqF (wBin ixF (wBin ixF (wVar 0) (wC (.str "left"))) (wC (.int 0))) (wC (.int 0)))) (wAsg (wSl (wBin ixF (wVar 0) (wC (.str "left"))) (wPart (wC (.int 1))) (wNoPart)) (wgSub (wVar 0) (wC (.str "left")))) (wNext)) (wRet (wBin modI (wVar 5) (wVar 1)))))) (wNext)) (wSeq (wSet 2 (wBin ixF (wVar 0) (wC (.str "at")))) (wSeq (wAsg (wBin addF (wVar 2) (wC (.int 1))) (wgSub (wVar 0) (wC (.str "at")))) (wSeq (wSet 3 (wIf (wTest (wBin neF (wBin ixF (wVar 0) (wC (.str "cells"))) (wLst (wNil)))) (wBin ixF (wBin ixF (wVar 0) (wC (.str "cells"))) (wBin modI (wVar 2) (wCB lenF (wCons (wBin ixF (wVar 0) (wC (.str "cells"))) (wNil))))) (wC (.int 0)))) (wSeq (wSet 4 (wBin mulF (wBin modI (wCB (C1 int1) (wCons (wVar 3) (wNil))) (wC (.int 2147483629))) (wBin addF (wBin mulF (wC (.int 2)) (wVar 2)) (wC (.int 3))))) (wSeq (wSet 4 (wBin modI (wBin addF (wBin addF (wBin addF (wVar 4) (wBin mulF (wBin mulF (wC (.int 7919)) (wVar 2)) (wVar 2))) (wBin mulF (wC (.int 104729)) (wVar 2))) (wC (.int 31))) (wC (.int 2147483647)))) (wRet (wBin modI (wBin divI (wBin modI (wBin mulF (wBin modI (wBin mulF (wVar 4) (wVar 4)) (wC (.int 2147483629))) (wC (.int 48271))) (wC (.int 2147483647))) (wC (.int 13))) (wVar 1))))))))
theorem j_xlaw_next (M : Mf mg)  (hr : Room (k + 1) (A.deeper (envOfC "_law_next" (defScope s_xlaw_next) s.heap.objs.size f cdv))) : JSs (Cxt P w K mg base N_xlaw_next "_law_next" (defScope s_xlaw_next) f cdv A outer s H E) (ZE E) (defBody s_xlaw_next) (t_xlaw_next ) :=
  have hN : (Cxt P w K mg base N_xlaw_next "_law_next" (defScope s_xlaw_next) f cdv A outer s H E).N.Nodup := sc_xlaw_next.nd
  have hu : (Cxt P w K mg base N_xlaw_next "_law_next" (defScope s_xlaw_next) f cdv A outer s H E).A.units + 64 < cLine := room64 hr
  have hu1 : (Cxt P w K mg base N_xlaw_next "_law_next" (defScope s_xlaw_next) f cdv A outer s H E).A.units + 1 < cLine := room1 hr
  have TK : L2.Takes (Cxt P w K mg base N_xlaw_next "_law_next" (defScope s_xlaw_next) f cdv A outer s H E) (ZE E) := takesE
  have hp := passesE (P := P) (w := w) (K := K) (mg := mg) (base := base) (N := N_xlaw_next) (qual := "_law_next") (sc := defScope s_xlaw_next) (f := f) (cdv := cdv) (A := A) (outer := outer) (s := s) (H := H) (E := E)
  jss_cons (js_if ((jne (by exact hu) (jidx (by exact hu) (jv 0) (jstr)) (jlst (ja_nil))).jt) (jss_cons (js_set hN (i := 5) (jidx (by exact hu) (jidx (by exact hu) (jv 0) (jstr)) (jint))) (jss_cons (js_asg (jfdiv (jv 5) (jv 1)) (jg_sub hu1 (Z := ZE E) (jidx (by exact hu) (jv 0) (jstr)) (jint))) (jss_cons (js_if ((jeq (by exact hu) (jidx (by exact hu) (jidx (by exact hu) (jv 0) (jstr)) (jint)) (jint)).jt) (jss_one (js_asg (jsl (jidx (by exact hu) (jv 0) (jstr)) (jo_some (jint)) (jo_none)) (jg_sub hu1 (Z := ZE E) (jv 0) (jstr)))) (jss_nil)) (jss_one (js_ret (jmod (jv 5) (jv 1))))))) (jss_nil)) (jss_cons (js_set hN (i := 2) (jidx (by exact hu) (jv 0) (jstr))) (jss_cons (js_asg (jadd (jv 2) (jint)) (jg_sub hu1 (Z := ZE E) (jv 0) (jstr))) (jss_cons (js_set hN (i := 3) (jif ((jne (by exact hu) (jidx (by exact hu) (jv 0) (jstr)) (jlst (ja_nil))).jt) (jidx (by exact hu) (jidx (by exact hu) (jv 0) (jstr)) (jmod (jv 2) (jlen M.b_len (ja_cons (jidx (by exact hu) (jv 0) (jstr)) (ja_nil))))) (jint))) (jss_cons (js_set hN (i := 4) (jmulA (jmod (jint1 M.b_int (ja_cons (jv 3) (ja_nil))) (jint)) (jadd (jmulA (jint) (jv 2)) (jint)))) (jss_cons (js_set hN (i := 4) (jmod (jadd (jadd (jadd (jv 4) (jmulA (jmulA (jint) (jv 2)) (jv 2))) (jmulA (jint) (jv 2))) (jint)) (jint))) (jss_one (js_ret (jmod (jfdiv (jmod (jmulA (jmod (jmulA (jv 4) (jv 4)) (jint)) (jint)) (jint)) (jint)) (jv 1)))))))))
def N_xlaw_of : List Str := ["m", "some"]
theorem sc_xlaw_of : FnScope N_xlaw_of ["m", "some"] (defScope s_xlaw_of) := ⟨rfl, rfl, rfl, by decide +kernel, rfl, by decide +kernel, by decide +kernel⟩
def t_xlaw_of (sp_xlaw_next : WSp) : TWS := wRet (wBin ixF (wVar 1) (wCall sp_xlaw_next (wCons (wVar 0) (wCons (wCB lenF (wCons (wVar 1) (wNil))) (wNil)))))
theorem j_xlaw_of {sp_xlaw_next : WSp} (M : Mf mg) (F_xlaw_next : WFn P w K mg base k "_law_next" sp_xlaw_next) (hr : Room (k + 1) (A.deeper (envOfC "_law_of" (defScope s_xlaw_of) s.heap.objs.size f cdv))) : JSs (Cxt P w K mg base N_xlaw_of "_law_of" (defScope s_xlaw_of) f cdv A outer s H E) (ZE E) (defBody s_xlaw_of) (t_xlaw_of sp_xlaw_next) :=
  have hN : (Cxt P w K mg base N_xlaw_of "_law_of" (defScope s_xlaw_of) f cdv A outer s H E).N.Nodup := sc_xlaw_of.nd
  have hu : (Cxt P w K mg base N_xlaw_of "_law_of" (defScope s_xlaw_of) f cdv A outer s H E).A.units + 64 < cLine := room64 hr
  have hu1 : (Cxt P w K mg base N_xlaw_of "_law_of" (defScope s_xlaw_of) f cdv A outer s H E).A.units + 1 < cLine := room1 hr
  have TK : L2.Takes (Cxt P w K mg base N_xlaw_of "_law_of" (defScope s_xlaw_of) f cdv A outer s H E) (ZE E) := takesE
  have hp := passesE (P := P) (w := w) (K := K) (mg := mg) (base := base) (N := N_xlaw_of) (qual := "_law_of") (sc := defScope s_xlaw_of) (f := f) (cdv := cdv) (A := A) (outer := outer) (s := s) (H := H) (E := E)
  jss_one (js_ret (jidx (by exact hu) (jv 1) (jfn F_xlaw_next TK (by exact hr.mono (Nat.le_succ _)) (ja_cons (jv 0) (ja_cons (jlen M.b_len (ja_cons (jv 1) (ja_nil))) (ja_nil))))))
def N_xlaw_like : List Str := ["told", "due", "one", "other"]
theorem sc_xlaw_like : FnScope N_xlaw_like ["told", "due"] (defScope s_xlaw_like) := ⟨rfl, rfl, rfl, by decide +kernel, rfl, by decide +kernel, by decide +kernel⟩
def t_xlaw_like (sp_xlaw_like : WSp) : TWS := wSeq (wIfS (wTest (wUn (isiF "tuple") (wVar 1))) (wSeq (wIfS (wOr (wNot (wTest (wUn (isiF "tuple") (wVar 0)))) (wTest (wBin neF (wCB lenF (wCons (wVar 0) (wNil))) (wCB lenF (wCons (wVar 1) (wNil)))))) (wRet (wC (.bl false))) (wNext)) (wSeq (wFor (wIZip (wVar 0) (wVar 1)) (.tp [.nm 2, .nm 3]) (wIfS (wNot (wTest (wCall sp_xlaw_like (wCons (wVar 2) (wCons (wVar 3) (wNil)))))) (wRet (wC (.bl false))) (wNext))) (wRet (wC (.bl true))))) (wNext)) (wSeq (wIfS (wTest (wUn (isNF false) (wVar 1))) (wRet (wUn (isNF false) (wVar 0))) (wNext)) (wSeq (wIfS (wTest (wUn (isiF "bool") (wVar 1))) (wRet (wAndV (wUn (isiF "bool") (wVar 0)) (wBin eqF (wVar 0) (wVar 1)))) (wNext)) (wSeq (wIfS (wTest (wUn (isiF "int") (wVar 1))) (wRet (wAndV (wUn (isiF "int") (wVar 0)) (wAndV (wNotV (wUn (isiF "bool") (wVar 0))) (wBin eqF (wVar 0) (wVar 1))))) (wNext)) (wRet (wAndV (wUn (isiF "str") (wVar 0)) (wBin eqF (wVar 0) (wVar 1)))))))
theorem j_xlaw_like {sp_xlaw_like : WSp} (M : Mf mg) (F_xlaw_like : WFn P w K mg base k "_law_like" sp_xlaw_like) (hr : Room (k + 1) (A.deeper (envOfC "_law_like" (defScope s_xlaw_like) s.heap.objs.size f cdv))) : JSs (Cxt P w K mg base N_xlaw_like "_law_like" (defScope s_xlaw_like) f cdv A outer s H E) (ZE E) (defBody s_xlaw_like) (t_xlaw_like sp_xlaw_like) :=
  have hN : (Cxt P w K mg base N_xlaw_like "_law_like" (defScope s_xlaw_like) f cdv A outer s H E).N.Nodup := sc_xlaw_like.nd
  have hu : (Cxt P w K mg base N_xlaw_like "_law_like" (defScope s_xlaw_like) f cdv A outer s H E).A.units + 64 < cLine := room64 hr
  have hu1 : (Cxt P w K mg base N_xlaw_like "_law_like" (defScope s_xlaw_like) f cdv A outer s H E).A.units + 1 < cLine := room1 hr
  have TK : L2.Takes (Cxt P w K mg base N_xlaw_like "_law_like" (defScope s_xlaw_like) f cdv A outer s H E) (ZE E) := takesE
  have hp := passesE (P := P) (w := w) (K := K) (mg := mg) (base := base) (N := N_xlaw_like) (qual := "_law_like") (sc := defScope s_xlaw_like) (f := f) (cdv := cdv) (A := A) (outer := outer) (s := s) (H := H) (E := E)
  jss_cons (js_if (jtv (jisi (jv 1) M.b_isinstance M.b_tuple)) (jss_cons (js_if ((jw_or (jtnot (jtv (jisi (jv 0) M.b_isinstance M.b_tuple))) (jw_or1 ((jne (by exact hu) (jlen M.b_len (ja_cons (jv 0) (ja_nil))) (jlen M.b_len (ja_cons (jv 1) (ja_nil)))).jt))).jt) (jss_one (js_ret (jbl))) (jss_nil)) (jss_cons (js_for hp rfl (ji_zip (jv 0) (jv 1) M.b_zip) (jp_tp rfl (jps_cons (jp_nm (by exact hN)) (jps_cons (jp_nm (by exact hN)) (jps_nil)))) (jss_one (js_if (jtnot (jtv (jfn F_xlaw_like TK (by exact hr.mono (Nat.le_succ _)) (ja_cons (jv 2) (ja_cons (jv 3) (ja_nil)))))) (jss_one (js_ret (jbl))) (jss_nil)))) (jss_one (js_ret (jbl))))) (jss_nil)) (jss_cons (js_if ((jisN (jv 1)).jt) (jss_one (js_ret ((jisN (jv 0)).je))) (jss_nil)) (jss_cons (js_if (jtv (jisi (jv 1) M.b_isinstance M.b_bool)) (jss_one (js_ret (jand (jisi (jv 0) M.b_isinstance M.b_bool) (jone ((jeq (by exact hu) (jv 0) (jv 1)).je))))) (jss_nil)) (jss_cons (js_if (jtv (jisi (jv 1) M.b_isinstance M.b_int)) (jss_one (js_ret (jand (jisi (jv 0) M.b_isinstance M.b_int) (jand (jnot (jisi (jv 0) M.b_isinstance M.b_bool)) (jone ((jeq (by exact hu) (jv 0) (jv 1)).je)))))) (jss_nil)) (jss_one (js_ret (jand (jisi (jv 0) M.b_isinstance M.b_str) (jone ((jeq (by exact hu) (jv 0) (jv 1)).je))))))))
def N_xlaw_orders_sum : List Str := ["table", "found", "row", "later", "used", "many", "column", "one", "key"]
theorem sc_xlaw_orders_sum : FnScope N_xlaw_orders_sum ["table"] (defScope s_xlaw_orders_sum) := ⟨rfl, rfl, rfl, by decide +kernel, rfl, by decide +kernel, by decide +kernel⟩
def t_xlaw_orders_sum : TWS := wSeq (wSet 1 (wDisp1T (wTup (wNil)) (wC (.int 1)))) (wSeq (wFor (wISeq (wVar 0)) (.nm 2) (wSeq (wSet 3 (wNewT)) (wSeq (wForItems 1 (.tp [.nm 4, .nm 5]) (wFor (wIEnum (wVar 2)) (.tp [.nm 6, .nm 7]) (wIfS (wAnd (wTest (wBin neF (wVar 7) (wC (.int 0)))) (wTest (wBin (memF true) (wVar 6) (wVar 4)))) (wSeq (wSet 8 (wCB (C1 tup1) (wCons (wCB (C1 sorted1) (wCons (wBin addF (wVar 4) (wTup (wCons (wVar 6) (wNil)))) (wNil))) (wNil)))) (wAsg (wBin addF (wGet2 (wVar 3) (wVar 8) (wC (.int 0))) (wVar 5)) (wgSub (wVar 3) (wVar 8)))) (wNext)))) (wSet 1 (wVar 3))))) (wRet (wCB (C1 sum1) (wCons (wVals (wVar 1)) (wNil)))))
theorem j_xlaw_orders_sum (M : Mf mg)  (hr : Room (k + 1) (A.deeper (envOfC "_law_orders_sum" (defScope s_xlaw_orders_sum) s.heap.objs.size f cdv))) : JSs (Cxt P w K mg base N_xlaw_orders_sum "_law_orders_sum" (defScope s_xlaw_orders_sum) f cdv A outer s H E) (ZE E) (defBody s_xlaw_orders_sum) (t_xlaw_orders_sum ) :=
  have hN : (Cxt P w K mg base N_xlaw_orders_sum "_law_orders_sum" (defScope s_xlaw_orders_sum) f cdv A outer s H E).N.Nodup := sc_xlaw_orders_sum.nd
  have hu : (Cxt P w K mg base N_xlaw_orders_sum "_law_orders_sum" (defScope s_xlaw_orders_sum) f cdv A outer s H E).A.units + 64 < cLine := room64 hr
  have hu1 : (Cxt P w K mg base N_xlaw_orders_sum "_law_orders_sum" (defScope s_xlaw_orders_sum) f cdv A outer s H E).A.units + 1 < cLine := room1 hr
  have TK : L2.Takes (Cxt P w K mg base N_xlaw_orders_sum "_law_orders_sum" (defScope s_xlaw_orders_sum) f cdv A outer s H E) (ZE E) := takesE
  have hp := passesE (P := P) (w := w) (K := K) (mg := mg) (base := base) (N := N_xlaw_orders_sum) (qual := "_law_orders_sum") (sc := defScope s_xlaw_orders_sum) (f := f) (cdv := cdv) (A := A) (outer := outer) (s := s) (H := H) (E := E)
  jss_cons (js_set hN (i := 1) (jdisp1T (by exact hu) (jtup (ja_nil)) (jint))) (jss_cons (js_for hp rfl (ji_seq (jv 0)) (jp_nm (by exact hN)) (jss_cons (js_set hN (i := 3) (jnewT pe_dnewT)) (jss_cons (js_forItems hp rfl (jp_tp rfl (jps_cons (jp_nm (by exact hN)) (jps_cons (jp_nm (by exact hN)) (jps_nil)))) (jss_one (js_for hp rfl (ji_enum (jv 2) M.b_enumerate) (jp_tp rfl (jps_cons (jp_nm (by exact hN)) (jps_cons (jp_nm (by exact hN)) (jps_nil)))) (jss_one (js_if ((jw_and ((jne (by exact hu) (jv 7) (jint)).jt) (jw_and1 ((jnin (by exact hu) (jv 6) (jv 4) rfl).jt))).jt) (jss_cons (js_set hN (i := 8) (jtuple1 M.b_tuple (ja_cons (jsorted M.b_sorted (ja_cons (jadd (jv 4) (jtup (ja_cons (jv 6) (ja_nil)))) (ja_nil))) (ja_nil)))) (jss_one (js_asg (jadd (jget2 (by exact hu) (jv 3) (jv 8) (jint)) (jv 5)) (jg_sub hu1 (Z := ZE E) (jv 3) (jv 8))))) (jss_nil)))))) (jss_one (js_set hN (i := 1) (jv 3)))))) (jss_one (js_ret (jsum rfl M.b_sum (ja_cons (jvals rfl (jv 1) M.b_list) (ja_nil))))))
def N_xlaw_is_odd : List Str := ["table", "rows", "spot", "far", "number", "row", "one", "other"]
theorem sc_xlaw_is_odd : FnScope N_xlaw_is_odd ["table"] (defScope s_xlaw_is_odd) := ⟨rfl, rfl, rfl, by decide +kernel, rfl, by decide +kernel, by decide +kernel⟩
def t_xlaw_is_odd : TWS := wSeq (wSet 1 (wLc (wISeq (wVar 0)) (.nm 5) (wYes) (wLc (wISeq (wVar 5)) (.nm 6) (wYes) (wBin modI (wVar 6) (wC (.int 2))) [6]) [5])) (wSeq (wFor (wIRng1 (wCB lenF (wCons (wVar 1) (wNil)))) (.nm 2) (wSeq (wSet 3 (wLc (wIRng2 (wVar 2) (wCB lenF (wCons (wVar 1) (wNil)))) (.nm 4) (wTest (wBin eqF (wBin ixF (wBin ixF (wVar 1) (wVar 4)) (wVar 2)) (wC (.int 1)))) (wVar 4) [4])) (wSeq (wIfS (wTest (wBin eqF (wVar 3) (wLst (wNil)))) (wRet (wC (.bl false))) (wNext)) (wSeq (wAsg (wTup (wCons (wBin ixF (wVar 1) (wBin ixF (wVar 3) (wC (.int 0)))) (wCons (wBin ixF (wVar 1) (wVar 2)) (wNil)))) (wgTup 2 (wgCons (wgSub (wVar 1) (wVar 2)) (wgCons (wgSub (wVar 1) (wBin ixF (wVar 3) (wC (.int 0)))) (wgNil))))) (wFor (wIRng2 (wBin addF (wVar 2) (wC (.int 1))) (wCB lenF (wCons (wVar 1) (wNil)))) (.nm 4) (wIfS (wTest (wBin eqF (wBin ixF (wBin ixF (wVar 1) (wVar 4)) (wVar 2)) (wC (.int 1)))) (wAsg (wLc (wIZip (wBin ixF (wVar 1) (wVar 4)) (wBin ixF (wVar 1) (wVar 2))) (.tp [.nm 6, .nm 7]) (wYes) (wBin modI (wBin addF (wVar 6) (wVar 7)) (wC (.int 2))) [6, 7]) (wgSub (wVar 1) (wVar 4))) (wNext))))))) (wRet (wC (.bl true))))
theorem j_xlaw_is_odd (M : Mf mg)  (hr : Room (k + 1) (A.deeper (envOfC "_law_is_odd" (defScope s_xlaw_is_odd) s.heap.objs.size f cdv))) : JSs (Cxt P w K mg base N_xlaw_is_odd "_law_is_odd" (defScope s_xlaw_is_odd) f cdv A outer s H E) (ZE E) (defBody s_xlaw_is_odd) (t_xlaw_is_odd ) :=
  have hN : (Cxt P w K mg base N_xlaw_is_odd "_law_is_odd" (defScope s_xlaw_is_odd) f cdv A outer s H E).N.Nodup := sc_xlaw_is_odd.nd
  have hu : (Cxt P w K mg base N_xlaw_is_odd "_law_is_odd" (defScope s_xlaw_is_odd) f cdv A outer s H E).A.units + 64 < cLine := room64 hr
  have hu1 : (Cxt P w K mg base N_xlaw_is_odd "_law_is_odd" (defScope s_xlaw_is_odd) f cdv A outer s H E).A.units + 1 < cLine := room1 hr
  have TK : L2.Takes (Cxt P w K mg base N_xlaw_is_odd "_law_is_odd" (defScope s_xlaw_is_odd) f cdv A outer s H E) (ZE E) := takesE
  have hp := passesE (P := P) (w := w) (K := K) (mg := mg) (base := base) (N := N_xlaw_is_odd) (qual := "_law_is_odd") (sc := defScope s_xlaw_is_odd) (f := f) (cdv := cdv) (A := A) (outer := outer) (s := s) (H := H) (E := E)
  jss_cons (js_set hN (i := 1) (jlc rfl (by exact hN) (ji_seq (jv 0)) (own := [("row", 5)]) (by kernel_rfl) (fun _ _ _ _ _ => jp_nm (by exact hN)) (fun _ _ _ _ _ => jts_nil) (fun _ _ _ _ _ => jlc rfl (by exact hN) (ji_seq (jv 5)) (own := [("one", 6)]) (by kernel_rfl) (fun _ _ _ _ _ => jp_nm (by exact hN)) (fun _ _ _ _ _ => jts_nil) (fun _ _ _ _ _ => jmod (jv 6) (jint)) (by decide)) (by decide))) (jss_cons (js_for hp rfl (ji_rng1 (jlen M.b_len (ja_cons (jv 1) (ja_nil))) M.b_range) (jp_nm (by exact hN)) (jss_cons (js_setLc (i := 3) rfl hN rfl rfl (sw_true rfl rfl rfl rfl) (ji_rng2 (jv 2) (jlen M.b_len (ja_cons (jv 1) (ja_nil))) M.b_range) (own := [("number", 4)]) (by kernel_rfl) (fun _ _ _ _ _ => jp_nm (by exact hN)) (fun _ _ _ _ _ => jts_one ((jeq (by exact hu) (jidx (by exact hu) (jidx (by exact hu) (jv 1) (jv 4)) (jv 2)) (jint)).jt)) (fun _ _ _ _ _ => jv 4) (by decide)) (jss_cons (js_if ((jeq (by exact hu) (jv 3) (jlst (ja_nil))).jt) (jss_one (js_ret (jbl))) (jss_nil)) (jss_cons (js_asg (jtup (ja_cons (jidx (by exact hu) (jv 1) (jidx (by exact hu) (jv 3) (jint))) (ja_cons (jidx (by exact hu) (jv 1) (jv 2)) (ja_nil)))) (jg_tup rfl (jgs_cons (jg_sub hu1 (Z := ZE E) (jv 1) (jv 2)) (jgs_cons (jg_sub hu1 (Z := ZE E) (jv 1) (jidx (by exact hu) (jv 3) (jint))) (jgs_nil))))) (jss_one (js_for hp rfl (ji_rng2 (jadd (jv 2) (jint)) (jlen M.b_len (ja_cons (jv 1) (ja_nil))) M.b_range) (jp_nm (by exact hN)) (jss_one (js_if ((jeq (by exact hu) (jidx (by exact hu) (jidx (by exact hu) (jv 1) (jv 4)) (jv 2)) (jint)).jt) (jss_one (js_asg (jlc rfl (by exact hN) (ji_zip (jidx (by exact hu) (jv 1) (jv 4)) (jidx (by exact hu) (jv 1) (jv 2)) M.b_zip) (own := [("one", 6), ("other", 7)]) (by kernel_rfl) (fun _ _ _ _ _ => jp_tp rfl (jps_cons (jp_nm (by exact hN)) (jps_cons (jp_nm (by exact hN)) (jps_nil)))) (fun _ _ _ _ _ => jts_nil) (fun _ _ _ _ _ => jmod (jadd (jv 6) (jv 7)) (jint)) (by decide)) (jg_sub hu1 (Z := ZE E) (jv 1) (jv 4)))) (jss_nil))))))))) (jss_one (js_ret (jbl))))
def N_xlaw_by_number : List Str := ["table", "many", "total", "column", "one", "row"]
theorem sc_xlaw_by_number : FnScope N_xlaw_by_number ["table", "many"] (defScope s_xlaw_by_number) := ⟨rfl, rfl, rfl, by decide +kernel, rfl, by decide +kernel, by decide +kernel⟩
def t_xlaw_by_number (sp_xlaw_by_number : WSp) : TWS := wSeq (wIfS (wTest (wBin eqF (wVar 1) (wC (.int 0)))) (wRet (wC (.int 1))) (wNext)) (wSeq (wIfS (wTest (wBin eqF (wVar 0) (wLst (wNil)))) (wRet (wC (.int 0))) (wNext)) (wSeq (wSet 2 (wCall sp_xlaw_by_number (wCons (wSl (wVar 0) (wPart (wC (.int 1))) (wNoPart)) (wCons (wVar 1) (wNil))))) (wSeq (wFor (wIEnum (wBin ixF (wVar 0) (wC (.int 0)))) (.tp [.nm 3, .nm 4]) (wIfS (wTest (wBin neF (wVar 4) (wC (.int 0)))) (wSet 2 (wBin addF (wVar 2) (wCall sp_xlaw_by_number (wCons (wLc (wISeq (wSl (wVar 0) (wPart (wC (.int 1))) (wNoPart))) (.nm 5) (wYes) (wBin addF (wSl (wVar 5) (wNoPart) (wPart (wVar 3))) (wSl (wVar 5) (wPart (wBin addF (wVar 3) (wC (.int 1)))) (wNoPart))) [5]) (wCons (wBin subI (wVar 1) (wC (.int 1))) (wNil)))))) (wNext))) (wRet (wVar 2)))))
theorem j_xlaw_by_number {sp_xlaw_by_number : WSp} (M : Mf mg) (F_xlaw_by_number : WFn P w K mg base k "_law_by_number" sp_xlaw_by_number) (hr : Room (k + 1) (A.deeper (envOfC "_law_by_number" (defScope s_xlaw_by_number) s.heap.objs.size f cdv))) : JSs (Cxt P w K mg base N_xlaw_by_number "_law_by_number" (defScope s_xlaw_by_number) f cdv A outer s H E) (ZE E) (defBody s_xlaw_by_number) (t_xlaw_by_number sp_xlaw_by_number) :=
  have hN : (Cxt P w K mg base N_xlaw_by_number "_law_by_number" (defScope s_xlaw_by_number) f cdv A outer s H E).N.Nodup := sc_xlaw_by_number.nd
  have hu : (Cxt P w K mg base N_xlaw_by_number "_law_by_number" (defScope s_xlaw_by_number) f cdv A outer s H E).A.units + 64 < cLine := room64 hr
  have hu1 : (Cxt P w K mg base N_xlaw_by_number "_law_by_number" (defScope s_xlaw_by_number) f cdv A outer s H E).A.units + 1 < cLine := room1 hr
  have TK : L2.Takes (Cxt P w K mg base N_xlaw_by_number "_law_by_number" (defScope s_xlaw_by_number) f cdv A outer s H E) (ZE E) := takesE
  have hp := passesE (P := P) (w := w) (K := K) (mg := mg) (base := base) (N := N_xlaw_by_number) (qual := "_law_by_number") (sc := defScope s_xlaw_by_number) (f := f) (cdv := cdv) (A := A) (outer := outer) (s := s) (H := H) (E := E)
  jss_cons (js_if ((jeq (by exact hu) (jv 1) (jint)).jt) (jss_one (js_ret (jint))) (jss_nil)) (jss_cons (js_if ((jeq (by exact hu) (jv 0) (jlst (ja_nil))).jt) (jss_one (js_ret (jint))) (jss_nil)) (jss_cons (js_set hN (i := 2) (jfn F_xlaw_by_number TK (by exact hr.mono (Nat.le_succ _)) (ja_cons (jsl (jv 0) (jo_some (jint)) (jo_none)) (ja_cons (jv 1) (ja_nil))))) (jss_cons (js_for hp rfl (ji_enum (jidx (by exact hu) (jv 0) (jint)) M.b_enumerate) (jp_tp rfl (jps_cons (jp_nm (by exact hN)) (jps_cons (jp_nm (by exact hN)) (jps_nil)))) (jss_one (js_if ((jne (by exact hu) (jv 4) (jint)).jt) (jss_one (js_set hN (i := 2) (jadd (jv 2) (jfn F_xlaw_by_number TK (by exact hr.mono (Nat.le_succ _)) (ja_cons (jlc rfl (by exact hN) (ji_seq (jsl (jv 0) (jo_some (jint)) (jo_none))) (own := [("row", 5)]) (by kernel_rfl) (fun _ _ _ _ _ => jp_nm (by exact hN)) (fun _ _ _ _ _ => jts_nil) (fun _ _ _ _ _ => jadd (jsl (jv 5) (jo_none) (jo_some (jv 3))) (jsl (jv 5) (jo_some (jadd (jv 3) (jint))) (jo_none))) (by decide)) (ja_cons (jsub (jv 1) (jint)) (ja_nil))))))) (jss_nil)))) (jss_one (js_ret (jv 2))))))
def N_xlaw_sides_right : List Str := ["m", "size", "table", "share", "one", "roads", "net", "count", "told", "other", "many"]
theorem sc_xlaw_sides_right : FnScope N_xlaw_sides_right ["m", "size"] (defScope s_xlaw_sides_right) := ⟨rfl, rfl, rfl, by decide +kernel, rfl, by decide +kernel, by decide +kernel⟩
def t_xlaw_sides_right (sp_xlaw_next sp_xlaw_orders_sum sp_whole_count sp_xlaw_like sp_xlaw_is_odd sp_signed_sum sp_counts_by_number sp_xlaw_by_number : WSp) : TWS := wSeq (wAsg (wTup (wCons (wLst (wNil)) (wCons (wCall sp_xlaw_next (wCons (wVar 0) (wCons (wC (.int 3)) (wNil)))) (wNil)))) (wgTup 2 (wgCons (wgP (.nm 2)) (wgCons (wgP (.nm 3)) (wgNil))))) (wSeq (wFor (wIRng1 (wVar 1)) (.nm 4) (wDrop (wBM "list" appendM (wVar 2) (wCons (wLc (wIRng1 (wVar 1)) (.nm 9) (wYes) (wCB (C1 int1) (wCons (wBin gtI (wCall sp_xlaw_next (wCons (wVar 0) (wCons (wC (.int 4)) (wNil)))) (wVar 3)) (wNil))) [9]) (wNil))))) (wSeq (wSet 5 (wLst (wNil))) (wSeq (wFor (wIRng1 (wVar 1)) (.nm 4) (wDrop (wBM "list" extendM (wVar 5) (wCons (wLc (wIRng1 (wVar 1)) (.nm 9) (wTest (wBin eqF (wBin ixF (wBin ixF (wVar 2) (wVar 4)) (wVar 9)) (wC (.int 1)))) (wTup (wCons (wVar 4) (wCons (wBin addF (wVar 1) (wVar 9)) (wNil)))) [9]) (wNil))))) (wSeq (wIfS (wTest (wBin gtI (wCB lenF (wCons (wVar 5) (wNil))) (wC (.int 40)))) (wRet (wC (.bl true))) (wNext)) (wSeq (wSet 6 (wTup (wCons (wBin mulF (wC (.int 2)) (wVar 1)) (wCons (wCB (C1 tup1) (wCons (wVar 5) (wNil))) (wNil))))) (wSeq (wSet 7 (wCall sp_xlaw_orders_sum (wCons (wVar 2) (wNil)))) (wSeq (wIfS (wOr (wNot (wTest (wCall sp_xlaw_like (wCons (wCall sp_whole_count (wCons (wVar 6) (wNil))) (wCons (wVar 7) (wNil)))))) (wOr (wTest (wBin neF (wBin eqF (wBin modI (wVar 7) (wC (.int 2))) (wC (.int 1))) (wCall sp_xlaw_is_odd (wCons (wVar 2) (wNil))))) (wTest (wBin neF (wBin modI (wCall sp_signed_sum (wCons (wVar 6) (wCons (wBin mulF (wTup (wCons (wC (.int 1)) (wNil))) (wCB lenF (wCons (wVar 5) (wNil)))) (wNil)))) (wC (.int 2))) (wBin modI (wVar 7) (wC (.int 2))))))) (wRet (wC (.bl false))) (wNext)) (wSeq (wIfS (wTest (wBin ltI (wVar 1) (wC (.int 6)))) (wSeq (wSet 8 (wCall sp_counts_by_number (wCons (wVar 6) (wNil)))) (wIfS (wOr (wNot (wTest (wCall sp_xlaw_like (wCons (wVar 8) (wCons (wCB (C1 tup1) (wCons (wLc (wIRng1 (wCB lenF (wCons (wVar 8) (wNil)))) (.nm 10) (wYes) (wCall sp_xlaw_by_number (wCons (wVar 2) (wCons (wVar 10) (wNil)))) [10]) (wNil))) (wNil)))))) (wTest (wBin neF (wCall sp_xlaw_by_number (wCons (wVar 2) (wCons (wCB lenF (wCons (wVar 8) (wNil))) (wNil)))) (wC (.int 0))))) (wRet (wC (.bl false))) (wNext))) (wNext)) (wRet (wC (.bl true)))))))))))
theorem j_xlaw_sides_right {sp_xlaw_next sp_xlaw_orders_sum sp_whole_count sp_xlaw_like sp_xlaw_is_odd sp_signed_sum sp_counts_by_number sp_xlaw_by_number : WSp} (M : Mf mg) (F_xlaw_next : WFn P w K mg base k "_law_next" sp_xlaw_next) (F_xlaw_orders_sum : WFn P w K mg base k "_law_orders_sum" sp_xlaw_orders_sum) (F_whole_count : WFn P w K mg base k "whole_count" sp_whole_count) (F_xlaw_like : WFn P w K mg base k "_law_like" sp_xlaw_like) (F_xlaw_is_odd : WFn P w K mg base k "_law_is_odd" sp_xlaw_is_odd) (F_signed_sum : WFn P w K mg base k "signed_sum" sp_signed_sum) (F_counts_by_number : WFn P w K mg base k "counts_by_number" sp_counts_by_number) (F_xlaw_by_number : WFn P w K mg base k "_law_by_number" sp_xlaw_by_number) (hr : Room (k + 1) (A.deeper (envOfC "_law_sides_right" (defScope s_xlaw_sides_right) s.heap.objs.size f cdv))) : JSs (Cxt P w K mg base N_xlaw_sides_right "_law_sides_right" (defScope s_xlaw_sides_right) f cdv A outer s H E) (ZE E) (defBody s_xlaw_sides_right) (t_xlaw_sides_right sp_xlaw_next sp_xlaw_orders_sum sp_whole_count sp_xlaw_like sp_xlaw_is_odd sp_signed_sum sp_counts_by_number sp_xlaw_by_number) :=
  have hN : (Cxt P w K mg base N_xlaw_sides_right "_law_sides_right" (defScope s_xlaw_sides_right) f cdv A outer s H E).N.Nodup := sc_xlaw_sides_right.nd
  have hu : (Cxt P w K mg base N_xlaw_sides_right "_law_sides_right" (defScope s_xlaw_sides_right) f cdv A outer s H E).A.units + 64 < cLine := room64 hr
  have hu1 : (Cxt P w K mg base N_xlaw_sides_right "_law_sides_right" (defScope s_xlaw_sides_right) f cdv A outer s H E).A.units + 1 < cLine := room1 hr
  have TK : L2.Takes (Cxt P w K mg base N_xlaw_sides_right "_law_sides_right" (defScope s_xlaw_sides_right) f cdv A outer s H E) (ZE E) := takesE
  have hp := passesE (P := P) (w := w) (K := K) (mg := mg) (base := base) (N := N_xlaw_sides_right) (qual := "_law_sides_right") (sc := defScope s_xlaw_sides_right) (f := f) (cdv := cdv) (A := A) (outer := outer) (s := s) (H := H) (E := E)
  jss_cons (js_asg (jtup (ja_cons (jlst (ja_nil)) (ja_cons (jfn F_xlaw_next TK (by exact hr.mono (Nat.le_succ _)) (ja_cons (jv 0) (ja_cons (jint) (ja_nil)))) (ja_nil)))) (jg_tup rfl (jgs_cons (jg_pat (jp_nm (by exact hN))) (jgs_cons (jg_pat (jp_nm (by exact hN))) (jgs_nil))))) (jss_cons (js_for hp rfl (ji_rng1 (jv 1) M.b_range) (jp_nm (by exact hN)) (jss_one (js_expr (jappend (jv 2) (ja_cons (jlc rfl (by exact hN) (ji_rng1 (jv 1) M.b_range) (own := [("other", 9)]) (by kernel_rfl) (fun _ _ _ _ _ => jp_nm (by exact hN)) (fun _ _ _ _ _ => jts_nil) (fun _ _ _ _ _ => jint1 M.b_int (ja_cons ((jgt0 (jfn F_xlaw_next takes0 (by exact hr.mono (Nat.le_succ _)) (ja_cons (jv 0) (ja_cons (jint) (ja_nil)))) (jv 3)).je) (ja_nil))) (by decide)) (ja_nil)))))) (jss_cons (js_set hN (i := 5) (jlst (ja_nil))) (jss_cons (js_for hp rfl (ji_rng1 (jv 1) M.b_range) (jp_nm (by exact hN)) (jss_one (js_expr (jextend (jv 5) (ja_cons (jlc rfl (by exact hN) (ji_rng1 (jv 1) M.b_range) (own := [("other", 9)]) (by kernel_rfl) (fun _ _ _ _ _ => jp_nm (by exact hN)) (fun _ _ _ _ _ => jts_one ((jeq (by exact hu) (jidx (by exact hu) (jidx (by exact hu) (jv 2) (jv 4)) (jv 9)) (jint)).jt)) (fun _ _ _ _ _ => jtup (ja_cons (jv 4) (ja_cons (jadd (jv 1) (jv 9)) (ja_nil)))) (by decide)) (ja_nil)))))) (jss_cons (js_if ((jgt0 (jlen M.b_len (ja_cons (jv 5) (ja_nil))) (jint)).jt) (jss_one (js_ret (jbl))) (jss_nil)) (jss_cons (js_set hN (i := 6) (jtup (ja_cons (jmulA (jint) (jv 1)) (ja_cons (jtuple1 M.b_tuple (ja_cons (jv 5) (ja_nil))) (ja_nil))))) (jss_cons (js_set hN (i := 7) (jfn F_xlaw_orders_sum TK (by exact hr.mono (Nat.le_succ _)) (ja_cons (jv 2) (ja_nil)))) (jss_cons (js_if ((jw_or (jtnot (jtv (jfn F_xlaw_like TK (by exact hr.mono (Nat.le_succ _)) (ja_cons (jfn F_whole_count TK (by exact hr.mono (Nat.le_succ _)) (ja_cons (jv 6) (ja_nil))) (ja_cons (jv 7) (ja_nil)))))) (jw_or ((jne (by exact hu) ((jeq (by exact hu) (jmod (jv 7) (jint)) (jint)).je) (jfn F_xlaw_is_odd TK (by exact hr.mono (Nat.le_succ _)) (ja_cons (jv 2) (ja_nil)))).jt) (jw_or1 ((jne (by exact hu) (jmod (jfn F_signed_sum TK (by exact hr.mono (Nat.le_succ _)) (ja_cons (jv 6) (ja_cons (jmulA (jtup (ja_cons (jint) (ja_nil))) (jlen M.b_len (ja_cons (jv 5) (ja_nil)))) (ja_nil)))) (jint)) (jmod (jv 7) (jint))).jt)))).jt) (jss_one (js_ret (jbl))) (jss_nil)) (jss_cons (js_if ((jlt0 (jv 1) (jint)).jt) (jss_cons (js_set hN (i := 8) (jfn F_counts_by_number TK (by exact hr.mono (Nat.le_succ _)) (ja_cons (jv 6) (ja_nil)))) (jss_one (js_if ((jw_or (jtnot (jtv (jfn F_xlaw_like TK (by exact hr.mono (Nat.le_succ _)) (ja_cons (jv 8) (ja_cons (jtuple1 M.b_tuple (ja_cons (jlc rfl (by exact hN) (ji_rng1 (jlen M.b_len (ja_cons (jv 8) (ja_nil))) M.b_range) (own := [("many", 10)]) (by kernel_rfl) (fun _ _ _ _ _ => jp_nm (by exact hN)) (fun _ _ _ _ _ => jts_nil) (fun _ _ _ _ _ => jfn F_xlaw_by_number takes0 (by exact hr.mono (Nat.le_succ _)) (ja_cons (jv 2) (ja_cons (jv 10) (ja_nil)))) (by decide)) (ja_nil))) (ja_nil)))))) (jw_or1 ((jne (by exact hu) (jfn F_xlaw_by_number TK (by exact hr.mono (Nat.le_succ _)) (ja_cons (jv 2) (ja_cons (jlen M.b_len (ja_cons (jv 8) (ja_nil))) (ja_nil)))) (jint)).jt))).jt) (jss_one (js_ret (jbl))) (jss_nil)))) (jss_nil)) (jss_one (js_ret (jbl)))))))))))
def N_xlaw_product : List Str := ["signs", "found", "sign"]
theorem sc_xlaw_product : FnScope N_xlaw_product ["signs"] (defScope s_xlaw_product) := ⟨rfl, rfl, rfl, by decide +kernel, rfl, by decide +kernel, by decide +kernel⟩
def t_xlaw_product : TWS := wSeq (wSet 1 (wC (.int 1))) (wSeq (wFor (wISeq (wVar 0)) (.nm 2) (wSet 1 (wBin mulF (wVar 1) (wVar 2)))) (wRet (wVar 1)))
theorem j_xlaw_product (M : Mf mg)  (hr : Room (k + 1) (A.deeper (envOfC "_law_product" (defScope s_xlaw_product) s.heap.objs.size f cdv))) : JSs (Cxt P w K mg base N_xlaw_product "_law_product" (defScope s_xlaw_product) f cdv A outer s H E) (ZE E) (defBody s_xlaw_product) (t_xlaw_product ) :=
  have hN : (Cxt P w K mg base N_xlaw_product "_law_product" (defScope s_xlaw_product) f cdv A outer s H E).N.Nodup := sc_xlaw_product.nd
  have hu : (Cxt P w K mg base N_xlaw_product "_law_product" (defScope s_xlaw_product) f cdv A outer s H E).A.units + 64 < cLine := room64 hr
  have hu1 : (Cxt P w K mg base N_xlaw_product "_law_product" (defScope s_xlaw_product) f cdv A outer s H E).A.units + 1 < cLine := room1 hr
  have TK : L2.Takes (Cxt P w K mg base N_xlaw_product "_law_product" (defScope s_xlaw_product) f cdv A outer s H E) (ZE E) := takesE
  have hp := passesE (P := P) (w := w) (K := K) (mg := mg) (base := base) (N := N_xlaw_product) (qual := "_law_product") (sc := defScope s_xlaw_product) (f := f) (cdv := cdv) (A := A) (outer := outer) (s := s) (H := H) (E := E)
  jss_cons (js_set hN (i := 1) (jint)) (jss_cons (js_for hp rfl (ji_seq (jv 0)) (jp_nm (by exact hN)) (jss_one (js_set hN (i := 1) (jmulA (jv 1) (jv 2))))) (jss_one (js_ret (jv 1))))
def N_xlaw_signs_right : List Str := ["m", "places", "row", "signs", "due", "last", "half", "crossed", "at", "road"]
theorem sc_xlaw_signs_right : FnScope N_xlaw_signs_right ["m", "places"] (defScope s_xlaw_signs_right) := ⟨rfl, rfl, rfl, by decide +kernel, rfl, by decide +kernel, by decide +kernel⟩
def t_xlaw_signs_right (sp_xlaw_of sp_xlaw_product sp_signed_sum sp_xlaw_like : WSp) : TWS := wSeq (wSet 1 (wBin subI (wVar 1) (wBin modI (wVar 1) (wC (.int 2))))) (wSeq (wSet 2 (wCB (C1 tup1) (wCons (wLc (wIRng1 (wBin subI (wVar 1) (wC (.int 1)))) (.nm 8) (wYes) (wTup (wCons (wVar 8) (wCons (wBin addF (wVar 8) (wC (.int 1))) (wNil)))) [8]) (wNil)))) (wSeq (wSet 3 (wCB (C1 tup1) (wCons (wLc (wISeq (wVar 2)) (.nm 9) (wYes) (wCall sp_xlaw_of (wCons (wVar 0) (wCons (wLst (wCons (wC (.int 1)) (wCons (wUn negF (wC (.int 1))) (wNil)))) (wNil)))) [9]) (wNil)))) (wSeq (wSet 4 (wCall sp_xlaw_product (wCons (wStep (wVar 3) (wNoPart) (wNoPart) (wC (.int 2))) (wNil)))) (wSeq (wIfS (wNot (wTest (wCall sp_xlaw_like (wCons (wCall sp_signed_sum (wCons (wTup (wCons (wVar 1) (wCons (wVar 2) (wNil)))) (wCons (wVar 3) (wNil)))) (wCons (wVar 4) (wNil)))))) (wRet (wC (.bl false))) (wNext)) (wSeq (wSet 5 (wCall sp_xlaw_of (wCons (wVar 0) (wCons (wLst (wCons (wC (.int 1)) (wCons (wUn negF (wC (.int 1))) (wNil)))) (wNil))))) (wSeq (wIfS (wAnd (wTest (wBin gtI (wVar 1) (wC (.int 2)))) (wNot (wTest (wCall sp_xlaw_like (wCons (wCall sp_signed_sum (wCons (wTup (wCons (wVar 1) (wCons (wBin addF (wVar 2) (wTup (wCons (wTup (wCons (wC (.int 0)) (wCons (wBin subI (wVar 1) (wC (.int 1))) (wNil)))) (wNil)))) (wNil)))) (wCons (wBin addF (wVar 3) (wTup (wCons (wVar 5) (wNil)))) (wNil)))) (wCons (wBin addF (wVar 4) (wBin mulF (wVar 5) (wCall sp_xlaw_product (wCons (wStep (wVar 3) (wPart (wC (.int 1))) (wNoPart) (wC (.int 2))) (wNil))))) (wNil))))))) (wRet (wC (.bl false))) (wNext)) (wSeq (wSet 6 (wBin divI (wVar 1) (wC (.int 2)))) (wSeq (wSet 7 (wCB (C1 tup1) (wCons (wLc (wIRng1 (wVar 6)) (.nm 8) (wYes) (wTup (wCons (wVar 8) (wCons (wBin addF (wVar 8) (wVar 6)) (wNil)))) [8]) (wNil)))) (wSeq (wSet 3 (wCB (C1 tup1) (wCons (wLc (wISeq (wVar 7)) (.nm 9) (wYes) (wCall sp_xlaw_of (wCons (wVar 0) (wCons (wLst (wCons (wC (.int 1)) (wCons (wUn negF (wC (.int 1))) (wNil)))) (wNil)))) [9]) (wNil)))) (wRet (wCall sp_xlaw_like (wCons (wCall sp_signed_sum (wCons (wTup (wCons (wVar 1) (wCons (wVar 7) (wNil)))) (wCons (wVar 3) (wNil)))) (wCons (wBin mulF (wCall sp_xlaw_product (wCons (wVar 3) (wNil))) (wBin subI (wC (.int 1)) (wBin mulF (wC (.int 2)) (wBin modI (wBin divI (wBin mulF (wVar 6) (wBin subI (wVar 6) (wC (.int 1)))) (wC (.int 2))) (wC (.int 2)))))) (wNil))))))))))))))
theorem j_xlaw_signs_right {sp_xlaw_of sp_xlaw_product sp_signed_sum sp_xlaw_like : WSp} (M : Mf mg) (F_xlaw_of : WFn P w K mg base k "_law_of" sp_xlaw_of) (F_xlaw_product : WFn P w K mg base k "_law_product" sp_xlaw_product) (F_signed_sum : WFn P w K mg base k "signed_sum" sp_signed_sum) (F_xlaw_like : WFn P w K mg base k "_law_like" sp_xlaw_like) (hr : Room (k + 1) (A.deeper (envOfC "_law_signs_right" (defScope s_xlaw_signs_right) s.heap.objs.size f cdv))) : JSs (Cxt P w K mg base N_xlaw_signs_right "_law_signs_right" (defScope s_xlaw_signs_right) f cdv A outer s H E) (ZE E) (defBody s_xlaw_signs_right) (t_xlaw_signs_right sp_xlaw_of sp_xlaw_product sp_signed_sum sp_xlaw_like) :=
  have hN : (Cxt P w K mg base N_xlaw_signs_right "_law_signs_right" (defScope s_xlaw_signs_right) f cdv A outer s H E).N.Nodup := sc_xlaw_signs_right.nd
  have hu : (Cxt P w K mg base N_xlaw_signs_right "_law_signs_right" (defScope s_xlaw_signs_right) f cdv A outer s H E).A.units + 64 < cLine := room64 hr
  have hu1 : (Cxt P w K mg base N_xlaw_signs_right "_law_signs_right" (defScope s_xlaw_signs_right) f cdv A outer s H E).A.units + 1 < cLine := room1 hr
  have TK : L2.Takes (Cxt P w K mg base N_xlaw_signs_right "_law_signs_right" (defScope s_xlaw_signs_right) f cdv A outer s H E) (ZE E) := takesE
  have hp := passesE (P := P) (w := w) (K := K) (mg := mg) (base := base) (N := N_xlaw_signs_right) (qual := "_law_signs_right") (sc := defScope s_xlaw_signs_right) (f := f) (cdv := cdv) (A := A) (outer := outer) (s := s) (H := H) (E := E)
  jss_cons (js_set hN (i := 1) (jsub (jv 1) (jmod (jv 1) (jint)))) (jss_cons (js_set hN (i := 2) (jtuple1 M.b_tuple (ja_cons (jlc rfl (by exact hN) (ji_rng1 (jsub (jv 1) (jint)) M.b_range) (own := [("at", 8)]) (by kernel_rfl) (fun _ _ _ _ _ => jp_nm (by exact hN)) (fun _ _ _ _ _ => jts_nil) (fun _ _ _ _ _ => jtup (ja_cons (jv 8) (ja_cons (jadd (jv 8) (jint)) (ja_nil)))) (by decide)) (ja_nil)))) (jss_cons (js_set hN (i := 3) (jtuple1 M.b_tuple (ja_cons (jlc rfl (by exact hN) (ji_seq (jv 2)) (own := [("road", 9)]) (by kernel_rfl) (fun _ _ _ _ _ => jp_nm (by exact hN)) (fun _ _ _ _ _ => jts_nil) (fun _ _ _ _ _ => jfn F_xlaw_of takes0 (by exact hr.mono (Nat.le_succ _)) (ja_cons (jv 0) (ja_cons (jlst (ja_cons (jint) (ja_cons (jneg (jint)) (ja_nil)))) (ja_nil)))) (by decide)) (ja_nil)))) (jss_cons (js_set hN (i := 4) (jfn F_xlaw_product TK (by exact hr.mono (Nat.le_succ _)) (ja_cons (jstep (jv 3) (jo_none) (jo_none) (jint)) (ja_nil)))) (jss_cons (js_if (jtnot (jtv (jfn F_xlaw_like TK (by exact hr.mono (Nat.le_succ _)) (ja_cons (jfn F_signed_sum TK (by exact hr.mono (Nat.le_succ _)) (ja_cons (jtup (ja_cons (jv 1) (ja_cons (jv 2) (ja_nil)))) (ja_cons (jv 3) (ja_nil)))) (ja_cons (jv 4) (ja_nil)))))) (jss_one (js_ret (jbl))) (jss_nil)) (jss_cons (js_set hN (i := 5) (jfn F_xlaw_of TK (by exact hr.mono (Nat.le_succ _)) (ja_cons (jv 0) (ja_cons (jlst (ja_cons (jint) (ja_cons (jneg (jint)) (ja_nil)))) (ja_nil))))) (jss_cons (js_if ((jw_and ((jgt0 (jv 1) (jint)).jt) (jw_and1 (jtnot (jtv (jfn F_xlaw_like TK (by exact hr.mono (Nat.le_succ _)) (ja_cons (jfn F_signed_sum TK (by exact hr.mono (Nat.le_succ _)) (ja_cons (jtup (ja_cons (jv 1) (ja_cons (jadd (jv 2) (jtup (ja_cons (jtup (ja_cons (jint) (ja_cons (jsub (jv 1) (jint)) (ja_nil)))) (ja_nil)))) (ja_nil)))) (ja_cons (jadd (jv 3) (jtup (ja_cons (jv 5) (ja_nil)))) (ja_nil)))) (ja_cons (jadd (jv 4) (jmulA (jv 5) (jfn F_xlaw_product TK (by exact hr.mono (Nat.le_succ _)) (ja_cons (jstep (jv 3) (jo_some (jint)) (jo_none) (jint)) (ja_nil))))) (ja_nil)))))))).jt) (jss_one (js_ret (jbl))) (jss_nil)) (jss_cons (js_set hN (i := 6) (jfdiv (jv 1) (jint))) (jss_cons (js_set hN (i := 7) (jtuple1 M.b_tuple (ja_cons (jlc rfl (by exact hN) (ji_rng1 (jv 6) M.b_range) (own := [("at", 8)]) (by kernel_rfl) (fun _ _ _ _ _ => jp_nm (by exact hN)) (fun _ _ _ _ _ => jts_nil) (fun _ _ _ _ _ => jtup (ja_cons (jv 8) (ja_cons (jadd (jv 8) (jv 6)) (ja_nil)))) (by decide)) (ja_nil)))) (jss_cons (js_set hN (i := 3) (jtuple1 M.b_tuple (ja_cons (jlc rfl (by exact hN) (ji_seq (jv 7)) (own := [("road", 9)]) (by kernel_rfl) (fun _ _ _ _ _ => jp_nm (by exact hN)) (fun _ _ _ _ _ => jts_nil) (fun _ _ _ _ _ => jfn F_xlaw_of takes0 (by exact hr.mono (Nat.le_succ _)) (ja_cons (jv 0) (ja_cons (jlst (ja_cons (jint) (ja_cons (jneg (jint)) (ja_nil)))) (ja_nil)))) (by decide)) (ja_nil)))) (jss_one (js_ret (jfn F_xlaw_like TK (by exact hr.mono (Nat.le_succ _)) (ja_cons (jfn F_signed_sum TK (by exact hr.mono (Nat.le_succ _)) (ja_cons (jtup (ja_cons (jv 1) (ja_cons (jv 7) (ja_nil)))) (ja_cons (jv 3) (ja_nil)))) (ja_cons (jmulA (jfn F_xlaw_product TK (by exact hr.mono (Nat.le_succ _)) (ja_cons (jv 3) (ja_nil))) (jsub (jint) (jmulA (jint) (jmod (jfdiv (jmulA (jv 6) (jsub (jv 6) (jint))) (jint)) (jint))))) (ja_nil)))))))))))))))
def N_law : List Str := ["script", "m", "turn", "size", "product", "odd", "one", "full", "every", "places", "row", "ladder", "due", "roads", "ring", "at", "other"]
theorem sc_law : FnScope N_law ["script"] (defScope s_law) := ⟨rfl, rfl, rfl, by decide +kernel, rfl, by decide +kernel, by decide +kernel⟩
def t_law (sp_xlaw_begun sp_xlaw_next sp_xlaw_sides_right sp_whole_count sp_filled_count sp_signed_sum sp_matrix_determinant sp_xlaw_signs_right : WSp) : TWS := wSeq (wSet 1 (wCall sp_xlaw_begun (wCons (wVar 0) (wNil)))) (wSeq (wFor (wIRng1 (wC (.int 5))) (.nm 2) (wIfS (wNot (wTest (wCall sp_xlaw_sides_right (wCons (wVar 1) (wCons (wBin addF (wC (.int 1)) (wCall sp_xlaw_next (wCons (wVar 1) (wCons (wC (.int 7)) (wNil))))) (wNil)))))) (wRet (wC (.bl false))) (wNext))) (wSeq (wAsg (wTup (wCons (wBin addF (wC (.int 1)) (wCall sp_xlaw_next (wCons (wVar 1) (wCons (wC (.int 6)) (wNil))))) (wCons (wC (.int 1)) (wCons (wC (.int 1)) (wNil))))) (wgTup 3 (wgCons (wgP (.nm 3)) (wgCons (wgP (.nm 4)) (wgCons (wgP (.nm 5)) (wgNil)))))) (wSeq (wFor (wIRng2 (wC (.int 2)) (wBin addF (wVar 3) (wC (.int 1)))) (.nm 6) (wSet 4 (wBin mulF (wVar 4) (wVar 6)))) (wSeq (wFor (wIRng3 (wC (.int 1)) (wBin mulF (wC (.int 2)) (wVar 3)) (wC (.int 2))) (.nm 6) (wSet 5 (wBin mulF (wVar 5) (wVar 6)))) (wSeq (wPar 7 8 (wCons (wLst (wNil)) (wCons (wLst (wNil)) (wNil)))) (wSeq (wFor (wIRng1 (wVar 3)) (.nm 6) (wDrop (wBM "list" extendM (wVar 7) (wCons (wLc (wIRng1 (wVar 3)) (.nm 16) (wYes) (wTup (wCons (wVar 6) (wCons (wBin addF (wVar 3) (wVar 16)) (wNil)))) [16]) (wNil))))) (wSeq (wFor (wIRng1 (wBin mulF (wC (.int 2)) (wVar 3))) (.nm 6) (wDrop (wBM "list" extendM (wVar 8) (wCons (wLc (wIRng2 (wBin addF (wVar 6) (wC (.int 1))) (wBin mulF (wC (.int 2)) (wVar 3))) (.nm 16) (wYes) (wTup (wCons (wVar 6) (wCons (wVar 16) (wNil)))) [16]) (wNil))))) (wSeq (wIfS (wOr (wTest (wBin neF (wCall sp_whole_count (wCons (wTup (wCons (wBin mulF (wC (.int 2)) (wVar 3)) (wCons (wCB (C1 tup1) (wCons (wVar 7) (wNil))) (wNil)))) (wNil))) (wVar 4))) (wOr (wAnd (wTest (wBin leI (wCB lenF (wCons (wVar 8) (wNil))) (wC (.int 40)))) (wTest (wBin neF (wCall sp_whole_count (wCons (wTup (wCons (wBin mulF (wC (.int 2)) (wVar 3)) (wCons (wCB (C1 tup1) (wCons (wVar 8) (wNil))) (wNil)))) (wNil))) (wVar 5)))) (wTest (wBin neF (wCall sp_filled_count (wCons (wTup (wCons (wBin mulF (wC (.int 2)) (wVar 3)) (wCons (wTup (wNil)) (wNil)))) (wNil))) (wVar 5))))) (wRet (wC (.bl false))) (wNext)) (wSeq (wSet 9 (wBin addF (wC (.int 2)) (wCall sp_xlaw_next (wCons (wVar 1) (wCons (wC (.int 13)) (wNil)))))) (wSeq (wSet 10 (wTup (wCons (wVar 9) (wCons (wCB (C1 tup1) (wCons (wLc (wIRng1 (wBin subI (wVar 9) (wC (.int 1)))) (.nm 15) (wYes) (wTup (wCons (wVar 15) (wCons (wBin addF (wVar 15) (wC (.int 1))) (wNil)))) [15]) (wNil))) (wNil))))) (wSeq (wIfS (wOr (wTest (wBin neF (wCall sp_whole_count (wCons (wVar 10) (wNil))) (wBin subI (wC (.int 1)) (wBin modI (wVar 9) (wC (.int 2)))))) (wTest (wBin neF (wCall sp_signed_sum (wCons (wVar 10) (wCons (wBin mulF (wTup (wCons (wC (.int 1)) (wNil))) (wBin subI (wVar 9) (wC (.int 1)))) (wNil)))) (wBin subI (wC (.int 1)) (wBin modI (wVar 9) (wC (.int 2))))))) (wRet (wC (.bl false))) (wNext)) (wSeq (wIfS (wTest (wBin gtI (wVar 9) (wC (.int 2)))) (wSeq (wSet 14 (wTup (wCons (wVar 9) (wCons (wBin addF (wBin ixF (wVar 10) (wC (.int 1))) (wTup (wCons (wTup (wCons (wC (.int 0)) (wCons (wBin subI (wVar 9) (wC (.int 1))) (wNil)))) (wNil)))) (wNil))))) (wIfS (wOr (wTest (wBin neF (wCall sp_whole_count (wCons (wVar 14) (wNil))) (wBin mulF (wC (.int 2)) (wBin subI (wC (.int 1)) (wBin modI (wVar 9) (wC (.int 2))))))) (wTest (wBin neF (wCall sp_matrix_determinant (wCons (wVar 14) (wCons (wBin mulF (wTup (wCons (wC (.int 1)) (wNil))) (wVar 9)) (wNil)))) (wBin mulF (wC (.int 4)) (wBin subI (wC (.int 1)) (wBin modI (wVar 9) (wC (.int 2)))))))) (wRet (wC (.bl false))) (wNext))) (wNext)) (wSeq (wIfS (wNot (wTest (wCall sp_xlaw_signs_right (wCons (wVar 1) (wCons (wVar 9) (wNil)))))) (wRet (wC (.bl false))) (wNext)) (wSeq (wPar 11 12 (wCons (wBin addF (wC (.int 1)) (wCall sp_xlaw_next (wCons (wVar 1) (wCons (wC (.int 7)) (wNil))))) (wCons (wTup (wCons (wC (.int 1)) (wCons (wC (.int 1)) (wNil)))) (wNil)))) (wSeq (wFor (wIRng1 (wVar 11)) (.nm 2) (wSet 12 (wTup (wCons (wBin ixF (wVar 12) (wC (.int 1))) (wCons (wBin addF (wBin ixF (wVar 12) (wC (.int 0))) (wBin ixF (wVar 12) (wC (.int 1)))) (wNil)))))) (wSeq (wSet 13 (wBin addF (wBin addF (wLc (wIRng1 (wVar 11)) (.nm 15) (wYes) (wTup (wCons (wBin mulF (wC (.int 2)) (wVar 15)) (wCons (wBin addF (wBin mulF (wC (.int 2)) (wVar 15)) (wC (.int 1))) (wNil)))) [15]) (wLc (wIRng1 (wBin subI (wVar 11) (wC (.int 1)))) (.nm 15) (wYes) (wTup (wCons (wBin mulF (wC (.int 2)) (wVar 15)) (wCons (wBin addF (wBin mulF (wC (.int 2)) (wVar 15)) (wC (.int 2))) (wNil)))) [15])) (wLc (wIRng1 (wBin subI (wVar 11) (wC (.int 1)))) (.nm 15) (wYes) (wTup (wCons (wBin addF (wBin mulF (wC (.int 2)) (wVar 15)) (wC (.int 1))) (wCons (wBin addF (wBin mulF (wC (.int 2)) (wVar 15)) (wC (.int 3))) (wNil)))) [15]))) (wRet (wBin eqF (wCall sp_whole_count (wCons (wTup (wCons (wBin mulF (wC (.int 2)) (wVar 11)) (wCons (wCB (C1 tup1) (wCons (wVar 13) (wNil))) (wNil)))) (wNil))) (wBin ixF (wVar 12) (wC (.int 0)))))))))))))))))))))
theorem j_law {sp_xlaw_begun sp_xlaw_next sp_xlaw_sides_right sp_whole_count sp_filled_count sp_signed_sum sp_matrix_determinant sp_xlaw_signs_right : WSp} (M : Mf mg) (F_xlaw_begun : WFn P w K mg base k "_law_begun" sp_xlaw_begun) (F_xlaw_next : WFn P w K mg base k "_law_next" sp_xlaw_next) (F_xlaw_sides_right : WFn P w K mg base k "_law_sides_right" sp_xlaw_sides_right) (F_whole_count : WFn P w K mg base k "whole_count" sp_whole_count) (F_filled_count : WFn P w K mg base k "filled_count" sp_filled_count) (F_signed_sum : WFn P w K mg base k "signed_sum" sp_signed_sum) (F_matrix_determinant : WFn P w K mg base k "matrix_determinant" sp_matrix_determinant) (F_xlaw_signs_right : WFn P w K mg base k "_law_signs_right" sp_xlaw_signs_right) (hr : Room (k + 1) (A.deeper (envOfC "law" (defScope s_law) s.heap.objs.size f cdv))) : JSs (Cxt P w K mg base N_law "law" (defScope s_law) f cdv A outer s H E) (ZE E) (defBody s_law) (t_law sp_xlaw_begun sp_xlaw_next sp_xlaw_sides_right sp_whole_count sp_filled_count sp_signed_sum sp_matrix_determinant sp_xlaw_signs_right) :=
  have hN : (Cxt P w K mg base N_law "law" (defScope s_law) f cdv A outer s H E).N.Nodup := sc_law.nd
  have hu : (Cxt P w K mg base N_law "law" (defScope s_law) f cdv A outer s H E).A.units + 64 < cLine := room64 hr
  have hu1 : (Cxt P w K mg base N_law "law" (defScope s_law) f cdv A outer s H E).A.units + 1 < cLine := room1 hr
  have TK : L2.Takes (Cxt P w K mg base N_law "law" (defScope s_law) f cdv A outer s H E) (ZE E) := takesE
  have hp := passesE (P := P) (w := w) (K := K) (mg := mg) (base := base) (N := N_law) (qual := "law") (sc := defScope s_law) (f := f) (cdv := cdv) (A := A) (outer := outer) (s := s) (H := H) (E := E)
  jss_cons (js_set hN (i := 1) (jfn F_xlaw_begun TK (by exact hr.mono (Nat.le_succ _)) (ja_cons (jv 0) (ja_nil)))) (jss_cons (js_for hp rfl (ji_rng1 (jint) M.b_range) (jp_nm (by exact hN)) (jss_one (js_if (jtnot (jtv (jfn F_xlaw_sides_right TK (by exact hr.mono (Nat.le_succ _)) (ja_cons (jv 1) (ja_cons (jadd (jint) (jfn F_xlaw_next TK (by exact hr.mono (Nat.le_succ _)) (ja_cons (jv 1) (ja_cons (jint) (ja_nil))))) (ja_nil)))))) (jss_one (js_ret (jbl))) (jss_nil)))) (jss_cons (js_asg (jtup (ja_cons (jadd (jint) (jfn F_xlaw_next TK (by exact hr.mono (Nat.le_succ _)) (ja_cons (jv 1) (ja_cons (jint) (ja_nil))))) (ja_cons (jint) (ja_cons (jint) (ja_nil))))) (jg_tup rfl (jgs_cons (jg_pat (jp_nm (by exact hN))) (jgs_cons (jg_pat (jp_nm (by exact hN))) (jgs_cons (jg_pat (jp_nm (by exact hN))) (jgs_nil)))))) (jss_cons (js_for hp rfl (ji_rng2 (jint) (jadd (jv 3) (jint)) M.b_range) (jp_nm (by exact hN)) (jss_one (js_set hN (i := 4) (jmulA (jv 4) (jv 6))))) (jss_cons (js_for hp rfl (ji_rng3 (jint) (jmulA (jint) (jv 3)) (jint) M.b_range) (jp_nm (by exact hN)) (jss_one (js_set hN (i := 5) (jmulA (jv 5) (jv 6))))) (jss_cons (js_par (i := 7) (j := 8) rfl hN (ja_cons (jlst (ja_nil)) (ja_cons (jlst (ja_nil)) (ja_nil)))) (jss_cons (js_for hp rfl (ji_rng1 (jv 3) M.b_range) (jp_nm (by exact hN)) (jss_one (js_expr (jextend (jv 7) (ja_cons (jlc rfl (by exact hN) (ji_rng1 (jv 3) M.b_range) (own := [("other", 16)]) (by kernel_rfl) (fun _ _ _ _ _ => jp_nm (by exact hN)) (fun _ _ _ _ _ => jts_nil) (fun _ _ _ _ _ => jtup (ja_cons (jv 6) (ja_cons (jadd (jv 3) (jv 16)) (ja_nil)))) (by decide)) (ja_nil)))))) (jss_cons (js_for hp rfl (ji_rng1 (jmulA (jint) (jv 3)) M.b_range) (jp_nm (by exact hN)) (jss_one (js_expr (jextend (jv 8) (ja_cons (jlc rfl (by exact hN) (ji_rng2 (jadd (jv 6) (jint)) (jmulA (jint) (jv 3)) M.b_range) (own := [("other", 16)]) (by kernel_rfl) (fun _ _ _ _ _ => jp_nm (by exact hN)) (fun _ _ _ _ _ => jts_nil) (fun _ _ _ _ _ => jtup (ja_cons (jv 6) (ja_cons (jv 16) (ja_nil)))) (by decide)) (ja_nil)))))) (jss_cons (js_if ((jw_or ((jne (by exact hu) (jfn F_whole_count TK (by exact hr.mono (Nat.le_succ _)) (ja_cons (jtup (ja_cons (jmulA (jint) (jv 3)) (ja_cons (jtuple1 M.b_tuple (ja_cons (jv 7) (ja_nil))) (ja_nil)))) (ja_nil))) (jv 4)).jt) (jw_or ((jw_and ((jle0 (jlen M.b_len (ja_cons (jv 8) (ja_nil))) (jint)).jt) (jw_and1 ((jne (by exact hu) (jfn F_whole_count TK (by exact hr.mono (Nat.le_succ _)) (ja_cons (jtup (ja_cons (jmulA (jint) (jv 3)) (ja_cons (jtuple1 M.b_tuple (ja_cons (jv 8) (ja_nil))) (ja_nil)))) (ja_nil))) (jv 5)).jt))).jt) (jw_or1 ((jne (by exact hu) (jfn F_filled_count TK (by exact hr.mono (Nat.le_succ _)) (ja_cons (jtup (ja_cons (jmulA (jint) (jv 3)) (ja_cons (jtup (ja_nil)) (ja_nil)))) (ja_nil))) (jv 5)).jt)))).jt) (jss_one (js_ret (jbl))) (jss_nil)) (jss_cons (js_set hN (i := 9) (jadd (jint) (jfn F_xlaw_next TK (by exact hr.mono (Nat.le_succ _)) (ja_cons (jv 1) (ja_cons (jint) (ja_nil)))))) (jss_cons (js_set hN (i := 10) (jtup (ja_cons (jv 9) (ja_cons (jtuple1 M.b_tuple (ja_cons (jlc rfl (by exact hN) (ji_rng1 (jsub (jv 9) (jint)) M.b_range) (own := [("at", 15)]) (by kernel_rfl) (fun _ _ _ _ _ => jp_nm (by exact hN)) (fun _ _ _ _ _ => jts_nil) (fun _ _ _ _ _ => jtup (ja_cons (jv 15) (ja_cons (jadd (jv 15) (jint)) (ja_nil)))) (by decide)) (ja_nil))) (ja_nil))))) (jss_cons (js_if ((jw_or ((jne (by exact hu) (jfn F_whole_count TK (by exact hr.mono (Nat.le_succ _)) (ja_cons (jv 10) (ja_nil))) (jsub (jint) (jmod (jv 9) (jint)))).jt) (jw_or1 ((jne (by exact hu) (jfn F_signed_sum TK (by exact hr.mono (Nat.le_succ _)) (ja_cons (jv 10) (ja_cons (jmulA (jtup (ja_cons (jint) (ja_nil))) (jsub (jv 9) (jint))) (ja_nil)))) (jsub (jint) (jmod (jv 9) (jint)))).jt))).jt) (jss_one (js_ret (jbl))) (jss_nil)) (jss_cons (js_if ((jgt0 (jv 9) (jint)).jt) (jss_cons (js_set hN (i := 14) (jtup (ja_cons (jv 9) (ja_cons (jadd (jidx (by exact hu) (jv 10) (jint)) (jtup (ja_cons (jtup (ja_cons (jint) (ja_cons (jsub (jv 9) (jint)) (ja_nil)))) (ja_nil)))) (ja_nil))))) (jss_one (js_if ((jw_or ((jne (by exact hu) (jfn F_whole_count TK (by exact hr.mono (Nat.le_succ _)) (ja_cons (jv 14) (ja_nil))) (jmulA (jint) (jsub (jint) (jmod (jv 9) (jint))))).jt) (jw_or1 ((jne (by exact hu) (jfn F_matrix_determinant TK (by exact hr.mono (Nat.le_succ _)) (ja_cons (jv 14) (ja_cons (jmulA (jtup (ja_cons (jint) (ja_nil))) (jv 9)) (ja_nil)))) (jmulA (jint) (jsub (jint) (jmod (jv 9) (jint))))).jt))).jt) (jss_one (js_ret (jbl))) (jss_nil)))) (jss_nil)) (jss_cons (js_if (jtnot (jtv (jfn F_xlaw_signs_right TK (by exact hr.mono (Nat.le_succ _)) (ja_cons (jv 1) (ja_cons (jv 9) (ja_nil)))))) (jss_one (js_ret (jbl))) (jss_nil)) (jss_cons (js_par (i := 11) (j := 12) rfl hN (ja_cons (jadd (jint) (jfn F_xlaw_next TK (by exact hr.mono (Nat.le_succ _)) (ja_cons (jv 1) (ja_cons (jint) (ja_nil))))) (ja_cons (jtup (ja_cons (jint) (ja_cons (jint) (ja_nil)))) (ja_nil)))) (jss_cons (js_for hp rfl (ji_rng1 (jv 11) M.b_range) (jp_nm (by exact hN)) (jss_one (js_set hN (i := 12) (jtup (ja_cons (jidx (by exact hu) (jv 12) (jint)) (ja_cons (jadd (jidx (by exact hu) (jv 12) (jint)) (jidx (by exact hu) (jv 12) (jint))) (ja_nil))))))) (jss_cons (js_set hN (i := 13) (jadd (jadd (jlc rfl (by exact hN) (ji_rng1 (jv 11) M.b_range) (own := [("at", 15)]) (by kernel_rfl) (fun _ _ _ _ _ => jp_nm (by exact hN)) (fun _ _ _ _ _ => jts_nil) (fun _ _ _ _ _ => jtup (ja_cons (jmulA (jint) (jv 15)) (ja_cons (jadd (jmulA (jint) (jv 15)) (jint)) (ja_nil)))) (by decide)) (jlc rfl (by exact hN) (ji_rng1 (jsub (jv 11) (jint)) M.b_range) (own := [("at", 15)]) (by kernel_rfl) (fun _ _ _ _ _ => jp_nm (by exact hN)) (fun _ _ _ _ _ => jts_nil) (fun _ _ _ _ _ => jtup (ja_cons (jmulA (jint) (jv 15)) (ja_cons (jadd (jmulA (jint) (jv 15)) (jint)) (ja_nil)))) (by decide))) (jlc rfl (by exact hN) (ji_rng1 (jsub (jv 11) (jint)) M.b_range) (own := [("at", 15)]) (by kernel_rfl) (fun _ _ _ _ _ => jp_nm (by exact hN)) (fun _ _ _ _ _ => jts_nil) (fun _ _ _ _ _ => jtup (ja_cons (jadd (jmulA (jint) (jv 15)) (jint)) (ja_cons (jadd (jmulA (jint) (jv 15)) (jint)) (ja_nil)))) (by decide)))) (jss_one (js_ret ((jeq (by exact hu) (jfn F_whole_count TK (by exact hr.mono (Nat.le_succ _)) (ja_cons (jtup (ja_cons (jmulA (jint) (jv 11)) (ja_cons (jtuple1 M.b_tuple (ja_cons (jv 13) (ja_nil))) (ja_nil)))) (ja_nil))) (jidx (by exact hu) (jv 12) (jint))).je)))))))))))))))))))
end
end Pd
set_option Elab.async false
set_option linter.all false
set_option maxRecDepth 100000
set_option maxHeartbeats 1000000
namespace Pd
open PySem PySem.Spec PyProof.Rows L2
/-- is_number: of data -/
def isNum : Wv → Bool
  | .int _ => true
  | _ => false
def sp_is_number : WSp := fun ws h Q _ => ∃ w, ws = [w] ∧ (tyName h w).isSome = true ∧ Q (.bl (isNum w)) h
theorem q_is_number (ws : List Wv) (h : WH) (Q : WQ) (E : WX) (s : sp_is_number ws h Q E) : wBody t_is_number N_is_number.length ws h Q E := by
  obtain ⟨w, rfl, ty, q⟩ := s
  cases w <;> simp [t_is_number, N_is_number, isiF, tyName, isNum] at q ty ⊢ <;> try assumption
  rename_i a
  cases e : h a with
  | none => simp [e] at ty
  | some o => cases o <;> simp [e] at ty ⊢ <;> assumption
end Pd
set_option Elab.async false
set_option linter.all false
set_option maxRecDepth 100000
set_option maxHeartbeats 1000000
namespace Pd
open PySem PySem.Spec PyProof.Rows L2
theorem at_n {α : Type} {ws : List α} {n : Nat} {w : α} (e : ws[n]? = some w) : L2.atI ws (n : Int) = some w := atI_nat e
@[simp] theorem at_0 {α : Type} {a : α} {r : List α} : L2.atI (a :: r) 0 = some a := at_n (n := 0) rfl
@[simp] theorem at_1 {α : Type} {a b : α} {r : List α} : L2.atI (a :: b :: r) 1 = some b := at_n (n := 1) rfl
/-! ### is_number, is_among, is_tuple_of, is_road, need_net -/
@[simp] theorem u_is_numberI {a : Int} {h : WH} {Q : WQ} {E : WX} : sp_is_number [.int a] h Q E ↔ Q (.bl true) h := by simp [sp_is_number, tyName, isNum]
def sp_is_among : WSp := fun ws h Q _ => match ws with
  | [.int a, .int b, .int c] => Q (.bl (decide (b ≤ a) && decide (a ≤ c))) h
  | _ => False
@[simp] theorem u_is_among {a b c : Int} {h : WH} {Q : WQ} {E : WX} : sp_is_among [.int a, .int b, .int c] h Q E = Q (.bl (decide (b ≤ a) && decide (a ≤ c))) h := rfl
theorem q_is_among (ws : List Wv) (h : WH) (Q : WQ) (E : WX) (s : sp_is_among ws h Q E) : wBody (t_is_among sp_is_number) N_is_among.length ws h Q E := by
  unfold sp_is_among at s
  split at s
  · rename_i a b c
    simp [t_is_among, N_is_among]
    by_cases e : b ≤ a <;> simp [e] at s ⊢ <;> assumption
  · exact s.elim
def sp_is_tuple_of : WSp := fun ws h Q _ => match ws with
  | [.tup vs, .int a, .int b] => Q (.bl (decide (a ≤ vs.length) && decide ((vs.length : Int) ≤ b))) h
  | _ => False
@[simp] theorem u_is_tuple_of {vs : List Wv} {a b : Int} {h : WH} {Q : WQ} {E : WX} : sp_is_tuple_of [.tup vs, .int a, .int b] h Q E = Q (.bl (decide (a ≤ vs.length) && decide ((vs.length : Int) ≤ b))) h := rfl
theorem q_is_tuple_of (ws : List Wv) (h : WH) (Q : WQ) (E : WX) (s : sp_is_tuple_of ws h Q E) : wBody t_is_tuple_of N_is_tuple_of.length ws h Q E := by
  unfold sp_is_tuple_of at s
  split at s
  · rename_i vs a b
    simp [t_is_tuple_of, N_is_tuple_of, isiF, tyName]
    by_cases e : a ≤ vs.length <;> simp [e] at s ⊢ <;> assumption
  · exact s.elim
def rdW (r : Int × Int) : Wv := .tup [.int r.1, .int r.2]
def isRd (n : Int) (r : Int × Int) : Bool := decide (0 ≤ r.1) && decide (r.1 ≤ n - 1) && (decide (r.1 + 1 ≤ r.2) && decide (r.2 ≤ n - 1))
def sp_is_road : WSp := fun ws h Q _ => match ws with
  | [.tup [.int a, .int b], .int n] => Q (.bl (isRd n (a, b))) h
  | _ => False
@[simp] theorem u_is_road {r : Int × Int} {n : Int} {h : WH} {Q : WQ} {E : WX} : sp_is_road [rdW r, .int n] h Q E = Q (.bl (isRd n r)) h := rfl
theorem q_is_road (ws : List Wv) (h : WH) (Q : WQ) (E : WX) (s : sp_is_road ws h Q E) : wBody (t_is_road sp_is_tuple_of sp_is_among) N_is_road.length ws h Q E := by
  unfold sp_is_road at s
  split at s
  · rename_i a b n
    simp [t_is_road, N_is_road, isRd] at s ⊢
    by_cases e1 : 0 ≤ a <;> by_cases e2 : a ≤ n - 1 <;> simp [e1, e2] at s ⊢ <;> assumption
  · exact s.elim
/-- a net: places and roads -/
structure Net where
  n : Nat
  rs : List (Int × Int)
def Net.w (N : Net) : Wv := .tup [.int N.n, .tup (N.rs.map rdW)]
structure Net.Ok (N : Net) : Prop where
  n14 : N.n ≤ 14
  r40 : N.rs.length ≤ 40
  rd : ∀ r, r ∈ N.rs → isRd N.n r = true
  nd : N.rs.Nodup
def sp_need_net : WSp := fun ws h Q _ => ∃ N : Net, N.Ok ∧ ws = [N.w] ∧ ∀ h', Ext h h' → Q N.w h'
def keyR (r : Int × Int) : List Key := [.inl r.1, .inl r.2]
@[simp] theorem keysT_rd {r : Int × Int} : keysT [.int r.1, .int r.2] = some (keyR r) := rfl
theorem keyR_inj {r s : Int × Int} (e : keyR r = keyR s) : r = s := by
  simp [keyR] at e
  exact Prod.ext e.1 e.2
theorem look_key {r : Int × Int} : ∀ {rs : List (Int × Int)}, r ∉ rs → lookA (keyR r) (rs.map fun r => (keyR r, Wv.bl true)) = none
  | [], _ => rfl
  | x :: t, h => by
    have h1 : ¬ keyR x = keyR r := fun e => h (by rw [keyR_inj e]; exact List.mem_cons_self)
    have h2 : r ∉ t := fun m => h (List.mem_cons_of_mem _ m)
    simp only [List.map_cons, lookA, if_neg h1]
    exact look_key h2
theorem enum_at {ws : List Wv} {i : Nat} {w : Wv} (e : (enumW 0 ws)[i]? = some w) : ∃ u, ws[i]? = some u ∧ w = .tup [.int (i : Nat), u] := by
  rw [enumW_get] at e
  cases e1 : ws[i]? with
  | none => rw [e1] at e; cases e
  | some u => rw [e1] at e; simp at e; exact ⟨u, rfl, e.symm⟩
theorem not_take {α : Type} {r : α} : ∀ {rs : List α} {i : Nat}, rs.Nodup → rs[i]? = some r → r ∉ rs.take i
  | [], _, _, e => by simp at e
  | x :: t, 0, _, _ => by simp
  | x :: t, i + 1, nd, e => by
    have e' : t[i]? = some r := by simpa using e
    have n1 := (List.nodup_cons.mp nd)
    intro m
    rw [List.take_succ_cons] at m
    rcases List.mem_cons.mp m with rfl | m
    · exact n1.1 (List.mem_of_getElem? e')
    · exact not_take n1.2 e' m
theorem q_need_net (ws : List Wv) (h : WH) (Q : WQ) (E : WX) (s : sp_need_net ws h Q E) : wBody (t_need_net sp_is_tuple_of sp_is_among sp_is_road) N_need_net.length ws h Q E := by
  obtain ⟨⟨n, rs⟩, ok, rfl, q⟩ := s
  have n14 := ok.n14
  have r40 := ok.r40
  have rd := ok.rd
  have nd := ok.nd
  dsimp only at n14 r40 rd nd
  have a1 : (n : Int) ≤ 14 := by omega
  have a2 : (rs.length : Int) ≤ 40 := by omega
  simp only [Net.w] at q ⊢
  simp [t_need_net, N_need_net, a1, a2]
  intro p hp
  simp only [wFor, s_enum]
  simp
  refine ⟨fun i ρ h1 => Ext h h1 ∧ h1 p = some (.dT ((rs.take i).map fun r => (keyR r, Wv.bl true))) ∧ ∃ u v, ρ = [some (.tup [.int n, .tup (rs.map rdW)]), some (.ref p), u, v], ⟨Ext.new hp, by simp [wup_same], _, _, rfl⟩, ?_, ?_⟩
  · intro i w ρ h1 hi ⟨x1, x2, u, v, hr⟩
    subst hr
    obtain ⟨y, ey, rfl⟩ := enum_at hi
    rw [List.getElem?_map] at ey
    cases er : rs[i]? with
    | none => rw [er] at ey; cases ey
    | some r =>
      rw [er] at ey
      simp at ey
      subst ey
      have hm : r ∈ rs := List.mem_of_getElem? er
      refine ⟨_, rfl, ?_⟩
      have nm : r ∉ rs.take i := not_take nd er
      have lk := look_key nm
      have hl : (List.map (fun r => (keyR r, Wv.bl true)) (rs.take i)).length < sizeLine := by
        rw [List.length_map, List.length_take]
        have : (64 : Nat) ≤ sizeLine := by decide
        omega
      have mm : memF false (rdW r) (.ref p) h1 = some (.val (.bl false)) := by
        have := o_memD (n := false) x2 (keysT_rd (r := r))
        rw [lk] at this
        exact this
      have st : setW (.ref p) (rdW r) (.bl true) h1 = some (p, .dT (putA (keyR r) (.bl true) ((rs.take i).map fun r => (keyR r, Wv.bl true)))) := o_setD x2 keysT_rd hl
      have pt : putA (keyR r) (Wv.bl true) ((rs.take i).map fun r => (keyR r, Wv.bl true)) = (rs.take (i + 1)).map fun r => (keyR r, Wv.bl true) := by
        unfold putA
        rw [lk, List.take_add_one, er]
        simp
      rw [pt] at st
      simp [rd r hm, mm, st]
      exact Ext.put hp x1
  · rintro ρ h1 ⟨x1, x2, u, v, rfl⟩
    simp
    exact q _ x1
end Pd
set_option Elab.async false
set_option linter.all false
set_option maxRecDepth 100000
set_option maxHeartbeats 1000000
namespace Pd
open PySem PySem.Spec PyProof.Rows L2
theorem wup_self {h : WH} {a : Addr} {o : Wo} (e : h a = some o) : wup h a o = h := by
  funext b
  by_cases c : b = a
  · subst c; rw [wup_same, e]
  · rw [wup_ne c]
/-! ### put_behind: addition one place on -/
def addL : List Int → List Int → List Int
  | [], m => m
  | f, [] => f
  | a :: f, b :: m => (a + b) :: addL f m
@[simp] theorem addL_nil {f : List Int} : addL f [] = f := by cases f <;> rfl
theorem addL_length : ∀ (f m : List Int), (addL f m).length = max f.length m.length
  | [], m => by simp [addL]
  | a :: f, [] => by simp [addL]
  | a :: f, b :: m => by simp [addL, addL_length f m]
theorem addL_app : ∀ (f m : List Int) (o : Int), f.length ≤ m.length → addL f (m ++ [o]) = addL f m ++ [o]
  | [], m, o, _ => by simp [addL]
  | a :: f, [], o, h => by simp at h
  | a :: f, b :: m, o, h => by
    simp at h
    simp [addL, addL_app f m o h]
theorem addL_at : ∀ (f m : List Int), m.length < f.length → (addL f m)[m.length]? = f[m.length]?
  | [], m, h => by simp at h
  | a :: f, [], h => by simp [addL]
  | a :: f, b :: m, h => by
    simp at h
    simpa [addL] using addL_at f m h
theorem addL_set : ∀ (f m : List Int) (o x : Int), f[m.length]? = some x → addL f (m ++ [o]) = (addL f m).set m.length (x + o)
  | [], m, o, x, h => by simp at h
  | a :: f, [], o, x, h => by simp at h; subst h; cases f <;> simp [addL]
  | a :: f, b :: m, o, x, h => by
    simp at h
    simpa [addL] using addL_set f m o x h
def sp_put_behind : WSp := fun ws h Q _ => ∃ (a b : Addr) (x : Int) (f m : List Int), ws = [.ref a, .ref b] ∧ a ≠ b ∧ h a = some (.lst ((x :: f).map .int)) ∧ h b = some (.lst (m.map .int)) ∧ f.length + m.length < 1000 ∧ Q .non (wup h a (.lst ((x :: addL f m).map .int)))
theorem q_put_behind (ws : List Wv) (h : WH) (Q : WQ) (E : WX) (s : sp_put_behind ws h Q E) : wBody t_put_behind N_put_behind.length ws h Q E := by
  obtain ⟨a, b, x, f, m, rfl, ne, ha, hb, l, q⟩ := s
  have big : (2000 : Nat) ≤ sizeLine := by decide
  simp only [t_put_behind, N_put_behind, e_wBody, wFor, s_enum]
  simp
  rw [s_onL hb]
  refine ⟨fun i ρ h1 => h1 = wup h a (.lst ((x :: addL f (m.take i)).map .int)) ∧ ∃ u v, ρ = [some (.ref a), some (.ref b), u, v], ⟨?_, _, _, rfl⟩, ?_, ?_, ?_⟩
  · simp only [List.take_zero, addL_nil]
    exact (wup_self ha).symm
  · rintro i ρ h1 _ ⟨rfl, _⟩
    rw [wup_ne (Ne.symm ne)]
    exact hb
  · rintro i w ρ h1 hi ⟨rfl, u, v, rfl⟩
    obtain ⟨y, ey, rfl⟩ := enum_at hi
    rw [List.getElem?_map] at ey
    cases er : m[i]? with
    | none => rw [er] at ey; cases ey
    | some o =>
      rw [er] at ey
      simp at ey
      subst ey
      have il : i < m.length := (List.getElem?_eq_some_iff.mp er).1
      have tl : (m.take i).length = i := by rw [List.length_take]; omega
      have tk : m.take (i + 1) = m.take i ++ [o] := by rw [List.take_add_one, er]; rfl
      refine ⟨_, rfl, ?_⟩
      have hh : (wup h a (.lst ((x :: addL f (m.take i)).map .int))) a = some (.lst ((x :: addL f (m.take i)).map .int)) := wup_same
      generalize hg : wup h a (.lst ((x :: addL f (m.take i)).map .int)) = g at hh
      have ll : ((x :: addL f (m.take i)).map Wv.int).length = max f.length i + 1 := by
        rw [List.length_map, List.length_cons, addL_length, tl]
      have ln : lenF [.ref a] g = some (.val (.int ((max f.length i + 1 : Nat) : Int))) := by rw [o_lenL hh, ll]
      simp [ln]
      by_cases c : f.length ≤ i
      · have c1 : max f.length i = i := by omega
        have ap : appendM (.ref a) [.int o] g = some (.put a (.lst ((x :: addL f (m.take i)).map .int ++ [.int o])) .non) := by
          rw [o_app hh, ll, if_pos (by omega)]
        have e1 : m.take (i + 1) = m.take i ++ [o] := tk
        have e2 : addL f (m.take (i + 1)) = addL f (m.take i) ++ [o] := by rw [tk, addL_app f _ o (by omega)]
        have hc : ((i : Int) = max (f.length : Int) (i : Int)) := by omega
        rw [if_pos (by omega)]
        simp [tyW, tyName, hh, ap]
        rw [e2, ← hg, wup_wup]
        simp
      · have c1 : i < f.length := by omega
        have lt : (m.take i).length < f.length := by omega
        obtain ⟨y, ey⟩ : ∃ y, f[i]? = some y := ⟨_, List.getElem?_eq_getElem c1⟩
        have e2 : addL f (m.take (i + 1)) = (addL f (m.take i)).set i (y + o) := by
          have := addL_set f (m.take i) o y (by rw [tl]; exact ey)
          rw [tk, this, tl]
        have g1 : (addL f (m.take i))[i]? = some y := by
          have := addL_at f (m.take i) lt
          rw [tl] at this
          rw [this, ey]
        have ix : ixF (.ref a) (.int ((i : Int) + 1)) g = some (.val (.int y)) := by
          have : L2.atI ((x :: addL f (m.take i)).map Wv.int) (((i + 1 : Nat)) : Int) = some (.int y) := at_n (by simp [g1])
          rw [o_ixL hh]
          rw [show ((i : Int) + 1) = ((i + 1 : Nat) : Int) by omega, this]
          rfl
        have st : setW (.ref a) (.int ((i : Int) + 1)) (.int (y + o)) g = some (a, .lst (((x :: addL f (m.take i)).map Wv.int).set (i + 1) (.int (y + o)))) := by
          rw [show ((i : Int) + 1) = ((i + 1 : Nat) : Int) by omega]
          exact o_setL hh (by rw [ll]; omega)
        rw [if_neg (by omega)]
        simp [ix, st]
        rw [e2, ← hg, wup_wup]
        simp [List.map_set]
  · rintro ρ h1 ⟨rfl, u, v, rfl⟩
    have : m.take (enumW 0 (m.map Wv.int)).length = m := by
      rw [enumW_length, List.length_map, List.take_length]
    rw [this]
    exact q
end Pd
set_option Elab.async false
set_option linter.all false
set_option maxRecDepth 100000
set_option maxHeartbeats 1000000
namespace Pd
open PySem PySem.Spec PyProof.Rows L2
/-! ### the counts of a net, by flags of the places still there -/
/-- put_behind as a function (the list found has an entry) -/
def pb : List Int → List Int → List Int
  | [], m => m
  | x :: f, m => x :: addL f m
/-- is place i of the bits set -/
def bitOn (bits i : Nat) : Bool := bits / 2 ^ i % 2 == 1
/-- the counts: d places are left, of n; later.getD p lists the places joined to p that come after it -/
def cntB (later : List (List Nat)) (n : Nat) : Nat → Nat → List Int
  | 0, _ => [1]
  | d + 1, bits =>
    let p := n - (d + 1)
    if bitOn bits p then
      let rest := bits - 2 ^ p
      (later.getD p []).foldl (fun f o => if bitOn rest o then pb f (cntB later n d (rest - 2 ^ o)) else f) (cntB later n d rest)
    else cntB later n d bits
theorem pb_cons {f m : List Int} (h : f ≠ []) : pb f m ≠ [] := by
  cases f with
  | nil => exact absurd rfl h
  | cons x f => simp [pb]
theorem foldl_ne {α : Type} (g : List Int → α → List Int) (hg : ∀ f a, f ≠ [] → g f a ≠ []) : ∀ (l : List α) (f : List Int), f ≠ [] → l.foldl g f ≠ []
  | [], f, h => h
  | a :: l, f, h => foldl_ne g hg l _ (hg f a h)
theorem cntB_ne (later : List (List Nat)) (n : Nat) : ∀ d bits, cntB later n d bits ≠ []
  | 0, _ => by simp [cntB]
  | d + 1, bits => by
    unfold cntB
    dsimp only
    split
    · refine foldl_ne _ (fun f a h => ?_) _ _ (cntB_ne later n d _)
      split
      · exact pb_cons h
      · exact h
    · exact cntB_ne later n d bits
/-- nothing set: one way of taking none -/
theorem cntB_zero (later : List (List Nat)) (n : Nat) : ∀ d, cntB later n d 0 = [1]
  | 0 => rfl
  | d + 1 => by
    unfold cntB
    have : bitOn 0 (n - (d + 1)) = false := by simp [bitOn]
    simp [this, cntB_zero later n d]
end Pd
set_option Elab.async false
set_option linter.all false
set_option maxRecDepth 100000
set_option maxHeartbeats 1000000
namespace Pd
open PySem PySem.Spec PyProof.Rows L2
/-! ### facts on the counts -/
/-- a clear place is passed -/
theorem cntB_skip {later : List (List Nat)} {n d bits : Nat} (c : bitOn bits (n - (d + 1)) = false) : cntB later n (d + 1) bits = cntB later n d bits := by
  rw [cntB]
  simp [c]
/-- bits clear under a place: the counts from that place on are the counts -/
theorem cntB_from {later : List (List Nat)} {n bits : Nat} : ∀ (e d : Nat), d + e ≤ n → (∀ i, i < n - d → bitOn bits i = false) → cntB later n (d + e) bits = cntB later n d bits
  | 0, d, _, _ => rfl
  | e + 1, d, h, c => by
    rw [← Nat.add_assoc, cntB_skip (c _ (by omega))]
    exact cntB_from e d (by omega) c
theorem pb_length {f m : List Int} (h : f ≠ []) : (pb f m).length = max f.length (m.length + 1) := by
  cases f with
  | nil => exact absurd rfl h
  | cons x f => simp [pb, addL_length]
theorem foldl_len {α : Type} (b : Nat) (g : List Int → α → List Int) (hg : ∀ f a, f ≠ [] → f.length ≤ b → g f a ≠ [] ∧ (g f a).length ≤ b) : ∀ (l : List α) (f : List Int), f ≠ [] → f.length ≤ b → (l.foldl g f).length ≤ b
  | [], f, _, h => h
  | a :: l, f, h, h' => foldl_len b g hg l _ (hg f a h h').1 (hg f a h h').2
theorem cntB_length (later : List (List Nat)) (n : Nat) : ∀ d bits, (cntB later n d bits).length ≤ d + 1
  | 0, _ => by simp [cntB]
  | d + 1, bits => by
    unfold cntB
    dsimp only
    split
    · refine foldl_len (d + 1 + 1) _ (fun f a h h' => ?_) _ _ (cntB_ne later n d _) (Nat.le_succ_of_le (cntB_length later n d _))
      split
      · refine ⟨pb_cons h, ?_⟩
        rw [pb_length h]
        have := cntB_length later n d (bits - 2 ^ (n - (d + 1)) - 2 ^ a)
        omega
      · exact ⟨h, h'⟩
    · exact Nat.le_succ_of_le (cntB_length later n d bits)
/-- pigeonhole: distinct numbers under b are at most b -/
theorem few_under : ∀ (b : Nat) (l : List Nat), l.Nodup → (∀ x, x ∈ l → x < b) → l.length ≤ b
  | 0, l, _, h => by
    cases l with
    | nil => simp
    | cons x t => exact absurd (h x List.mem_cons_self) (Nat.not_lt_zero _)
  | b + 1, l, nd, h => by
    have h1 := few_under b (l.erase b) (nd.erase b) fun x hx => by
      have h2 := h x (List.mem_of_mem_erase hx)
      have h3 : x ≠ b := fun e => by subst e; exact nd.not_mem_erase hx
      omega
    have h2 := List.length_erase (a := b) (l := l)
    split at h2 <;> omega
end Pd
set_option Elab.async false
set_option linter.all false
set_option maxRecDepth 100000
set_option maxHeartbeats 1000000
namespace Pd
open PySem PySem.Spec PyProof.Rows L2
/-! ### bits -/
/-- the bits under p are clear -/
def Clear (b p : Nat) : Prop := ∃ q, b = 2 ^ p * q
theorem Clear.zero (b : Nat) : Clear b 0 := ⟨b, by simp⟩
theorem Clear.on {b p q : Nat} (e : b = 2 ^ p * q) : bitOn b p = (q % 2 == 1) := by
  unfold bitOn
  rw [e, Nat.mul_div_cancel_left _ (Nat.two_pow_pos p)]
theorem Clear.skip {b p : Nat} (c : Clear b p) (o : bitOn b p = false) : Clear b (p + 1) := by
  obtain ⟨q, e⟩ := c
  rw [Clear.on e] at o
  have : q % 2 = 0 := by
    have := Nat.mod_two_eq_zero_or_one q
    rcases this with h | h <;> simp [h] at o ⊢
  refine ⟨q / 2, ?_⟩
  rw [Nat.pow_succ, Nat.mul_assoc, Nat.mul_div_cancel' (Nat.dvd_of_mod_eq_zero this)]
  exact e
theorem Clear.take {b p : Nat} (c : Clear b p) (o : bitOn b p = true) : 2 ^ p ≤ b ∧ Clear (b - 2 ^ p) (p + 1) := by
  obtain ⟨q, e⟩ := c
  rw [Clear.on e] at o
  have o' : q % 2 = 1 := by simpa using o
  have e2 : q = 2 * (q / 2) + 1 := by omega
  have e3 : b = 2 ^ p * (2 * (q / 2)) + 2 ^ p := by
    rw [e]
    conv => lhs; rw [e2]
    rw [Nat.mul_add, Nat.mul_one]
  refine ⟨by omega, q / 2, ?_⟩
  rw [e3, Nat.add_sub_cancel, Nat.pow_succ, Nat.mul_assoc]
theorem bit_le {b o : Nat} (h : bitOn b o = true) : 2 ^ o ≤ b := by
  unfold bitOn at h
  rcases Nat.lt_or_ge b (2 ^ o) with c | c
  · rw [Nat.div_eq_of_lt c] at h; simp at h
  · exact c
theorem Clear.less {b p o : Nat} (c : Clear b p) (h : p ≤ o) : Clear (b - 2 ^ o) p := by
  obtain ⟨q, e⟩ := c
  refine ⟨q - 2 ^ (o - p), ?_⟩
  rw [Nat.mul_sub, ← e, ← Nat.pow_add, Nat.add_sub_cancel' h]
theorem Clear.off {b p i : Nat} (c : Clear b p) (h : i < p) : bitOn b i = false := by
  obtain ⟨q, e⟩ := c
  have e2 : b = 2 ^ i * (2 * (2 ^ (p - i - 1) * q)) := by
    rw [e, ← Nat.mul_assoc, ← Nat.mul_assoc, ← Nat.pow_succ, ← Nat.pow_add]
    congr 2
    omega
  rw [Clear.on e2]
  simp
theorem Clear.none {b n : Nat} (c : Clear b n) (h : b < 2 ^ n) : b = 0 := by
  obtain ⟨q, e⟩ := c
  cases q with
  | zero => simpa using e
  | succ q =>
    rw [Nat.mul_succ] at e
    omega
end Pd
set_option Elab.async false
set_option linter.all false
set_option maxRecDepth 100000
set_option maxHeartbeats 1000000
namespace Pd
open PySem PySem.Spec PyProof.Rows L2
/-- everything but what stands at x stays -/
def ExtX (x : Addr) (h h' : WH) : Prop := ∀ a o, a ≠ x → h a = some o → h' a = some o
theorem ExtX.refl (x : Addr) (h : WH) : ExtX x h h := fun _ _ _ q => q
theorem ExtX.trans {x : Addr} {h h1 h2 : WH} (a : ExtX x h h1) (b : ExtX x h1 h2) : ExtX x h h2 := fun y o n q => b y o n (a y o n q)
theorem ExtX.put {x p : Addr} {h h1 : WH} {o : Wo} (hp : h p = none) (e : ExtX x h h1) : ExtX x h (wup h1 p o) := fun a u n q => by
  by_cases c : a = p
  · subst c; rw [hp] at q; cases q
  · rw [wup_ne c]; exact e a u n q
theorem ExtX.own {x : Addr} {h h1 : WH} {o : Wo} (e : ExtX x h h1) : ExtX x h (wup h1 x o) := fun a u n q => by
  rw [wup_ne n]; exact e a u n q
theorem Ext.x {x : Addr} {h h' : WH} (e : Ext h h') : ExtX x h h' := fun a o _ q => e a o q
/-- where a counting object keeps its things -/
structure RCp where
  (a L K P : Addr)
  ls : List Addr
/-- a counting object, of n places and the later places of each; O: places of others, that it keeps off -/
structure RC (C : Addr) (n : Nat) (later : List (List Nat)) (r : RCp) (O : Addr → Prop) (h : WH) : Prop where
  ins : h r.a = some (.ins C [("own_later", .ref r.L), ("own_known", .ref r.K), ("own_powers", .ref r.P)])
  lat : h r.L = some (.lst (r.ls.map .ref))
  len : r.ls.length = n
  rows : ∀ (i : Nat) (q : Addr), r.ls[i]? = some q → h q = some (.lst ((later.getD i []).map fun (o : Nat) => .int o))
  pow : h r.P = some (.lst ((List.range (n + 1)).map fun i => .int ((2 ^ i : Nat) : Int)))
  known : ∃ ks : List (Nat × Addr), h r.K = some (.dK (ks.map fun k => (.inl (k.1 : Int), .ref k.2))) ∧ (ks.map (·.1)).Nodup ∧ (∃ q, (0, q) ∈ ks) ∧
    ∀ k, k ∈ ks → k.1 < 2 ^ n ∧ k.2 ≠ r.K ∧ ¬ O k.2 ∧ h k.2 = some (.lst ((cntB later n n k.1).map .int))
  kL : r.K ≠ r.L
  kP : r.K ≠ r.P
  ka : r.K ≠ r.a
  kl : r.K ∉ r.ls
  oK : ¬ O r.K
  oL : ¬ O r.L
  oP : ¬ O r.P
  oa : ¬ O r.a
  ol : ∀ q, q ∈ r.ls → ¬ O q
  os : ∀ x, O x → h x ≠ none
section
variable {C : Addr} {n : Nat} {later : List (List Nat)} {r : RCp} {O : Addr → Prop} {h : WH}
theorem RC.stands (x : RC C n later r O h) : h r.K ≠ none := by
  obtain ⟨ks, e, _⟩ := x.known
  rw [e]
  exact nofun
/-- writing at a place that is not the object's own -/
theorem RC.put {p : Addr} {o : Wo} (x : RC C n later r O h) (hp : h p = none ∨ O p) : RC C n later r O (wup h p o) := by
  have ne : ∀ {q : Addr} {u : Wo}, h q = some u → ¬ O q → wup h p o q = some u := fun {q u} e no => by
    rw [wup_ne]
    · exact e
    · rintro rfl
      rcases hp with c | c
      · rw [c] at e; cases e
      · exact no c
  obtain ⟨ks, k1, k2, k3, k4⟩ := x.known
  exact { ins := ne x.ins x.oa, lat := ne x.lat x.oL, len := x.len, rows := fun i q e => ne (x.rows i q e) (x.ol q (List.mem_of_getElem? e)), pow := ne x.pow x.oP,
          known := ⟨ks, ne k1 x.oK, k2, k3, fun k m => ⟨(k4 k m).1, (k4 k m).2.1, (k4 k m).2.2.1, ne (k4 k m).2.2.2 (k4 k m).2.2.1⟩⟩,
          kL := x.kL, kP := x.kP, ka := x.ka, kl := x.kl, oK := x.oK, oL := x.oL, oP := x.oP, oa := x.oa, ol := x.ol,
          os := fun y oy => by
            by_cases c : y = p
            · subst c; rw [wup_same]; exact nofun
            · rw [wup_ne c]; exact x.os y oy }
/-- a place that stands apart joins the others -/
theorem RC.more {p : Addr} {o : Wo} (x : RC C n later r O h) (hp : h p = none) : RC C n later r (fun y => O y ∨ y = p) (wup h p o) := by
  have ne : ∀ {q : Addr} {u : Wo}, h q = some u → wup h p o q = some u ∧ q ≠ p := fun {q u} e => by
    have c : q ≠ p := by rintro rfl; rw [hp] at e; cases e
    exact ⟨by rw [wup_ne c]; exact e, c⟩
  have no : ∀ {q : Addr} {u : Wo}, h q = some u → ¬ O q → ¬ (O q ∨ q = p) := fun e n c => c.elim n (ne e).2
  obtain ⟨ks, k1, k2, k3, k4⟩ := x.known
  have lr : ∀ q, q ∈ r.ls → ∃ u, h q = some u := fun q m => by
    obtain ⟨i, e⟩ := List.getElem?_of_mem m
    exact ⟨_, x.rows i q e⟩
  exact { ins := (ne x.ins).1, lat := (ne x.lat).1, len := x.len, rows := fun i q e => (ne (x.rows i q e)).1, pow := (ne x.pow).1,
          known := ⟨ks, (ne k1).1, k2, k3, fun k m => ⟨(k4 k m).1, (k4 k m).2.1, no (k4 k m).2.2.2 (k4 k m).2.2.1, (ne (k4 k m).2.2.2).1⟩⟩,
          kL := x.kL, kP := x.kP, ka := x.ka, kl := x.kl, oK := no k1 x.oK, oL := no x.lat x.oL, oP := no x.pow x.oP, oa := no x.ins x.oa,
          ol := fun q m => by obtain ⟨u, e⟩ := lr q m; exact no e (x.ol q m),
          os := fun y oy => by
            by_cases c : y = p
            · subst c; rw [wup_same]; exact nofun
            · rw [wup_ne c]; exact x.os y (oy.resolve_right c) }
/-- fewer others -/
theorem RC.less {O' : Addr → Prop} (x : RC C n later r O h) (s : ∀ y, O' y → O y) : RC C n later r O' h := by
  obtain ⟨ks, k1, k2, k3, k4⟩ := x.known
  exact { x with known := ⟨ks, k1, k2, k3, fun k m => ⟨(k4 k m).1, (k4 k m).2.1, fun c => (k4 k m).2.2.1 (s _ c), (k4 k m).2.2.2⟩⟩, oK := fun c => x.oK (s _ c), oL := fun c => x.oL (s _ c), oP := fun c => x.oP (s _ c), oa := fun c => x.oa (s _ c), ol := fun q m c => x.ol q m (s _ c), os := fun y c => x.os y (s _ c) }
end
/-- counts, at a depth: the places from n - d on, all bits under them clear -/
def sp_counts (C : Addr) (n : Nat) (later : List (List Nat)) (d : Nat) : WSp := fun ws h Q _ => ∃ (r : RCp) (O : Addr → Prop) (b p : Nat), ws = [.ref r.a, .int b, .int p] ∧ n ≤ p + d ∧ p ≤ n ∧ b < 2 ^ n ∧ Clear b p ∧ RC C n later r O h ∧
  ∀ h' q, RC C n later r O h' → ExtX r.K h h' → q ≠ r.K → ¬ O q → h' q = some (.lst ((cntB later n n b).map .int)) → Q (.ref q) h'
theorem mo_counts (C : Addr) (n : Nat) (later : List (List Nat)) (d : Nat) : MoP (sp_counts C n later d) := fun ws h Q Q' E E' hq he ⟨r, O, b, p, e1, e2, e3, e4, e5, e6, q⟩ => ⟨r, O, b, p, e1, e2, e3, e4, e5, e6, fun h' z a1 a2 a3 a4 a5 => hq _ _ (q h' z a1 a2 a3 a4 a5)⟩
end Pd
set_option Elab.async false
set_option linter.all false
set_option maxRecDepth 100000
set_option maxHeartbeats 1000000
namespace Pd
open PySem PySem.Spec PyProof.Rows L2
variable {C : Addr} {n : Nat} {later : List (List Nat)} {r : RCp} {O : Addr → Prop} {h : WH}
/-! ### looks at a counting object -/
theorem RC.pw (x : RC C n later r O h) {i : Nat} (l : i ≤ n) : ixF (.ref r.P) (.int (i : Nat)) h = some (.val (.int ((2 ^ i : Nat) : Int))) := by
  have : L2.atI ((List.range (n + 1)).map fun i => Wv.int ((2 ^ i : Nat) : Int)) (i : Int) = some (.int ((2 ^ i : Nat) : Int)) := at_n (by
    rw [List.getElem?_map, List.getElem?_range (by omega)]
    rfl)
  rw [o_ixL x.pow, this]
  rfl
theorem fldW {a : Addr} {fs : List (Str × Wv)} {f : Str} {w : Wv} {ρ : Wen} {Q : WQ} {E : WX} {i : Nat} (e : ρ[i]? = some (some (.ref a))) (hi : h a = some (.ins C fs)) (l : fs.lookup f = some w) : wFld C f (wVar i) ρ h Q E = Q w h := by
  unfold wFld
  rw [wVar_at e]
  simp [hi, l]
/-- the test of a bit, as the code makes it -/
theorem bit_test {b i : Nat} : decide (((b : Int) / ((2 ^ i : Nat) : Int)) % 2 = 0) = !bitOn b i := by
  have e : ((b : Int) / ((2 ^ i : Nat) : Int)) % 2 = ((b / 2 ^ i % 2 : Nat) : Int) := by
    rw [Int.natCast_emod, Int.natCast_ediv]
    rfl
  rw [e]
  unfold bitOn
  rcases Nat.mod_two_eq_zero_or_one (b / 2 ^ i) with c | c <;> simp [c]
theorem pow_ok {b i : Nat} (l : i ≤ 14) : divOk (b : Int) ((2 ^ i : Nat) : Int) = true := by
  have h1 : 2 ^ i ≤ 2 ^ 14 := Nat.pow_le_pow_right (by omega) l
  have h2 : 0 < 2 ^ i := Nat.two_pow_pos i
  unfold divOk
  generalize 2 ^ i = t at h1 h2
  simp
  omega
end Pd
set_option Elab.async false
set_option linter.all false
set_option maxRecDepth 100000
set_option maxHeartbeats 1000000
namespace Pd
open PySem PySem.Spec PyProof.Rows L2
variable {C : Addr} {n : Nat} {later : List (List Nat)} {r : RCp} {O : Addr → Prop} {h : WH}
abbrev cLoc (r : RCp) (b p : Nat) (x y z : Option Wv) : Wen := [some (.ref r.a), some (.int (b : Nat)), some (.int (p : Nat)), x, y, z]
/-- the first loop of counts: clear places are passed -/
theorem counts_skip {b p : Nat} (n14 : n ≤ 14) (x : RC C n later r O h) (pn : p ≤ n) (bn : b < 2 ^ n) (cl : Clear b p) {D : WEnds}
    (q : ∀ p', p ≤ p' → p' ≤ n → Clear b p' → (b = 0 ∨ bitOn b p' = true) → D.nx (cLoc r b p' none none none) h) :
    wWhile (wAnd (wTest (wBin gtI (wVar 1) (wC (.int 0)))) (wTest (wBin eqF (wBin modI (wBin divI (wVar 1) (wBin ixF (wFld C "own_powers" (wVar 0)) (wVar 2))) (wC (.int 2))) (wC (.int 0))))) (wSet 2 (wBin addF (wVar 2) (wC (.int 1)))) D (cLoc r b p none none none) h := by
  refine ⟨fun m ρ' h' => h' = h ∧ ∃ p', m = n - p' ∧ p ≤ p' ∧ p' ≤ n ∧ Clear b p' ∧ ρ' = cLoc r b p' none none none, ⟨n - p, rfl, p, rfl, Nat.le_refl _, pn, cl, rfl⟩, ?_⟩
  rintro m ρ' h' ⟨rfl, p', rfl, a1, a2, a3, rfl⟩
  by_cases b0 : b = 0
  · subst b0
    simp [cLoc]
    exact q p' a1 a2 a3 (.inl rfl)
  · have bp : 0 < (b : Int) := by omega
    have fl : ∀ Q E, wFld C "own_powers" (wVar 0) (cLoc r b p' none none none) h' Q E = Q (.ref r.P) h' := fun Q E => fldW rfl x.ins rfl
    have lt : p' < n := by
      rcases Nat.lt_or_ge p' n with c | c
      · exact c
      · have : p' = n := by omega
        subst this
        exact absurd (Clear.none a3 bn) b0
    simp only [e_wAnd, e_wTest, e_wBin, e_wC, cLoc, wVar_s, wVar_0, o_gt, e_outV, bp, decide_true, if_true]
    simp only [cLoc] at fl
    rw [fl]
    simp only [x.pw a2, e_outV, o_div, pow_ok (b := b) (i := p') (by omega), if_true, o_mod, (by decide : (0 : Int) < 2), o_eqI, bit_test]
    by_cases o : bitOn b p' = true
    · simp [o]
      exact q p' a1 a2 a3 (.inr o)
    · have o' : bitOn b p' = false := by simpa using o
      simp [o']
      exact ⟨n - (p' + 1), by omega, p' + 1, rfl, by omega, by omega, a3.skip o', by simp⟩
end Pd
set_option Elab.async false
set_option linter.all false
set_option maxRecDepth 100000
set_option maxHeartbeats 1000000
namespace Pd
open PySem PySem.Spec PyProof.Rows L2
variable {C : Addr} {n : Nat} {later : List (List Nat)} {r : RCp} {O : Addr → Prop} {h : WH}
theorem methV {C : Addr} {m : Str} {sp : WSp} {t : TWA} {a : Addr} {fs : List (Str × Wv)} {ρ : Wen} {h : WH} {Q : WQ} {E : WX} {i : Nat} (e : ρ[i]? = some (some (.ref a))) (hi : h a = some (.ins C fs)) (l : fs.lookup m = none) : wMeth C m sp (wVar i) t ρ h Q E = t ρ h (fun ws h2 => sp (.ref a :: ws) h2 Q (fun _ _ _ _ => False)) E := by
  unfold wMeth
  rw [wVar_at e]
  simp [hi, l]
/-- the later places of each place come after it, under n -/
def LatOk (n : Nat) (later : List (List Nat)) : Prop := ∀ i o, o ∈ later.getD i [] → i < o ∧ o < n
/-- one turn of counts' second loop, on the list found -/
def cStep (later : List (List Nat)) (n rest : Nat) (f : List Int) (o : Nat) : List Int := if bitOn rest o then pb f (cntB later n n (rest - 2 ^ o)) else f
theorem cStep_ne {rest : Nat} {f : List Int} {o : Nat} (h : f ≠ []) : cStep later n rest f o ≠ [] := by
  unfold cStep
  split
  · exact pb_cons h
  · exact h
theorem cStep_len {rest : Nat} {f : List Int} {o : Nat} (h : f ≠ []) (l : f.length ≤ n + 2) : (cStep later n rest f o).length ≤ n + 2 := by
  unfold cStep
  split
  · rw [pb_length h]
    have := cntB_length later n n (rest - 2 ^ o)
    omega
  · exact l
theorem cntB_low {b p : Nat} (pn : p ≤ n) (c : Clear b p) : cntB later n n b = cntB later n (n - p) b := by
  have := cntB_from (later := later) (n := n) (bits := b) p (n - p) (by omega) fun i hi => c.off (by omega)
  rw [show n - p + p = n by omega] at this
  exact this
theorem cntB_step {b p : Nat} (pn : p < n) (c : Clear b p) (o : bitOn b p = true) (ok : LatOk n later) : cntB later n n b = (later.getD p []).foldl (cStep later n (b - 2 ^ p)) (cntB later n n (b - 2 ^ p)) := by
  have hd : n - p = (n - (p + 1)) + 1 := by omega
  have hp : n - (n - (p + 1) + 1) = p := by omega
  have c1 := (c.take o).2
  rw [cntB_low (Nat.le_of_lt pn) c, hd, cntB]
  simp only [hp, o, if_true]
  rw [← cntB_low pn c1]
  have key : ∀ (l : List Nat) (f : List Int), (∀ x, x ∈ l → p < x) → l.foldl (fun f o => if bitOn (b - 2 ^ p) o = true then pb f (cntB later n (n - (p + 1)) (b - 2 ^ p - 2 ^ o)) else f) f = l.foldl (cStep later n (b - 2 ^ p)) f := by
    intro l
    induction l with
    | nil => intro f _; rfl
    | cons x l ih =>
      intro f hx
      rw [List.foldl_cons, List.foldl_cons]
      have e : (if bitOn (b - 2 ^ p) x = true then pb f (cntB later n (n - (p + 1)) (b - 2 ^ p - 2 ^ x)) else f) = cStep later n (b - 2 ^ p) f x := by
        unfold cStep
        rw [← cntB_low pn (c1.less (hx x List.mem_cons_self))]
      rw [e]
      exact ih _ fun y hy => hx y (List.mem_cons_of_mem _ hy)
  exact key _ _ fun x hx => (ok p x hx).1
end Pd
set_option Elab.async false
set_option linter.all false
set_option maxRecDepth 100000
set_option maxHeartbeats 1000000
namespace Pd
/-! ### sets of places as bits -/
def mask : Nat → (Nat → Bool) → Nat
  | 0, _ => 0
  | n + 1, S => mask n S + if S n = true then 2 ^ n else 0
theorem mask_lt (S : Nat → Bool) : ∀ n, mask n S < 2 ^ n
  | 0 => by simp [mask]
  | n + 1 => by
    rw [mask, Nat.pow_succ]
    have := mask_lt S n
    split <;> omega
theorem mask_congr {S S' : Nat → Bool} : ∀ (n : Nat), (∀ j, j < n → S j = S' j) → mask n S = mask n S'
  | 0, _ => rfl
  | n + 1, h => by rw [mask, mask, mask_congr n fun j hj => h j (by omega), h n (by omega)]
theorem mask_off {S : Nat → Bool} {j : Nat} : ∀ (n : Nat), j < n → S j = true → mask n (off S j) + 2 ^ j = mask n S
  | 0, h, _ => by omega
  | n + 1, h, s => by
    rw [mask, mask]
    by_cases e : j = n
    · subst e
      rw [mask_congr j fun i hi => off_ne (S := S) (show i ≠ j by omega)]
      simp [off_at, s]
    · rw [off_ne (S := S) (show n ≠ j by omega), ← mask_off n (by omega) s]
      omega
theorem mask_sub {S : Nat → Bool} {j n : Nat} (h : j < n) (s : S j = true) : mask n S - 2 ^ j = mask n (off S j) := by
  have := mask_off n h s
  omega
theorem bit_mask {S : Nat → Bool} {j : Nat} : ∀ (n : Nat), j < n → bitOn (mask n S) j = S j
  | 0, h => by omega
  | n + 1, h => by
    by_cases e : j = n
    · subst e
      have lt := mask_lt S j
      unfold bitOn
      rw [mask]
      cases s : S j with
      | true =>
        rw [if_pos rfl, Nat.add_div_right _ (Nat.two_pow_pos j), Nat.div_eq_of_lt lt]
        rfl
      | false => simp [Nat.div_eq_of_lt lt]
    · have ih := bit_mask (S := S) n (show j < n by omega)
      unfold bitOn at ih ⊢
      rw [mask]
      cases s : S n with
      | true =>
        have e2 : 2 ^ n = 2 ^ j * (2 * 2 ^ (n - j - 1)) := by
          rw [← Nat.mul_assoc, ← Nat.pow_succ, ← Nat.pow_add]
          congr 1
          omega
        rw [if_pos rfl, e2, Nat.add_mul_div_left _ _ (Nat.two_pow_pos j), Nat.add_mul_mod_self_left]
        exact ih
      | false =>
        simp
        simpa using ih
theorem mask_full : ∀ n, mask n (fun _ => true) = 2 ^ n - 1
  | 0 => rfl
  | n + 1 => by
    rw [mask, mask_full n, Nat.pow_succ]
    have := Nat.two_pow_pos n
    simp
    omega
/-! ### an entry of the counts -/
abbrev cf (l : List Int) (k : Nat) : Int := l.getD k 0
theorem cf_addL : ∀ (f m : List Int) (k : Nat), cf (addL f m) k = cf f k + cf m k
  | [], m, k => by simp [addL, cf]
  | a :: f, [], k => by simp [addL, cf]
  | a :: f, b :: m, 0 => by simp [addL, cf]
  | a :: f, b :: m, k + 1 => by
    have := cf_addL f m k
    simpa [addL, cf] using this
/-- one place on -/
def prv (f : Nat → Int) : Nat → Int
  | 0 => 0
  | k + 1 => f k
abbrev cfP (l : List Int) : Nat → Int := prv (cf l)
theorem cf_pb {f m : List Int} (h : f ≠ []) (k : Nat) : cf (pb f m) k = cf f k + cfP m k := by
  cases f with
  | nil => exact absurd rfl h
  | cons x f =>
    cases k with
    | zero => simp [pb, cf, prv]
    | succ k => exact cf_addL f m k
theorem cf_fold {g : Nat → Bool} {m : Nat → List Int} {k : Nat} : ∀ (l : List Nat) (f : List Int), f ≠ [] → cf (l.foldl (fun f o => if g o = true then pb f (m o) else f) f) k = cf f k + (l.map fun o => if g o = true then cfP (m o) k else 0).sum
  | [], f, _ => by simp
  | o :: l, f, h => by
    rw [List.foldl_cons, List.map_cons, List.sum_cons]
    have ne : (if g o = true then pb f (m o) else f) ≠ [] := by
      split
      · exact pb_cons h
      · exact h
    rw [cf_fold l _ ne]
    cases hg : g o with
    | true => simp only [if_true]; rw [cf_pb h]; omega
    | false => simp
/-! ### the counts, an entry, by sets -/
def hc (later : List (List Nat)) (n : Nat) : Nat → (Nat → Bool) → Nat → Int
  | 0, _, k => if k = 0 then 1 else 0
  | d + 1, S, k =>
    if S (n - (d + 1)) = true then
      hc later n d S k + prv (fun k' => ((later.getD (n - (d + 1)) []).map fun o => if S o = true then hc later n d (off S o) k' else 0).sum) k
    else hc later n d S k
theorem hc_congr {later : List (List Nat)} {n : Nat} (ok : LatOk n later) : ∀ (d : Nat) (S S' : Nat → Bool) (k : Nat), d ≤ n → (∀ j, n - d ≤ j → S j = S' j) → hc later n d S k = hc later n d S' k
  | 0, _, _, _, _, _ => rfl
  | d + 1, S, S', k, hd, h => by
    rw [hc, hc, h _ (Nat.le_refl _), hc_congr ok d S S' k (by omega) fun j hj => h j (by omega)]
    split
    · congr 1
      cases k with
      | zero => rfl
      | succ k =>
        rw [prv, prv]
        congr 1
        refine List.map_congr_left fun o ho => ?_
        have lo := ok _ o ho
        rw [h o (by omega), hc_congr ok d (off S o) (off S' o) k (by omega) fun j hj => by unfold off; rw [h j (by omega)]]
    · rfl
theorem cf_cntB {later : List (List Nat)} {n : Nat} (ok : LatOk n later) : ∀ (d : Nat) (S : Nat → Bool) (k : Nat), d ≤ n → cf (cntB later n d (mask n S)) k = hc later n d S k
  | 0, S, k, _ => by
    cases k <;> simp [cntB, hc, cf]
  | d + 1, S, k, hd => by
    rw [cntB, hc]
    dsimp only
    have hp : n - (d + 1) < n := by omega
    rw [bit_mask n hp]
    by_cases s : S (n - (d + 1)) = true
    · rw [if_pos s, if_pos s, mask_sub hp s]
      have e : cf (cntB later n d (mask n (off S (n - (d + 1))))) k = hc later n d S k := by
        rw [cf_cntB ok d _ k (by omega)]
        exact hc_congr ok d _ _ k (by omega) fun j hj => off_ne (by omega)
      rw [cf_fold _ _ (cntB_ne later n d _), e]
      congr 1
      cases k with
      | zero =>
        simp only [cfP, prv]
        generalize later.getD (n - (d + 1)) [] = l
        induction l with
        | nil => rfl
        | cons x l ih => rw [List.map_cons, List.sum_cons, ih]; simp
      | succ k =>
        simp only [prv]
        congr 1
        refine List.map_congr_left fun o ho => ?_
        have lo := ok _ o ho
        rw [bit_mask n lo.2, off_ne (show o ≠ n - (d + 1) by omega)]
        by_cases so : S o = true
        · rw [if_pos so, if_pos so, mask_sub lo.2 (by rw [off_ne (show o ≠ n - (d + 1) by omega)]; exact so)]
          show cf _ k = _
          rw [cf_cntB ok d _ k (by omega)]
          refine hc_congr ok d _ _ k (by omega) fun j hj => ?_
          unfold off
          have : ¬ j = n - (d + 1) := by omega
          simp [this]
        · rw [if_neg so, if_neg so]
    · rw [if_neg s, if_neg s]
      exact cf_cntB ok d S k (by omega)
/-- all places -/
theorem cf_all {later : List (List Nat)} {n : Nat} (ok : LatOk n later) (k : Nat) : cf (cntB later n n (2 ^ n - 1)) k = hc later n n (fun _ => true) k := by
  rw [← mask_full, cf_cntB ok n _ k (Nat.le_refl n)]
end Pd
set_option Elab.async false
set_option linter.all false
set_option maxRecDepth 100000
set_option maxHeartbeats 1000000
namespace Pd
/-! ### the counts of a net of two sides -/
def latT (T : List (List Int)) (s : Nat) : List (List Nat) := T.map (fun r => ((List.range s).filter fun j => decide (r.getD j 0 = 1)).map (s + ·)) ++ List.replicate s []
theorem latT_row {T : List (List Int)} {s i : Nat} {r : List Int} (h : T[i]? = some r) : (latT T s).getD i [] = ((List.range s).filter fun j => decide (r.getD j 0 = 1)).map (s + ·) := by
  have li := (List.getElem?_eq_some_iff.mp h).1
  unfold latT
  rw [List.getD_eq_getElem?_getD, List.getElem?_append_left (by rw [List.length_map]; exact li), List.getElem?_map, h]
  rfl
theorem latT_col {T : List (List Int)} {s i : Nat} (h : T.length ≤ i) : (latT T s).getD i [] = [] := by
  unfold latT
  rw [List.getD_eq_getElem?_getD, List.getElem?_append_right (by rw [List.length_map]; exact h)]
  rcases Nat.lt_or_ge (i - (T.map fun r => ((List.range s).filter fun j => decide (r.getD j 0 = 1)).map (s + ·)).length) s with c | c
  · rw [List.getElem?_replicate]
    rw [if_pos c]
    rfl
  · rw [List.getElem?_eq_none (by rw [List.length_replicate]; exact c)]
    rfl
theorem latT_ok {T : List (List Int)} {s : Nat} (t : Tb s T) : LatOk (2 * s) (latT T s) := fun i o h => by
  rcases Nat.lt_or_ge i T.length with c | c
  · rw [latT_row (List.getElem?_eq_getElem c)] at h
    obtain ⟨j, hj, rfl⟩ := List.mem_map.mp h
    have := List.mem_range.mp (List.mem_filter.mp hj).1
    have := t.len
    omega
  · rw [latT_col c] at h
    cases h
theorem hc_none {later : List (List Nat)} {n : Nat} : ∀ (d : Nat) (S : Nat → Bool) (k : Nat), d ≤ n → (∀ p, n - d ≤ p → later.getD p [] = []) → hc later n d S k = if k = 0 then 1 else 0
  | 0, _, _, _, _ => rfl
  | d + 1, S, k, hd, h => by
    rw [hc, h _ (Nat.le_refl _), hc_none d S k (by omega) fun p hp => h p (by omega)]
    cases k <;> simp [prv]
theorem sum_filter {p : Nat → Bool} {f : Nat → Int} : ∀ (l : List Nat), ((l.filter p).map f).sum = (l.map fun x => if p x = true then f x else 0).sum
  | [] => rfl
  | x :: l => by
    rw [List.map_cons, List.sum_cons, ← sum_filter l]
    by_cases h : p x = true
    · rw [List.filter_cons_of_pos h, List.map_cons, List.sum_cons, if_pos h]
    · rw [List.filter_cons_of_neg h, if_neg h]
      omega
theorem hc_two {T : List (List Int)} {s : Nat} (t : Tb s T) : ∀ (e i : Nat) (S : Nat → Bool) (k : Nat), i + e = s → (∀ p, i ≤ p → p < s → S p = true) → hc (latT T s) (2 * s) (2 * s - i) S k = rk s (T.drop i) (fun j => S (s + j)) k
  | 0, i, S, k, hi, _ => by
    have hl := t.len
    rw [hc_none _ _ _ (by omega) fun p hp => latT_col (by omega), List.drop_eq_nil_of_le (by omega)]
    cases k <;> simp [rk]
  | e + 1, i, S, k, hi, hS => by
    have hl := t.len
    have li : i < T.length := by omega
    have hr : T[i]? = some T[i] := List.getElem?_eq_getElem li
    generalize T[i] = r at hr
    have mr := List.mem_of_getElem? hr
    rw [show 2 * s - i = (2 * s - (i + 1)) + 1 by omega, hc, show 2 * s - (2 * s - (i + 1) + 1) = i by omega, if_pos (hS i (Nat.le_refl _) (by omega)), drop_at hr,
      hc_two t e (i + 1) S k (by omega) fun p h1 h2 => hS p (by omega) h2]
    cases k with
    | zero => rw [rk_zero, rk_zero, prv]; rfl
    | succ k =>
      rw [prv, rk]
      congr 1
      rw [latT_row hr, List.map_map, sum_filter, sum_range]
      refine sm_congr s fun j hj => ?_
      have bt := bit_at (t.bit r mr) j
      simp only [Function.comp, decide_eq_true_eq]
      have e1 : (fun j' => off S (s + j) (s + j')) = off (fun j => S (s + j)) j := by
        funext j'
        unfold off
        by_cases c : j' = j
        · subst c; simp
        · have : ¬ s + j' = s + j := by omega
          simp [c, this]
      have ih := hc_two t e (i + 1) (off S (s + j)) k (by omega) fun p h1 h2 => by
        rw [off_ne (by omega)]
        exact hS p (by omega) h2
      rw [e1] at ih
      rw [ih]
      generalize r.getD j 0 = x at bt
      rcases bt with rfl | rfl <;> simp
theorem cf_two {T : List (List Int)} {s : Nat} (t : Tb s T) (k : Nat) : cf (cntB (latT T s) (2 * s) (2 * s) (2 ^ (2 * s) - 1)) k = rk s T (from_ 0) k := by
  rw [cf_all (latT_ok t)]
  have := hc_two t s 0 (fun _ => true) k (by omega) fun _ _ _ => rfl
  rw [Nat.sub_zero, List.drop_zero] at this
  rw [this]
  exact rk_congr T _ _ k fun c _ => by simp [from_]
end Pd
set_option Elab.async false
set_option linter.all false
set_option maxRecDepth 100000
set_option maxHeartbeats 1000000
namespace Pd
/-! ### signed sums -/
/-- odd -/
def od (a : Int) : Bool := decide (a % 2 = 1)
theorem od_add {a b : Int} : od (a + b) = Bool.xor (od a) (od b) := odd_add
theorem od_sm {f : Nat → Int} (n : Nat) : od (sm n f) = xs n fun j => od (f j) := odd_sm n
/-- a sum with signs that turn about -/
def alts : Int → Nat → List Nat → (Nat → Nat → Int) → Int
  | _, _, [], _ => 0
  | t, i, o :: l, g => t * g i o + alts (-t) (i + 1) l g
/-- the signed sum of 2 h places, by the first one -/
def tt (sg : Nat → Nat → Int) : Nat → List Nat → Int
  | 0, _ => 1
  | _ + 1, [] => 0
  | h + 1, p :: l => alts 1 0 l fun i o => sg p o * tt sg h (l.eraseIdx i)
theorem alts_none {g : Nat → Nat → Int} : ∀ (l : List Nat) (t : Int) (i : Nat), (∀ j o, l[j]? = some o → g (i + j) o = 0) → alts t i l g = 0
  | [], _, _, _ => rfl
  | o :: l, t, i, h => by
    rw [alts, show g i o = 0 from h 0 o rfl, alts_none l (-t) (i + 1) fun j o' ho => by
      have := h (j + 1) o' (by simpa using ho)
      rwa [show i + 1 + j = i + (j + 1) by omega]]
    simp
theorem alts_app {g : Nat → Nat → Int} : ∀ (l l' : List Nat) (t : Int) (i : Nat), alts t i (l ++ l') g = alts t i l g + alts (if l.length % 2 = 0 then t else -t) (i + l.length) l' g
  | [], l', t, i => by simp [alts]
  | o :: l, l', t, i => by
    rw [List.cons_append, alts, alts, alts_app l l' (-t) (i + 1), List.length_cons, show i + 1 + l.length = i + (l.length + 1) by omega]
    have e : (if l.length % 2 = 0 then -t else - -t) = if (l.length + 1) % 2 = 0 then t else -t := by
      by_cases c : l.length % 2 = 0
      · rw [if_pos c, if_neg (by omega)]
      · rw [if_neg c, if_pos (by omega)]
        omega
    rw [e]
    omega
theorem od_neg {a : Int} : od (-a) = od a := by
  unfold od
  rcases Int.emod_two_eq a with h | h <;> simp [h, Int.neg_emod] <;> omega
theorem od_unit {t a : Int} (ht : t = 1 ∨ t = -1) : od (t * a) = od a := by
  rcases ht with rfl | rfl
  · rw [Int.one_mul]
  · rw [show -1 * a = -a by omega, od_neg]
theorem odd_alts {g : Nat → Nat → Int} : ∀ (l : List Nat) (t : Int) (i : Nat), t = 1 ∨ t = -1 → od (alts t i l g) = od (sm l.length (fun j => g (i + j) (l.getD j 0)))
  | [], _, _, _ => rfl
  | o :: l, t, i, ht => by
    rw [alts, od_add, od_unit ht, odd_alts l (-t) (i + 1) (by omega), List.length_cons, sm_head, od_add]
    congr 2
    · rw [sm_congr l.length (f := fun j => g (i + 1 + j) (l.getD j 0)) (g := fun j => g (i + (j + 1)) ((o :: l).getD (j + 1) 0)) fun j _ => by
        rw [show i + 1 + j = i + (j + 1) by omega]
        rfl]
/-! ### mod 2, of two sides -/
theorem xs_split {f : Nat → Bool} (a : Nat) : ∀ b, xs (a + b) f = Bool.xor (xs a f) (xs b fun t => f (a + t))
  | 0 => by simp [xs]
  | b + 1 => by
    rw [← Nat.add_assoc, xs, xs_split a b, xs]
    generalize xs a f = x
    generalize xs b (fun t => f (a + t)) = y
    generalize f (a + b) = z
    cases x <;> cases y <;> cases z <;> rfl
theorem xs_list {H : Nat → Bool} {m : Nat} {cs : List Nat} (nd : cs.Nodup) (h : ∀ c, c ∈ cs → c < m) : xs cs.length (fun t => H (cs.getD t 0)) = xs m fun c => decide (c ∈ cs) && H c := by
  have e : ∀ b : Bool, od (if b = true then (1 : Int) else 0) = b := by decide
  have e1 := od_sm (f := fun t => if H (cs.getD t 0) = true then (1 : Int) else 0) cs.length
  rw [sm_list (G := fun c => if H c = true then (1 : Int) else 0), sum_list cs nd h, od_sm] at e1
  simp only [e] at e1
  rw [← e1]
  refine xs_congr m fun c _ => ?_
  by_cases hc : c ∈ cs
  · rw [if_pos hc, e]; simp [hc]
  · rw [if_neg hc]; simp [hc]; rfl
theorem od_mul {a b : Int} : od (a * b) = (od a && od b) := by
  unfold od
  rcases Int.emod_two_eq a with h1 | h1 <;> rcases Int.emod_two_eq b with h2 | h2 <;> simp [h1, h2, Int.mul_emod]
/-- the signs tell a table of two sides, mod 2 -/
structure Sided (s : Nat) (sg : Nat → Nat → Int) (T : List (List Int)) : Prop where
  rr : ∀ i j, j < s → sg i j = 0
  rc : ∀ i r j, T[i]? = some r → j < s → od (sg i (s + j)) = rowB r j
theorem odd_tt {s : Nat} {sg : Nat → Nat → Int} {T : List (List Int)} (sd : Sided s sg T) (lT : T.length = s) : ∀ (h i : Nat) (cs : List Nat), i + h = s → cs.length = h → cs.Nodup → (∀ c, c ∈ cs → c < s) →
    od (tt sg h (List.range' i h ++ cs.map (s + ·))) = p2 s ((T.drop i).map rowB) (fun c => decide (c ∈ cs))
  | 0, i, cs, hi, hc, _, _ => by
    rw [List.drop_eq_nil_of_le (by omega)]
    rfl
  | h + 1, i, cs, hi, hl, nd, hcs => by
    have li : i < T.length := by omega
    have hr : T[i]? = some T[i] := List.getElem?_eq_getElem li
    generalize T[i] = r at hr
    rw [List.range'_succ, List.cons_append, tt, odd_alts _ _ _ (.inl rfl), od_sm, drop_at hr, List.map_cons, p2, List.length_append, List.length_range', List.length_map, xs_split]
    have z : xs h (fun j => od (sg i ((List.range' (i + 1) h ++ cs.map (s + ·)).getD j 0) * tt sg h ((List.range' (i + 1) h ++ cs.map (s + ·)).eraseIdx (0 + j)))) = false := by
      refine xs_none h fun j hj => ?_
      have : (List.range' (i + 1) h ++ cs.map (s + ·)).getD j 0 = i + 1 + j := by
        rw [List.getD_eq_getElem?_getD, List.getElem?_append_left (by rw [List.length_range']; exact hj), List.getElem?_range' hj]
        simp
      rw [this, sd.rr _ _ (by omega), Int.zero_mul]
      rfl
    rw [z, Bool.false_xor]
    have e : ∀ t, t < cs.length → od (sg i ((List.range' (i + 1) h ++ cs.map (s + ·)).getD (h + t) 0) * tt sg h ((List.range' (i + 1) h ++ cs.map (s + ·)).eraseIdx (0 + (h + t))))
        = (fun c => rowB r c && p2 s ((T.drop (i + 1)).map rowB) (off (fun c => decide (c ∈ cs)) c)) (cs.getD t 0) := by
      intro t ht
      have e1 : cs[t]? = some (cs.getD t 0) := by
        rw [List.getD_eq_getElem?_getD, List.getElem?_eq_getElem ht]
        rfl
      generalize cs.getD t 0 = c at e1
      have hc := hcs c (List.mem_of_getElem? e1)
      have e2 : (List.range' (i + 1) h ++ cs.map (s + ·)).getD (h + t) 0 = s + c := by
        rw [List.getD_eq_getElem?_getD, List.getElem?_append_right (by rw [List.length_range']; omega), List.length_range', Nat.add_sub_cancel_left, List.getElem?_map, e1]
        rfl
      have e3 : (List.range' (i + 1) h ++ cs.map (s + ·)).eraseIdx (0 + (h + t)) = List.range' (i + 1) h ++ (cs.eraseIdx t).map (s + ·) := by
        rw [List.eraseIdx_append_of_length_le (by rw [List.length_range']; omega), List.length_range', ← erase_map]
        congr 2
        omega
      have e4 : (fun j => decide (j ∈ cs.eraseIdx t)) = off (fun c => decide (c ∈ cs)) c := by
        funext j
        unfold off
        have := mem_erase (j := j) nd e1
        rw [Bool.eq_iff_iff]
        simp only [decide_eq_true_eq, Bool.and_eq_true, Bool.not_eq_true', decide_eq_false_iff_not]
        exact this
      have ih := odd_tt sd lT h (i + 1) (cs.eraseIdx t) (by omega) (by rw [List.length_eraseIdx_of_lt ht]; omega) (nd.eraseIdx t) fun c hx => hcs c (List.mem_of_mem_eraseIdx hx)
      rw [e2, e3, od_mul, sd.rc i r c hr hc, ih, e4]
    rw [xs_congr _ e, xs_list (H := fun c => rowB r c && p2 s ((T.drop (i + 1)).map rowB) (off (fun c => decide (c ∈ cs)) c)) nd hcs]
    refine xs_congr s fun c _ => ?_
    rw [Bool.and_assoc]
end Pd
set_option Elab.async false
set_option linter.all false
set_option maxRecDepth 100000
set_option maxHeartbeats 1000000
namespace Pd
/-! ### signed sums of rows, rings, crossed roads -/
/-- the product of every other sign, k of them, from a on -/
def pr (f : Nat → Int) : Nat → Nat → Int
  | 0, _ => 1
  | k + 1, a => f a * pr f k (a + 2)
theorem tt_row {sg : Nat → Nat → Int} {f : Nat → Int} {b : Nat} : ∀ (k a : Nat), a + 2 * k ≤ b → (∀ p, a ≤ p → p + 1 < b → sg p (p + 1) = f p) → (∀ p o, a ≤ p → p + 1 < o → o < b → sg p o = 0) → tt sg k (List.range' a (2 * k)) = pr f k a
  | 0, _, _, _, _ => rfl
  | k + 1, a, h, hf, hz => by
    rw [show 2 * (k + 1) = (2 * k + 1) + 1 by omega, List.range'_succ, tt, List.range'_succ, alts, alts_none]
    · rw [List.eraseIdx_cons_zero, show a + 1 + 1 = a + 2 by omega, tt_row k (a + 2) (by omega) (fun p h1 h2 => hf p (by omega) h2) (fun p o h1 h2 h3 => hz p o (by omega) h2 h3), pr, hf a (Nat.le_refl _) (by omega)]
      omega
    · intro j o ho
      have lj := (List.getElem?_eq_some_iff.mp ho).1
      rw [List.length_range'] at lj
      rw [List.getElem?_range' lj] at ho
      simp at ho
      rw [hz a o (Nat.le_refl _) (by omega) (by omega), Int.zero_mul]
theorem tt_ring {sg : Nat → Nat → Int} {f : Nat → Int} {k : Nat} {last : Int} (hf : ∀ p, p + 1 < 2 * k + 4 → sg p (p + 1) = f p) (hz : ∀ p o, p + 1 < o → o < 2 * k + 4 → ¬ (p = 0 ∧ o = 2 * k + 3) → sg p o = 0) (hl : sg 0 (2 * k + 3) = last) :
    tt sg (k + 2) (List.range' 0 (2 * k + 4)) = pr f (k + 2) 0 + last * pr f (k + 1) 1 := by
  have e : List.range' (0 + 1) (2 * k + 3) = 1 :: (List.range' 2 (2 * k + 1) ++ [2 * k + 3]) := by
    have r1 : List.range' (0 + 1) (2 * k + 1 + 1 + 1) = (0 + 1) :: List.range' (0 + 1 + 1) (2 * k + 1 + 1) := List.range'_succ
    have r2 : List.range' 2 (2 * k + 1 + 1) = List.range' 2 (2 * k + 1) ++ [2 + 1 * (2 * k + 1)] := List.range'_concat
    rw [show 2 * k + 3 = (2 * k + 1 + 1) + 1 by omega, r1, show 0 + 1 + 1 = 2 from rfl, r2, show 2 + 1 * (2 * k + 1) = 2 * k + 1 + 1 + 1 by omega]
  rw [show 2 * k + 4 = (2 * k + 3) + 1 by omega, List.range'_succ, tt, e, alts, alts_app, alts_none, alts, alts, List.eraseIdx_cons_zero]
  · have e1 : List.range' 2 (2 * k + 1) ++ [2 * k + 3] = List.range' 2 (2 * (k + 1)) := by
      have r2 : List.range' 2 (2 * k + 1 + 1) = List.range' 2 (2 * k + 1) ++ [2 + 1 * (2 * k + 1)] := List.range'_concat
      rw [show 2 * (k + 1) = (2 * k + 1) + 1 by omega, r2, show 2 + 1 * (2 * k + 1) = 2 * k + 3 by omega]
    have e2 : (1 :: (List.range' 2 (2 * k + 1) ++ [2 * k + 3])).eraseIdx (0 + 1 + (List.range' 2 (2 * k + 1)).length) = List.range' 1 (2 * (k + 1)) := by
      rw [List.length_range', show 0 + 1 + (2 * k + 1) = (2 * k + 1) + 1 by omega, List.eraseIdx_cons_succ, List.eraseIdx_append_of_length_le (by rw [List.length_range']; omega), List.length_range', Nat.sub_self, List.eraseIdx_cons_zero, List.append_nil]
      have r1 : List.range' 1 (2 * k + 1 + 1) = 1 :: List.range' (1 + 1) (2 * k + 1) := List.range'_succ
      rw [show 2 * (k + 1) = (2 * k + 1) + 1 by omega, r1]
    rw [e2, e1, tt_row (b := 2 * k + 4) (f := f) (k + 1) 2 (by omega) (fun p _ h => hf p h) (fun p o h1 h2 h3 => hz p o h2 h3 (by omega)), tt_row (b := 2 * k + 3) (f := f) (k + 1) 1 (by omega) (fun p _ h => hf p (by omega)) (fun p o h1 h2 h3 => hz p o h2 (by omega) (by omega)), hl,
      List.length_range', if_neg (by omega)]
    have h0 := hf 0 (by omega)
    rw [Nat.zero_add] at h0
    rw [h0, show pr f (k + 2) 0 = f 0 * pr f (k + 1) 2 from rfl]
    generalize f 0 * pr f (k + 1) 2 = x
    generalize last * pr f (k + 1) 1 = y
    omega
  · intro j o ho
    have lj := (List.getElem?_eq_some_iff.mp ho).1
    rw [List.length_range'] at lj
    rw [List.getElem?_range' lj] at ho
    simp at ho
    rw [hz 0 o (by omega) (by omega) (by omega), Int.zero_mul]
/-- a sign by a number even or odd -/
def evn (k : Nat) : Int := if k % 2 = 0 then 1 else -1
def cr (f : Nat → Int) : Nat → Nat → Int
  | 0, _ => 1
  | k + 1, a => evn k * f a * cr f k (a + 1)
theorem tt_cross {sg : Nat → Nat → Int} {f : Nat → Int} {h : Nat} (hf : ∀ p, p < h → sg p (p + h) = f p) (hz : ∀ p o, p < h → o ≠ p + h → sg p o = 0) : ∀ (k a : Nat), a + k = h → tt sg k (List.range' a k ++ List.range' (a + h) k) = cr f k a
  | 0, _, _ => rfl
  | k + 1, a, ha => by
    rw [List.range'_succ, List.cons_append, tt, alts_app, alts_none, List.range'_succ, alts, alts_none, List.length_range']
    · have e : (List.range' (a + 1) k ++ (a + h) :: List.range' (a + h + 1) k).eraseIdx (0 + k) = List.range' (a + 1) k ++ List.range' (a + 1 + h) k := by
        rw [List.eraseIdx_append_of_length_le (by rw [List.length_range']; omega), List.length_range', show 0 + k - k = 0 by omega, List.eraseIdx_cons_zero]
        congr 2
        omega
      rw [e, tt_cross hf hz k (a + 1) (by omega), hf a (by omega), cr]
      unfold evn
      have e3 : ∀ x y t : Int, 0 + (t * (x * y) + 0) = t * x * y := fun x y t => by rw [Int.mul_assoc]; omega
      exact e3 _ _ _
    · intro j o ho
      have lj := (List.getElem?_eq_some_iff.mp ho).1
      rw [List.length_range'] at lj
      rw [List.getElem?_range' lj] at ho
      simp at ho
      rw [hz a o (by omega) (by omega), Int.zero_mul]
    · intro j o ho
      have lj := (List.getElem?_eq_some_iff.mp ho).1
      rw [List.length_range'] at lj
      rw [List.getElem?_range' lj] at ho
      simp at ho
      rw [hz a o (by omega) (by omega), Int.zero_mul]
/-- the product of k signs from a on -/
def pq (f : Nat → Int) : Nat → Nat → Int
  | 0, _ => 1
  | k + 1, a => f a * pq f k (a + 1)
def crs : Nat → Int
  | 0 => 1
  | k + 1 => evn k * crs k
theorem cr_pq {f : Nat → Int} : ∀ (k a : Nat), cr f k a = pq f k a * crs k
  | 0, _ => by simp [cr, pq, crs]
  | k + 1, a => by
    rw [cr, pq, crs, cr_pq k (a + 1)]
    have e : ∀ x y z w : Int, x * y * (z * w) = y * z * (x * w) := fun x y z w => by
      rw [Int.mul_assoc, Int.mul_left_comm x, Int.mul_assoc y, ← Int.mul_assoc x, Int.mul_comm x z, Int.mul_assoc z]
    exact e _ _ _ _
theorem crs_is : ∀ k, k < 8 → crs k = 1 - 2 * (((k : Int) * ((k : Int) - 1) / 2) % 2) := by decide
end Pd
set_option Elab.async false
set_option linter.all false
set_option maxRecDepth 100000
set_option maxHeartbeats 1000000
namespace Pd
open PySem PySem.Spec PyProof.Rows L2
variable {C : Addr} {n : Nat} {later : List (List Nat)} {r : RCp} {O : Addr → Prop} {h : WH}
/-- a list that stands apart, changed -/
theorem RC.row (x : RC C n later r O h) {i : Nat} (l : i < n) : ∃ q, r.ls[i]? = some q ∧ ixF (.ref r.L) (.int (i : Nat)) h = some (.val (.ref q)) ∧ h q = some (.lst ((later.getD i []).map fun (o : Nat) => .int o)) := by
  have li : i < r.ls.length := by rw [x.len]; exact l
  obtain ⟨q, e⟩ : ∃ q, r.ls[i]? = some q := ⟨_, List.getElem?_eq_getElem li⟩
  refine ⟨q, e, ?_, x.rows i q e⟩
  have : L2.atI (r.ls.map Wv.ref) (i : Int) = some (.ref q) := at_n (by rw [List.getElem?_map, e]; rfl)
  rw [o_ixL x.lat, this]
  rfl
theorem one_test {b i : Nat} : decide (((b : Int) / ((2 ^ i : Nat) : Int)) % 2 = 1) = bitOn b i := by
  have e : ((b : Int) / ((2 ^ i : Nat) : Int)) % 2 = ((b / 2 ^ i % 2 : Nat) : Int) := by
    rw [Int.natCast_emod, Int.natCast_ediv]
    rfl
  rw [e]
  unfold bitOn
  rcases Nat.mod_two_eq_zero_or_one (b / 2 ^ i) with c | c <;> simp [c]
/-- counts, of any net, at a depth -/
def spC (C : Addr) (d : Nat) : WSp := fun ws h Q E => ∃ (n : Nat) (later : List (List Nat)), n ≤ 14 ∧ LatOk n later ∧ sp_counts C n later d ws h Q E
theorem mo_spC (C : Addr) (d : Nat) : MoP (spC C d) := fun ws h Q Q' E E' hq he ⟨n, later, a, b, q⟩ => ⟨n, later, a, b, mo_counts C n later d ws h Q Q' E E' hq he q⟩
/-- the level below -/
def spL (C : Addr) : Nat → WSp
  | 0 => fun _ _ _ _ => False
  | d + 1 => spC C d
theorem mo_spL (C : Addr) : ∀ d, MoP (spL C d)
  | 0 => fun _ _ _ _ _ _ _ _ q => q
  | d + 1 => mo_spC C d
abbrev cL (r : RCp) (b p rest : Nat) (f : Addr) (z : Option Wv) : Wen := [some (.ref r.a), some (.int (b : Nat)), some (.int (p : Nat)), some (.int (rest : Nat)), some (.ref f), z]
/-- the second loop of counts -/
theorem counts_loop {b p rest d : Nat} {f : Addr} {O : Addr → Prop} {h0 : WH} (n14 : n ≤ 14) (ok : LatOk n later) (pn : p < n) (pd : n ≤ p + 1 + d) (rn : rest < 2 ^ n) (cl : Clear rest (p + 1)) (Of : O f)
    (x : RC C n later r O h) (ne : f ≠ r.K) (e0 : ExtX r.K h0 h) (hf0 : h0 f = none) (hf : h f = some (.lst ((cntB later n n rest).map .int))) {D : WEnds}
    (q : ∀ h' z, RC C n later r O h' → ExtX r.K h0 h' → h' f = some (.lst (((later.getD p []).foldl (cStep later n rest) (cntB later n n rest)).map .int)) → D.nx (cL r b p rest f z) h') :
    wFor (wISeq (wBin ixF (wFld C "own_later" (wVar 0)) (wVar 2))) (.nm 5) (wIfS (wTest (wBin eqF (wBin modI (wBin divI (wVar 3) (wBin ixF (wFld C "own_powers" (wVar 0)) (wVar 5))) (wC (.int 2))) (wC (.int 1)))) (wDrop (wCall sp_put_behind (wCons (wVar 4) (wCons (wMeth C "counts" (spC C d) (wVar 0) (wCons (wBin subI (wVar 3) (wBin ixF (wFld C "own_powers" (wVar 0)) (wVar 5))) (wCons (wBin addF (wVar 2) (wC (.int 1))) (wNil)))) (wNil))))) (wNext)) D (cL r b p rest f none) h := by
  obtain ⟨lq, l1, l2, l3⟩ := x.row pn
  simp only [wFor, s_seq]
  simp only [e_wBin]
  rw [fldW (a := r.a) rfl x.ins rfl]
  simp only [wVar_s, wVar_0, l2, e_outV]
  rw [s_onL l3]
  refine ⟨fun i ρ h1 => RC C n later r O h1 ∧ ExtX r.K h0 h1 ∧ h1 f = some (.lst ((((later.getD p []).take i).foldl (cStep later n rest) (cntB later n n rest)).map .int)) ∧ ∃ z, ρ = cL r b p rest f z, ⟨x, e0, by simpa using hf, none, rfl⟩, ?_, ?_, ?_⟩
  · rintro i ρ h1 _ ⟨x1, _⟩
    exact x1.rows p lq l1
  · rintro i w ρ h1 hi ⟨x1, e1, f1, z, rfl⟩
    simp only [id] at hi
    rw [List.getElem?_map] at hi
    cases eo : (later.getD p [])[i]? with
    | none => rw [eo] at hi; cases hi
    | some o =>
      rw [eo] at hi
      simp at hi
      subst hi
      have ho := ok p o (List.mem_of_getElem? eo)
      refine ⟨cL r b p rest f (some (.int (o : Nat))), rfl, ?_⟩
      have tk : ((later.getD p []).take (i + 1)) = (later.getD p []).take i ++ [o] := by rw [List.take_add_one, eo]; rfl
      dsimp only
      rw [tk, List.foldl_append, List.foldl_cons, List.foldl_nil]
      generalize hF : ((later.getD p []).take i).foldl (cStep later n rest) (cntB later n n rest) = F at f1
      have nF : F ≠ [] ∧ F.length ≤ n + 2 := by
        rw [← hF]
        refine ⟨foldl_ne _ (fun f a hh => cStep_ne hh) _ _ (cntB_ne later n n rest), foldl_len (n + 2) _ (fun f a hh hl => ⟨cStep_ne hh, cStep_len hh hl⟩) _ _ (cntB_ne later n n rest) (by have := cntB_length later n n rest; omega)⟩
      have fl : ∀ Q E, wFld C "own_powers" (wVar 0) (cL r b p rest f (some (.int (o : Nat)))) h1 Q E = Q (.ref r.P) h1 := fun Q E => fldW rfl x1.ins rfl
      simp only [e_wIfS, e_wTest, e_wBin, e_wC, wVar_s, wVar_0]
      rw [fl]
      simp only [wVar_s, wVar_0, x1.pw (show o ≤ n by omega), e_outV, o_div, pow_ok (b := rest) (i := o) (by omega), if_true, o_mod, (by decide : (0 : Int) < 2), o_eqI, one_test]
      by_cases on : bitOn rest o = true
      · rw [if_pos on]
        have hle := bit_le on
        have cs : cStep later n rest F o = pb F (cntB later n n (rest - 2 ^ o)) := by unfold cStep; rw [if_pos on]
        rw [cs]
        simp only [e_wDrop, e_wCall, e_wCons, e_wNil, wVar_s, wVar_0]
        rw [methV rfl x1.ins rfl]
        simp only [e_wCons, e_wNil, e_wBin, e_wC, wVar_s, wVar_0]
        rw [fl]
        simp only [wVar_s, wVar_0, x1.pw (show o ≤ n by omega), e_outV, o_sub, o_addI]
        refine ⟨n, later, n14, ok, r, O, rest - 2 ^ o, p + 1, ?_, by omega, by omega, Nat.lt_of_le_of_lt (Nat.sub_le _ _) rn, cl.less (by omega), x1, ?_⟩
        · congr 2
          · congr 1
            omega
        · intro h2 q2 x2 e2 n2 o2 r2
          have ff : h2 f = some (.lst (F.map .int)) := e2 f _ ne f1
          obtain ⟨y, F', rfl⟩ : ∃ y F', F = y :: F' := by
            cases F with
            | nil => exact absurd rfl nF.1
            | cons y F' => exact ⟨y, F', rfl⟩
          refine ⟨f, q2, y, F', _, rfl, ?_, ff, r2, ?_, ?_⟩
          · rintro rfl
            exact o2 Of
          · have := cntB_length later n n (rest - 2 ^ o)
            have := nF.2
            simp at this
            omega
          · refine ⟨x2.put (.inr Of), ?_, wup_same, _, rfl⟩
            exact ExtX.put hf0 (e1.trans e2)
      · rw [if_neg on]
        have cs : cStep later n rest F o = F := by unfold cStep; rw [if_neg on]
        rw [cs]
        exact ⟨x1, e1, f1, _, rfl⟩
  · rintro ρ h1 ⟨x1, e1, f1, z, rfl⟩
    refine q h1 z x1 e1 ?_
    rw [f1]
    simp only [id, List.length_map, List.take_length]
end Pd
set_option Elab.async false
set_option linter.all false
set_option maxRecDepth 100000
set_option maxHeartbeats 1000000
namespace Pd
open PySem PySem.Spec PyProof.Rows L2
variable {C : Addr} {n : Nat} {later : List (List Nat)} {r : RCp} {O : Addr → Prop} {h : WH}
section
variable {κ : Type} [DecidableEq κ]
theorem look_app {k : κ} {w : Wv} : ∀ {kvs : List (κ × Wv)}, lookA k kvs = none → lookA k (kvs ++ [(k, w)]) = some w
  | [], _ => if_pos rfl
  | p :: t, e => by
    by_cases c : p.1 = k
    · have : lookA k (p :: t) = some p.2 := if_pos c
      rw [this] at e; cases e
    · have e1 : lookA k (p :: t) = lookA k t := if_neg c
      have e2 : lookA k (p :: t ++ [(k, w)]) = lookA k (t ++ [(k, w)]) := if_neg c
      rw [e2]
      exact look_app (e1 ▸ e)
theorem look_map {k : κ} {w : Wv} : ∀ {kvs : List (κ × Wv)} {v : Wv}, lookA k kvs = some v → lookA k (kvs.map fun p => if p.1 = k then (p.1, w) else p) = some w
  | [], _, e => by cases e
  | p :: t, v, e => by
    rw [List.map_cons]
    by_cases c : p.1 = k
    · rw [if_pos c]
      exact if_pos c
    · rw [if_neg c]
      have e1 : lookA k (p :: t) = lookA k t := if_neg c
      have e2 : ∀ u, lookA k (p :: u) = lookA k u := fun u => if_neg c
      rw [e2]
      exact look_map (e1 ▸ e)
theorem look_put {k : κ} {w : Wv} {kvs : List (κ × Wv)} : lookA k (putA k w kvs) = some w := by
  unfold putA
  cases e : lookA k kvs with
  | none =>
    rw [Option.isSome_none, if_neg nofun]
    exact look_app e
  | some v =>
    rw [Option.isSome_some, if_pos rfl]
    exact look_map e
theorem look_mem {k : κ} : ∀ {kvs : List (κ × Wv)} {v : Wv}, lookA k kvs = some v → (k, v) ∈ kvs
  | [], _, e => by cases e
  | p :: t, v, e => by
    by_cases c : p.1 = k
    · have : lookA k (p :: t) = some p.2 := if_pos c
      rw [this] at e
      cases e
      rw [← c]
      exact List.mem_cons_self
    · have e1 : lookA k (p :: t) = lookA k t := if_neg c
      exact List.mem_cons_of_mem _ (look_mem (e1 ▸ e))
theorem look_not {k : κ} : ∀ {kvs : List (κ × Wv)}, lookA k kvs = none → ∀ v, (k, v) ∉ kvs
  | [], _, v => by simp
  | p :: t, e, v => by
    by_cases c : p.1 = k
    · have : lookA k (p :: t) = some p.2 := if_pos c
      rw [this] at e; cases e
    · have e1 : lookA k (p :: t) = lookA k t := if_neg c
      intro m
      rcases List.mem_cons.mp m with m | m
      · exact c (by rw [← m])
      · exact look_not (e1 ▸ e) v m
end
abbrev kF (k : Nat × Addr) : Key × Wv := (.inl (k.1 : Int), .ref k.2)
/-- the counts of b are stored -/
theorem RC.store (x : RC C n later r O h) {b : Nat} {f : Addr} (n14 : n ≤ 14) (bn : b < 2 ^ n) (ne : f ≠ r.K) (no : ¬ O f) (hf : h f = some (.lst ((cntB later n n b).map .int))) :
    ∃ kvs, h r.K = some (.dK kvs) ∧ kvs.length < sizeLine ∧ RC C n later r O (wup h r.K (.dK (putA (.inl (b : Int)) (.ref f) kvs))) := by
  obtain ⟨ks, k1, k2, k3, k4⟩ := x.known
  have hl : (ks.map kF).length < sizeLine := by
    rw [List.length_map]
    have h1 := few_under (2 ^ n) (ks.map (·.1)) k2 fun y hy => by
      obtain ⟨k, hk, rfl⟩ := List.mem_map.mp hy
      exact (k4 k hk).1
    rw [List.length_map] at h1
    have h2 : 2 ^ n ≤ 2 ^ 14 := Nat.pow_le_pow_right (by omega) n14
    have h3 : 2 ^ 14 < sizeLine := by decide
    omega
  refine ⟨_, k1, hl, ?_⟩
  have ot : ∀ {o : Wo} {q : Addr} {u : Wo}, h q = some u → q ≠ r.K → wup h r.K o q = some u := fun {o q u} e c => by rw [wup_ne c]; exact e
  refine { ins := ot x.ins (Ne.symm x.ka), lat := ot x.lat (Ne.symm x.kL), len := x.len, rows := fun i q e => ot (x.rows i q e) (fun c => x.kl (c ▸ List.mem_of_getElem? e)), pow := ot x.pow (Ne.symm x.kP), known := ?_,
           kL := x.kL, kP := x.kP, ka := x.ka, kl := x.kl, oK := x.oK, oL := x.oL, oP := x.oP, oa := x.oa, ol := x.ol,
           os := fun y oy => by
             by_cases c : y = r.K
             · subst c; rw [wup_same]; exact nofun
             · rw [wup_ne c]; exact x.os y oy }
  unfold putA
  cases e : lookA (Sum.inl (b : Int) : Key) (ks.map kF) with
  | none =>
    rw [Option.isSome_none, if_neg nofun]
    have nb : b ∉ ks.map (·.1) := fun m => by
      obtain ⟨k, hk, rfl⟩ := List.mem_map.mp m
      exact look_not e (.ref k.2) (List.mem_map.mpr ⟨k, hk, rfl⟩)
    refine ⟨ks ++ [(b, f)], by rw [wup_same, List.map_append]; rfl, ?_, ?_, ?_⟩
    · rw [List.map_append, List.nodup_append]
      refine ⟨k2, by simp, ?_⟩
      intro y hy z hz
      rw [List.mem_singleton.mp hz]
      rintro rfl
      exact nb hy
    · obtain ⟨q, hq⟩ := k3
      exact ⟨q, List.mem_append_left _ hq⟩
    · intro k hk
      rcases List.mem_append.mp hk with m | m
      · exact ⟨(k4 k m).1, (k4 k m).2.1, (k4 k m).2.2.1, ot (k4 k m).2.2.2 (k4 k m).2.1⟩
      · rw [List.mem_singleton.mp m]
        exact ⟨bn, ne, no, ot hf ne⟩
  | some v =>
    rw [Option.isSome_some, if_pos rfl]
    refine ⟨ks.map fun k => if k.1 = b then (k.1, f) else k, ?_, ?_, ?_, ?_⟩
    · rw [wup_same]
      congr 2
      rw [List.map_map, List.map_map]
      refine List.map_congr_left fun k _ => ?_
      simp only [Function.comp, kF]
      by_cases c : k.1 = b
      · rw [if_pos c, if_pos (by rw [c])]
      · have c' : ¬ (Sum.inl (k.1 : Int) : Key) = Sum.inl (b : Int) := fun z => c (by
          have := Sum.inl.inj z
          omega)
        rw [if_neg c, if_neg c']
    · rw [List.map_map]
      have : (ks.map ((·.1) ∘ fun k : Nat × Addr => if k.1 = b then (k.1, f) else k)) = ks.map (·.1) := List.map_congr_left fun k _ => by
        simp only [Function.comp]
        split <;> rfl
      rw [this]
      exact k2
    · obtain ⟨q, hq⟩ := k3
      by_cases c : 0 = b
      · exact ⟨f, List.mem_map.mpr ⟨(0, q), hq, if_pos c⟩⟩
      · exact ⟨q, List.mem_map.mpr ⟨(0, q), hq, if_neg c⟩⟩
    · intro k hk
      obtain ⟨k', m, rfl⟩ := List.mem_map.mp hk
      by_cases c : k'.1 = b
      · rw [if_pos c]
        exact ⟨(k4 k' m).1, ne, no, by rw [show (k'.1, f).1 = b from c]; exact ot hf ne⟩
      · rw [if_neg c]
        exact ⟨(k4 k' m).1, (k4 k' m).2.1, (k4 k' m).2.2.1, ot (k4 k' m).2.2.2 (k4 k' m).2.1⟩
theorem spL_of {d b p : Nat} {n14 : n ≤ 14} (hp : p < n) (hd : n ≤ p + d) : ∃ d', d = d' + 1 ∧ n ≤ p + 1 + d' := by
  cases d with
  | zero => omega
  | succ d => exact ⟨d, rfl, by omega⟩
theorem q_counts (d : Nat) (ws : List Wv) (h : WH) (Q : WQ) (E : WX) (s : spC C d ws h Q E) : wBody (t_RoadCounts_counts sp_put_behind (spL C d) C) N_RoadCounts_counts.length ws h Q E := by
  obtain ⟨n, later, n14, ok, r, O, b, p, rfl, pd, pn, bn, cl, x, q⟩ := s
  rw [e_wBody, t_RoadCounts_counts, e_wSeq]
  refine counts_skip n14 x pn bn cl fun p' a1 a2 a3 a4 => ?_
  obtain ⟨ks, k1, k2, k3, k4⟩ := x.known
  have fl : ∀ {h1 : WH} {ρ : Wen} (x1 : RC C n later r O h1) (_ : ρ[0]? = some (some (.ref r.a))) Q E, wFld C "own_known" (wVar 0) ρ h1 Q E = Q (.ref r.K) h1 := fun x1 e Q E => fldW e x1.ins rfl
  simp only [e_wSeq, e_wIfS, e_wTest, e_wBin, wVar_s, wVar_0]
  rw [fl x rfl, o_memK k1 (k := .int b) (x := .inl (b : Int)) rfl]
  simp only [e_outV, if_true]
  cases e : lookA (Sum.inl (b : Int) : Key) (ks.map kF) with
  | some v =>
    obtain ⟨k, hk, ek⟩ := List.mem_map.mp (look_mem e)
    have ek1 : (k.1 : Int) = (b : Int) := Sum.inl.inj (congrArg Prod.fst ek)
    have ek2 : Wv.ref k.2 = v := congrArg Prod.snd ek
    have eb : k.1 = b := by omega
    subst ek2
    simp only [Option.isSome_some, Bool.not_true, Bool.false_eq_true, if_false, e_wNext, e_wRet, e_wBin, wVar_s, wVar_0]
    rw [fl x rfl]
    try simp only [wVar_s, wVar_0]
    rw [o_ixK k1 (x := .inl (b : Int)) rfl e, e_outV]
    have := k4 k hk
    exact q _ _ x (ExtX.refl _ _) this.2.1 this.2.2.1 (eb ▸ this.2.2.2)
  | none =>
    simp only [Option.isSome_none, Bool.not_false, if_true]
    have b0 : b ≠ 0 := by
      rintro rfl
      obtain ⟨q0, hq⟩ := k3
      exact look_not e (.ref q0) (List.mem_map.mpr ⟨(0, q0), hq, rfl⟩)
    have on : bitOn b p' = true := a4.resolve_left b0
    have plt : p' < n := by
      rcases Nat.lt_or_ge p' n with c | c
      · exact c
      · have : p' = n := by omega
        subst this
        exact absurd (Clear.none a3 bn) b0
    obtain ⟨d, rfl, hd⟩ := spL_of (b := b) (n14 := n14) plt (show n ≤ p' + d by omega)
    obtain ⟨t1, t2⟩ := a3.take on
    have rn : b - 2 ^ p' < 2 ^ n := Nat.lt_of_le_of_lt (Nat.sub_le _ _) bn
    simp only [e_wSet, e_wBin, wVar_s, wVar_0]
    rw [fldW (a := r.a) rfl x.ins rfl]
    simp only [wVar_s, wVar_0, x.pw a2, e_outV, o_sub]
    have er : (b : Int) - ((2 ^ p' : Nat) : Int) = ((b - 2 ^ p' : Nat) : Int) := by omega
    simp only [er, cLoc, List.set_cons_succ, List.set_cons_zero, e_wCB, e_wCons, e_wNil]
    rw [methV rfl x.ins rfl]
    simp only [e_wCons, e_wNil, e_wBin, e_wC, wVar_s, wVar_0, o_addI, e_outV]
    refine ⟨n, later, n14, ok, r, O, b - 2 ^ p', p' + 1, rfl, by omega, by omega, rn, t2, x, ?_⟩
    intro h2 q2 x2 e2 n2 o2 r2
    rw [o_lstL r2]
    simp only [e_oN]
    intro f hf
    have x3 := x2.more (o := .lst ((cntB later n n (b - 2 ^ p')).map .int)) hf
    have nf : f ≠ r.K := by
      rintro rfl
      exact x2.stands hf
    have e3 : ExtX r.K h (wup h2 f (.lst ((cntB later n n (b - 2 ^ p')).map .int))) := by
      intro y u ny hy
      have := e2 y u ny hy
      rw [wup_ne]
      · exact this
      · rintro rfl
        rw [hf] at this
        cases this
    have hf0 : h f = none := by
      cases z : h f with
      | none => rfl
      | some u =>
        have := e2 f u nf z
        rw [hf] at this
        cases this
    refine counts_loop n14 ok plt hd rn t2 (.inr rfl) x3 nf e3 hf0 wup_same fun h4 z x4 e4 f4 => ?_
    have cb := cntB_step plt a3 on ok
    rw [← cb] at f4
    have no : ¬ O f := fun c => x2.os f c hf
    obtain ⟨kvs, kv1, kv2, x5⟩ := (x4.less (O' := O) fun y hy => .inl hy).store n14 bn nf no f4
    simp only [e_wAsg, wVar_s, wVar_0, g_sub]
    rw [fldW (a := r.a) rfl x4.ins rfl]
    try simp only [wVar_s, wVar_0]
    rw [o_setK kv1 (x := .inl (b : Int)) rfl kv2]
    simp only [e_wRet, e_wBin, wVar_s, wVar_0]
    rw [fl x5 rfl]
    try simp only [wVar_s, wVar_0]
    rw [o_ixK wup_same (x := .inl (b : Int)) rfl look_put, e_outV]
    exact q _ _ x5 (ExtX.own e4) nf no (by rw [wup_ne nf]; exact f4)
end Pd
set_option Elab.async false
set_option linter.all false
set_option maxRecDepth 100000
set_option maxHeartbeats 1000000
namespace Pd
open PySem PySem.Spec PyProof.Rows L2
/-! ### a counting object is made -/
theorem g_fldV {C : Addr} {f : Str} {i : Nat} {w : Wv} {ρ : Wen} {h : WH} {QS : Wen → WH → Prop} {a : Addr} {fs : List (Str × Wv)} (e : ρ[i]? = some (some (.ref a))) (hi : h a = some (.ins C fs)) (l : fs.length < 1000) : wgFld C f (wVar i) w ρ h QS = QS ρ (wup h a (.ins C (putFW f w fs))) := by
  unfold wgFld
  rw [wVar_at e]
  simp [hi, l]
def lat_ (N : Net) (i : Nat) (j : Nat) : List Int := ((N.rs.take i).filter fun r => decide (r.1 = (j : Int))).map (·.2)
structure LatAt (N : Net) (i : Nat) (as : List Addr) (L : Addr) (h : WH) : Prop where
  l : h L = some (.lst (as.map .ref))
  len : as.length = N.n
  nd : as.Nodup
  row : ∀ (j : Nat) (a : Addr), as[j]? = some a → h a = some (.lst ((lat_ N i j).map .int))
  ne : L ∉ as
theorem LatAt.put {N : Net} {i : Nat} {as : List Addr} {L : Addr} {h : WH} (x : LatAt N i as L h) {p : Addr} {o : Wo} (h1 : p ≠ L) (h2 : p ∉ as) : LatAt N i as L (wup h p o) where
  l := by rw [wup_ne (Ne.symm h1)]; exact x.l
  len := x.len
  nd := x.nd
  row := fun j a e => by
    have : a ≠ p := by rintro rfl; exact h2 (List.mem_of_getElem? e)
    rw [wup_ne this]
    exact x.row j a e
  ne := x.ne
/-- the first part: a list of empty lists -/
theorem init_a {N : Net} (ok : N.Ok) {h : WH} {x : Addr} {Q : WQ} {E : WX} {u v z : Option Wv} (q : ∀ L as h2, LatAt N 0 as L h2 → Ext h h2 → h L = none → (∀ a, a ∈ as → h a = none) → Q (.ref L) h2) :
    wLc (wIRng1 (wBin ixF (wVar 1) (wC (.int 0)))) (.nm 4) (wYes) (wLst (wNil)) [4] [some (.ref x), some N.w, u, v, z] h Q E := by
  have n14 := ok.n14
  have rg : rgOk (N.n : Int) = true := by unfold rgOk; simp; omega
  unfold wLc
  simp [Net.w, rg]
  intro D hD
  refine ⟨fun i acc h1 => ∃ as : List Addr, acc = as.map .ref ∧ as.length = i ∧ as.Nodup ∧ (∀ a, a ∈ as → a ≠ D ∧ h a = none ∧ h1 a = some (.lst [])) ∧ h1 D = some (.lst acc) ∧ Ext h h1, ?_, ?_, ?_⟩
  · exact ⟨[], rfl, rfl, List.nodup_nil, nofun, wup_same, Ext.new hD⟩
  · rintro i acc w h1 hi ⟨as, rfl, e2, e3, e4, e5, e6⟩
    have hi' := (List.getElem?_eq_some_iff.mp hi).1
    rw [rgW_length] at hi'
    intro p hp
    have pD : p ≠ D := by rintro rfl; rw [hp] at e5; cases e5
    refine ⟨by rw [wup_ne (Ne.symm pD)]; exact e5, ?_, as ++ [p], by simp, by simp [e2], ?_, ?_, ?_, ?_⟩
    · rw [List.length_map, e2]
      have : 1000 < sizeLine := by decide
      omega
    · rw [List.nodup_append]
      refine ⟨e3, by simp, ?_⟩
      intro a ha b hb
      rw [List.mem_singleton.mp hb]
      rintro rfl
      rw [(e4 a ha).2.2] at hp
      cases hp
    · intro a ha
      rcases List.mem_append.mp ha with m | m
      · have := e4 a m
        have ap : a ≠ p := by rintro rfl; rw [this.2.2] at hp; cases hp
        exact ⟨this.1, this.2.1, by rw [wup_ne this.1, wup_ne ap]; exact this.2.2⟩
      · rw [List.mem_singleton.mp m]
        exact ⟨pD, Ext.free e6 hp, by rw [wup_ne pD, wup_same]⟩
    · rw [wup_same]
    · exact Ext.put hD (Ext.put (Ext.free e6 hp) e6)
  · rintro acc h1 ⟨as, rfl, e2, e3, e4, e5, e6⟩
    rw [rgW_length] at e2
    refine q D as h1 ⟨e5, by omega, e3, fun j a ea => (e4 a (List.mem_of_getElem? ea)).2.2, fun m => (e4 D m).1 rfl⟩ e6 hD fun a ha => (e4 a ha).2.1
/-- the second part: the later places are put in -/
theorem init_b {N : Net} (ok : N.Ok) {C : Addr} {h : WH} {x L : Addr} {as : List Addr} (lx : LatAt N 0 as L h) (hx : h x = some (.ins C [("own_later", .ref L)])) (xa : x ∉ as) {D : WEnds} {z : Option Wv}
    (q : ∀ h2 u v, LatAt N N.rs.length as L h2 → (∀ a, a ∉ as → h2 a = h a) → D.nx [some (.ref x), some N.w, u, v, z] h2) :
    wFor (wISeq (wBin ixF (wVar 1) (wC (.int 1)))) (.tp [.nm 2, .nm 3]) (wDrop (wBM "list" appendM (wBin ixF (wFld C "own_later" (wVar 0)) (wVar 2)) (wCons (wVar 3) (wNil)))) D [some (.ref x), some N.w, none, none, z] h := by
  simp only [wFor, s_seq, e_wBin, Net.w, wVar_s, wVar_0, e_wC, o_ixT, at_1, Option.map_some, e_outV, s_onT]
  refine ⟨fun i ρ h1 => LatAt N i as L h1 ∧ (∀ a, a ∉ as → h1 a = h a) ∧ ∃ u v, ρ = [some (.ref x), some (.tup [.int N.n, .tup (N.rs.map rdW)]), u, v, z], ⟨lx, fun _ _ => rfl, _, _, rfl⟩, fun _ _ _ _ _ => trivial, ?_, ?_⟩
  · rintro i w ρ h1 hi ⟨l1, k1, u, v, rfl⟩
    rw [id, List.getElem?_map] at hi
    cases er : N.rs[i]? with
    | none => rw [er] at hi; simp at hi
    | some r =>
      rw [er] at hi
      have hi : w = rdW r := by simpa using hi.symm
      subst hi
      have hr := ok.rd r (List.mem_of_getElem? er)
      obtain ⟨a, b⟩ := r
      simp only [isRd, Bool.and_eq_true, decide_eq_true_eq] at hr
      obtain ⟨j, rfl⟩ : ∃ j : Nat, a = j := ⟨a.toNat, by omega⟩
      refine ⟨_, rfl, ?_⟩
      have lj : j < as.length := by rw [l1.len]; omega
      have ea : as[j]? = some as[j] := List.getElem?_eq_getElem lj
      generalize as[j] = y at ea
      have hy := l1.row j y ea
      have my := List.mem_of_getElem? ea
      have ix : ixF (.ref L) (.int (j : Int)) h1 = some (.val (.ref y)) := by
        have : L2.atI (as.map Wv.ref) (j : Int) = some (.ref y) := at_n (by rw [List.getElem?_map, ea]; rfl)
        rw [o_ixL l1.l, this]
        rfl
      have big : 1000 < sizeLine := by decide
      have ll : ((lat_ N i j).map Wv.int).length < sizeLine := by
        have h1 : (lat_ N i j).length ≤ N.rs.length := by
          unfold lat_
          rw [List.length_map]
          exact Nat.le_trans (List.length_filter_le _ _) (by rw [List.length_take]; omega)
        have := ok.r40
        rw [List.length_map]
        omega
      have hx1 : h1 x = some (.ins C [("own_later", .ref L)]) := by rw [k1 x xa]; exact hx
      simp only [e_wDrop, e_wBM, e_wBin]
      rw [fldW (a := x) rfl hx1 rfl]
      simp only [wVar_s, wVar_0, List.set_cons_succ, List.set_cons_zero, ix, e_outV]
      refine ⟨.inl ⟨rfl, _, hy⟩, ?_⟩
      simp only [e_wCons, e_wNil, wVar_s, wVar_0]
      rw [o_app hy, if_pos ll]
      simp only [e_oP]
      refine ⟨?_, ?_, _, _, rfl⟩
      · refine ⟨?_, l1.len, l1.nd, ?_, l1.ne⟩
        · rw [wup_ne (fun c => l1.ne (by rw [c]; exact my))]
          exact l1.l
        · intro j' a' e'
          have tk : lat_ N (i + 1) j' = lat_ N i j' ++ if (j : Int) = (j' : Int) then [b] else [] := by
            unfold lat_
            rw [List.take_add_one, er, List.filter_append, List.map_append]
            congr 1
            by_cases c : (j : Int) = (j' : Int)
            · simp [c]
            · rw [if_neg c]
              show List.map _ (List.filter _ [((j : Int), b)]) = []
              rw [List.filter_cons_of_neg (by simpa using c)]
              rfl
          by_cases c : j = j'
          · subst c
            rw [ea] at e'
            cases e'
            rw [wup_same, tk, if_pos rfl]
            simp
          · have : a' ≠ y := by
              rintro rfl
              have l2 := (List.getElem?_eq_some_iff.mp e').1
              exact c ((List.getElem?_inj lj l1.nd).mp (by rw [ea, e']))
            rw [wup_ne this, tk, if_neg (by omega), List.append_nil]
            exact l1.row j' a' e'
      · intro y' hy'
        rw [wup_ne (fun c => hy' (by rw [c]; exact my))]
        exact k1 y' hy'
  · rintro ρ h1 ⟨l1, k1, u, v, rfl⟩
    rw [id, List.length_map] at l1
    exact q h1 u v l1 k1
end Pd
set_option Elab.async false
set_option linter.all false
set_option maxRecDepth 100000
set_option maxHeartbeats 1000000
namespace Pd
open PySem PySem.Spec PyProof.Rows L2
def latN (N : Net) : List (List Nat) := (List.range N.n).map fun j => (lat_ N N.rs.length j).map Int.toNat
theorem lat_mem {N : Net} (ok : N.Ok) {i j : Nat} {b : Int} (h : b ∈ lat_ N i j) : (j : Int) < b ∧ b < N.n := by
  unfold lat_ at h
  obtain ⟨r, hr, rfl⟩ := List.mem_map.mp h
  obtain ⟨h1, h2⟩ := List.mem_filter.mp hr
  have h3 := ok.rd r (List.mem_of_mem_take h1)
  simp only [isRd, Bool.and_eq_true, decide_eq_true_eq] at h3 h2
  omega
theorem latN_row {N : Net} (ok : N.Ok) {j : Nat} (h : j < N.n) : ((latN N).getD j []).map (fun (o : Nat) => Wv.int o) = (lat_ N N.rs.length j).map Wv.int := by
  unfold latN
  rw [List.getD_eq_getElem?_getD, List.getElem?_map, List.getElem?_range h]
  simp only [Option.map_some, Option.getD_some, List.map_map]
  refine List.map_congr_left fun b hb => ?_
  have := lat_mem ok hb
  simp only [Function.comp]
  congr 1
  omega
theorem latN_ok {N : Net} (ok : N.Ok) : LatOk N.n (latN N) := fun j o h => by
  unfold latN at h
  rw [List.getD_eq_getElem?_getD, List.getElem?_map] at h
  rcases Nat.lt_or_ge j N.n with c | c
  · rw [List.getElem?_range c] at h
    simp only [Option.map_some, Option.getD_some] at h
    obtain ⟨b, hb, rfl⟩ := List.mem_map.mp h
    have := lat_mem ok hb
    omega
  · rw [List.getElem?_eq_none (by simpa using c)] at h
    cases h
def sp_init (C : Addr) : WSp := fun ws h Q _ => ∃ (N : Net) (x : Addr), N.Ok ∧ ws = [.ref x, N.w] ∧ h x = some (.ins C []) ∧ ∀ h' r, RC C N.n (latN N) r (fun _ => False) h' → r.a = x → h r.K = none → ExtX x h h' → Q .non h'
theorem mo_init (C : Addr) : MoP (sp_init C) := fun ws h Q Q' E E' hq he ⟨N, x, e1, e2, e3, q⟩ => ⟨N, x, e1, e2, e3, fun h' r a1 a2 a3 a4 => hq _ _ (q h' r a1 a2 a3 a4)⟩
@[simp] theorem e_wdNil {ρ : Wen} {h : WH} {Q : List (Wv × Wv) → WH → Prop} {E : WX} : wdNil ρ h Q E = Q [] h := rfl
@[simp] theorem e_wdCons {tk tv : TWE} {t : TWD} {ρ : Wen} {h : WH} {Q : List (Wv × Wv) → WH → Prop} {E : WX} : wdCons tk tv t ρ h Q E = tk ρ h (fun k h1 => tv ρ h1 (fun v h2 => t ρ h2 (fun ps h3 => Q ((k, v) :: ps) h3) E) E) E := rfl
theorem pow_next (i : Nat) : (List.range (i + 1 + 1)).map (fun i => Wv.int ((2 ^ i : Nat) : Int)) = (List.range (i + 1)).map (fun i => Wv.int ((2 ^ i : Nat) : Int)) ++ [Wv.int ((2 ^ (i + 1) : Nat) : Int)] := by
  rw [List.range_succ, List.map_append]
  rfl
theorem pow_last (i : Nat) : L2.atI ((List.range (i + 1)).map fun i => Wv.int ((2 ^ i : Nat) : Int)) (-1) = some (.int ((2 ^ i : Nat) : Int)) := by
  rw [List.range_succ, List.map_append]
  exact atI_last _ _
/-- the last part: the powers of 2 -/
theorem init_d {N : Net} (n14 : N.n ≤ 14) {C : Addr} {h : WH} {x P : Addr} {fs : List (Str × Wv)} (hx : h x = some (.ins C fs)) (hf : fs.lookup ("own_powers" : Str) = some (Wv.ref P)) (xp : x ≠ P) (hP : h P = some (.lst [.int 1])) {D : WEnds} {u v z : Option Wv}
    (q : ∀ h2 z, h2 P = some (.lst ((List.range (N.n + 1)).map fun i => .int ((2 ^ i : Nat) : Int))) → (∀ a, a ≠ P → h2 a = h a) → D.nx [some (.ref x), some N.w, u, v, z] h2) :
    wFor (wIRng1 (wBin ixF (wVar 1) (wC (.int 0)))) (.nm 4) (wDrop (wBM "list" appendM (wFld C "own_powers" (wVar 0)) (wCons (wBin mulF (wC (.int 2)) (wBin ixF (wFld C "own_powers" (wVar 0)) (wUn negF (wC (.int 1))))) (wNil)))) D [some (.ref x), some N.w, u, v, z] h := by
  have rg : rgOk (N.n : Int) = true := by unfold rgOk; simp; omega
  simp only [wFor, s_rng1, e_wBin, Net.w, wVar_s, wVar_0, e_wC, o_ixT, at_0, Option.map_some, e_outV]
  refine ⟨rg, fun i ρ h1 => h1 P = some (.lst ((List.range (i + 1)).map fun i => .int ((2 ^ i : Nat) : Int))) ∧ (∀ a, a ≠ P → h1 a = h a) ∧ ∃ z, ρ = [some (.ref x), some N.w, u, v, z], ⟨hP, fun _ _ => rfl, z, rfl⟩, fun _ _ _ _ _ => trivial, ?_, ?_⟩
  · rintro i w ρ h1 hi ⟨p1, k1, z, rfl⟩
    have li := (List.getElem?_eq_some_iff.mp hi).1
    rw [rgW_length] at li
    refine ⟨_, rfl, ?_⟩
    have hx1 : h1 x = some (.ins C fs) := by rw [k1 x xp]; exact hx
    have fl : ∀ z Q E, wFld C "own_powers" (wVar 0) [some (.ref x), some N.w, u, v, z] h1 Q E = Q (.ref P) h1 := fun z Q E => fldW rfl hx1 hf
    simp only [e_wDrop, e_wBM, List.set_cons_succ, List.set_cons_zero]
    rw [fl]
    refine ⟨.inl ⟨rfl, _, p1⟩, ?_⟩
    simp only [e_wCons, e_wNil, e_wBin, e_wC, e_wUn, o_neg, e_outV]
    rw [fl]
    have ix : ixF (.ref P) (.int (-1)) h1 = some (.val (.int ((2 ^ i : Nat) : Int))) := by rw [o_ixL p1, pow_last]; rfl
    have mk : mulOk 2 ((2 ^ i : Nat) : Int) = true := by unfold mulOk; simp
    have m2 : 2 * ((2 ^ i : Nat) : Int) = ((2 ^ (i + 1) : Nat) : Int) := by rw [Nat.pow_succ]; omega
    have big : 1000 < sizeLine := by decide
    have ll : ((List.range (i + 1)).map fun i => Wv.int ((2 ^ i : Nat) : Int)).length < sizeLine := by
      rw [List.length_map, List.length_range]
      omega
    simp only [ix, e_outV, o_mul, mk, if_true, m2]
    rw [o_app p1, if_pos ll, ← pow_next]
    exact ⟨wup_same, fun a na => by rw [wup_ne na]; exact k1 a na, _, rfl⟩
  · rintro ρ h1 ⟨p1, k1, z, rfl⟩
    rw [rgW_length, show (((N.n : Int) - 0).toNat) = N.n by omega] at p1
    exact q h1 z p1 k1
theorem q_init (C : Addr) (ws : List Wv) (h : WH) (Q : WQ) (E : WX) (s : sp_init C ws h Q E) : wBody (t_RoadCounts_xinitx C) N_RoadCounts_xinitx.length ws h Q E := by
  obtain ⟨N, x, ok, rfl, hx, q⟩ := s
  simp only [e_wBody, t_RoadCounts_xinitx, e_wSeq, N_RoadCounts_xinitx, wStart_def, e_wAsg, List.length_cons, List.length_nil, List.map_cons, List.map_nil, List.cons_append, List.nil_append]
  refine init_a ok fun L as h1 l1 e1 nL na => ?_
  have hx1 := e1 x _ hx
  have xL : x ≠ L := by rintro rfl; rw [hx] at nL; cases nL
  have xa : x ∉ as := fun m => by have := na x m; rw [hx] at this; cases this
  rw [g_fldV (a := x) rfl hx1 (by simp)]
  have l2 := l1.put (p := x) (o := .ins C [("own_later", .ref L)]) xL xa
  refine init_b ok (C := C) (x := x) l2 wup_same xa fun h2 u v l3 k3 => ?_
  simp only [e_wTup, e_wCons, e_wNil, wDisp, e_wdCons, e_wdNil, e_wC, e_wLst]
  intro K hK p1 hp1
  refine ⟨?_, by simp, ?_⟩
  · rw [wup_ne]
    · exact wup_same
    · rintro rfl
      rw [wup_same] at hp1
      cases hp1
  show ∀ P, _ → _
  intro P hP
  have h2x : h2 x = some (.ins C [("own_later", .ref L)]) := by rw [k3 x xa]; exact wup_same
  have st : ∀ y u, h y = some u → y ≠ x → h2 y = some u := fun y u hy ny => by
    have hy' : y ∉ as := fun m => by have := na y m; rw [hy] at this; cases this
    rw [k3 y hy', wup_ne ny]
    exact e1 y u hy
  have e0 : mergeA ([] : List (Key × Wv)) [((.inl 0 : Key), Wv.ref p1)] = [((.inl 0 : Key), Wv.ref p1)] := rfl
  rw [show (Wo.dK (mergeA [] ((fun kvs => ((Sum.inl 0 : Key), ((Wv.int 0, Wv.ref p1) : Wv × Wv).snd) :: kvs) []))) = Wo.dK [((.inl 0 : Key), Wv.ref p1)] from congrArg Wo.dK e0] at hP ⊢
  have pK : p1 ≠ K := by rintro rfl; rw [wup_same] at hp1; cases hp1
  have h2p : h2 p1 = none := by rw [wup_ne pK] at hp1; exact hp1
  have PK : P ≠ K := by rintro rfl; rw [wup_same] at hP; cases hP
  have Pp : P ≠ p1 := by rintro rfl; rw [wup_ne pK, wup_same] at hP; cases hP
  have h2P : h2 P = none := by rw [wup_ne PK, wup_ne Pp, wup_ne PK] at hP; exact hP
  have ot : ∀ y u, h2 y = some u → y ≠ K ∧ y ≠ p1 ∧ y ≠ P := fun y u hy => ⟨(by rintro rfl; rw [hK] at hy; cases hy), (by rintro rfl; rw [h2p] at hy; cases hy), (by rintro rfl; rw [h2P] at hy; cases hy)⟩
  generalize hG : wup (wup (wup (wup h2 K (.dK [])) p1 (.lst [.int 1])) K (.dK [((.inl 0 : Key), Wv.ref p1)])) P (.lst [.int 1]) = G
  have g1 : ∀ y u, h2 y = some u → G y = some u := fun y u hy => by
    obtain ⟨a1, a2, a3⟩ := ot y u hy
    rw [← hG, wup_ne a3, wup_ne a1, wup_ne a2, wup_ne a1]
    exact hy
  have gK : G K = some (.dK [((.inl 0 : Key), Wv.ref p1)]) := by rw [← hG, wup_ne (Ne.symm PK), wup_same]
  have gp : G p1 = some (.lst [.int 1]) := by rw [← hG, wup_ne (Ne.symm Pp), wup_ne pK, wup_same]
  have gP : G P = some (.lst [.int 1]) := by rw [← hG, wup_same]
  obtain ⟨xK, xp, xP⟩ := ot x _ h2x
  refine ⟨_, rfl, rfl, _, _, rfl, ?_⟩
  rw [g_fldV (a := x) rfl (g1 x _ h2x) (by simp)]
  refine ⟨_, _, rfl, ?_⟩
  have e5 : putFW ("own_known" : Str) (Wv.ref K) [(("own_later" : Str), Wv.ref L)] = [(("own_later" : Str), Wv.ref L), ("own_known", .ref K)] := rfl
  have e6 : putFW ("own_powers" : Str) (Wv.ref P) [(("own_later" : Str), Wv.ref L), ("own_known", .ref K)] = [(("own_later" : Str), Wv.ref L), ("own_known", .ref K), ("own_powers", .ref P)] := rfl
  rw [e5, g_fldV (a := x) rfl wup_same (by simp), e6]
  refine ⟨rfl, ?_⟩
  rw [wup_wup]
  refine init_d ok.n14 (C := C) (x := x) (P := P) wup_same rfl xP (by rw [wup_ne (Ne.symm xP)]; exact gP) fun h4 z p4 k4 => ?_
  have x4 : h4 x = some (.ins C [("own_later", .ref L), ("own_known", .ref K), ("own_powers", .ref P)]) := by rw [k4 x xP]; exact wup_same
  have s4 : ∀ y u, G y = some u → y ≠ x → y ≠ P → h4 y = some u := fun y u hy ny nP => by rw [k4 y nP, wup_ne ny]; exact hy
  have hL2 := l3.l
  obtain ⟨LK, Lp, LP⟩ := ot L _ hL2
  have row2 : ∀ (j : Nat) (a : Addr), as[j]? = some a → h4 a = some (.lst ((lat_ N N.rs.length j).map .int)) := fun j a ea => by
    have hr := l3.row j a ea
    obtain ⟨aK, ap, aP⟩ := ot a _ hr
    exact s4 a _ (g1 a _ hr) (fun c => xa (c ▸ List.mem_of_getElem? ea)) aP
  refine q h4 ⟨x, L, K, P, as⟩ { ins := x4, lat := s4 L _ (g1 L _ hL2) (Ne.symm xL) LP, len := l3.len, rows := fun i a ea => ?_, pow := p4, known := ?_, kL := Ne.symm LK, kP := Ne.symm PK, ka := Ne.symm xK, kl := ?_, oK := fun c => c, oL := fun c => c, oP := fun c => c, oa := fun c => c, ol := fun _ _ c => c, os := fun _ c => c.elim } rfl ?_ ?_
  · have li := (List.getElem?_eq_some_iff.mp ea).1
    have l2 : i < N.n := by have := l3.len; dsimp only at li; omega
    rw [latN_row ok l2]
    exact row2 i a ea
  · refine ⟨[(0, p1)], s4 K _ gK (Ne.symm xK) (Ne.symm PK), by simp, ⟨p1, by simp⟩, ?_⟩
    intro k hk
    rw [List.mem_singleton.mp hk]
    refine ⟨Nat.two_pow_pos _, pK, fun c => c, ?_⟩
    rw [cntB_zero]
    exact s4 p1 _ gp (Ne.symm xp) (Ne.symm Pp)
  · intro m
    obtain ⟨j, ej⟩ := List.getElem?_of_mem m
    exact (ot K _ (l3.row j K ej)).1 rfl
  · cases e : h K with
    | none => rfl
    | some o =>
      have := st K o e (Ne.symm xK)
      rw [hK] at this
      cases this
  · intro y u ny hy
    have h2y := st y u hy ny
    exact s4 y u (g1 y u h2y) ny (ot y u h2y).2.2
end Pd
set_option Elab.async false
set_option linter.all false
set_option maxRecDepth 100000
set_option maxHeartbeats 1000000
namespace Pd
open PySem PySem.Spec PyProof.Rows L2
/-! ### counts_by and what is told by it -/
def Net.counts (N : Net) : List Int := cntB (latN N) N.n N.n (2 ^ N.n - 1)
def sp_counts_by : WSp := fun ws h Q _ => ∃ N : Net, N.Ok ∧ ws = [N.w] ∧ ∀ h' q, Ext h h' → h' q = some (.lst (N.counts.map .int)) → Q (.ref q) h'
theorem mo_counts_by : MoP sp_counts_by := fun ws h Q Q' E E' hq he ⟨N, e1, e2, q⟩ => ⟨N, e1, e2, fun h' r a1 a2 => hq _ _ (q h' r a1 a2)⟩
theorem q_counts_by (C : Addr) (ws : List Wv) (h : WH) (Q : WQ) (E : WX) (s : sp_counts_by ws h Q E) : wBody (t_counts_by (sp_init C) (spC C 14) C) N_counts_by.length ws h Q E := by
  obtain ⟨N, ok, rfl, q⟩ := s
  have n14 := ok.n14
  simp only [e_wBody, t_counts_by, e_wSeq, e_wSet, wMake, N_counts_by, wStart_def, List.length_cons, List.length_nil, List.map_cons, List.map_nil, List.cons_append, List.nil_append, Nat.reduceAdd, Nat.reduceSub, List.replicate_succ, List.replicate_zero, e_wCons, e_wNil]
  intro x hx
  refine ⟨N, x, ok, rfl, wup_same, fun h1 r rc ra hK e1 => ⟨rfl, ?_⟩⟩
  subst ra
  simp only [e_wRet]
  show wMeth C "counts" _ (wVar 1) _ [some N.w, some (.ref r.a)] h1 Q _
  rw [methV rfl rc.ins rfl]
  simp only [e_wCons, e_wNil, e_wBin, e_wUn, e_wC, o_neg, e_outV]
  rw [fldW (a := r.a) rfl rc.ins rfl, o_ixL rc.pow, pow_last]
  simp only [Option.map_some, e_outV, o_sub]
  have hp := Nat.two_pow_pos N.n
  refine ⟨N.n, latN N, n14, latN_ok ok, r, fun _ => False, 2 ^ N.n - 1, 0, ?_, by omega, by omega, by omega, Clear.zero _, rc, ?_⟩
  · congr 3
    omega
  · intro h2 w x2 e2 nw _ hw
    refine q h2 w ?_ hw
    intro y o hy
    have yx : y ≠ r.a := by rintro rfl; rw [hx] at hy; cases hy
    have h1y := e1 y o yx (by rw [wup_ne yx]; exact hy)
    have yK : y ≠ r.K := by
      rintro rfl
      rw [wup_ne yx] at hK
      rw [hK] at hy
      cases hy
    exact e2 y o yK h1y
/-- how many whole pairings -/
def Net.whole (N : Net) : Int := if N.n % 2 = 0 then cf N.counts (N.n / 2) else 0
def sp_whole : WSp := fun ws h Q _ => ∃ N : Net, N.Ok ∧ ws = [N.w] ∧ ∀ h', Ext h h' → Q (.int N.whole) h'
theorem mo_whole : MoP sp_whole := fun ws h Q Q' E E' hq he ⟨N, e1, e2, q⟩ => ⟨N, e1, e2, fun h' a1 => hq _ _ (q h' a1)⟩
theorem q_whole_count_by (ws : List Wv) (h : WH) (Q : WQ) (E : WX) (s : sp_whole ws h Q E) : wBody (t_whole_count_by sp_counts_by) N_whole_count_by.length ws h Q E := by
  obtain ⟨N, ok, rfl, q⟩ := s
  have n14 := ok.n14
  simp only [e_wBody, t_whole_count_by, e_wSeq, e_wSet, N_whole_count_by, wStart_def, List.length_cons, List.length_nil, List.map_cons, List.map_nil, List.cons_append, List.nil_append, Nat.reduceAdd, Nat.reduceSub, List.replicate_succ, List.replicate_zero, e_wCons, e_wNil, e_wCall]
  refine ⟨N, ok, rfl, fun h1 w e1 hw => ?_⟩
  have d2 : divOk (N.n : Int) 2 = true := by unfold divOk; simp
  have md : ((N.n : Int) % 2 = 0) ↔ N.n % 2 = 0 := by omega
  simp only [e_wRet, e_wIf, e_wAnd, e_wTest, e_wBin, e_wC, Net.w, wVar_0, wVar_s, List.set_cons_succ, List.set_cons_zero, o_ixT, at_0, Option.map_some, e_outV, o_mod, (by decide : (0 : Int) < 2), if_true, o_eqI, md, decide_eq_true_eq]
  unfold Net.whole at q
  by_cases c : N.n % 2 = 0
  · rw [if_pos c] at q
    simp only [c, decide_true, if_true, e_wCB, e_wCons, e_wNil, wVar_0, wVar_s, o_lenL hw, e_oV, o_div, d2, e_outV, o_gt, decide_eq_true_eq, List.length_map]
    by_cases l : (N.n : Int) / 2 < N.counts.length
    · rw [if_pos l]
      have e2 : L2.atI (N.counts.map Wv.int) ((N.n : Int) / 2) = some (.int (cf N.counts (N.n / 2))) := by
        have : N.n / 2 < N.counts.length := by omega
        have e3 := at_n (ws := N.counts.map Wv.int) (n := N.n / 2) (w := .int (cf N.counts (N.n / 2))) (by
          rw [List.getElem?_map, List.getElem?_eq_getElem this]
          simp [cf, List.getD_eq_getElem?_getD, List.getElem?_eq_getElem this])
        rw [show ((N.n / 2 : Nat) : Int) = (N.n : Int) / 2 by omega] at e3
        exact e3
      rw [o_ixL hw, e2]
      exact q h1 e1
    · rw [if_neg l]
      have e2 : cf N.counts (N.n / 2) = 0 := by
        show N.counts.getD (N.n / 2) 0 = 0
        rw [List.getD_eq_getElem?_getD, List.getElem?_eq_none (by omega)]
        rfl
      rw [e2] at q
      exact q h1 e1
  · rw [if_neg c] at q
    simp only [c, decide_false, Bool.false_eq_true, if_false]
    exact q h1 e1
theorem q_whole_count (ws : List Wv) (h : WH) (Q : WQ) (E : WX) (s : sp_whole ws h Q E) : wBody (t_whole_count sp_need_net sp_whole) N_whole_count.length ws h Q E := by
  obtain ⟨N, ok, rfl, q⟩ := s
  simp only [e_wBody, t_whole_count, e_wRet, e_wCall, e_wCons, e_wNil, N_whole_count, wStart_def, List.length_cons, List.length_nil, List.map_cons, List.map_nil, List.cons_append, List.nil_append, Nat.reduceAdd, Nat.reduceSub, List.replicate_succ, List.replicate_zero, wVar_0]
  exact ⟨N, ok, rfl, fun h1 e1 => ⟨N, ok, rfl, fun h2 e2 => q h2 (e1.trans e2)⟩⟩
def sp_number : WSp := fun ws h Q _ => ∃ N : Net, N.Ok ∧ ws = [N.w] ∧ ∀ h', Ext h h' → Q (.tup (N.counts.map .int)) h'
theorem mo_number : MoP sp_number := fun ws h Q Q' E E' hq he ⟨N, e1, e2, q⟩ => ⟨N, e1, e2, fun h' a1 => hq _ _ (q h' a1)⟩
theorem q_counts_by_number (ws : List Wv) (h : WH) (Q : WQ) (E : WX) (s : sp_number ws h Q E) : wBody (t_counts_by_number sp_need_net sp_counts_by) N_counts_by_number.length ws h Q E := by
  obtain ⟨N, ok, rfl, q⟩ := s
  simp only [e_wBody, t_counts_by_number, e_wRet, e_wCall, e_wCons, e_wNil, e_wCB, N_counts_by_number, wStart_def, List.length_cons, List.length_nil, List.map_cons, List.map_nil, List.cons_append, List.nil_append, Nat.reduceAdd, Nat.reduceSub, List.replicate_succ, List.replicate_zero, wVar_0]
  refine ⟨N, ok, rfl, fun h1 e1 => ⟨N, ok, rfl, fun h2 w e2 hw => ?_⟩⟩
  dsimp only
  rw [o_tupL hw]
  exact q h2 (e1.trans e2)
end Pd
set_option Elab.async false
set_option linter.all false
set_option maxRecDepth 100000
set_option maxHeartbeats 1000000
namespace Pd
open PySem PySem.Spec PyProof.Rows L2
/-! ### filled_count of a net without roads -/
@[simp] theorem s_rng3 {ta tb tc : TWE} {ρ : Wen} {h : WH} {Q : List Wv → (WH → Prop) → WH → Prop} {E : WX} : wIRng3 ta tb tc ρ h Q E = ta ρ h (fun w h1 => tb ρ h1 (fun u h2 => tc ρ h2 (fun x h3 => match w, u, x with
  | .int i, .int j, .int c => rgcOk i j c = true ∧ Q (rgcW i c (Builtin.Range.rangeSize i j c).toNat) (fun _ => True) h3
  | _, _, _ => False) E) E) E := rfl
/-- 1 * 3 * .., s of them -/
def oddF : Nat → Int
  | 0 => 1
  | s + 1 => oddF s * (1 + (s : Int) * 2)
theorem rng_odd : ∀ s : Nat, s < 8 → rgcOk 1 (2 * (s : Int)) 2 = true ∧ (Builtin.Range.rangeSize 1 (2 * (s : Int)) 2).toNat = s := by decide +kernel
theorem cntB_none {later : List (List Nat)} {n : Nat} (h : ∀ i, later.getD i [] = []) : ∀ d bits, cntB later n d bits = [1]
  | 0, _ => rfl
  | d + 1, bits => by
    rw [cntB]
    dsimp only
    rw [h, List.foldl_nil, cntB_none h d, cntB_none h d]
    split <;> rfl
theorem empty_counts {n : Nat} : Net.counts ⟨n, []⟩ = [1] := by
  refine cntB_none (fun i => ?_) _ _
  unfold latN lat_
  simp only [List.take_nil, List.filter_nil, List.map_nil]
  rw [List.getD_eq_getElem?_getD, List.getElem?_map]
  cases (List.range n)[i]? <;> rfl
def sp_filled : WSp := fun ws h Q _ => ∃ s : Nat, s < 8 ∧ ws = [Net.w ⟨2 * s, []⟩] ∧ ∀ h', Ext h h' → Q (.int (oddF s)) h'
theorem mo_filled : MoP sp_filled := fun ws h Q Q' E E' hq he ⟨N, e1, e2, q⟩ => ⟨N, e1, e2, fun h' a1 => hq _ _ (q h' a1)⟩
theorem empty_ok {s : Nat} (h : s < 8) : Net.Ok ⟨2 * s, []⟩ := ⟨by show 2 * s ≤ 14; omega, by simp, nofun, List.nodup_nil⟩
theorem q_filled_count (ws : List Wv) (h : WH) (Q : WQ) (E : WX) (s : sp_filled ws h Q E) : wBody (t_filled_count sp_need_net sp_counts_by) N_filled_count.length ws h Q E := by
  obtain ⟨s, hs, rfl, q⟩ := s
  have ok := empty_ok hs
  simp only [e_wBody, t_filled_count, e_wSeq, e_wDrop, N_filled_count, wStart_def, List.length_cons, List.length_nil, List.map_cons, List.map_nil, List.cons_append, List.nil_append, Nat.reduceAdd, Nat.reduceSub, List.replicate_succ, List.replicate_zero, e_wCons, e_wNil, e_wCall, wVar_0]
  refine ⟨_, ok, rfl, fun h1 e1 => ?_⟩
  obtain ⟨r1, r2⟩ := rng_odd s hs
  simp only [e_wIfS, e_wTest, e_wBin, e_wC, Net.w, wVar_0, o_ixT, at_0, Option.map_some, e_outV, o_mod, (by decide : (0 : Int) < 2), if_true, o_eqI, e_wRet, e_wNext]
  rw [if_neg (by simp)]
  simp only [e_wAsg, e_wTup, e_wCons, e_wNil, e_wC]
  refine ⟨_, rfl, rfl, _, _, rfl, _, rfl, _, _, rfl, _, rfl, rfl, ?_⟩
  simp only [wFor, s_enum, e_wCall, e_wCons, e_wNil, wVar_0, List.set_cons_succ, List.set_cons_zero]
  refine ⟨_, ok, rfl, fun h2 w e2 hw => ?_⟩
  rw [empty_counts] at hw
  rw [s_onL hw]
  refine ⟨fun i ρ h3 => h3 = h2 ∧ if i = 0 then ρ = [some (Net.w ⟨2 * s, []⟩), some (.int 0), some (.int 1), none, none, none, none] else ∃ a b c d e, ρ = [some (Net.w ⟨2 * s, []⟩), some (.int (oddF s)), a, b, c, d, e], ⟨rfl, rfl⟩, ?_, ?_, ?_⟩
  · rintro i ρ h3 _ ⟨rfl, _⟩
    exact hw
  · rintro i w ρ h3 hi ⟨rfl, p⟩
    have li := (List.getElem?_eq_some_iff.mp hi).1
    rw [enumW_length] at li
    obtain rfl : i = 0 := by simpa using li
    have hi : w = .tup [.int 0, .int 1] := by simpa [enumW] using hi.symm
    subst hi
    have p : ρ = _ := p
    subst p
    refine ⟨_, rfl, ?_⟩
    have m2 : mulOk 2 0 = true := by decide
    simp only [List.set_cons_succ, List.set_cons_zero, e_wSeq, e_wSet, e_wC, wFor, s_rng3, e_wBin, Net.w, wVar_0, wVar_s, o_ixT, at_0, Option.map_some, e_outV, o_mul, m2, if_true, o_sub]
    rw [show ((2 * s : Nat) : Int) - 2 * 0 = 2 * (s : Int) by omega, r2]
    refine ⟨r1, fun j ρ h4 => h4 = h3 ∧ ∃ z, ρ = [some (.tup [.int ((2 * s : Nat) : Int), .tup []]), some (.int 0), some (.int 1), some (.int 0), some (.int 1), some (.int (oddF j)), z], ⟨rfl, _, rfl⟩, fun _ _ _ _ _ => trivial, ?_, ?_⟩
    · rintro j w ρ h3 hj ⟨rfl, z, rfl⟩
      have lj := (List.getElem?_eq_some_iff.mp hj).1
      rw [rgcW_length] at lj
      unfold rgcW at hj
      rw [List.getElem?_map, List.getElem?_range lj] at hj
      have hj : w = .int (1 + (j : Int) * 2) := by simpa using hj.symm
      subst hj
      refine ⟨_, rfl, ?_⟩
      have mk : mulOk (oddF j) (1 + (j : Int) * 2) = true := by
        unfold mulOk
        have : (decide (-(2 ^ 64) < 1 + (j : Int) * 2) && decide (1 + (j : Int) * 2 < 2 ^ 64)) = true := by simp; omega
        rw [this, Bool.or_true]
      simp only [List.set_cons_succ, List.set_cons_zero, e_wSet, e_wBin, wVar_s, wVar_0, o_mul, mk, if_true, e_outV]
      exact ⟨trivial, _, rfl⟩
    · rintro ρ h3 ⟨rfl, z, rfl⟩
      rw [rgcW_length]
      have m3 : mulOk 1 1 = true := by decide
      have m4 : mulOk (1 * 1) (oddF s) = true := by unfold mulOk; simp
      simp only [e_wPar, e_wCons, e_wNil, e_wBin, e_wUn, wVar_s, wVar_0, o_mul, m3, m4, if_true, e_outV, o_addI, o_neg, List.set_cons_succ, List.set_cons_zero]
      refine ⟨trivial, ?_⟩
      rw [show (0 : Int) + 1 * 1 * oddF s = oddF s by omega]
      exact ⟨_, _, _, _, _, rfl⟩
  · rintro ρ h3 ⟨rfl, p⟩
    have p : ∃ a b c d e, ρ = [some (Net.w ⟨2 * s, []⟩), some (.int (oddF s)), a, b, c, d, e] := p
    obtain ⟨a, b, c, d, e, rfl⟩ := p
    simp only [e_wRet, wVar_s, wVar_0]
    exact q _ (e1.trans e2)
end Pd
set_option Elab.async false
set_option linter.all false
set_option maxRecDepth 100000
set_option maxHeartbeats 1000000
namespace Pd
open PySem PySem.Spec PyProof.Rows L2
/-! ### signs of a net -/
structure SgOk (N : Net) (ss : List Int) : Prop where
  len : ss.length = N.rs.length
  one : ∀ x, x ∈ ss → x = 1 ∨ x = -1
def sgW (ss : List Int) : Wv := .tup (ss.map .int)
def sp_right_signs : WSp := fun ws h Q _ => ∃ (N : Net) (ss : List Int), SgOk N ss ∧ ws = [N.w, sgW ss] ∧ Q .non h
theorem mo_right_signs : MoP sp_right_signs := fun ws h Q Q' E E' hq he ⟨N, ss, e1, e2, q⟩ => ⟨N, ss, e1, e2, hq _ _ q⟩
theorem q_need_right_signs (ws : List Wv) (h : WH) (Q : WQ) (E : WX) (s : sp_right_signs ws h Q E) : wBody (t_need_right_signs sp_is_tuple_of sp_is_number) N_need_right_signs.length ws h Q E := by
  obtain ⟨N, ss, ok, rfl, q⟩ := s
  have hl := ok.len
  simp only [e_wBody, t_need_right_signs, e_wSeq, N_need_right_signs, wStart_def, List.length_cons, List.length_nil, List.map_cons, List.map_nil, List.cons_append, List.nil_append, Nat.reduceAdd, Nat.reduceSub, List.replicate_succ, List.replicate_zero]
  simp [Net.w, sgW, hl]
  simp only [wFor, s_enum]
  simp
  refine ⟨fun i ρ h1 => h1 = h ∧ ∃ u v, ρ = [some N.w, some (sgW ss), u, v], ⟨rfl, _, _, rfl⟩, ?_, ?_⟩
  · rintro i w ρ h1 hi ⟨rfl, u, v, rfl⟩
    obtain ⟨y, ey, rfl⟩ := enum_at hi
    rw [List.getElem?_map] at ey
    cases er : ss[i]? with
    | none => rw [er] at ey; cases ey
    | some o =>
      rw [er] at ey
      simp at ey
      subst ey
      have ho := ok.one o (List.mem_of_getElem? er)
      refine ⟨_, rfl, ?_⟩
      rcases ho with rfl | rfl <;> simp [okTs, okT, memW, eqW]
  · rintro ρ h1 ⟨rfl, u, v, rfl⟩
    exact q
def sp_need_signs : WSp := fun ws h Q _ => ∃ (N : Net) (ss : List Int), N.Ok ∧ SgOk N ss ∧ ws = [N.w, sgW ss] ∧ ∀ h', Ext h h' → Q (sgW ss) h'
theorem mo_need_signs : MoP sp_need_signs := fun ws h Q Q' E E' hq he ⟨N, ss, e1, e2, e3, q⟩ => ⟨N, ss, e1, e2, e3, fun h' a => hq _ _ (q h' a)⟩
theorem q_need_signs (ws : List Wv) (h : WH) (Q : WQ) (E : WX) (s : sp_need_signs ws h Q E) : wBody (t_need_signs sp_need_net sp_right_signs) N_need_signs.length ws h Q E := by
  obtain ⟨N, ss, ok, so, rfl, q⟩ := s
  simp only [e_wBody, t_need_signs, e_wSeq, e_wDrop, e_wCall, e_wCons, e_wNil, N_need_signs, wStart_def, List.length_cons, List.length_nil, List.map_cons, List.map_nil, List.cons_append, List.nil_append, Nat.reduceAdd, Nat.reduceSub, List.replicate_succ, List.replicate_zero, wVar_0, wVar_s]
  refine ⟨N, ok, rfl, fun h1 e1 => ⟨N, ss, so, rfl, ?_⟩⟩
  simp only [e_wRet, wVar_0, wVar_s]
  exact q h1 e1
/-! ### the object of signed sums -/
def lkS : List ((Int × Int) × Int) → Int × Int → Int
  | [], _ => 0
  | p :: t, k => if p.1 = k then p.2 else lkS t k
def sgN (N : Net) (ss : List Int) (i j : Nat) : Int := lkS (N.rs.zip ss) ((i : Int), (j : Int))
abbrev zkF (p : (Int × Int) × Int) : List Key × Wv := (keyR p.1, .int p.2)
theorem look_lkS (k : Int × Int) : ∀ (l : List ((Int × Int) × Int)), (lookA (keyR k) (l.map zkF)).getD (.int 0) = .int (lkS l k)
  | [] => rfl
  | p :: t => by
    rw [List.map_cons]
    unfold lkS
    by_cases c : p.1 = k
    · have : lookA (keyR k) (zkF p :: t.map zkF) = some (.int p.2) := if_pos (show keyR p.1 = keyR k by rw [c])
      rw [this, if_pos c]
      rfl
    · have : lookA (keyR k) (zkF p :: t.map zkF) = lookA (keyR k) (t.map zkF) := if_neg fun e => c (keyR_inj e)
      rw [this, if_neg c]
      exact look_lkS k t
theorem lkS_one {k : Int × Int} : ∀ {l : List ((Int × Int) × Int)}, (∀ p, p ∈ l → p.2 = 1 ∨ p.2 = -1) → lkS l k = 0 ∨ lkS l k = 1 ∨ lkS l k = -1
  | [], _ => .inl rfl
  | p :: t, h => by
    unfold lkS
    split
    · exact .inr (h p List.mem_cons_self)
    · exact lkS_one fun q hq => h q (List.mem_cons_of_mem _ hq)
theorem keyRows_rd : ∀ (rs : List (Int × Int)), keyRows (rs.map rdW) = some (rs.map keyR)
  | [] => rfl
  | r :: t => by
    rw [List.map_cons, List.map_cons]
    show ((keysT [.int r.1, .int r.2]).bind fun ks => (keyRows (t.map rdW)).map fun kss => ks :: kss) = _
    rw [keyRows_rd t]
    rfl
theorem merge_nd {κ : Type} [DecidableEq κ] : ∀ (more kvs : List (κ × Wv)), ((kvs ++ more).map (·.1)).Nodup → mergeA kvs more = kvs ++ more
  | [], kvs, _ => by simp [mergeA]
  | p :: t, kvs, h => by
    have e : putA p.1 p.2 kvs = kvs ++ [p] := by
      unfold putA
      cases c : lookA p.1 kvs with
      | none => rw [Option.isSome_none, if_neg nofun]
      | some v =>
        have m := look_mem c
        rw [List.map_append, List.nodup_append] at h
        exact absurd rfl (h.2.2 p.1 (List.mem_map.mpr ⟨_, m, rfl⟩) p.1 (by simp))
    show mergeA (putA p.1 p.2 kvs) t = _
    rw [e, merge_nd t (kvs ++ [p]) (by simpa using h)]
    simp
theorem zip_keys {N : Net} {ss : List Int} (ok : N.Ok) (so : SgOk N ss) : mergeA ([] : List (List Key × Wv)) ((N.rs.map keyR).zip (ss.map Wv.int)) = (N.rs.zip ss).map zkF := by
  have e : (N.rs.map keyR).zip (ss.map Wv.int) = (N.rs.zip ss).map zkF := by
    rw [List.zip_map]
    rfl
  rw [merge_nd, List.nil_append, e]
  rw [List.nil_append, e, List.map_map]
  have e2 : List.map ((·.1) ∘ zkF) (N.rs.zip ss) = N.rs.map keyR := by
    have : (N.rs.zip ss).map (fun p => p.1) = N.rs := List.map_fst_zip (by rw [so.len]; exact Nat.le_refl _)
    conv => rhs; rw [← this]
    rw [List.map_map]
    rfl
  rw [e2]
  have nd := ok.nd
  rw [List.nodup_iff_pairwise_ne] at nd ⊢
  rw [List.pairwise_map]
  exact nd.imp fun ne e => ne (keyR_inj e)
structure SSp where
  (a S K : Addr)
/-- memo of the sums: keys are rising places under n -/
def UpL (n : Nat) (l : List Nat) : Prop := l.Pairwise (· < ·) ∧ ∀ x, x ∈ l → x < n
structure SS (C : Addr) (n : Nat) (zs : List ((Int × Int) × Int)) (r : SSp) (h : WH) : Prop where
  ins : h r.a = some (.ins C [("own_signs", .ref r.S), ("own_known", .ref r.K)])
  sig : h r.S = some (.dT (zs.map zkF))
  known : ∃ ks : List (Nat × List Nat), h r.K = some (.dT (ks.map fun k => (k.2.map (fun (x : Nat) => (.inl (x : Int) : Key)), .int (tt (fun i j => lkS zs ((i : Int), (j : Int))) k.1 k.2)))) ∧ (ks.map (·.2)).Nodup ∧ (0, []) ∈ ks ∧
    ∀ k, k ∈ ks → k.2.length = 2 * k.1 ∧ UpL n k.2
  Ka : r.K ≠ r.a
  KS : r.K ≠ r.S
end Pd
set_option Elab.async false
set_option linter.all false
set_option maxRecDepth 100000
set_option maxHeartbeats 1000000
namespace Pd
open PySem PySem.Spec PyProof.Rows L2
/-! ### rising lists by bits -/
theorem up_ext : ∀ (l l' : List Nat), l.Pairwise (· < ·) → l'.Pairwise (· < ·) → (∀ x, x ∈ l ↔ x ∈ l') → l = l'
  | [], [], _, _, _ => rfl
  | [], y :: t', _, _, h => absurd ((h y).mpr List.mem_cons_self) nofun
  | x :: t, [], _, _, h => absurd ((h x).mp List.mem_cons_self) nofun
  | x :: t, y :: t', p, p', h => by
    have q := List.pairwise_cons.mp p
    have q' := List.pairwise_cons.mp p'
    have e : x = y := by
      rcases List.mem_cons.mp ((h x).mp List.mem_cons_self) with e | m
      · exact e
      · rcases List.mem_cons.mp ((h y).mpr List.mem_cons_self) with e | m'
        · exact e.symm
        · have := q.1 y m'
          have := q'.1 x m
          omega
    subst e
    rw [up_ext t t' q.2 q'.2 fun z => ?_]
    constructor
    · intro m
      rcases List.mem_cons.mp ((h z).mp (List.mem_cons_of_mem _ m)) with e | m'
      · have := q.1 z m
        omega
      · exact m'
    · intro m
      rcases List.mem_cons.mp ((h z).mpr (List.mem_cons_of_mem _ m)) with e | m'
      · have := q'.1 z m
        omega
      · exact m'
theorem up_few {n : Nat} {ks : List (Nat × List Nat)} (nd : (ks.map (·.2)).Nodup) (h : ∀ k, k ∈ ks → UpL n k.2) : ks.length ≤ 2 ^ n := by
  have nd2 : (ks.map fun k => mask n fun j => decide (j ∈ k.2)).Nodup := by
    rw [List.nodup_iff_pairwise_ne, List.pairwise_map] at nd ⊢
    refine List.Pairwise.imp_of_mem (fun {a b} ma mb ne e => ne ?_) nd
    refine up_ext _ _ (h a ma).1 (h b mb).1 fun x => ?_
    have key : ∀ c : Nat × List Nat, c ∈ ks → x < n → (bitOn (mask n fun j => decide (j ∈ c.2)) x = true ↔ x ∈ c.2) := fun c _ hx => by
      rw [bit_mask n hx]
      simp
    constructor
    · intro m
      have hx := (h a ma).2 x m
      exact (key b mb hx).mp (e ▸ (key a ma hx).mpr m)
    · intro m
      have hx := (h b mb).2 x m
      exact (key a ma hx).mp (e ▸ (key b mb hx).mpr m)
  have := few_under (2 ^ n) _ nd2 fun x hx => by
    obtain ⟨k, _, rfl⟩ := List.mem_map.mp hx
    exact mask_lt _ n
  rwa [List.length_map] at this
variable {C : Addr} {n : Nat} {zs : List ((Int × Int) × Int)} {r : SSp} {h : WH}
abbrev sgZ (zs : List ((Int × Int) × Int)) (i j : Nat) : Int := lkS zs ((i : Int), (j : Int))
abbrev ksF (zs : List ((Int × Int) × Int)) (k : Nat × List Nat) : List Key × Wv := (k.2.map (fun (x : Nat) => (.inl (x : Int) : Key)), .int (tt (sgZ zs) k.1 k.2))
abbrev plW (l : List Nat) : Wv := .tup (l.map fun (x : Nat) => .int x)
theorem keysT_pl : ∀ (l : List Nat), keysT (l.map fun (x : Nat) => Wv.int x) = some (l.map fun (x : Nat) => (.inl (x : Int) : Key))
  | [] => rfl
  | x :: t => by
    rw [List.map_cons]
    show ((keyK (.int x)).bind fun k => (keysT (t.map fun (x : Nat) => Wv.int x)).map fun ks => k :: ks) = _
    rw [keysT_pl t]
    rfl
theorem keyL_inj : ∀ {l l' : List Nat}, l.map (fun (x : Nat) => (.inl (x : Int) : Key)) = l'.map (fun (x : Nat) => (.inl (x : Int) : Key)) → l = l'
  | [], [], _ => rfl
  | [], _ :: _, e => by cases e
  | _ :: _, [], e => by cases e
  | x :: t, y :: t', e => by
    rw [List.map_cons, List.map_cons, List.cons.injEq] at e
    have h1 : (x : Int) = (y : Int) := Sum.inl.inj e.1
    rw [keyL_inj e.2, show x = y by omega]
/-- the sum of some places is stored -/
theorem SS.store (x : SS C n zs r h) (n14 : n ≤ 14) {k : Nat} {l : List Nat} (lk : l.length = 2 * k) (ul : UpL n l) :
    ∃ kvs, h r.K = some (.dT kvs) ∧ kvs.length < sizeLine ∧ SS C n zs r (wup h r.K (.dT (putA (l.map fun (x : Nat) => (.inl (x : Int) : Key)) (.int (tt (sgZ zs) k l)) kvs))) := by
  obtain ⟨ks, k1, k2, k3, k4⟩ := x.known
  have hl : (ks.map (ksF zs)).length < sizeLine := by
    rw [List.length_map]
    have h1 := up_few k2 fun k hk => (k4 k hk).2
    have h2 : 2 ^ n ≤ 2 ^ 14 := Nat.pow_le_pow_right (by omega) n14
    have h3 : 2 ^ 14 < sizeLine := by decide
    omega
  refine ⟨_, k1, hl, ?_⟩
  have ot : ∀ {o : Wo} {q : Addr} {u : Wo}, h q = some u → q ≠ r.K → wup h r.K o q = some u := fun {o q u} e c => by rw [wup_ne c]; exact e
  refine { ins := ot x.ins (Ne.symm x.Ka), sig := ot x.sig (Ne.symm x.KS), known := ?_, Ka := x.Ka, KS := x.KS }
  unfold putA
  cases e : lookA (l.map fun (x : Nat) => (.inl (x : Int) : Key)) (ks.map (ksF zs)) with
  | none =>
    rw [Option.isSome_none, if_neg nofun]
    refine ⟨ks ++ [(k, l)], by rw [wup_same, List.map_append]; rfl, ?_, List.mem_append_left _ k3, ?_⟩
    · rw [List.map_append, List.nodup_append]
      refine ⟨k2, by simp, ?_⟩
      intro y hy z hz
      rw [List.mem_singleton.mp hz]
      rintro rfl
      obtain ⟨k', hk, rfl⟩ := List.mem_map.mp hy
      exact look_not e (.int (tt (sgZ zs) k'.1 k'.2)) (List.mem_map.mpr ⟨k', hk, rfl⟩)
    · intro k' hk
      rcases List.mem_append.mp hk with m | m
      · exact k4 k' m
      · rw [List.mem_singleton.mp m]
        exact ⟨lk, ul⟩
  | some v =>
    rw [Option.isSome_some, if_pos rfl]
    refine ⟨ks, ?_, k2, k3, k4⟩
    rw [wup_same]
    congr 2
    rw [List.map_map]
    refine List.map_congr_left fun k' hk => ?_
    simp only [Function.comp]
    split
    · rename_i c
      have el := keyL_inj c
      have : k'.1 = k := by
        have := (k4 k' hk).1
        rw [el, lk] at this
        omega
      show (_, Wv.int (tt (sgZ zs) k l)) = (_, Wv.int (tt (sgZ zs) k'.1 k'.2))
      rw [this, el]
    · rfl
def sp_ssinit (C : Addr) : WSp := fun ws h Q _ => ∃ (N : Net) (ss : List Int) (x : Addr), N.Ok ∧ SgOk N ss ∧ ws = [.ref x, N.w, sgW ss] ∧ h x = some (.ins C []) ∧ ∀ h' r, SS C N.n (N.rs.zip ss) r h' → r.a = x → h r.K = none → ExtX x h h' → Q .non h'
theorem mo_ssinit (C : Addr) : MoP (sp_ssinit C) := fun ws h Q Q' E E' hq he ⟨N, ss, x, e1, e2, e3, e4, q⟩ => ⟨N, ss, x, e1, e2, e3, e4, fun h' r a1 a2 a3 a4 => hq _ _ (q h' r a1 a2 a3 a4)⟩
theorem q_ssinit (C : Addr) (ws : List Wv) (h : WH) (Q : WQ) (E : WX) (s : sp_ssinit C ws h Q E) : wBody (t_SignedSums_xinitx C) N_SignedSums_xinitx.length ws h Q E := by
  obtain ⟨N, ss, x, ok, so, rfl, hx, q⟩ := s
  have l1000 : N.rs.length ≤ 1000 := by have := ok.r40; omega
  simp only [e_wBody, t_SignedSums_xinitx, e_wAsg, N_SignedSums_xinitx, wStart_def, List.length_cons, List.length_nil, List.map_cons, List.map_nil, List.cons_append, List.nil_append, Nat.reduceAdd, Nat.reduceSub, List.replicate_zero, e_wTup, e_wCons, e_wNil, wDictZip, wDisp1T, Net.w, sgW, wVar_0, wVar_s, e_wBin, e_wC, o_ixT, at_1, Option.map_some, e_outV, keyRows_rd, List.length_map]
  refine ⟨l1000, fun S hS K hK => ?_⟩
  rw [zip_keys ok so] at hK ⊢
  simp only [keysT]
  refine ⟨wup_same, ?_⟩
  rw [wup_wup]
  have KS : K ≠ S := by rintro rfl; rw [wup_same] at hK; cases hK
  have hK0 : h K = none := by rw [wup_ne KS] at hK; exact hK
  have xS : x ≠ S := by rintro rfl; rw [hx] at hS; cases hS
  have xK : x ≠ K := by rintro rfl; rw [hx] at hK0; cases hK0
  refine ⟨_, rfl, rfl, _, _, rfl, ?_⟩
  rw [g_fldV (a := x) (fs := []) rfl (by rw [wup_ne xK, wup_ne xS]; exact hx) (by simp)]
  refine ⟨_, _, rfl, ?_⟩
  have e5 : putFW ("own_signs" : Str) (Wv.ref S) [] = [(("own_signs" : Str), Wv.ref S)] := rfl
  have e6 : putFW ("own_known" : Str) (Wv.ref K) [(("own_signs" : Str), Wv.ref S)] = [(("own_signs" : Str), Wv.ref S), ("own_known", .ref K)] := rfl
  rw [e5, g_fldV (a := x) rfl wup_same (by simp), e6]
  refine ⟨rfl, ?_⟩
  rw [wup_wup]
  refine q _ ⟨x, S, K⟩ { ins := wup_same, sig := ?_, known := ⟨[(0, [])], ?_, by simp, by simp, ?_⟩, Ka := Ne.symm xK, KS := KS } rfl hK0 ?_
  · show wup _ x _ S = _
    rw [wup_ne (Ne.symm xS), wup_ne (Ne.symm KS), wup_same]
  · show wup _ x _ K = _
    rw [wup_ne (Ne.symm xK), wup_same]
    rfl
  · intro k hk
    rw [List.mem_singleton.mp hk]
    exact ⟨rfl, List.Pairwise.nil, nofun⟩
  · intro y o ny hy
    have y1 : y ≠ S := by rintro rfl; rw [hS] at hy; cases hy
    have y2 : y ≠ K := by rintro rfl; rw [hK0] at hy; cases hy
    rw [wup_ne ny, wup_ne y2, wup_ne y1]
    exact hy
end Pd
set_option Elab.async false
set_option linter.all false
set_option maxRecDepth 100000
set_option maxHeartbeats 1000000
namespace Pd
open PySem PySem.Spec PyProof.Rows L2
/-! ### slices of tuples -/
theorem cut_from {ws : List Wv} {k : Nat} : cutW ws (some (k : Int)) none = ws.drop k := by
  unfold cutW
  rw [HT.sIx_nat, HT.sIx_none]
  rcases Nat.le_total k ws.length with c | c
  · rw [Nat.min_eq_left c, List.take_of_length_le (by rw [List.length_drop]; exact Nat.le_refl _)]
  · rw [Nat.min_eq_right c, List.drop_eq_nil_of_le (Nat.le_refl _), List.drop_eq_nil_of_le c]
    simp
theorem cut_mid {ws : List Wv} {j k : Nat} (h : k ≤ ws.length) : cutW ws (some (j : Int)) (some (k : Int)) = (ws.take k).drop j := by
  unfold cutW
  rw [HT.sIx_nat, HT.sIx_nat, Nat.min_eq_left h, ← List.drop_take]
  rcases Nat.le_total j ws.length with c | c
  · rw [Nat.min_eq_left c]
  · rw [Nat.min_eq_right c, List.drop_eq_nil_of_le (by rw [List.length_take]; omega), List.drop_eq_nil_of_le (by rw [List.length_take]; omega)]
theorem cut_to {ws : List Wv} {k : Nat} : cutW ws none (some (k : Int)) = ws.take k := by
  unfold cutW
  rw [HT.sIx_none, HT.sIx_nat, List.drop_zero, Nat.sub_zero]
  rcases Nat.le_total k ws.length with c | c
  · rw [Nat.min_eq_left c]
  · rw [Nat.min_eq_right c, List.take_of_length_le (Nat.le_refl _), List.take_of_length_le c]
@[simp] theorem e_wSl {te : TWE} {tl th : TWO} {ρ : Wen} {h : WH} {Q : WQ} {E : WX} : wSl te tl th ρ h Q E = te ρ h (fun w h1 => tl ρ h1 (fun lo h2 => th ρ h2 (fun hi h3 => outR (slF w lo hi h3) h3 Q) E) E) E := rfl
@[simp] theorem e_wPart {te : TWE} {ρ : Wen} {h : WH} {Q : Option Int → WH → Prop} {E : WX} : wPart te ρ h Q E = te ρ h (fun w h1 => match w with
  | .int i => Q (some i) h1
  | _ => False) E := rfl
@[simp] theorem o_slT {ws : List Wv} {lo hi : Option Int} {h : WH} : slF (.tup ws) lo hi h = some (.val (.tup (cutW ws lo hi))) := rfl
variable {C : Addr} {n : Nat} {zs : List ((Int × Int) × Int)} {r : SSp} {h : WH}
/-- the sums of 2 k places, of any signs, at a depth -/
def spT (C : Addr) (d : Nat) : WSp := fun ws h Q _ => ∃ (n : Nat) (zs : List ((Int × Int) × Int)) (r : SSp) (k : Nat) (l : List Nat), n ≤ 14 ∧ (∀ p, p ∈ zs → p.2 = 1 ∨ p.2 = -1) ∧ ws = [.ref r.a, plW l] ∧ l.length = 2 * k ∧ k ≤ d ∧ UpL n l ∧ SS C n zs r h ∧
  ∀ h', SS C n zs r h' → ExtX r.K h h' → Q (.int (tt (sgZ zs) k l)) h'
theorem mo_spT (C : Addr) (d : Nat) : MoP (spT C d) := fun ws h Q Q' E E' hq he ⟨n, zs, r, k, l, a1, a2, a3, a4, a5, a6, a7, q⟩ => ⟨n, zs, r, k, l, a1, a2, a3, a4, a5, a6, a7, fun h' b1 b2 => hq _ _ (q h' b1 b2)⟩
def spTL (C : Addr) : Nat → WSp
  | 0 => fun _ _ _ _ => False
  | d + 1 => spT C d
theorem mo_spTL (C : Addr) : ∀ d, MoP (spTL C d)
  | 0 => fun _ _ _ _ _ _ _ _ q => q
  | d + 1 => mo_spT C d
theorem UpL.tail {p : Nat} {l : List Nat} (u : UpL n (p :: l)) : UpL n l := ⟨(List.pairwise_cons.mp u.1).2, fun x hx => u.2 x (List.mem_cons_of_mem _ hx)⟩
theorem UpL.erase {l : List Nat} (u : UpL n l) (i : Nat) : UpL n (l.eraseIdx i) := ⟨u.1.sublist (List.eraseIdx_sublist l i), fun x hx => u.2 x (List.mem_of_mem_eraseIdx hx)⟩
theorem UpL.len {l : List Nat} (u : UpL n l) : l.length ≤ n := few_under n l (List.nodup_iff_pairwise_ne.mpr (u.1.imp fun hlt => by omega)) u.2
theorem SS.known_len (x : SS C n zs r h) : ∃ kvs, h r.K = some (.dT kvs) := by
  obtain ⟨ks, k1, _⟩ := x.known
  exact ⟨_, k1⟩
theorem q_total (d : Nat) (ws : List Wv) (h : WH) (Q : WQ) (E : WX) (s : spT C d ws h Q E) : wBody (t_SignedSums_total (spTL C d) C) N_SignedSums_total.length ws h Q E := by
  obtain ⟨n, zs, r, k, l, n14, sg1, rfl, lk, kd, ul, x, q⟩ := s
  simp only [e_wBody, t_SignedSums_total, N_SignedSums_total, wStart_def, List.length_cons, List.length_nil, List.map_cons, List.map_nil, List.cons_append, List.nil_append, Nat.reduceAdd, Nat.reduceSub, List.replicate_succ, List.replicate_zero]
  obtain ⟨ks, k1, k2, k3, k4⟩ := x.known
  have fl : ∀ {h1 : WH} {ρ : Wen} (x1 : SS C n zs r h1) (_ : ρ[0]? = some (some (.ref r.a))) Q E, wFld C "own_known" (wVar 0) ρ h1 Q E = Q (.ref r.K) h1 := fun x1 e Q E => fldW e x1.ins rfl
  simp only [e_wSeq, e_wIfS, e_wTest, e_wBin, wVar_s, wVar_0]
  rw [fl x rfl, o_memD k1 (keysT_pl l)]
  simp only [e_outV, if_true]
  cases e : lookA (l.map fun (x : Nat) => (.inl (x : Int) : Key)) (ks.map (ksF zs)) with
  | some v =>
    obtain ⟨k', hk, ek⟩ := List.mem_map.mp (look_mem e)
    have el := keyL_inj (congrArg Prod.fst ek)
    have ev : Wv.int (tt (sgZ zs) k'.1 k'.2) = v := congrArg Prod.snd ek
    have e1 : k'.1 = k := by
      have := (k4 k' hk).1
      rw [el, lk] at this
      omega
    subst ev
    simp only [Option.isSome_some, Bool.not_true, Bool.false_eq_true, if_false, e_wNext, e_wRet, e_wBin, wVar_s, wVar_0]
    rw [fl x rfl]
    try simp only [wVar_s, wVar_0]
    rw [o_ixD k1 (keysT_pl l) e, e_outV, e1, el]
    exact q _ x (ExtX.refl _ _)
  | none =>
    simp only [Option.isSome_none, Bool.not_false, if_true]
    cases k with
    | zero =>
      obtain rfl : l = [] := List.length_eq_zero_iff.mp (by omega)
      exact absurd (List.mem_map.mpr ⟨(0, []), k3, rfl⟩) (look_not e (.int (tt (sgZ zs) 0 [])))
    | succ k =>
    cases d with
    | zero => omega
    | succ d =>
    cases l with
    | nil => cases lk
    | cons p l =>
    have ul' := ul.tail
    have ln := ul'.len
    have ll : l.length = 2 * k + 1 := by have := lk; simp at this; omega
    simp only [e_wAsg, e_wTup, e_wCons, e_wNil, e_wC]
    refine ⟨_, rfl, rfl, _, _, rfl, _, rfl, _, _, rfl, _, rfl, rfl, ?_⟩
    simp only [List.set_cons_succ, List.set_cons_zero, wFor, s_enum, e_wSl, e_wPart, e_wNoPart, e_wC, wVar_s, wVar_0, o_slT, e_outV, s_onT]
    have c1 : cutW (List.map (fun (x : Nat) => Wv.int x) (p :: l)) (some 1) none = l.map fun (x : Nat) => Wv.int x := cut_from (k := 1)
    rw [c1]
    have g_ : ∀ i, (if i % 2 = 0 then (1 : Int) else -1) = evn i := fun _ => rfl
    refine ⟨fun i ρ h1 => SS C n zs r h1 ∧ ExtX r.K h h1 ∧ ∃ a b c, ρ = [some (.ref r.a), some (plW (p :: l)), some (.int (alts 1 0 (l.take i) fun i o => sgZ zs p o * tt (sgZ zs) k (l.eraseIdx i))), some (.int (evn i)), a, b, c], ⟨x, ExtX.refl _ _, _, _, _, rfl⟩, fun _ _ _ _ _ => trivial, ?_, ?_⟩
    · rintro i w ρ h1 hi ⟨x1, e1, a, b, c, rfl⟩
      obtain ⟨y, ey, rfl⟩ := enum_at hi
      rw [List.getElem?_map] at ey
      cases er : l[i]? with
      | none => rw [er] at ey; cases ey
      | some o =>
        rw [er] at ey
        have ey : y = .int (o : Int) := by simpa using ey.symm
        subst ey
        have li := (List.getElem?_eq_some_iff.mp er).1
        refine ⟨_, rfl, ?_⟩
        have tk : l.take (i + 1) = l.take i ++ [o] := by rw [List.take_add_one, er]; rfl
        have al : alts 1 0 (l.take (i + 1)) (fun i o => sgZ zs p o * tt (sgZ zs) k (l.eraseIdx i)) = alts 1 0 (l.take i) (fun i o => sgZ zs p o * tt (sgZ zs) k (l.eraseIdx i)) + evn i * (sgZ zs p o * tt (sgZ zs) k (l.eraseIdx i)) := by
          rw [tk, alts_app, List.length_take, Nat.min_eq_left (Nat.le_of_lt li), Nat.zero_add, g_, alts, alts]
          omega
        have ev : evn (i + 1) = -evn i := by
          unfold evn
          by_cases c : i % 2 = 0
          · rw [if_pos c, if_neg (by omega)]
          · rw [if_neg c, if_pos (by omega)]
            rfl
        have ev1 : evn i = 1 ∨ evn i = -1 := by
          unfold evn
          split
          · exact .inl rfl
          · exact .inr rfl
        dsimp only
        rw [al, ev]
        generalize alts 1 0 (l.take i) (fun i o => sgZ zs p o * tt (sgZ zs) k (l.eraseIdx i)) = F
        have gt : dlookW h1 (.ref r.S) (.tup [.int (p : Int), .int (o : Int)]) = some (lookA (keyR ((p : Int), (o : Int))) (zs.map zkF)) := by
          simp only [dlookW, x1.sig]
          rfl
        have gv := look_lkS ((p : Int), (o : Int)) zs
        have s01 := lkS_one (k := ((p : Int), (o : Int))) sg1
        simp only [List.set_cons_succ, List.set_cons_zero, e_wSeq, e_wSet, wGet2]
        rw [fldW (a := r.a) rfl x1.ins rfl]
        refine ⟨.inr ⟨rfl, .inr ⟨_, x1.sig⟩⟩, ?_⟩
        simp only [e_wTup, e_wCons, e_wNil, e_wBin, e_wC, wVar_s, wVar_0, o_ixT, List.map_cons, at_0, Option.map_some, e_outV]
        rw [gt]
        dsimp only
        rw [gv]
        have eg : sgZ zs p o = lkS zs ((p : Int), (o : Int)) := rfl
        rw [eg]
        generalize lkS zs ((p : Int), (o : Int)) = sv at s01
        simp only [e_wIfS, e_wTest, e_wBin, e_wC, wVar_s, wVar_0, o_neI, e_outV, List.set_cons_succ, List.set_cons_zero]
        by_cases z : sv = 0
        · subst z
          simp only [decide_true, Bool.not_true, Bool.false_eq_true, if_false, e_wNext, e_wSet, e_wUn, wVar_s, wVar_0, o_neg, e_outV, List.set_cons_succ, List.set_cons_zero]
          rw [Int.zero_mul, Int.mul_zero, Int.add_zero]
          exact ⟨x1, e1, _, _, _, rfl⟩
        · have z' : (!decide (sv = 0)) = true := by simp [z]
          rw [if_pos z']
          have m1 : mulOk (evn i) sv = true := by
            rcases ev1 with c | c <;> rw [c] <;> unfold mulOk <;> rfl
          have m2 : ∀ t, mulOk (evn i * sv) t = true := fun t => by
            rcases ev1 with c | c <;> rcases s01 with s | s | s <;> rw [c, s] <;> rfl
          simp only [e_wSet, e_wBin, wVar_s, wVar_0, o_mul, m1, if_true, e_outV]
          rw [methV rfl x1.ins rfl]
          have c2 : cutW (List.map (fun (x : Nat) => Wv.int x) (p :: l)) (some 1) (some ((i : Int) + 1)) = (l.take i).map fun (x : Nat) => Wv.int x := by
            have := cut_mid (ws := List.map (fun (x : Nat) => Wv.int x) (p :: l)) (j := 1) (k := i + 1) (by simp; omega)
            rw [show (((1 : Nat) : Int)) = 1 from rfl, show ((i + 1 : Nat) : Int) = (i : Int) + 1 by omega] at this
            rw [this, List.map_cons, List.take_succ_cons, List.drop_one, List.tail_cons, List.map_take]
          have c3 : cutW (List.map (fun (x : Nat) => Wv.int x) (p :: l)) (some ((i : Int) + 2)) none = (l.drop (i + 1)).map fun (x : Nat) => Wv.int x := by
            have := cut_from (ws := List.map (fun (x : Nat) => Wv.int x) (p :: l)) (k := i + 2)
            rw [show ((i + 2 : Nat) : Int) = (i : Int) + 2 by omega] at this
            rw [this, List.map_cons, List.drop_succ_cons, List.map_drop]
          have big : 1000 < sizeLine := by decide
          have le : (List.map (fun (x : Nat) => Wv.int x) (l.take i)).length + (List.map (fun (x : Nat) => Wv.int x) (l.drop (i + 1))).length ≤ sizeLine := by
            rw [List.length_map, List.length_map, List.length_take, List.length_drop]
            omega
          simp only [e_wCons, e_wNil, e_wBin, e_wSl, e_wPart, e_wNoPart, e_wC, wVar_s, wVar_0, o_addI, o_slT, e_outV, c2, c3, o_addT, le, if_true]
          refine ⟨n, zs, r, k, l.eraseIdx i, n14, sg1, ?_, ?_, by omega, ul'.erase i, x1, fun h2 x2 e2 => ?_⟩
          · rw [← List.map_append, List.eraseIdx_eq_take_drop_succ]
          · rw [List.length_eraseIdx_of_lt li]
            omega
          · simp only [o_mul, m2, if_true, e_outV, o_addI, List.set_cons_succ, List.set_cons_zero, e_wUn, wVar_s, wVar_0, o_neg]
            rw [Int.mul_assoc]
            exact ⟨x2, e1.trans e2, _, _, _, rfl⟩
    · rintro ρ h1 ⟨x1, e1, a, b, c, rfl⟩
      rw [enumW_length, List.length_map, List.take_length]
      have et : (alts 1 0 l fun i o => sgZ zs p o * tt (sgZ zs) k (l.eraseIdx i)) = tt (sgZ zs) (k + 1) (p :: l) := rfl
      rw [et]
      obtain ⟨kvs, kv1, kv2, x2⟩ := x1.store n14 lk ul
      simp only [e_wAsg, wVar_s, wVar_0, g_sub]
      rw [fldW (a := r.a) rfl x1.ins rfl]
      try simp only [wVar_s, wVar_0]
      rw [o_setD kv1 (keysT_pl (p :: l)) kv2]
      simp only [e_wRet, e_wBin, wVar_s, wVar_0]
      rw [fl x2 rfl]
      try simp only [wVar_s, wVar_0]
      rw [o_ixD wup_same (keysT_pl (p :: l)) look_put, e_outV]
      exact q _ x2 (ExtX.own e1)
end Pd
set_option Elab.async false
set_option linter.all false
set_option maxRecDepth 100000
set_option maxHeartbeats 1000000
namespace Pd
open PySem PySem.Spec PyProof.Rows L2
/-! ### signed_sum -/
def Net.ssum (N : Net) (ss : List Int) : Int := if N.n % 2 = 0 then tt (sgZ (N.rs.zip ss)) (N.n / 2) (List.range N.n) else 0
def sp_ssum : WSp := fun ws h Q _ => ∃ (N : Net) (ss : List Int), N.Ok ∧ SgOk N ss ∧ ws = [N.w, sgW ss] ∧ ∀ h', Ext h h' → Q (.int (N.ssum ss)) h'
theorem mo_ssum : MoP sp_ssum := fun ws h Q Q' E E' hq he ⟨N, ss, e1, e2, e3, q⟩ => ⟨N, ss, e1, e2, e3, fun h' a => hq _ _ (q h' a)⟩
theorem rgW_pl (n : Nat) : Wv.tup (rgW 0 (n : Int)) = plW (List.range n) := by
  unfold rgW
  rw [show ((n : Int) - 0).toNat = n by omega]
  congr 1
  refine List.map_congr_left fun i _ => ?_
  rw [Int.zero_add]
theorem range_up (n : Nat) : UpL n (List.range n) := ⟨List.pairwise_lt_range, fun x hx => List.mem_range.mp hx⟩
theorem zip_one {N : Net} {ss : List Int} (so : SgOk N ss) : ∀ p, p ∈ N.rs.zip ss → p.2 = 1 ∨ p.2 = -1 := fun p hp => so.one _ (List.of_mem_zip hp).2
theorem q_signed_sum_by (C : Addr) (ws : List Wv) (h : WH) (Q : WQ) (E : WX) (s : sp_ssum ws h Q E) : wBody (t_signed_sum_by (sp_ssinit C) (spT C 7) C) N_signed_sum_by.length ws h Q E := by
  obtain ⟨N, ss, ok, so, rfl, q⟩ := s
  have n14 := ok.n14
  simp only [e_wBody, t_signed_sum_by, e_wRet, N_signed_sum_by, wStart_def, List.length_cons, List.length_nil, List.map_cons, List.map_nil, List.cons_append, List.nil_append, Nat.reduceAdd, Nat.reduceSub, List.replicate_zero]
  have md : ((N.n : Int) % 2 = 0) ↔ N.n % 2 = 0 := by omega
  simp only [e_wIf, e_wTest, e_wBin, e_wC, wVar_0, wVar_s]
  have ix : ∀ h, ixF N.w (.int 0) h = some (.val (.int N.n)) := fun h => by simp [Net.w]
  simp only [ix, e_outV, o_mod, (by decide : (0 : Int) < 2), if_true, o_eqI, md, decide_eq_true_eq]
  unfold Net.ssum at q
  by_cases c : N.n % 2 = 0
  · rw [if_pos c]
    rw [if_pos c] at q
    unfold wMeth wMake
    simp only [e_wCons, e_wNil, wVar_0, wVar_s]
    intro x hx
    refine ⟨N, ss, x, ok, so, rfl, wup_same, fun h1 r rs ra hK e1 => ⟨rfl, ?_⟩⟩
    subst ra
    rw [rs.ins]
    refine ⟨rfl, rfl, ?_⟩
    simp only [wRgE1, e_wBin, e_wC, wVar_0, ix, e_outV]
    refine ⟨by omega, by omega, N.n, N.rs.zip ss, r, N.n / 2, List.range N.n, n14, zip_one so, ?_, ?_, by omega, range_up _, rs, ?_⟩
    · rw [rgW_pl]
    · rw [List.length_range]
      omega
    · intro h2 r2 e2
      refine q h2 ?_
      intro y o hy
      have yx : y ≠ r.a := by rintro rfl; rw [hx] at hy; cases hy
      have h1y := e1 y o yx (by rw [wup_ne yx]; exact hy)
      have yK : y ≠ r.K := by
        rintro rfl
        rw [wup_ne yx] at hK
        rw [hK] at hy
        cases hy
      exact e2 y o yK h1y
  · rw [if_neg c]
    rw [if_neg c] at q
    exact q h (Ext.refl h)
theorem q_signed_sum (ws : List Wv) (h : WH) (Q : WQ) (E : WX) (s : sp_ssum ws h Q E) : wBody (t_signed_sum sp_need_signs sp_ssum) N_signed_sum.length ws h Q E := by
  obtain ⟨N, ss, ok, so, rfl, q⟩ := s
  simp only [e_wBody, t_signed_sum, e_wSeq, e_wDrop, e_wCall, e_wCons, e_wNil, N_signed_sum, wStart_def, List.length_cons, List.length_nil, List.map_cons, List.map_nil, List.cons_append, List.nil_append, Nat.reduceAdd, Nat.reduceSub, List.replicate_zero, wVar_0, wVar_s]
  refine ⟨N, ss, ok, so, rfl, fun h1 e1 => ?_⟩
  simp only [e_wRet, e_wCall, e_wCons, e_wNil, wVar_0, wVar_s]
  exact ⟨N, ss, ok, so, rfl, fun h2 e2 => q h2 (e1.trans e2)⟩
end Pd
set_option Elab.async false
set_option linter.all false
set_option maxRecDepth 100000
set_option maxHeartbeats 1000000
namespace Pd
open PySem PySem.Spec PyProof.Rows L2
/-! ### a comprehension whose items hang on nothing new -/
theorem lc_pure {s : TWI} {p : Pat} {ut : TWT} {te : TWE} {vs : List Nat} {ρ : Wen} {h h1 : WH} {Q : WQ} {E : WX} {is : List Wv} {kp : WH → Prop}
    (hs : ∀ R : List Wv → (WH → Prop) → WH → Prop, R is kp h1 → s ρ h R E) (hk : ∀ h2, Ext h1 h2 → kp h2) (hl : is.length < sizeLine) (g : Wv → Bool) (f : Wv → Wv)
    (st : ∀ w, w ∈ is → ∃ ρ2, bindW p w (wipeW ρ vs) = some ρ2 ∧ ∀ h2, Ext h1 h2 → (∀ R : Bool → WH → Prop, R (g w) h2 → ut ρ2 h2 R F0) ∧ (g w = true → ∀ R : WQ, (∀ h3, Ext h2 h3 → R (f w) h3) → te ρ2 h2 R F0))
    (q : ∀ D h2, h1 D = none → Ext h1 h2 → h2 D = some (.lst ((is.filter g).map f)) → Q (.ref D) h2) : wLc s p ut te vs ρ h Q E := by
  unfold wLc
  refine hs _ fun D hD => ?_
  refine ⟨fun i acc h2 => acc = ((is.take i).filter g).map f ∧ h2 D = some (.lst acc) ∧ Ext h1 h2, ⟨by simp, wup_same, Ext.new hD⟩, fun i acc h2 _ ⟨_, _, e⟩ => hk h2 e, ?_, ?_⟩
  · rintro i acc w h2 hi ⟨rfl, d2, e2⟩
    have tk : is.take (i + 1) = is.take i ++ [w] := by rw [List.take_add_one, hi]; rfl
    obtain ⟨ρ2, b2, k2⟩ := st w (List.mem_of_getElem? hi)
    obtain ⟨u2, t2⟩ := k2 h2 e2
    refine ⟨ρ2, b2, u2 _ ?_⟩
    dsimp only
    rw [tk, List.filter_append, List.map_append]
    cases c : g w with
    | true =>
      rw [if_pos rfl]
      refine t2 c _ fun h3 e3 => ⟨e3 D _ d2, ?_, ?_, wup_same, ?_⟩
      · rw [List.length_map]
        have := List.length_filter_le g (is.take i)
        rw [List.length_take] at this
        omega
      · simp [c]
      · exact Ext.put hD (e2.trans e3)
    | false =>
      rw [if_neg nofun]
      exact ⟨by simp [c], d2, e2⟩
  · rintro acc h2 ⟨rfl, d2, e2⟩
    rw [List.take_length] at d2
    exact q D h2 hD e2 d2
/-! ### tables of numbers in the heap -/
structure TabAt (R : Addr) (as : List Addr) (rows : List (List Int)) (h : WH) : Prop where
  l : h R = some (.lst (as.map .ref))
  len : as.length = rows.length
  nd : as.Nodup
  ne : R ∉ as
  row : ∀ (i : Nat) (a : Addr) (r : List Int), as[i]? = some a → rows[i]? = some r → h a = some (.lst (r.map .int))
section
variable {R : Addr} {as : List Addr} {rows : List (List Int)} {h : WH}
theorem TabAt.ext (t : TabAt R as rows h) {h2 : WH} (e : Ext h h2) : TabAt R as rows h2 := ⟨e _ _ t.l, t.len, t.nd, t.ne, fun i a r h1 h3 => e _ _ (t.row i a r h1 h3)⟩
theorem TabAt.at_ (t : TabAt R as rows h) {i : Nat} {r : List Int} (e : rows[i]? = some r) : ∃ a, as[i]? = some a ∧ ixF (.ref R) (.int (i : Nat)) h = some (.val (.ref a)) ∧ h a = some (.lst (r.map .int)) := by
  have li := (List.getElem?_eq_some_iff.mp e).1
  rw [← t.len] at li
  refine ⟨as[i], List.getElem?_eq_getElem li, ?_, t.row i _ r (List.getElem?_eq_getElem li) e⟩
  have : L2.atI (as.map Wv.ref) (i : Int) = some (.ref as[i]) := at_n (by rw [List.getElem?_map, List.getElem?_eq_getElem li]; rfl)
  rw [o_ixL t.l, this]
  rfl
theorem ix_int {a : Addr} {r : List Int} {j : Nat} {x : Int} (e : h a = some (.lst (r.map .int))) (ex : r[j]? = some x) : ixF (.ref a) (.int (j : Nat)) h = some (.val (.int x)) := by
  have : L2.atI (r.map Wv.int) (j : Int) = some (.int x) := at_n (by rw [List.getElem?_map, ex]; rfl)
  rw [o_ixL e, this]
  rfl
/-- a cell is written -/
theorem TabAt.cell (t : TabAt R as rows h) {i : Nat} {a : Addr} {r : List Int} {j : Nat} {x : Int} (ea : as[i]? = some a) (er : rows[i]? = some r) : TabAt R as (rows.set i (r.set j x)) (wup h a (.lst ((r.set j x).map .int))) where
  l := by
    rw [wup_ne (fun c => t.ne (by rw [c]; exact List.mem_of_getElem? ea))]
    exact t.l
  len := by rw [List.length_set]; exact t.len
  nd := t.nd
  ne := t.ne
  row := fun i' a' r' ea' er' => by
    have li := (List.getElem?_eq_some_iff.mp ea).1
    by_cases c : i' = i
    · subst c
      rw [ea] at ea'
      cases ea'
      rw [List.getElem?_set_self (t.len ▸ li)] at er'
      cases er'
      exact wup_same
    · rw [List.getElem?_set_ne (Ne.symm c)] at er'
      rw [wup_ne]
      · exact t.row i' a' r' ea' er'
      · rintro rfl
        exact c ((List.getElem?_inj (List.getElem?_eq_some_iff.mp ea').1 t.nd).mp (by rw [ea', ea]))
end
/-! ### matrix_by -/
def setC (rows : List (List Int)) (i j : Nat) (x : Int) : List (List Int) := rows.set i ((rows.getD i []).set j x)
def mStep (rows : List (List Int)) (p : (Int × Int) × Int) : List (List Int) := setC (setC rows p.1.1.toNat p.1.2.toNat p.2) p.1.2.toNat p.1.1.toNat (-p.2)
def matM (N : Net) (ss : List Int) : List (List Int) := (N.rs.zip ss).foldl mStep (List.replicate N.n (List.replicate N.n 0))
structure SqN (n : Nat) (rows : List (List Int)) : Prop where
  len : rows.length = n
  ln : ∀ r, r ∈ rows → r.length = n
theorem SqN.row {n : Nat} {rows : List (List Int)} (s : SqN n rows) {i : Nat} (h : i < n) : ∃ r, rows[i]? = some r ∧ rows.getD i [] = r ∧ r.length = n := by
  have li : i < rows.length := by rw [s.len]; exact h
  refine ⟨rows[i], List.getElem?_eq_getElem li, ?_, s.ln _ (List.getElem_mem li)⟩
  rw [List.getD_eq_getElem?_getD, List.getElem?_eq_getElem li]
  rfl
theorem SqN.set {n : Nat} {rows : List (List Int)} (s : SqN n rows) {i : Nat} {r : List Int} (h : r.length = n) : SqN n (rows.set i r) where
  len := by rw [List.length_set]; exact s.len
  ln := fun q hq => by
    rcases List.mem_or_eq_of_mem_set hq with m | m
    · exact s.ln q m
    · rw [m]; exact h
theorem SqN.setC {n : Nat} {rows : List (List Int)} (s : SqN n rows) {i j : Nat} {x : Int} (h : i < n) : SqN n (setC rows i j x) := by
  obtain ⟨r, e1, e2, e3⟩ := s.row h
  unfold Pd.setC
  rw [e2]
  exact s.set (by rw [List.length_set]; exact e3)
/-- rows[i][j] = x, done -/
theorem TabAt.put {n : Nat} {R : Addr} {as : List Addr} {rows : List (List Int)} {h : WH} (t : TabAt R as rows h) (s : SqN n rows) {i j : Nat} (hi : i < n) (hj : j < n) (x : Int) : ∃ a, ixF (.ref R) (.int (i : Nat)) h = some (.val (.ref a)) ∧ a ∈ as ∧
    ∃ o, setW (.ref a) (.int (j : Nat)) (.int x) h = some (a, o) ∧ TabAt R as (setC rows i j x) (wup h a o) := by
  obtain ⟨r, e1, e2, e3⟩ := s.row hi
  obtain ⟨a, a1, a2, a3⟩ := t.at_ e1
  refine ⟨a, a2, List.mem_of_getElem? a1, _, o_setL a3 (by rw [List.length_map]; omega), ?_⟩
  have := t.cell (j := j) (x := x) a1 e1
  rw [List.map_set] at this
  unfold setC
  rw [e2]
  exact this
end Pd
set_option Elab.async false
set_option linter.all false
set_option maxRecDepth 100000
set_option maxHeartbeats 1000000
namespace Pd
open PySem PySem.Spec PyProof.Rows L2
@[simp] theorem e_wYes {ρ : Wen} {h : WH} {QB : Bool → WH → Prop} {E : WX} : wYes ρ h QB E = QB true h := rfl
theorem rep_flat (n : Nat) : (List.replicate n [Wv.int 0]).flatten = (List.replicate n (0 : Int)).map .int := by
  induction n with
  | zero => rfl
  | succ n ih => rw [List.replicate_succ, List.flatten_cons, ih, List.replicate_succ]; rfl
def sp_matrix_by : WSp := fun ws h Q _ => ∃ (N : Net) (ss : List Int), N.Ok ∧ SgOk N ss ∧ ws = [N.w, sgW ss] ∧ ∀ h' R as, Ext h h' → h R = none → (∀ a, a ∈ as → h a = none) → TabAt R as (matM N ss) h' → Q (.ref R) h'
theorem mo_matrix_by : MoP sp_matrix_by := fun ws h Q Q' E E' hq he ⟨N, ss, e1, e2, e3, q⟩ => ⟨N, ss, e1, e2, e3, fun h' R as a b c d => hq _ _ (q h' R as a b c d)⟩
theorem mStep_sq {n : Nat} {rows : List (List Int)} (s : SqN n rows) {p : (Int × Int) × Int} (hr : isRd n p.1 = true) : SqN n (mStep rows p) := by
  obtain ⟨⟨i, j⟩, x⟩ := p
  simp only [isRd, Bool.and_eq_true, decide_eq_true_eq] at hr
  unfold mStep
  exact (s.setC (by dsimp only; omega)).setC (by dsimp only; omega)
theorem fold_sq {n : Nat} : ∀ (l : List ((Int × Int) × Int)) (rows : List (List Int)), SqN n rows → (∀ p, p ∈ l → isRd n p.1 = true) → SqN n (l.foldl mStep rows)
  | [], _, s, _ => s
  | p :: l, rows, s, h => fold_sq l _ (mStep_sq s (h p List.mem_cons_self)) fun q hq => h q (List.mem_cons_of_mem _ hq)
theorem zero_sq (n : Nat) : SqN n (List.replicate n (List.replicate n 0)) := ⟨List.length_replicate, fun r hr => by rw [List.eq_of_mem_replicate hr, List.length_replicate]⟩
theorem zip_rd {N : Net} {ss : List Int} (ok : N.Ok) : ∀ p, p ∈ N.rs.zip ss → isRd N.n p.1 = true := fun p hp => ok.rd _ (List.of_mem_zip hp).1
theorem mat_sq {N : Net} {ss : List Int} (ok : N.Ok) : SqN N.n (matM N ss) := fold_sq _ _ (zero_sq _) (zip_rd ok)
theorem q_matrix_by (ws : List Wv) (h : WH) (Q : WQ) (E : WX) (s : sp_matrix_by ws h Q E) : wBody t_matrix_by N_matrix_by.length ws h Q E := by
  obtain ⟨N, ss, ok, so, rfl, q⟩ := s
  have n14 := ok.n14
  have rg : rgOk (N.n : Int) = true := by unfold rgOk; simp; omega
  have big : 1000 < sizeLine := by decide
  have ix : ∀ h, ixF N.w (.int 0) h = some (.val (.int N.n)) := fun h => by simp [Net.w]
  have ix1 : ∀ h, ixF N.w (.int 1) h = some (.val (.tup (N.rs.map rdW))) := fun h => by simp [Net.w]
  simp only [e_wBody, t_matrix_by, e_wSeq, e_wSet, N_matrix_by, wStart_def, List.length_cons, List.length_nil, List.map_cons, List.map_nil, List.cons_append, List.nil_append, Nat.reduceAdd, Nat.reduceSub, List.replicate_succ, List.replicate_zero]
  unfold wLc
  simp only [s_rng1, e_wBin, e_wC, wVar_0, ix, e_outV]
  refine ⟨rg, fun D hD => ?_⟩
  refine ⟨fun i acc h1 => ∃ as : List Addr, acc = as.map .ref ∧ as.length = i ∧ as.Nodup ∧ (∀ a, a ∈ as → a ≠ D ∧ h a = none ∧ h1 a = some (.lst ((List.replicate N.n (0 : Int)).map .int))) ∧ h1 D = some (.lst acc) ∧ Ext h h1, ?_, fun _ _ _ _ _ => trivial, ?_, ?_⟩
  · exact ⟨[], rfl, rfl, List.nodup_nil, nofun, wup_same, Ext.new hD⟩
  · rintro i acc w h1 hi ⟨as, rfl, e2, e3, e4, e5, e6⟩
    have hi' := (List.getElem?_eq_some_iff.mp hi).1
    rw [rgW_length] at hi'
    refine ⟨_, rfl, ?_⟩
    have env : List.set (wipeW [some N.w, some (sgW ss), none, none, none, none, none] [6]) 6 (some w) = [some N.w, some (sgW ss), none, none, none, none, some w] := rfl
    simp only [env, e_wYes, if_true, e_wLst, e_wCons, e_wNil, e_wC, wVar_0, ix, e_outV]
    intro p0 hp0
    rw [o_mulL wup_same, if_pos (by simp; omega)]
    show ∀ p, _ → _
    intro p hp
    rw [show ((N.n : Int)).toNat = N.n from by omega, rep_flat] at *
    have p0D : p0 ≠ D := by rintro rfl; rw [hp0] at e5; cases e5
    have pp : p ≠ p0 := by rintro rfl; rw [wup_same] at hp; cases hp
    have hp1 : h1 p = none := by rw [wup_ne pp] at hp; exact hp
    have pD : p ≠ D := by rintro rfl; rw [hp1] at e5; cases e5
    refine ⟨by rw [wup_ne (Ne.symm pD), wup_ne (Ne.symm p0D)]; exact e5, by rw [List.length_map]; omega, as ++ [p], by simp, by simp [e2], ?_, ?_, wup_same, ?_⟩
    · rw [List.nodup_append]
      refine ⟨e3, by simp, ?_⟩
      intro a ha b hb
      rw [List.mem_singleton.mp hb]
      rintro rfl
      rw [(e4 a ha).2.2] at hp1
      cases hp1
    · intro a ha
      rcases List.mem_append.mp ha with m | m
      · have := e4 a m
        have ap : a ≠ p := by rintro rfl; rw [this.2.2] at hp1; cases hp1
        have ap0 : a ≠ p0 := by rintro rfl; rw [this.2.2] at hp0; cases hp0
        exact ⟨this.1, this.2.1, by rw [wup_ne this.1, wup_ne ap, wup_ne ap0]; exact this.2.2⟩
      · rw [List.mem_singleton.mp m]
        exact ⟨pD, Ext.free e6 hp1, by rw [wup_ne pD, wup_same]⟩
    · exact Ext.put hD (Ext.put (Ext.free e6 hp1) (Ext.put (Ext.free e6 hp0) e6))
  · rintro acc h1 ⟨as, rfl, e2, e3, e4, e5, e6⟩
    rw [rgW_length, show ((N.n : Int) - 0).toNat = N.n from by omega] at e2
    have t0 : TabAt D as (List.replicate N.n (List.replicate N.n 0)) h1 := ⟨e5, by rw [List.length_replicate]; exact e2, e3, fun m => (e4 D m).1 rfl, fun i a r ea er => by
      have := List.eq_of_mem_replicate (List.mem_of_getElem? er)
      rw [this]
      exact (e4 a (List.mem_of_getElem? ea)).2.2⟩
    have fr : ∀ a, a ∈ as → h a = none := fun a ha => (e4 a ha).2.1
    simp only [List.set_cons_succ, List.set_cons_zero, wFor, s_zip, e_wBin, e_wC, wVar_s, wVar_0, ix1, e_outV, sgW, s_zipT]
    refine ⟨fun i ρ h2 => TabAt D as (((N.rs.zip ss).take i).foldl mStep (List.replicate N.n (List.replicate N.n 0))) h2 ∧ Ext h h2 ∧ ∃ a b c d, ρ = [some N.w, some (sgW ss), some (.ref D), a, b, c, d], ⟨t0, e6, _, _, _, _, rfl⟩, fun _ _ _ _ _ => trivial, ?_, ?_⟩
    · rintro i w ρ h2 hi ⟨t2, x2, a, b, c, d, rfl⟩
      obtain ⟨w1, w2, g1, g2, rfl⟩ := zipW_get _ _ _ _ hi
      rw [List.getElem?_map] at g1 g2
      cases er : N.rs[i]? with
      | none => rw [er] at g1; cases g1
      | some r =>
      cases es : ss[i]? with
      | none => rw [es] at g2; cases g2
      | some x =>
      rw [er] at g1
      rw [es] at g2
      have g1 : w1 = rdW r := by simpa using g1.symm
      have g2 : w2 = .int x := by simpa using g2.symm
      subst g1 g2
      have ez : (N.rs.zip ss)[i]? = some (r, x) := by rw [List.getElem?_zip_eq_some]; exact ⟨er, es⟩
      have tk : (N.rs.zip ss).take (i + 1) = (N.rs.zip ss).take i ++ [(r, x)] := by rw [List.take_add_one, ez]; rfl
      dsimp only
      rw [tk, List.foldl_append, List.foldl_cons, List.foldl_nil]
      have sq : SqN N.n (((N.rs.zip ss).take i).foldl mStep (List.replicate N.n (List.replicate N.n 0))) := fold_sq _ _ (zero_sq _) fun p hp => zip_rd ok p (List.mem_of_mem_take hp)
      generalize ((N.rs.zip ss).take i).foldl mStep (List.replicate N.n (List.replicate N.n 0)) = T at t2 sq
      have hr := ok.rd r (List.mem_of_getElem? er)
      obtain ⟨p, o⟩ := r
      have hr' := hr
      simp only [isRd, Bool.and_eq_true, decide_eq_true_eq] at hr
      obtain ⟨p, rfl⟩ : ∃ k : Nat, p = k := ⟨p.toNat, by omega⟩
      obtain ⟨o, rfl⟩ : ∃ k : Nat, o = k := ⟨o.toNat, by omega⟩
      refine ⟨_, rfl, ?_⟩
      obtain ⟨a1, i1, m1, o1, s1, t3⟩ := t2.put sq (i := p) (j := o) (by omega) (by omega) x
      obtain ⟨a2, i2, m2, o2, s2, t4⟩ := t3.put (sq.setC (i := p) (j := o) (x := x) (by omega)) (i := o) (j := p) (by omega) (by omega) (-x)
      simp only [e_wAsg, e_wTup, e_wCons, e_wNil, wVar_s, wVar_0, e_wUn, o_neg, e_outV, List.set_cons_succ, List.set_cons_zero]
      refine ⟨_, rfl, rfl, _, _, rfl, ?_⟩
      simp only [g_sub, e_wBin, wVar_s, wVar_0, i1, e_outV, s1]
      refine ⟨_, _, rfl, ?_⟩
      simp only [g_sub, e_wBin, wVar_s, wVar_0, i2, e_outV, s2]
      refine ⟨rfl, t4, ?_, _, _, _, _, rfl⟩
      exact Ext.put (fr a2 m2) (Ext.put (fr a1 m1) x2)
    · rintro ρ h2 ⟨t2, x2, a, b, c, d, rfl⟩
      rw [zipW_length, List.length_map, List.length_map, List.take_of_length_le (by rw [List.length_zip]; exact Nat.le_refl _)] at t2
      simp only [e_wRet, wVar_s, wVar_0]
      exact q h2 D as x2 hD fr t2
end Pd
set_option Elab.async false
set_option linter.all false
set_option maxRecDepth 100000
set_option maxHeartbeats 1000000
namespace Pd
open PySem PySem.Spec PyProof.Rows L2
/-! ### rows exchanged -/
theorem swap_perm {α : Type} {l : List α} {i f : Nat} {x y : α} (hif : i ≤ f) (hi : l[i]? = some x) (hf : l[f]? = some y) : ((l.set i y).set f x).Perm l := by
  have li := (List.getElem?_eq_some_iff.mp hi).1
  have lf := (List.getElem?_eq_some_iff.mp hf).1
  by_cases e : f = i
  · subst e
    rw [hi] at hf
    cases hf
    have e1 : l.set f x = l := by rw [← (List.getElem?_eq_some_iff.mp hi).2, List.set_getElem_self]
    rw [e1, e1]
  · obtain ⟨k, rfl⟩ : ∃ k, f = i + 1 + k := ⟨f - i - 1, by omega⟩
    have hd : (l.drop (i + 1))[k]? = some y := by rw [List.getElem?_drop]; exact hf
    have lk := (List.getElem?_eq_some_iff.mp hd).1
    have e2 : ((l.set i y).set (i + 1 + k) x).drop i = y :: (l.drop (i + 1)).set k x := by
      rw [drop_at (x := y), List.drop_set, List.drop_set]
      · simp
        intro hh
        omega
      · rw [List.getElem?_set_ne (by omega), List.getElem?_set_self li]
    have e3 : ((l.set i y).set (i + 1 + k) x).take i = l.take i := by
      rw [List.take_set_of_le (by omega), List.take_set_of_le (Nat.le_refl _)]
    have p := ((set_perm' (x := x) _ k lk).cons y).trans ((List.Perm.swap x y _).trans ((get_perm hd).symm.cons x))
    rw [← List.take_append_drop i ((l.set i y).set (i + 1 + k) x), e2, e3]
    refine (p.append_left _).trans ?_
    rw [← drop_at hi, List.take_append_drop]
section
variable {R : Addr} {as : List Addr} {rows : List (List Int)} {h : WH} {n : Nat}
theorem TabAt.swap (t : TabAt R as rows h) {i f : Nat} (hif : i ≤ f) {a b : Addr} {x y : List Int} (ai : as[i]? = some a) (af : as[f]? = some b) (ri : rows[i]? = some x) (rf : rows[f]? = some y) :
    TabAt R ((as.set i b).set f a) ((rows.set i y).set f x) (wup h R (.lst (((as.set i b).set f a).map .ref))) where
  l := wup_same
  len := by rw [List.length_set, List.length_set, List.length_set, List.length_set]; exact t.len
  nd := (List.Perm.nodup_iff (swap_perm hif ai af)).mpr t.nd
  ne := fun m => t.ne ((swap_perm hif ai af).mem_iff.mp m)
  row := fun k c r kc kr => by
    have li := (List.getElem?_eq_some_iff.mp ai).1
    have lf := (List.getElem?_eq_some_iff.mp af).1
    have li' := (List.getElem?_eq_some_iff.mp ri).1
    have lf' := (List.getElem?_eq_some_iff.mp rf).1
    have nR : c ≠ R := fun e => t.ne (by rw [← e]; exact (swap_perm hif ai af).mem_iff.mp (List.mem_of_getElem? kc))
    rw [wup_ne nR]
    by_cases e : k = f
    · subst e
      rw [List.getElem?_set_self (by rw [List.length_set]; exact lf)] at kc
      rw [List.getElem?_set_self (by rw [List.length_set]; exact lf')] at kr
      cases kc
      cases kr
      exact t.row i _ _ ai ri
    · rw [List.getElem?_set_ne (Ne.symm e)] at kc kr
      by_cases e2 : k = i
      · subst e2
        rw [List.getElem?_set_self li] at kc
        rw [List.getElem?_set_self li'] at kr
        cases kc
        cases kr
        exact t.row f _ _ af rf
      · rw [List.getElem?_set_ne (Ne.symm e2)] at kc kr
        exact t.row k _ _ kc kr
def cellM (rows : List (List Int)) (i j : Nat) : Int := (rows.getD i []).getD j 0
theorem TabAt.read (t : TabAt R as rows h) (s : SqN n rows) {i j : Nat} (hi : i < n) (hj : j < n) : ∃ a, ixF (.ref R) (.int (i : Nat)) h = some (.val (.ref a)) ∧ ixF (.ref a) (.int (j : Nat)) h = some (.val (.int (cellM rows i j))) := by
  obtain ⟨r, e1, e2, e3⟩ := s.row hi
  obtain ⟨a, a1, a2, a3⟩ := t.at_ e1
  refine ⟨a, a2, ix_int a3 ?_⟩
  unfold cellM
  rw [e2, List.getD_eq_getElem?_getD, List.getElem?_eq_getElem (by omega)]
  rfl
end
/-! ### determinant_by, as a function -/
def foldO {σ : Type} (f : σ → Nat → Option σ) : List Nat → σ → Option σ
  | [], s => some s
  | x :: t, s => (f s x).bind (foldO f t)
def colF (spot number : Nat) (last : Int) (rows : List (List Int)) (c : Nat) : Option (List (List Int)) :=
  let a := cellM rows number c
  let p := cellM rows spot spot
  let b := cellM rows number spot
  let q := cellM rows spot c
  if mulOk a p && mulOk b q && divOkN (a * p - b * q) last then some (setC rows number c ((a * p - b * q).fdiv last)) else none
def rowF (n spot : Nat) (last : Int) (rows : List (List Int)) (number : Nat) : Option (List (List Int)) := foldO (colF spot number last) (List.range' (spot + 1) (n - (spot + 1))) rows
def farM (n : Nat) (rows : List (List Int)) (spot : Nat) : List Nat := (List.range' spot (n - spot)).filter fun k => !decide (cellM rows k spot = 0)
def swM (rows : List (List Int)) (i f : Nat) : List (List Int) := (rows.set i (rows.getD f [])).set f (rows.getD i [])
def detL (n : Nat) : List Nat → List (List Int) → Int → Int → Option Int
  | [], _, last, sign => if mulOk sign last then some (sign * last) else none
  | spot :: t, rows, last, sign =>
    match farM n rows spot with
    | [] => some 0
    | f :: _ => (foldO (rowF n spot last) (List.range' (spot + 1) (n - (spot + 1))) (if f = spot then rows else swM rows spot f)).bind fun rows2 => detL n t rows2 (cellM rows2 spot spot) (if f = spot then sign else -sign)
theorem SqN.swM {n : Nat} {rows : List (List Int)} (s : SqN n rows) {i f : Nat} (hi : i < n) (hf : f < n) : SqN n (swM rows i f) := by
  obtain ⟨r, e1, e2, e3⟩ := s.row hi
  obtain ⟨r', e1', e2', e3'⟩ := s.row hf
  unfold Pd.swM
  rw [e2, e2']
  exact (s.set e3').set e3
theorem colF_sq {n spot number c : Nat} {last : Int} {rows rows' : List (List Int)} (s : SqN n rows) (h : number < n) (e : colF spot number last rows c = some rows') : SqN n rows' := by
  unfold colF at e
  dsimp only at e
  split at e
  · cases e
    exact s.setC h
  · cases e
theorem foldO_sq {n : Nat} {f : List (List Int) → Nat → Option (List (List Int))} : ∀ (l : List Nat) (rows rows' : List (List Int)), (∀ r x r', x ∈ l → SqN n r → f r x = some r' → SqN n r') → SqN n rows → foldO f l rows = some rows' → SqN n rows'
  | [], _, _, _, s, e => by cases e; exact s
  | x :: t, rows, rows', h, s, e => by
    unfold foldO at e
    cases c : f rows x with
    | none => rw [c] at e; cases e
    | some r =>
      rw [c] at e
      exact foldO_sq t r rows' (fun r x r' hx => h r x r' (List.mem_cons_of_mem _ hx)) (h _ _ _ List.mem_cons_self s c) e
end Pd
set_option Elab.async false
set_option linter.all false
set_option maxRecDepth 100000
set_option maxHeartbeats 1000000
namespace Pd
open PySem PySem.Spec PyProof.Rows L2
theorem rg_drop {a m i : Nat} (h : i < m) : (List.range' a m).drop i = (a + i) :: (List.range' a m).drop (i + 1) := by
  refine drop_at ?_
  rw [List.getElem?_range' h]
  simp
theorem rg_end {a m : Nat} : (List.range' a m).drop m = [] := List.drop_eq_nil_of_le (by rw [List.length_range']; exact Nat.le_refl _)
theorem rgW_at {a b : Int} {i : Nat} {w : Wv} (e : (rgW a b)[i]? = some w) : i < (b - a).toNat ∧ w = .int (a + (i : Int)) := by
  have li := (List.getElem?_eq_some_iff.mp e).1
  rw [rgW_length] at li
  unfold rgW at e
  rw [List.getElem?_map, List.getElem?_range li] at e
  exact ⟨li, by simpa using e.symm⟩
variable {R : Addr} {as : List Addr} {rows rows2 : List (List Int)} {h : WH} {n spot number : Nat} {last sign : Int} {w4 : Wv}
/-- the columns of one row -/
theorem det_col (n14 : n ≤ 14) (t : TabAt R as rows h) (s : SqN n rows) (hs : spot < n) (hn : number < n) (hf : foldO (colF spot number last) (List.range' (spot + 1) (n - (spot + 1))) rows = some rows2) {D : WEnds} {u0 v0 : Option Wv}
    (q : ∀ h2 u v, TabAt R as rows2 h2 → SqN n rows2 → (∀ y, y ∉ as → h2 y = h y) → D.nx [some (.ref R), some (.int last), some (.int sign), some (.int (spot : Nat)), some w4, some (.int (number : Nat)), u, v] h2) :
    wFor (wIRng2 (wBin addF (wVar 3) (wC (.int 1))) (wCB lenF (wCons (wVar 0) (wNil)))) (.nm 6) (wSeq (wSet 7 (wBin subI (wBin mulF (wBin ixF (wBin ixF (wVar 0) (wVar 5)) (wVar 6)) (wBin ixF (wBin ixF (wVar 0) (wVar 3)) (wVar 3))) (wBin mulF (wBin ixF (wBin ixF (wVar 0) (wVar 5)) (wVar 3)) (wBin ixF (wBin ixF (wVar 0) (wVar 3)) (wVar 6))))) (wAsg (wBin divN (wVar 7) (wVar 1)) (wgSub (wBin ixF (wVar 0) (wVar 5)) (wVar 6)))) D
      [some (.ref R), some (.int last), some (.int sign), some (.int (spot : Nat)), some w4, some (.int (number : Nat)), u0, v0] h := by
  have la : (as.map Wv.ref).length = n := by rw [List.length_map, t.len, s.len]
  have r1 : rgOk ((spot : Int) + 1) = true := by unfold rgOk; simp; omega
  have r2 : rgOk (n : Int) = true := by unfold rgOk; simp; omega
  simp only [wFor, s_rng2, e_wBin, e_wC, e_wCB, e_wCons, e_wNil, wVar_s, wVar_0, o_addI, e_outV, o_lenL t.l, la, e_oV]
  refine ⟨⟨r1, r2⟩, fun i ρ h1 => ∃ rows1, TabAt R as rows1 h1 ∧ SqN n rows1 ∧ foldO (colF spot number last) ((List.range' (spot + 1) (n - (spot + 1))).drop i) rows1 = some rows2 ∧ (∀ y, y ∉ as → h1 y = h y) ∧ ∃ u v, ρ = [some (.ref R), some (.int last), some (.int sign), some (.int (spot : Nat)), some w4, some (.int (number : Nat)), u, v],
    ⟨rows, t, s, hf, fun _ _ => rfl, _, _, rfl⟩, fun _ _ _ _ _ => trivial, ?_, ?_⟩
  · rintro i w ρ h1 hi ⟨rows1, t1, s1, f1, k1, u, v, rfl⟩
    obtain ⟨li, rfl⟩ := rgW_at hi
    refine ⟨_, rfl, ?_⟩
    rw [rg_drop (by omega), foldO] at f1
    have ci : (spot : Int) + 1 + (i : Int) = ((spot + 1 + i : Nat) : Int) := by omega
    rw [ci]
    have hc : spot + 1 + i < n := by omega
    generalize spot + 1 + i = c at hc f1
    cases ef : colF spot number last rows1 c with
    | none => rw [ef] at f1; cases f1
    | some rows3 =>
      rw [ef] at f1
      unfold colF at ef
      dsimp only at ef
      split at ef
      · rename_i ck
        cases ef
        simp only [Bool.and_eq_true] at ck
        obtain ⟨⟨c1, c2⟩, c3⟩ := ck
        obtain ⟨a1, i1, j1⟩ := t1.read s1 hn hc
        obtain ⟨a2, i2, j2⟩ := t1.read s1 hs hs
        obtain ⟨a3, i3, j3⟩ := t1.read s1 hn hs
        obtain ⟨a4, i4, j4⟩ := t1.read s1 hs hc
        rw [i1] at i3
        cases i3
        rw [i2] at i4
        cases i4
        obtain ⟨a5, i5, m5, o5, st5, t5⟩ := t1.put s1 hn hc ((cellM rows1 number c * cellM rows1 spot spot - cellM rows1 number spot * cellM rows1 spot c).fdiv last)
        simp only [List.set_cons_succ, List.set_cons_zero, e_wSeq, e_wSet, e_wAsg, e_wBin, wVar_s, wVar_0, i1, i2, j1, j2, j3, j4, e_outV, o_mul, c1, c2, if_true, o_sub, o_divN, c3, g_sub]
        rw [i1] at i5
        cases i5
        rw [st5]
        exact ⟨_, t5, s1.setC hn, f1, fun y hy => by rw [wup_ne (show y ≠ a1 from fun e => hy (by rw [e]; exact m5))]; exact k1 y hy, _, _, rfl⟩
      · cases ef
  · rintro ρ h1 ⟨rows1, t1, s1, f1, k1, u, v, rfl⟩
    rw [rgW_length, show ((n : Int) - ((spot : Int) + 1)).toNat = n - (spot + 1) by omega, rg_end] at f1
    cases f1
    exact q h1 u v t1 s1 k1
/-- the rows under one -/
theorem det_row (n14 : n ≤ 14) (t : TabAt R as rows h) (s : SqN n rows) (hs : spot < n) (hf : foldO (rowF n spot last) (List.range' (spot + 1) (n - (spot + 1))) rows = some rows2) {D : WEnds} {u0 v0 z0 : Option Wv}
    (q : ∀ h2 z u v, TabAt R as rows2 h2 → SqN n rows2 → (∀ y, y ∉ as → h2 y = h y) → D.nx [some (.ref R), some (.int last), some (.int sign), some (.int (spot : Nat)), some w4, z, u, v] h2) :
    wFor (wIRng2 (wBin addF (wVar 3) (wC (.int 1))) (wCB lenF (wCons (wVar 0) (wNil)))) (.nm 5) (wFor (wIRng2 (wBin addF (wVar 3) (wC (.int 1))) (wCB lenF (wCons (wVar 0) (wNil)))) (.nm 6) (wSeq (wSet 7 (wBin subI (wBin mulF (wBin ixF (wBin ixF (wVar 0) (wVar 5)) (wVar 6)) (wBin ixF (wBin ixF (wVar 0) (wVar 3)) (wVar 3))) (wBin mulF (wBin ixF (wBin ixF (wVar 0) (wVar 5)) (wVar 3)) (wBin ixF (wBin ixF (wVar 0) (wVar 3)) (wVar 6))))) (wAsg (wBin divN (wVar 7) (wVar 1)) (wgSub (wBin ixF (wVar 0) (wVar 5)) (wVar 6))))) D
      [some (.ref R), some (.int last), some (.int sign), some (.int (spot : Nat)), some w4, z0, u0, v0] h := by
  have la : (as.map Wv.ref).length = n := by rw [List.length_map, t.len, s.len]
  have r1 : rgOk ((spot : Int) + 1) = true := by unfold rgOk; simp; omega
  have r2 : rgOk (n : Int) = true := by unfold rgOk; simp; omega
  rw [wFor]
  simp only [s_rng2, e_wBin, e_wC, e_wCB, e_wCons, e_wNil, wVar_s, wVar_0, o_addI, e_outV, o_lenL t.l, la, e_oV]
  refine ⟨⟨r1, r2⟩, fun i ρ h1 => ∃ rows1, TabAt R as rows1 h1 ∧ SqN n rows1 ∧ foldO (rowF n spot last) ((List.range' (spot + 1) (n - (spot + 1))).drop i) rows1 = some rows2 ∧ (∀ y, y ∉ as → h1 y = h y) ∧ ∃ z u v, ρ = [some (.ref R), some (.int last), some (.int sign), some (.int (spot : Nat)), some w4, z, u, v],
    ⟨rows, t, s, hf, fun _ _ => rfl, _, _, _, rfl⟩, fun _ _ _ _ _ => trivial, ?_, ?_⟩
  · rintro i w ρ h1 hi ⟨rows1, t1, s1, f1, k1, z, u, v, rfl⟩
    obtain ⟨li, rfl⟩ := rgW_at hi
    refine ⟨_, rfl, ?_⟩
    rw [rg_drop (by omega), foldO] at f1
    have ci : (spot : Int) + 1 + (i : Int) = ((spot + 1 + i : Nat) : Int) := by omega
    rw [ci]
    have hc : spot + 1 + i < n := by omega
    generalize spot + 1 + i = c at hc f1
    cases ef : rowF n spot last rows1 c with
    | none => rw [ef] at f1; cases f1
    | some rows3 =>
      rw [ef] at f1
      unfold rowF at ef
      exact det_col n14 t1 s1 hs hc ef fun h2 u v t2 s2 k2 => ⟨_, t2, s2, f1, fun y hy => (k2 y hy).trans (k1 y hy), _, _, _, rfl⟩
  · rintro ρ h1 ⟨rows1, t1, s1, f1, k1, z, u, v, rfl⟩
    rw [rgW_length, show ((n : Int) - ((spot : Int) + 1)).toNat = n - (spot + 1) by omega, rg_end] at f1
    cases f1
    exact q h1 z u v t1 s1 k1
def sp_det : WSp := fun ws h Q _ => ∃ (R : Addr) (as : List Addr) (rows : List (List Int)) (n : Nat) (v : Int), n ≤ 14 ∧ ws = [.ref R] ∧ TabAt R as rows h ∧ SqN n rows ∧ detL n (List.range' 0 n) rows 1 1 = some v ∧
  ∀ h', (∀ y o, y ≠ R → y ∉ as → h y = some o → h' y = some o) → Q (.int v) h'
theorem mo_det : MoP sp_det := fun ws h Q Q' E E' hq he ⟨R, as, rows, n, v, e1, e2, e3, e4, e5, q⟩ => ⟨R, as, rows, n, v, e1, e2, e3, e4, e5, fun h' a => hq _ _ (q h' a)⟩
theorem q_det (ws : List Wv) (h : WH) (Q : WQ) (E : WX) (s : sp_det ws h Q E) : wBody t_determinant_by N_determinant_by.length ws h Q E := by
  obtain ⟨R, as0, rows0, n, v, n14, rfl, t0, s0, dv, q⟩ := s
  simp only [e_wBody, t_determinant_by, N_determinant_by, wStart_def, List.length_cons, List.length_nil, List.map_cons, List.map_nil, List.cons_append, List.nil_append, Nat.reduceAdd, Nat.reduceSub, List.replicate_succ, List.replicate_zero, e_wSeq, e_wAsg, e_wTup, e_wCons, e_wNil, e_wC]
  refine ⟨_, rfl, rfl, _, _, rfl, _, rfl, _, _, rfl, _, rfl, rfl, ?_⟩
  have la : ∀ {as : List Addr} {rows : List (List Int)} {h : WH}, TabAt R as rows h → SqN n rows → lenF [.ref R] h = some (.val (.int (n : Nat))) := fun t s => by rw [o_lenL t.l, List.length_map, t.len, s.len]
  have r2 : rgOk (n : Int) = true := by unfold rgOk; simp; omega
  simp only [List.set_cons_succ, List.set_cons_zero]
  rw [wFor]
  simp only [s_rng1, e_wCB, e_wCons, e_wNil, wVar_0, la t0 s0, e_oV]
  refine ⟨r2, fun i ρ h1 => ∃ as rows last sign, TabAt R as rows h1 ∧ SqN n rows ∧ detL n ((List.range' 0 n).drop i) rows last sign = some v ∧ (∀ a, a ∈ as → a ∈ as0) ∧ (∀ y o, y ≠ R → y ∉ as0 → h y = some o → h1 y = some o) ∧ ∃ a b c d e, ρ = [some (.ref R), some (.int last), some (.int sign), a, b, c, d, e],
    ⟨as0, rows0, 1, 1, t0, s0, dv, fun _ m => m, fun _ _ _ _ e => e, _, _, _, _, _, rfl⟩, fun _ _ _ _ _ => trivial, ?_, ?_⟩
  · rintro i w ρ h1 hi ⟨as, rows, last, sign, t1, s1, d1, m1, k1, a, b, c, d, e, rfl⟩
    obtain ⟨li, rfl⟩ := rgW_at hi
    refine ⟨_, rfl, ?_⟩
    have hi' : i < n := by omega
    rw [rg_drop hi', Nat.zero_add] at d1
    rw [show (0 : Int) + (i : Int) = (i : Int) by omega]
    have r1 : rgOk (i : Int) = true := by unfold rgOk; simp; omega
    simp only [List.set_cons_succ, List.set_cons_zero]
    rw [e_wSeq, e_wSet]
    -- the rows that have something there
    refine lc_pure (is := rgW (i : Int) (n : Int)) (kp := fun _ => True) (h1 := h1) (fun RR hR => ?_) (fun _ _ => trivial) ?_ (fun w => match w with
      | .int z => !decide (cellM rows z.toNat i = 0)
      | _ => false) (fun w => w) ?_ ?_
    · simp only [s_rng2, wVar_s, wVar_0, e_wCB, e_wCons, e_wNil, la t1 s1, e_oV]
      exact ⟨⟨r1, r2⟩, hR⟩
    · rw [rgW_length]
      have : 1000 < sizeLine := by decide
      omega
    · intro w hw
      obtain ⟨j, hj⟩ := List.getElem?_of_mem hw
      obtain ⟨lj, rfl⟩ := rgW_at hj
      refine ⟨_, rfl, fun h2 e2 => ?_⟩
      have cj : (i : Int) + (j : Int) = ((i + j : Nat) : Int) := by omega
      have lt : i + j < n := by omega
      obtain ⟨a1, i1, j1⟩ := (t1.ext e2).read s1 lt hi'
      have env : List.set (wipeW [some (Wv.ref R), some (.int last), some (.int sign), some (.int (i : Int)), b, c, d, e] [5]) 5 (some (.int ((i : Int) + (j : Int)))) = [some (.ref R), some (.int last), some (.int sign), some (.int (i : Nat)), b, some (.int ((i + j : Nat) : Int)), d, e] := by rw [cj]; rfl
      constructor
      · intro RB hb
        show wTest _ _ h2 RB F0
        rw [env]
        simp only [e_wTest, e_wBin, wVar_s, wVar_0, i1, j1, e_outV, e_wC, o_neI]
        rw [cj] at hb
        exact hb
      · intro _ RB hb
        show wVar 5 _ h2 RB F0
        rw [env]
        simp only [wVar_s, wVar_0]
        rw [cj] at hb
        exact hb h2 (Ext.refl _)
    · intro D h2 hD e2 d2
      have ef : ((rgW (i : Int) (n : Int)).filter fun w => match w with
          | .int z => !decide (cellM rows z.toNat i = 0)
          | _ => false).map (fun w => w) = (farM n rows i).map fun (k : Nat) => Wv.int k := by
        rw [List.map_id']
        unfold farM rgW
        rw [List.filter_map, show ((n : Int) - (i : Int)).toNat = n - i by omega, List.range'_eq_map_range, List.filter_map, List.map_map]
        have c1 : ∀ x : Nat, ((i : Int) + (x : Int)).toNat = i + x := fun x => by omega
        simp only [Function.comp_def, c1]
        refine List.map_congr_left fun x _ => ?_
        congr 1
      rw [ef] at d2
      have t2 := t1.ext e2
      have D1 : ∀ y o, y ≠ R → y ∉ as0 → h y = some o → h2 y = some o := fun y o a b c => e2 _ _ (k1 y o a b c)
      rw [detL] at d1
      have mf : ∀ k, k ∈ farM n rows i → i ≤ k ∧ k < n := fun k hk => by
        unfold farM at hk
        have := (List.mem_filter.mp hk).1
        rw [List.mem_range'_1] at this
        omega
      have okF : okTs 60 ((farM n rows i).map fun (k : Nat) => Wv.int k) = true := by
        generalize farM n rows i = F
        induction F with
        | nil => rfl
        | cons x F ih => rw [List.map_cons]; simp [okTs, okT, ih]
      simp only [List.set_cons_succ, List.set_cons_zero, e_wSeq, e_wIfS, e_wTest, e_wBin, wVar_s, wVar_0, e_wLst, e_wNil]
      intro p hp
      have pD : p ≠ D := by rintro rfl; rw [d2] at hp; cases hp
      rw [o_eqL (by rw [wup_ne (Ne.symm pD)]; exact d2) wup_same okF rfl]
      have t3 := t2.ext (Ext.new (o := .lst []) hp)
      have D2 : ∀ y o, y ≠ R → y ∉ as0 → h y = some o → wup h2 p (.lst []) y = some o := fun y o a b c => Ext.new hp _ _ (D1 y o a b c)
      have d3 : wup h2 p (.lst []) D = some (.lst ((farM n rows i).map fun (k : Nat) => Wv.int k)) := by rw [wup_ne (Ne.symm pD)]; exact d2
      generalize wup h2 p (.lst []) = h3 at t3 D2 d3
      cases eF : farM n rows i with
      | nil =>
        rw [eF] at d1
        cases d1
        simp only [List.map_nil, eqWs, e_outV, if_true, e_wRet, e_wC]
        exact q h3 D2
      | cons f F =>
        rw [eF] at d1 d3
        dsimp only at d1
        obtain ⟨f1, f2⟩ := mf f (by rw [eF]; exact List.mem_cons_self)
        simp only [List.map_cons, eqWs, e_outV, Bool.false_eq_true, if_false, e_wNext]
        have ixf : ixF (.ref D) (.int 0) h3 = some (.val (.int (f : Nat))) := by
          rw [o_ixL d3, List.map_cons, at_0]
          rfl
        simp only [e_wC, e_wBin, wVar_s, wVar_0, ixf, e_outV, o_neI]
        -- what comes behind the exchange
        have back : ∀ (as : List Addr) (rows1 : List (List Int)) (sign1 : Int) (h4 : WH), TabAt R as rows1 h4 → SqN n rows1 → (∀ a, a ∈ as → a ∈ as0) → (∀ y o, y ≠ R → y ∉ as0 → h y = some o → h4 y = some o) →
            ((foldO (rowF n i last) (List.range' (i + 1) (n - (i + 1))) rows1).bind fun rows2 => detL n ((List.range' 0 n).drop (i + 1)) rows2 (cellM rows2 i i) sign1) = some v →
            ∀ D' : WEnds, (∀ ρ' h', D'.nx ρ' h' = ∃ as rows last sign, TabAt R as rows h' ∧ SqN n rows ∧ detL n ((List.range' 0 n).drop (i + 1)) rows last sign = some v ∧ (∀ a, a ∈ as → a ∈ as0) ∧ (∀ y o, y ≠ R → y ∉ as0 → h y = some o → h' y = some o) ∧ ∃ a b c d e, ρ' = [some (.ref R), some (.int last), some (.int sign), a, b, c, d, e]) →
            wFor (wIRng2 (wBin addF (wVar 3) (wC (.int 1))) (wCB lenF (wCons (wVar 0) (wNil)))) (.nm 5) (wFor (wIRng2 (wBin addF (wVar 3) (wC (.int 1))) (wCB lenF (wCons (wVar 0) (wNil)))) (.nm 6) (wSeq (wSet 7 (wBin subI (wBin mulF (wBin ixF (wBin ixF (wVar 0) (wVar 5)) (wVar 6)) (wBin ixF (wBin ixF (wVar 0) (wVar 3)) (wVar 3))) (wBin mulF (wBin ixF (wBin ixF (wVar 0) (wVar 5)) (wVar 3)) (wBin ixF (wBin ixF (wVar 0) (wVar 3)) (wVar 6))))) (wAsg (wBin divN (wVar 7) (wVar 1)) (wgSub (wBin ixF (wVar 0) (wVar 5)) (wVar 6)))))
              { D' with nx := fun ρ' h' => wSet 1 (wBin ixF (wBin ixF (wVar 0) (wVar 3)) (wVar 3)) D' ρ' h' } [some (.ref R), some (.int last), some (.int sign1), some (.int (i : Nat)), some (.ref D), c, d, e] h4 := by
          intro as rows1 sign1 h4 t4 s4 m4 k4 d4 D' hD'
          cases ef : foldO (rowF n i last) (List.range' (i + 1) (n - (i + 1))) rows1 with
          | none => rw [ef] at d4; cases d4
          | some rows2 =>
            rw [ef] at d4
            refine det_row n14 t4 s4 hi' ef fun h5 z u v' t5 s5 k5 => ?_
            obtain ⟨a1, i1, j1⟩ := t5.read s5 hi' hi'
            simp only [e_wSet, e_wBin, wVar_s, wVar_0, i1, j1, e_outV, List.set_cons_succ, List.set_cons_zero]
            rw [hD']
            exact ⟨as, rows2, _, sign1, t5, s5, d4, m4, fun y o a b c => by rw [k5 y (fun m => b (m4 y m))]; exact k4 y o a b c, _, _, _, _, _, rfl⟩
        by_cases fi : f = i
        · rw [if_pos fi, if_pos fi] at d1
          subst fi
          rw [decide_eq_true rfl]
          simp only [Bool.not_true, Bool.false_eq_true, if_false, e_wNext]
          exact back as rows sign h3 t3 s1 m1 D2 d1 _ fun _ _ => rfl
        · rw [if_neg fi, if_neg fi] at d1
          have z' : (!decide ((f : Int) = (i : Int))) = true := by
            have : ¬ (f : Int) = (i : Int) := by omega
            simp [this]
          rw [if_pos z']
          obtain ⟨x, ex, gx, _⟩ := s1.row hi'
          obtain ⟨y, ey, gy, _⟩ := s1.row f2
          obtain ⟨a1, a2, a3, _⟩ := t3.at_ ex
          obtain ⟨b1, b2, b3, _⟩ := t3.at_ ey
          have t4 := t3.swap f1 a2 b2 ex ey
          have li := (List.getElem?_eq_some_iff.mp a2).1
          have lf := (List.getElem?_eq_some_iff.mp b2).1
          have st1 : setW (.ref R) (.int (i : Nat)) (.ref b1) h3 = some (R, .lst ((as.map Wv.ref).set i (.ref b1))) := o_setL t3.l (by rw [List.length_map]; exact li)
          have st2 : setW (.ref R) (.int (f : Nat)) (.ref a1) (wup h3 R (.lst ((as.map Wv.ref).set i (.ref b1)))) = some (R, .lst (((as.map Wv.ref).set i (.ref b1)).set f (.ref a1))) := o_setL wup_same (by rw [List.length_set, List.length_map]; exact lf)
          have nRD : R ≠ D := by rintro rfl; exact absurd (t1.l ▸ hD) nofun
          simp only [e_wAsg, e_wTup, e_wCons, e_wNil, e_wBin, e_wUn, e_wC, wVar_s, wVar_0, ixf, a3, b3, e_outV, o_neg]
          refine ⟨_, rfl, rfl, _, _, rfl, ?_⟩
          simp only [g_sub, wVar_s, wVar_0, st1]
          refine ⟨_, _, rfl, ?_⟩
          have ixf2 : ixF (.ref D) (.int 0) (wup h3 R (.lst ((as.map Wv.ref).set i (.ref b1)))) = some (.val (.int (f : Nat))) := by
            rw [o_ixL (by rw [wup_ne (Ne.symm nRD)]; exact d3), List.map_cons, at_0]
            rfl
          simp only [g_sub, e_wBin, e_wC, wVar_s, wVar_0, ixf2, e_outV, st2]
          refine ⟨_, _, rfl, _, rfl, rfl, ?_⟩
          rw [wup_wup]
          rw [List.map_set, List.map_set] at t4
          have esw : swM rows i f = (rows.set i y).set f x := by unfold swM; rw [gx, gy]
          rw [← esw] at t4
          exact back _ _ (-sign) _ t4 (s1.swM hi' f2) (fun a ha => m1 a ((swap_perm f1 a2 b2).mem_iff.mp ha)) (fun y o h1 h2 h3 => by rw [wup_ne h1]; exact D2 y o h1 h2 h3) d1 _ fun _ _ => rfl
  · rintro ρ h1 ⟨as, rows, last, sign, t1, s1, d1, m1, k1, a, b, c, d, e, rfl⟩
    rw [rgW_length, show ((n : Int) - 0).toNat = n by omega, rg_end, detL] at d1
    split at d1
    · rename_i ck
      cases d1
      simp only [e_wRet, e_wBin, wVar_s, wVar_0, o_mul, ck, if_true, e_outV]
      exact q h1 k1
    · cases d1
end Pd
set_option Elab.async false
set_option linter.all false
set_option maxRecDepth 100000
set_option maxHeartbeats 1000000
namespace Pd
open PySem PySem.Spec PyProof.Rows L2
def sp_mdet : WSp := fun ws h Q _ => ∃ (N : Net) (ss : List Int) (v : Int), N.Ok ∧ SgOk N ss ∧ ws = [N.w, sgW ss] ∧ detL N.n (List.range' 0 N.n) (matM N ss) 1 1 = some v ∧ ∀ h', Ext h h' → Q (.int v) h'
theorem mo_mdet : MoP sp_mdet := fun ws h Q Q' E E' hq he ⟨N, ss, v, e1, e2, e3, e4, q⟩ => ⟨N, ss, v, e1, e2, e3, e4, fun h' a => hq _ _ (q h' a)⟩
theorem q_mdet (ws : List Wv) (h : WH) (Q : WQ) (E : WX) (s : sp_mdet ws h Q E) : wBody (t_matrix_determinant sp_need_signs sp_matrix_by sp_det) N_matrix_determinant.length ws h Q E := by
  obtain ⟨N, ss, v, ok, so, rfl, dv, q⟩ := s
  simp only [e_wBody, t_matrix_determinant, e_wSeq, e_wDrop, e_wCall, e_wCons, e_wNil, N_matrix_determinant, wStart_def, List.length_cons, List.length_nil, List.map_cons, List.map_nil, List.cons_append, List.nil_append, Nat.reduceAdd, Nat.reduceSub, List.replicate_zero, wVar_0, wVar_s]
  refine ⟨N, ss, ok, so, rfl, fun h1 e1 => ?_⟩
  simp only [e_wRet, e_wCall, e_wCons, e_wNil, wVar_0, wVar_s]
  refine ⟨N, ss, ok, so, rfl, fun h2 R as e2 hR ha t2 => ⟨R, as, _, N.n, v, ok.n14, rfl, t2, mat_sq ok, dv, fun h3 k3 => q h3 fun y o hy => ?_⟩⟩
  have h1y := e1 y o hy
  refine k3 y o ?_ ?_ (e2 y o h1y)
  · rintro rfl
    rw [hR] at h1y
    cases h1y
  · intro m
    rw [ha y m] at h1y
    cases h1y
/-! ### nets that are known -/
def ringN (n : Nat) : Net := ⟨n, (List.range (n - 1)).map (fun (a : Nat) => ((a : Int), (a : Int) + 1)) ++ [(0, (n : Int) - 1)]⟩
def rowN (n : Nat) : Net := ⟨n, (List.range (n - 1)).map fun (a : Nat) => ((a : Int), (a : Int) + 1)⟩
def onesL (n : Nat) : List Int := List.replicate n 1
theorem det_ring : ∀ n, n < 15 → 3 ≤ n → detL n (List.range' 0 n) (matM (ringN n) (onesL n)) 1 1 = some (4 * (1 - (n : Int) % 2)) := by decide +kernel
theorem row_counts : ∀ n, n < 15 → 2 ≤ n → (rowN n).whole = 1 - (n : Int) % 2 := by decide +kernel
theorem ring_counts : ∀ n, n < 15 → 3 ≤ n → (ringN n).whole = 2 * (1 - (n : Int) % 2) := by decide +kernel
theorem row_sums : ∀ n, n < 15 → 2 ≤ n → (rowN n).ssum (onesL (n - 1)) = 1 - (n : Int) % 2 := by decide +kernel
def fullN (s : Nat) : Net := ⟨2 * s, (List.range s).flatMap fun (a : Nat) => (List.range s).map fun (b : Nat) => ((a : Int), (s : Int) + (b : Int))⟩
def everyN (s : Nat) : Net := ⟨2 * s, (List.range (2 * s)).flatMap fun (a : Nat) => (List.range' (a + 1) (2 * s - (a + 1))).map fun (b : Nat) => ((a : Int), (b : Int))⟩
def factI : Nat → Int
  | 0 => 1
  | n + 1 => factI n * ((n : Int) + 1)
theorem full_counts : ∀ s, s < 7 → (fullN s).whole = factI s := by decide +kernel
theorem every_counts : ∀ s, s < 5 → 1 ≤ s → (everyN s).whole = oddF s := by decide +kernel
def ladderN (s : Nat) : Net := ⟨2 * s, (List.range s).map (fun (a : Nat) => (2 * (a : Int), 2 * (a : Int) + 1)) ++ (List.range (s - 1)).map (fun (a : Nat) => (2 * (a : Int), 2 * (a : Int) + 2)) ++ (List.range (s - 1)).map (fun (a : Nat) => (2 * (a : Int) + 1, 2 * (a : Int) + 3))⟩
def fibI : Nat → Int × Int
  | 0 => (1, 1)
  | n + 1 => ((fibI n).2, (fibI n).1 + (fibI n).2)
theorem ladder_counts : ∀ s, s < 8 → 1 ≤ s → (ladderN s).whole = (fibI s).1 := by decide +kernel
end Pd
set_option Elab.async false
set_option linter.all false
set_option maxRecDepth 100000
set_option maxHeartbeats 1000000
namespace Pd
open PySem PySem.Spec PyProof.Rows L2
/-! ### the state of the draws -/
abbrev stD (c l : Addr) (a : Int) : Wo := .dK [(.inr "cells", .ref c), (.inr "at", .int a), (.inr "left", .ref l)]
structure LawSt (m c l : Addr) (k : Nat) (h : WH) : Prop where
  ex : ∃ (a : Int) (cells left : List Int), h m = some (stD c l a) ∧ h c = some (.lst (cells.map .int)) ∧ h l = some (.lst (left.map .int)) ∧ c ≠ l ∧ 0 ≤ a ∧ a ≤ k
/-- what a draw may change -/
structure Step (m l : Addr) (h : WH) (l' : Addr) (h' : WH) : Prop where
  keep : ∀ y o, y ≠ m → y ≠ l → h y = some o → h' y = some o
  new : l' = l ∨ h l' = none
section
variable {m c l l' l'' : Addr} {k k' : Nat} {h h' h'' : WH}
theorem LawSt.ne (s : LawSt m c l k h) : l ≠ m := by
  obtain ⟨a, cells, left, e1, e2, e3, _⟩ := s.ex
  rintro rfl
  rw [e1] at e3
  cases e3
theorem LawSt.ext (s : LawSt m c l k h) (e : Ext h h') : LawSt m c l k h' := by
  obtain ⟨a, cells, left, e1, e2, e3, e4, e5, e6⟩ := s.ex
  exact ⟨a, cells, left, e _ _ e1, e _ _ e2, e _ _ e3, e4, e5, e6⟩
theorem LawSt.mono (s : LawSt m c l k h) (le : k ≤ k') : LawSt m c l k' h := by
  obtain ⟨a, cells, left, e1, e2, e3, e4, e5, e6⟩ := s.ex
  exact ⟨a, cells, left, e1, e2, e3, e4, e5, by omega⟩
theorem LawSt.there (s : LawSt m c l k h) : h m ≠ none ∧ h l ≠ none := by
  obtain ⟨a, cells, left, e1, e2, e3, _⟩ := s.ex
  rw [e1, e3]
  exact ⟨nofun, nofun⟩
theorem LawSt.put (s : LawSt m c l k h) {p : Addr} {o : Wo} (h1 : p ≠ m) (h2 : p ≠ c) (h3 : p ≠ l) : LawSt m c l k (wup h p o) := by
  obtain ⟨a, cells, left, e1, e2, e3, e4, e5, e6⟩ := s.ex
  exact ⟨a, cells, left, by rw [wup_ne (Ne.symm h1)]; exact e1, by rw [wup_ne (Ne.symm h2)]; exact e2, by rw [wup_ne (Ne.symm h3)]; exact e3, e4, e5, e6⟩
theorem LawSt.cThere (s : LawSt m c l k h) : h c ≠ none := by
  obtain ⟨a, cells, left, e1, e2, e3, _⟩ := s.ex
  rw [e2]
  exact nofun
theorem Step.put (a : Step m l h l' h') {p : Addr} {o : Wo} (hp : h p = none) : Step m l h l' (wup h' p o) where
  keep := fun y u h1 h2 hy => by
    rw [wup_ne (by rintro rfl; rw [hp] at hy; cases hy)]
    exact a.keep y u h1 h2 hy
  new := a.new
theorem Step.of (e : Ext h h') : Step m l h l h' := ⟨fun y o _ _ hy => e y o hy, .inl rfl⟩
theorem Step.refl : Step m l h l h := Step.of (Ext.refl h)
theorem Step.trans (a : Step m l h l' h') (b : Step m l' h' l'' h'') (ne : l'' ≠ m) : Step m l h l'' h'' where
  keep := fun y o h1 h2 hy => b.keep y o h1 (by
    rintro rfl
    rcases a.new with c | c
    · exact h2 c
    · rw [c] at hy; cases hy) (a.keep y o h1 h2 hy)
  new := by
    rcases b.new with c | c
    · rw [c]; exact a.new
    · by_cases e : l'' = l
      · exact .inl e
      · refine .inr ?_
        cases z : h l'' with
        | none => rfl
        | some o => rw [a.keep l'' o ne e z] at c; cases c
/-- a place that is not the state's stays so -/
theorem Step.apart (a : Step m l h l' h') {y : Addr} {o : Wo} (h2 : y ≠ l) (hy : h y = some o) : y ≠ l' := by
  rintro rfl
  rcases a.new with c | c
  · exact h2 c
  · rw [c] at hy; cases hy
end
theorem mulOk_l {i j : Int} (a : -(2 ^ 64) < i) (b : i < 2 ^ 64) : mulOk i j = true := by
  unfold mulOk
  rw [decide_eq_true a, decide_eq_true b]
  rfl
theorem mulOk_m {i j M : Int} (h0 : 0 < M) (h1 : M < 2 ^ 64) : mulOk (i % M) j = true := by
  have := Int.emod_nonneg i (show M ≠ 0 by omega)
  have := Int.emod_lt_of_pos i h0
  exact mulOk_l (by omega) (by omega)
def sp_next : WSp := fun ws h Q _ => ∃ (m c l : Addr) (k many : Nat), ws = [.ref m, .int (many : Nat)] ∧ LawSt m c l k h ∧ k < 1000000 ∧ 0 < many ∧ many < 1000000 ∧
  ∀ h' l' (v : Nat), LawSt m c l' (k + 1) h' → Step m l h l' h' → v < many → Q (.int (v : Nat)) h'
theorem mo_next : MoP sp_next := fun ws h Q Q' E E' hq he ⟨m, c, l, k, many, e1, e2, e3, e4, e5, q⟩ => ⟨m, c, l, k, many, e1, e2, e3, e4, e5, fun h' l' v a b c => hq _ _ (q h' l' v a b c)⟩
theorem okTs_ints (ns : List Int) : okTs 60 (ns.map .int) = true := by
  induction ns with
  | nil => rfl
  | cons x t ih => rw [List.map_cons]; simp [okTs, okT, ih]
theorem mod_nat {x : Int} {many : Nat} (h : 0 < many) : ∃ v : Nat, x % (many : Int) = (v : Nat) ∧ v < many := by
  have h1 := Int.emod_nonneg x (show (many : Int) ≠ 0 by omega)
  have h2 := Int.emod_lt_of_pos x (show (0 : Int) < many by omega)
  exact ⟨(x % (many : Int)).toNat, by omega, by omega⟩
theorem q_next (ws : List Wv) (h : WH) (Q : WQ) (E : WX) (s : sp_next ws h Q E) : wBody t_xlaw_next N_xlaw_next.length ws h Q E := by
  obtain ⟨m, c, l, k, many, rfl, st, hk, hm, hm2, q⟩ := s
  obtain ⟨a, cells, left, e1, e2, e3, e4, e5, e6⟩ := st.ex
  have lm := st.ne
  have big : 1000 < sizeLine := by decide
  have mc : m ≠ c := by rintro rfl; rw [e1] at e2; cases e2
  have k1 : ∀ {h : WH} {a : Int} {l : Addr}, h m = some (stD c l a) → ixF (.ref m) (.str "left") h = some (.val (.ref l)) := fun e => o_ixK e rfl rfl
  have k2 : ∀ {h : WH} {a : Int} {l : Addr}, h m = some (stD c l a) → ixF (.ref m) (.str "at") h = some (.val (.int a)) := fun e => o_ixK e rfl rfl
  have k3 : ∀ {h : WH} {a : Int} {l : Addr}, h m = some (stD c l a) → ixF (.ref m) (.str "cells") h = some (.val (.ref c)) := fun e => o_ixK e rfl rfl
  simp only [e_wBody, t_xlaw_next, N_xlaw_next, wStart_def, List.length_cons, List.length_nil, List.map_cons, List.map_nil, List.cons_append, List.nil_append, Nat.reduceAdd, Nat.reduceSub, List.replicate_succ, List.replicate_zero, e_wSeq, e_wIfS, e_wTest, e_wBin, wVar_0, wVar_s, e_wC, k1 e1, e_outV, e_wLst, e_wNil]
  intro p hp
  have ep : Ext h (wup h p (.lst [])) := Ext.new hp
  rw [o_neL (ep _ _ e3) wup_same (okTs_ints left) rfl]
  have f1 := ep _ _ e1
  have f2 := ep _ _ e2
  have f3 := ep _ _ e3
  generalize wup h p (.lst []) = h1 at ep f1 f2 f3
  cases left with
  | cons rest left =>
    have dv : divOk rest (many : Int) = true := by unfold divOk; simp; omega
    simp only [List.map_cons, eqWs, Bool.not_false, e_outV, if_true, e_wSet, e_wBin, e_wC, wVar_0, wVar_s, k1 f1, List.set_cons_succ, List.set_cons_zero]
    have i0 : ixF (.ref l) (.int 0) h1 = some (.val (.int rest)) := by rw [o_ixL f3, List.map_cons, at_0]; rfl
    have s0 : setW (.ref l) (.int 0) (.int (rest / (many : Int))) h1 = some (l, .lst ((Wv.int rest :: left.map .int).set 0 (.int (rest / (many : Int))))) := o_setL (n := 0) f3 (by simp)
    simp only [i0, e_outV, e_wAsg, g_sub, e_wBin, e_wC, wVar_0, wVar_s, o_div, dv, if_true, k1 f1, s0, List.set_cons_zero]
    have g1 : wup h1 l (.lst (Wv.int (rest / (many : Int)) :: left.map .int)) m = some (stD c l a) := by rw [wup_ne (Ne.symm lm)]; exact f1
    have g2 : wup h1 l (.lst (Wv.int (rest / (many : Int)) :: left.map .int)) c = some (.lst (cells.map .int)) := by rw [wup_ne e4]; exact f2
    have g3 : wup h1 l (.lst (Wv.int (rest / (many : Int)) :: left.map .int)) l = some (.lst ((rest / (many : Int) :: left).map .int)) := wup_same
    have gs : ∀ y o, y ≠ l → h1 y = some o → wup h1 l (.lst (Wv.int (rest / (many : Int)) :: left.map .int)) y = some o := fun y o ny hy => by rw [wup_ne ny]; exact hy
    generalize wup h1 l (.lst (Wv.int (rest / (many : Int)) :: left.map .int)) = h2 at g1 g2 g3 gs
    have i1 : ixF (.ref l) (.int 0) h2 = some (.val (.int (rest / (many : Int)))) := by rw [o_ixL g3, List.map_cons, at_0]; rfl
    obtain ⟨v, ev, hv⟩ := mod_nat (x := rest) hm
    have mm : (0 : Int) < (many : Int) := by omega
    simp only [k1 g1, e_outV, i1, o_eqI]
    by_cases z : rest / (many : Int) = 0
    · simp only [z, decide_true, if_true, e_wSl, e_wPart, e_wNoPart, e_wBin, e_wC, wVar_0, wVar_s, k1 g1, e_outV, slF, g3, e_outL]
      intro p2 hp2
      have n2 : p2 ≠ m := by rintro rfl; rw [g1] at hp2; cases hp2
      have n3 : p2 ≠ c := by rintro rfl; rw [g2] at hp2; cases hp2
      have n4 : p2 ≠ l := by rintro rfl; rw [g3] at hp2; cases hp2
      have ct : cutW (List.map Wv.int ((0 : Int) :: left)) (some 1) none = left.map .int := cut_from (k := 1)
      rw [ct]
      have st2 : setW (.ref m) (.str "left") (.ref p2) (wup h2 p2 (.lst (left.map .int))) = some (m, stD c p2 a) := by
        rw [o_setK (x := .inr "left") (by rw [wup_ne (Ne.symm n2)]; exact g1) rfl (by simp; omega)]
        rfl
      rw [st2]
      simp only [e_wRet, e_wBin, wVar_0, wVar_s, o_mod, mm, if_true, e_outV, ev]
      refine q _ p2 v ⟨a, cells, left, wup_same, ?_, ?_, Ne.symm n3, e5, by omega⟩ ⟨fun y o h1' h2' hy => ?_, .inr ?_⟩ hv
      · rw [wup_ne (Ne.symm mc), wup_ne (Ne.symm n3)]; exact g2
      · rw [wup_ne n2, wup_same]
      · have y2 := gs y o h2' (ep _ _ hy)
        rw [wup_ne h1', wup_ne (by rintro rfl; rw [y2] at hp2; cases hp2)]
        exact y2
      · cases zz : h p2 with
        | none => rfl
        | some o => rw [gs p2 o n4 (ep _ _ zz)] at hp2; cases hp2
    · simp only [z, decide_false, Bool.false_eq_true, if_false, e_wNext, e_wRet, e_wBin, wVar_0, wVar_s, o_mod, mm, if_true, e_outV, ev]
      exact q _ l v ⟨a, cells, _, g1, g2, g3, e4, e5, by omega⟩ ⟨fun y o _ h2' hy => gs y o h2' (ep _ _ hy), .inl rfl⟩ hv
  | nil =>
    simp only [List.map_nil, eqWs, Bool.not_true, Bool.false_eq_true, if_false, e_outV, e_wNext, e_wSet, e_wAsg, e_wBin, e_wC, wVar_0, wVar_s, k2 f1, List.set_cons_succ, List.set_cons_zero, o_addI, g_sub]
    have st2 : setW (.ref m) (.str "at") (.int (a + 1)) h1 = some (m, stD c l (a + 1)) := by
      rw [o_setK (x := .inr "at") f1 rfl (by simp; omega)]
      rfl
    rw [st2]
    dsimp only
    have g1 : wup h1 m (stD c l (a + 1)) m = some (stD c l (a + 1)) := wup_same
    have g2 : wup h1 m (stD c l (a + 1)) c = some (.lst (cells.map .int)) := by rw [wup_ne (Ne.symm mc)]; exact f2
    have g3 : wup h1 m (stD c l (a + 1)) l = some (.lst (([] : List Int).map .int)) := by rw [wup_ne lm]; exact f3
    have gs : ∀ y o, y ≠ m → h1 y = some o → wup h1 m (stD c l (a + 1)) y = some o := fun y o ny hy => by rw [wup_ne ny]; exact hy
    generalize wup h1 m (stD c l (a + 1)) = h2 at g1 g2 g3 gs
    simp only [e_wIf, e_wTest, e_wBin, e_wC, wVar_0, wVar_s, k3 g1, e_outV, e_wLst, e_wNil]
    intro p2 hp2
    have ep2 : Ext h2 (wup h2 p2 (.lst [])) := Ext.new hp2
    rw [o_neL (ep2 _ _ g2) wup_same (okTs_ints cells) rfl]
    have j1 := ep2 _ _ g1
    have j2 := ep2 _ _ g2
    have j3 := ep2 _ _ g3
    generalize wup h2 p2 (.lst []) = h3 at ep2 j1 j2 j3
    have fin : ∀ x : Int, wSeq (wSet 4 (wBin mulF (wBin modI (wCB (C1 int1) (wCons (wVar 3) (wNil))) (wC (.int 2147483629))) (wBin addF (wBin mulF (wC (.int 2)) (wVar 2)) (wC (.int 3))))) (wSeq (wSet 4 (wBin modI (wBin addF (wBin addF (wBin addF (wVar 4) (wBin mulF (wBin mulF (wC (.int 7919)) (wVar 2)) (wVar 2))) (wBin mulF (wC (.int 104729)) (wVar 2))) (wC (.int 31))) (wC (.int 2147483647)))) (wRet (wBin modI (wBin divI (wBin modI (wBin mulF (wBin modI (wBin mulF (wVar 4) (wVar 4)) (wC (.int 2147483629))) (wC (.int 48271))) (wC (.int 2147483647))) (wC (.int 13))) (wVar 1))))
        { nx := fun _ h' => Q .non h', rt := Q, ex := fun _ => E } [some (.ref m), some (.int (many : Nat)), some (.int a), some (.int x), none, none] h3 := by
      intro x
      have m1 : ∀ y, mulOk (x % 2147483629) y = true := fun y => mulOk_m (by decide) (by decide)
      have m2 : mulOk 2 a = true := mulOk_l (by decide) (by decide)
      have m3 : mulOk 7919 a = true := mulOk_l (by decide) (by decide)
      have m4 : mulOk (7919 * a) a = true := mulOk_l (by omega) (by omega)
      have m5 : mulOk 104729 a = true := mulOk_l (by decide) (by decide)
      have d13 : ∀ y, divOk y 13 = true := fun y => by unfold divOk; simp
      have mm : (0 : Int) < (many : Int) := by omega
      simp only [e_wSeq, e_wSet, e_wBin, e_wCB, e_wCons, e_wNil, wVar_0, wVar_s, e_wC, o_intI, e_oV, o_mod, (by decide : (0 : Int) < 2147483629), if_true, e_outV, o_mul, m1, m2, o_addI, m3, m4, m5, (by decide : (0 : Int) < 2147483647), List.set_cons_succ, List.set_cons_zero, e_wRet]
      generalize hb : (x % 2147483629 * (2 * a + 3) + 7919 * a * a + 104729 * a + 31) % 2147483647 = b
      have m6 : mulOk b b = true := by rw [← hb]; exact mulOk_m (by decide) (by decide)
      have m7 : ∀ y, mulOk (b * b % 2147483629) y = true := fun y => mulOk_m (by decide) (by decide)
      simp only [m6, m7, if_true, e_outV, o_mul, o_mod, (by decide : (0 : Int) < 2147483629), (by decide : (0 : Int) < 2147483647), o_div, d13, mm]
      obtain ⟨v, ev, hv⟩ := mod_nat (x := b * b % 2147483629 * 48271 % 2147483647 / 13) hm
      rw [ev]
      exact q _ l v ⟨a + 1, cells, [], j1, j2, j3, e4, by omega, by omega⟩ ⟨fun y o h1' _ hy => ep2 _ _ (gs y o h1' (ep _ _ hy)), .inl rfl⟩ hv
    cases cells with
    | nil =>
      simp only [List.map_nil, eqWs, Bool.not_true, Bool.false_eq_true, if_false, e_outV]
      exact fin 0
    | cons x0 cells =>
      have ln : lenF [.ref c] h3 = some (.val (.int ((cells.length + 1 : Nat) : Int))) := by rw [o_lenL j2]; simp
      have mp : (0 : Int) < ((cells.length + 1 : Nat) : Int) := by omega
      obtain ⟨v, ev, hv⟩ := mod_nat (x := a) (show 0 < cells.length + 1 by omega)
      have ix : ∃ x, ixF (.ref c) (.int (v : Nat)) h3 = some (.val (.int x)) := ⟨_, ix_int (r := x0 :: cells) j2 (List.getElem?_eq_getElem (by simpa using hv))⟩
      obtain ⟨x, ix⟩ := ix
      simp only [List.map_cons, eqWs, Bool.not_false, e_outV, if_true, k3 j1, e_wCB, e_wCons, e_wNil, e_wBin, e_wC, wVar_0, wVar_s, ln, e_oV, o_mod, mp, ev, ix]
      exact fin x
end Pd
set_option Elab.async false
set_option linter.all false
set_option maxRecDepth 100000
set_option maxHeartbeats 1000000
namespace Pd
open PySem PySem.Spec PyProof.Rows L2
/-! ### small defs of the law -/
def sp_begun : WSp := fun ws h Q _ => ∃ ns : List Int, ws = [.scr ns] ∧ ns.length ≤ 1000 ∧ ∀ h' m c l, Ext h h' → LawSt m c l 0 h' → h m = none → h l = none → Q (.ref m) h'
theorem mo_begun : MoP sp_begun := fun ws h Q Q' E E' hq he ⟨ns, e1, e3, q⟩ => ⟨ns, e1, e3, fun h' m c' l b c d e => hq _ _ (q h' m c' l b c d e)⟩
theorem filt_ints (ns : List Int) (g : Wv → Bool) : ∃ ms : List Int, ((ns.map Wv.int).filter g).map (fun w => w) = ms.map Wv.int := by
  refine ⟨ns.filter fun x => g (.int x), ?_⟩
  rw [List.map_id', List.filter_map]
  rfl
theorem o_lstZ {ns : List Int} {h : WH} : C1 listZ1 [.scr ns] h = some (.new (.lst (ns.map .int))) := rfl
theorem q_begun (ws : List Wv) (h : WH) (Q : WQ) (E : WX) (s : sp_begun ws h Q E) : wBody t_xlaw_begun N_xlaw_begun.length ws h Q E := by
  obtain ⟨ns, rfl, hl, q⟩ := s
  have big : 1000 < sizeLine := by decide
  simp only [e_wBody, t_xlaw_begun, N_xlaw_begun, wStart_def, List.length_cons, List.length_nil, List.map_cons, List.map_nil, List.cons_append, List.nil_append, Nat.reduceAdd, Nat.reduceSub, List.replicate_succ, List.replicate_zero, e_wRet, wDisp, e_wdCons, e_wdNil, e_wC, e_wCB, e_wCons, e_wNil, wVar_0]
  intro p hp
  have ep : Ext h (wup h p (.dK [])) := Ext.new hp
  rw [o_lstZ]
  simp only [e_oN]
  intro c hc
  have cp : c ≠ p := by rintro rfl; rw [wup_same] at hc; cases hc
  have ec := Ext.new (o := .lst (ns.map .int)) hc
  have e1 := ep.trans ec
  have hp1 : wup (wup h p (.dK [])) c (.lst (ns.map .int)) p = some (.dK []) := by rw [wup_ne (Ne.symm cp), wup_same]
  have hc1 : wup (wup h p (.dK [])) c (.lst (ns.map .int)) c = some (.lst (ns.map .int)) := wup_same
  generalize wup (wup h p (.dK [])) c (.lst (ns.map .int)) = h1 at e1 hp1 hc1
  refine lc_pure (is := ns.map .int) (kp := fun _ => True) (h1 := h1) (fun R hR => ?_) (fun _ _ => trivial) (by rw [List.length_map]; omega) (fun w => match w with
      | .int z => decide ((10 : Int) ^ (18 : Int).toNat ≤ z)
      | _ => false) (fun w => w) ?_ ?_
  · exact hR
  · intro w hw
    obtain ⟨z, _, rfl⟩ := List.mem_map.mp hw
    refine ⟨_, rfl, fun h2 e2 => ?_⟩
    have env : List.set (wipeW [some (Wv.scr ns), none] [1]) 1 (some (.int z)) = [some (.scr ns), some (.int z)] := rfl
    rw [env]
    have pk : powOk 10 18 = true := by decide
    constructor
    · intro R hR
      simp only [e_wTest, e_wBin, e_wCB, e_wCons, e_wNil, wVar_0, wVar_s, e_wC, o_intI, e_oV, o_pow, pk, if_true, e_outV, o_ge]
      exact hR
    · intro _ R hR
      simp only [e_wCB, e_wCons, e_wNil, wVar_0, wVar_s, o_intI, e_oV]
      exact hR h2 (Ext.refl _)
  · intro D h2 hD e2 d2
    obtain ⟨ms, ems⟩ := filt_ints ns fun w => match w with
      | .int z => decide ((10 : Int) ^ (18 : Int).toNat ≤ z)
      | _ => false
    rw [ems] at d2
    have hp2 := e2 _ _ hp1
    have hc2 := e2 _ _ hc1
    have Dp : D ≠ p := by rintro rfl; rw [hD] at hp1; cases hp1
    have Dc : D ≠ c := by rintro rfl; rw [hD] at hc1; cases hc1
    refine ⟨hp2, by simp, ?_⟩
    show Q (.ref p) (wup h2 p (.dK (mergeA [] [((.inr "cells" : Key), Wv.ref c), (.inr "at", .int 0), (.inr "left", .ref D)])))
    have em : mergeA [] [((.inr "cells" : Key), Wv.ref c), (.inr "at", .int 0), (.inr "left", .ref D)] = [((.inr "cells" : Key), Wv.ref c), (.inr "at", .int 0), (.inr "left", .ref D)] := rfl
    rw [em]
    refine q _ p c D (fun y o hy => ?_) ⟨0, ns, ms, wup_same, by rw [wup_ne cp]; exact hc2, by rw [wup_ne Dp]; exact d2, Ne.symm Dc, by omega, by omega⟩ hp ?_
    · rw [wup_ne (by rintro rfl; rw [hp] at hy; cases hy)]
      exact e2 _ _ (e1 _ _ hy)
    · cases z : h D with
      | none => rfl
      | some o => rw [e1 _ _ z] at hD; cases hD
def sp_of : WSp := fun ws h Q _ => ∃ (m c l : Addr) (k : Nat) (b : Addr) (its : List Wv), ws = [.ref m, .ref b] ∧ LawSt m c l k h ∧ k < 1000000 ∧ h b = some (.lst its) ∧ 0 < its.length ∧ its.length < 1000 ∧ b ≠ l ∧
  ∀ h' l' w, LawSt m c l' (k + 1) h' → Step m l h l' h' → w ∈ its → Q w h'
theorem mo_of : MoP sp_of := fun ws h Q Q' E E' hq he ⟨m, c, l, k, b, its, e1, e2, e3, e4, e5, e6, e7, q⟩ => ⟨m, c, l, k, b, its, e1, e2, e3, e4, e5, e6, e7, fun h' l' w a b c => hq _ _ (q h' l' w a b c)⟩
theorem q_of (ws : List Wv) (h : WH) (Q : WQ) (E : WX) (s : sp_of ws h Q E) : wBody (t_xlaw_of sp_next) N_xlaw_of.length ws h Q E := by
  obtain ⟨m, c, l, k, b, its, rfl, st, hk, hb, h0, h1, bl, q⟩ := s
  have bm : b ≠ m := by
    obtain ⟨a, cells, left, e1, _⟩ := st.ex
    rintro rfl
    rw [e1] at hb
    cases hb
  simp only [e_wBody, t_xlaw_of, N_xlaw_of, wStart_def, List.length_cons, List.length_nil, List.map_cons, List.map_nil, List.cons_append, List.nil_append, Nat.reduceAdd, Nat.reduceSub, List.replicate_succ, List.replicate_zero, e_wRet, e_wBin, e_wCall, e_wCons, e_wNil, e_wCB, wVar_0, wVar_s, o_lenL hb, e_oV]
  refine ⟨m, c, l, k, its.length, rfl, st, hk, h0, by omega, fun h2 l2 v s2 p2 hv => ?_⟩
  have hb2 := p2.keep b _ bm bl hb
  have ev : its[v]? = some its[v] := List.getElem?_eq_getElem hv
  dsimp only
  rw [o_ixL hb2, at_n ev]
  exact q h2 l2 _ s2 p2 (List.getElem_mem hv)
/-! ### _law_like, where both are the same -/
def sp_like0 : WSp := fun ws h Q _ => ∃ i : Int, ws = [.int i, .int i] ∧ Q (.bl true) h
theorem mo_like0 : MoP sp_like0 := fun ws h Q Q' E E' hq he ⟨i, e, q⟩ => ⟨i, e, hq _ _ q⟩
def sp_like : WSp := fun ws h Q _ => ∃ w, ws = [w, w] ∧ ((∃ i : Int, w = .int i) ∨ ∃ ns : List Int, w = .tup (ns.map .int)) ∧ Q (.bl true) h
theorem mo_like : MoP sp_like := fun ws h Q Q' E E' hq he ⟨i, e, e2, q⟩ => ⟨i, e, e2, hq _ _ q⟩
theorem like_int {sp : WSp} {i : Int} {h : WH} {Q : WQ} {E : WX} (q : Q (.bl true) h) : wBody (t_xlaw_like sp) N_xlaw_like.length [.int i, .int i] h Q E := by
  simp [t_xlaw_like, N_xlaw_like, isiF, tyName]
  exact q
theorem q_like0 (ws : List Wv) (h : WH) (Q : WQ) (E : WX) (s : sp_like0 ws h Q E) : wBody (t_xlaw_like (fun _ _ _ _ => False)) N_xlaw_like.length ws h Q E := by
  obtain ⟨i, rfl, q⟩ := s
  exact like_int q
theorem q_likeG {sp : WSp} (hs : ∀ (i : Int) (h : WH) (Q : WQ) (E : WX), Q (.bl true) h → sp [.int i, .int i] h Q E) (ws : List Wv) (h : WH) (Q : WQ) (E : WX) (s : sp_like ws h Q E) : wBody (t_xlaw_like sp) N_xlaw_like.length ws h Q E := by
  obtain ⟨w, rfl, hw, q⟩ := s
  rcases hw with ⟨i, rfl⟩ | ⟨ns, rfl⟩
  · exact like_int q
  · simp [t_xlaw_like, N_xlaw_like, isiF, tyName]
    simp only [wFor, s_zip, wVar_0, wVar_s, s_zipT]
    refine ⟨fun i ρ h1 => h1 = h ∧ ∃ u v, ρ = [some (.tup (ns.map .int)), some (.tup (ns.map .int)), u, v], ⟨rfl, _, _, rfl⟩, fun _ _ _ _ _ => trivial, ?_, ?_⟩
    · rintro i w ρ h1 hi ⟨rfl, u, v, rfl⟩
      obtain ⟨w1, w2, g1, g2, rfl⟩ := zipW_get _ _ _ _ hi
      rw [g1] at g2
      cases g2
      rw [List.getElem?_map] at g1
      cases er : ns[i]? with
      | none => rw [er] at g1; cases g1
      | some x =>
        rw [er] at g1
        have g1 : w1 = .int x := by simpa using g1.symm
        subst g1
        refine ⟨_, rfl, ?_⟩
        simp only [List.set_cons_succ, List.set_cons_zero, e_wIfS, e_wNot, e_wTest, e_wCall, e_wCons, e_wNil, wVar_s, wVar_0]
        refine hs x _ _ _ ?_
        simp only [Bool.not_true, Bool.false_eq_true, if_false, e_wNext]
        exact ⟨trivial, _, _, rfl⟩
    · rintro ρ h1 ⟨rfl, u, v, rfl⟩
      exact q
/-! ### _law_product -/
def prodL : List Int → Int
  | [] => 1
  | x :: t => x * prodL t
def sp_product : WSp := fun ws h Q _ => ∃ ns : List Int, ws = [.tup (ns.map .int)] ∧ (∀ x, x ∈ ns → x = 1 ∨ x = -1) ∧ Q (.int (prodL ns)) h
theorem mo_product : MoP sp_product := fun ws h Q Q' E E' hq he ⟨i, e, e2, q⟩ => ⟨i, e, e2, hq _ _ q⟩
theorem prodL_app : ∀ (a : List Int) (x : Int), prodL (a ++ [x]) = prodL a * x
  | [], x => by simp [prodL]
  | y :: a, x => by rw [List.cons_append, prodL, prodL, prodL_app a x, Int.mul_assoc]
theorem q_product (ws : List Wv) (h : WH) (Q : WQ) (E : WX) (s : sp_product ws h Q E) : wBody t_xlaw_product N_xlaw_product.length ws h Q E := by
  obtain ⟨ns, rfl, one, q⟩ := s
  simp only [e_wBody, t_xlaw_product, N_xlaw_product, wStart_def, List.length_cons, List.length_nil, List.map_cons, List.map_nil, List.cons_append, List.nil_append, Nat.reduceAdd, Nat.reduceSub, List.replicate_succ, List.replicate_zero, e_wSeq, e_wSet, e_wC, List.set_cons_succ, List.set_cons_zero, wFor, s_seq, wVar_0, s_onT, id]
  refine ⟨fun i ρ h1 => h1 = h ∧ ∃ u, ρ = [some (.tup (ns.map .int)), some (.int (prodL (ns.take i))), u], ⟨rfl, _, rfl⟩, fun _ _ _ _ _ => trivial, ?_, ?_⟩
  · rintro i w ρ h1 hi ⟨rfl, u, rfl⟩
    rw [List.getElem?_map] at hi
    cases er : ns[i]? with
    | none => rw [er] at hi; cases hi
    | some x =>
      rw [er] at hi
      have hi : w = .int x := by simpa using hi.symm
      subst hi
      refine ⟨_, rfl, ?_⟩
      have ho := one x (List.mem_of_getElem? er)
      have mk : ∀ y, mulOk y x = true := fun y => by
        unfold mulOk
        rcases ho with rfl | rfl <;> simp
      have tk : ns.take (i + 1) = ns.take i ++ [x] := by rw [List.take_add_one, er]; rfl
      simp only [List.set_cons_succ, List.set_cons_zero, e_wBin, wVar_0, wVar_s, o_mul, mk, if_true, e_outV, tk, prodL_app]
      exact ⟨trivial, _, rfl⟩
  · rintro ρ h1 ⟨rfl, u, rfl⟩
    rw [List.length_map, List.take_length]
    simp only [e_wRet, wVar_0, wVar_s]
    exact q
end Pd
set_option Elab.async false
set_option linter.all false
set_option maxRecDepth 100000
set_option maxHeartbeats 1000000
namespace Pd
open PySem PySem.Spec PyProof.Rows L2
/-! ### a comprehension that makes the rows of a table -/
def LcBody (is : List Wv) (kp : WH → Prop) (p : Pat) (ut : TWT) (te : TWE) (vs : List Nat) (ρ : Wen) (Q : WQ) (h1 : WH) : Prop := ∀ D, h1 D = none → ∃ P : Nat → List Wv → WH → Prop, P 0 [] (wup h1 D (.lst [])) ∧
  (∀ i acc h, i ≤ is.length → P i acc h → kp h) ∧
  (∀ i acc w h, is[i]? = some w → P i acc h → ∃ ρ2, bindW p w (wipeW ρ vs) = some ρ2 ∧ ut ρ2 h (fun b h3 => if b = true then te ρ2 h3 (fun y h4 => h4 D = some (.lst acc) ∧ acc.length < sizeLine ∧ P (i + 1) (acc ++ [y]) (wup h4 D (.lst (acc ++ [y])))) F0 else P (i + 1) acc h3) F0) ∧
  ∀ acc h, P is.length acc h → Q (.ref D) h
theorem lc_body {s : TWI} {p : Pat} {ut : TWT} {te : TWE} {vs : List Nat} {ρ : Wen} {h : WH} {Q : WQ} {E : WX} : wLc s p ut te vs ρ h Q E = s ρ h (fun is kp h1 => LcBody is kp p ut te vs ρ Q h1) E := rfl
theorem tab_core {p : Pat} {te : TWE} {vs : List Nat} {ρ : Wen} {h1 : WH} {Q : WQ} {is : List Wv} {kp : WH → Prop}
    (hk : ∀ h2, Ext h1 h2 → kp h2) (hl : is.length < sizeLine) (f : Wv → List Int)
    (st : ∀ w, w ∈ is → ∃ ρ2, bindW p w (wipeW ρ vs) = some ρ2 ∧ ∀ h2, Ext h1 h2 → ∀ R : WQ, (∀ a h3, h2 a = none → Ext h2 h3 → h3 a = some (.lst ((f w).map .int)) → R (.ref a) h3) → te ρ2 h2 R F0)
    (q : ∀ D as h2, Ext h1 h2 → h1 D = none → (∀ a, a ∈ as → h1 a = none) → TabAt D as (is.map f) h2 → Q (.ref D) h2) : LcBody is kp p wYes te vs ρ Q h1 := by
  intro D hD
  refine ⟨fun i acc h2 => ∃ as : List Addr, acc = as.map .ref ∧ Ext h1 h2 ∧ (∀ a, a ∈ as → h1 a = none) ∧ TabAt D as ((is.take i).map f) h2, ⟨[], rfl, Ext.new hD, nofun, ⟨wup_same, rfl, List.nodup_nil, nofun, fun i a r e => by simp at e⟩⟩, fun i acc h2 _ ⟨_, _, e, _⟩ => hk h2 e, ?_, ?_⟩
  · rintro i acc w h2 hi ⟨as, rfl, e2, fr, t2⟩
    have tk : is.take (i + 1) = is.take i ++ [w] := by rw [List.take_add_one, hi]; rfl
    have li := (List.getElem?_eq_some_iff.mp hi).1
    obtain ⟨ρ2, b2, k2⟩ := st w (List.mem_of_getElem? hi)
    refine ⟨ρ2, b2, ?_⟩
    rw [e_wYes, if_pos rfl]
    refine k2 h2 e2 _ fun a h3 ha e3 h3a => ?_
    have t3 := t2.ext e3
    have aD : a ≠ D := by rintro rfl; rw [t2.l] at ha; cases ha
    have aas : a ∉ as := fun m => by
      obtain ⟨j, hj⟩ := List.getElem?_of_mem m
      have lj := (List.getElem?_eq_some_iff.mp hj).1
      rw [t2.len] at lj
      rw [t2.row j a _ hj (List.getElem?_eq_getElem lj)] at ha
      cases ha
    have al : as.length = i := by rw [t2.len, List.length_map, List.length_take]; omega
    refine ⟨t3.l, by rw [List.length_map]; omega, as ++ [a], by simp, Ext.put hD (e2.trans e3), ?_, ?_⟩
    · intro b hb
      rcases List.mem_append.mp hb with m | m
      · exact fr b m
      · rw [List.mem_singleton.mp m]
        exact Ext.free e2 ha
    · rw [tk, List.map_append]
      refine ⟨by rw [wup_same, List.map_append]; rfl, by rw [List.length_append, List.length_append, t2.len]; rfl, ?_, ?_, ?_⟩
      · rw [List.nodup_append]
        refine ⟨t2.nd, by simp, ?_⟩
        intro b hb c hc
        rw [List.mem_singleton.mp hc]
        rintro rfl
        exact aas hb
      · intro m
        rcases List.mem_append.mp m with m | m
        · exact t2.ne m
        · exact aD (List.mem_singleton.mp m).symm
      · intro j b r hb hr
        have lt : ((is.take i).map f).length = as.length := t2.len.symm
        rcases Nat.lt_or_ge j as.length with c | c
        · rw [List.getElem?_append_left c] at hb
          rw [List.getElem?_append_left (lt ▸ c)] at hr
          have bD : b ≠ D := by rintro rfl; exact t2.ne (List.mem_of_getElem? hb)
          rw [wup_ne bD]
          exact t3.row j b r hb hr
        · rw [List.getElem?_append_right c] at hb
          rw [List.getElem?_append_right (lt ▸ c), lt] at hr
          have : j - as.length = 0 := by
            have := (List.getElem?_eq_some_iff.mp hb).1
            simp at this
            omega
          rw [this] at hb hr
          simp at hb hr
          subst hb hr
          rw [wup_ne aD]
          exact h3a
  · rintro acc h2 ⟨as, rfl, e2, fr, t2⟩
    rw [List.take_length] at t2
    exact q D as h2 e2 hD fr t2
theorem lc_tab {s : TWI} {p : Pat} {te : TWE} {vs : List Nat} {ρ : Wen} {h h1 : WH} {Q : WQ} {E : WX} {is : List Wv} {kp : WH → Prop}
    (hs : ∀ R : List Wv → (WH → Prop) → WH → Prop, R is kp h1 → s ρ h R E) (hk : ∀ h2, Ext h1 h2 → kp h2) (hl : is.length < sizeLine) (f : Wv → List Int)
    (st : ∀ w, w ∈ is → ∃ ρ2, bindW p w (wipeW ρ vs) = some ρ2 ∧ ∀ h2, Ext h1 h2 → ∀ R : WQ, (∀ a h3, h2 a = none → Ext h2 h3 → h3 a = some (.lst ((f w).map .int)) → R (.ref a) h3) → te ρ2 h2 R F0)
    (q : ∀ D as h2, Ext h1 h2 → h1 D = none → (∀ a, a ∈ as → h1 a = none) → TabAt D as (is.map f) h2 → Q (.ref D) h2) : wLc s p wYes te vs ρ h Q E := by
  rw [lc_body]
  exact hs _ (tab_core hk hl f st q)
/-! ### sums by orders: the table of used columns in the heap -/
theorem memW_ints {c : Int} : ∀ (ns : List Int), memW (.int c) (ns.map .int) = decide (c ∈ ns)
  | [] => rfl
  | x :: t => by
    have := memW_ints (c := c) t
    unfold memW at this ⊢
    rw [List.map_cons, List.any_cons, this]
    by_cases e : x = c
    · subst e; simp [eqW]
    · have : ¬ c = x := fun h => e h.symm
      simp [eqW, e, this]
abbrev uF (p : List Int × Int) : List Key × Wv := (p.1.map (fun (x : Int) => (.inl x : Key)), .int p.2)
theorem keysT_ints : ∀ (l : List Int), keysT (l.map Wv.int) = some (l.map fun (x : Int) => (.inl x : Key))
  | [] => rfl
  | x :: t => by
    rw [List.map_cons]
    show ((keyK (.int x)).bind fun k => (keysT (t.map Wv.int)).map fun ks => k :: ks) = _
    rw [keysT_ints t]
    rfl
theorem keyI_inj : ∀ {l l' : List Int}, l.map (fun (x : Int) => (.inl x : Key)) = l'.map (fun (x : Int) => (.inl x : Key)) → l = l'
  | [], [], _ => rfl
  | [], _ :: _, e => by cases e
  | _ :: _, [], e => by cases e
  | x :: t, y :: t', e => by
    rw [List.map_cons, List.map_cons, List.cons.injEq] at e
    have h1 : x = y := Sum.inl.inj e.1
    rw [keyI_inj e.2, h1]
theorem look_us {k : List Int} : ∀ (us : Us), lookA (k.map fun (x : Int) => (.inl x : Key)) (us.map uF) = (getU k us).map .int
  | [] => rfl
  | p :: t => by
    rw [List.map_cons]
    unfold getU
    by_cases c : p.1 = k
    · have : lookA (k.map fun (x : Int) => (.inl x : Key)) (uF p :: t.map uF) = some (.int p.2) := if_pos (show p.1.map _ = k.map _ by rw [c])
      rw [this, if_pos c]
      rfl
    · have : lookA (k.map fun (x : Int) => (.inl x : Key)) (uF p :: t.map uF) = lookA (k.map fun (x : Int) => (.inl x : Key)) (t.map uF) := if_neg fun e => c (keyI_inj e)
      rw [this, if_neg c]
      exact look_us t
theorem put_us {k : List Int} {v : Int} (us : Us) : putA (k.map fun (x : Int) => (.inl x : Key)) (.int v) (us.map uF) = (putU k v us).map uF := by
  unfold putA putU
  rw [look_us, Option.isSome_map]
  by_cases c : (getU k us).isSome = true
  · rw [if_pos c, if_pos c, List.map_map, List.map_map]
    refine List.map_congr_left fun p _ => ?_
    simp only [Function.comp]
    by_cases e : p.1 = k
    · rw [if_pos e, if_pos (show p.1.map _ = k.map _ by rw [e])]
    · rw [if_neg e, if_neg fun h => e (keyI_inj h)]
  · rw [if_neg c, if_neg c, List.map_append]
    rfl
end Pd
set_option Elab.async false
set_option linter.all false
set_option maxRecDepth 100000
set_option maxHeartbeats 1000000
namespace Pd
open PySem PySem.Spec PyProof.Rows L2
/-! ### _law_orders_sum -/
/-- one more used column -/
theorem ord_step {s c : Nat} {x : Int} {r : List Int} {T : List (List Int)} {u : List Int} {base : Int} : (if usedS u c = true ∧ r.getD c 0 ≠ 0 then rk s T (off (usedS u) c) T.length else 0) * x + (base + x * sm c fun c => if usedS u c = true ∧ r.getD c 0 ≠ 0 then rk s T (off (usedS u) c) T.length else 0)
    = base + x * sm (c + 1) fun c => if usedS u c = true ∧ r.getD c 0 ≠ 0 then rk s T (off (usedS u) c) T.length else 0 := by
  have e : ∀ A B : Int, A * x + (base + x * B) = base + (x * B + x * A) := fun A B => by rw [Int.mul_comm A x]; omega
  rw [sm, Int.mul_add]
  exact e _ _
/-- the columns of one row, from one entry of the table -/
theorem ord_row {s i j : Nat} {r : List Int} {T : List (List Int)} {u : List Int} {x base : Int} {h h1 : WH} {L ra R F : Addr} {ls : Us} (hs : s ≤ 7) (lr : r.length = s) (hj : j < 1000000) (hi : i < 1000) (e1 : Ext h h1) (hL : h L = none) (hr : h ra = some (.lst (r.map .int)))
    (l1 : h1 L = some (.dT (ls.map uF))) (nd : (ls.map (·.1)).Nodup) (ll : ls.length ≤ j * 7) (lu : u.length ≤ i) (hb : ws s T ls = base) {D : WEnds} {a b c : Option Wv}
    (q : ∀ h2 ls2 a b c, Ext h h2 → h2 L = some (.dT (ls2.map uF)) → (ls2.map (·.1)).Nodup → ls2.length ≤ (j + 1) * 7 → ((∀ p, p ∈ ls → p.1.length ≤ i + 1) → ∀ p, p ∈ ls2 → p.1.length ≤ i + 1) → ws s T ls2 = base + x * gw s (r :: T) u →
      D.nx [some (.ref R), some (.ref F), some (.ref ra), some (.ref L), some (.tup (u.map .int)), some (.int x), a, b, c] h2) :
    wFor (wIEnum (wVar 2)) (.tp [.nm 6, .nm 7]) (wIfS (wAnd (wTest (wBin neF (wVar 7) (wC (.int 0)))) (wTest (wBin (memF true) (wVar 6) (wVar 4)))) (wSeq (wSet 8 (wCB (C1 tup1) (wCons (wCB (C1 sorted1) (wCons (wBin addF (wVar 4) (wTup (wCons (wVar 6) (wNil)))) (wNil))) (wNil)))) (wAsg (wBin addF (wGet2 (wVar 3) (wVar 8) (wC (.int 0))) (wVar 5)) (wgSub (wVar 3) (wVar 8)))) (wNext)) D
      [some (.ref R), some (.ref F), some (.ref ra), some (.ref L), some (.tup (u.map .int)), some (.int x), a, b, c] h1 := by
  simp only [wFor, s_enum, wVar_s, wVar_0]
  rw [s_onL (e1 _ _ hr)]
  refine ⟨fun k ρ h2 => ∃ ls2, Ext h h2 ∧ h2 L = some (.dT (ls2.map uF)) ∧ (ls2.map (·.1)).Nodup ∧ ls2.length ≤ j * 7 + k ∧ ((∀ p, p ∈ ls → p.1.length ≤ i + 1) → ∀ p, p ∈ ls2 → p.1.length ≤ i + 1) ∧
      ws s T ls2 = base + x * sm k (fun c => if usedS u c = true ∧ r.getD c 0 ≠ 0 then rk s T (off (usedS u) c) T.length else 0) ∧ ∃ a b c, ρ = [some (.ref R), some (.ref F), some (.ref ra), some (.ref L), some (.tup (u.map .int)), some (.int x), a, b, c],
    ⟨ls, e1, l1, nd, by omega, fun z => z, by rw [hb, sm]; omega, _, _, _, rfl⟩, fun k ρ h2 _ ⟨_, e2, _⟩ => e2 _ _ hr, ?_, ?_⟩
  · rintro k w ρ h2 hk ⟨ls2, e2, l2, nd2, ll2, lu2, ws2, a, b, c, rfl⟩
    obtain ⟨y, ey, rfl⟩ := enum_at hk
    rw [List.getElem?_map] at ey
    cases er : r[k]? with
    | none => rw [er] at ey; cases ey
    | some z =>
      rw [er] at ey
      have ey : y = .int z := by simpa using ey.symm
      subst ey
      have lk := (List.getElem?_eq_some_iff.mp er).1
      have gz : r.getD k 0 = z := by rw [List.getD_eq_getElem?_getD, er]; rfl
      refine ⟨_, rfl, ?_⟩
      have us : usedS u k = !memW (.int (k : Nat)) (u.map .int) := by
        rw [memW_ints]
        unfold usedS
        by_cases m : (k : Int) ∈ u <;> simp [m]
      have st := ord_step (s := s) (c := k) (x := x) (r := r) (T := T) (u := u) (base := base)
      rw [us, gz] at st
      simp only [List.set_cons_succ, List.set_cons_zero, e_wIfS, e_wAnd, e_wTest, e_wBin, e_wC, wVar_s, wVar_0, o_neI, e_outV, o_memT, okTs_ints, if_true]
      by_cases z0 : z = 0
      · rw [if_neg (fun hh => hh.2 z0)] at st
        simp only [z0, decide_true, Bool.not_true, Bool.false_eq_true, if_false, e_wNext]
        refine ⟨ls2, e2, l2, nd2, by omega, lu2, ?_, _, _, _, rfl⟩
        rw [ws2, ← st]
        omega
      · simp only [z0, decide_false, Bool.not_false, if_true]
        cases mm : memW (.int (k : Nat)) (u.map .int) with
        | true =>
          rw [mm, if_neg (fun hh => absurd hh.1 nofun)] at st
          simp only [Bool.not_true, Bool.false_eq_true, if_false, e_wNext]
          refine ⟨ls2, e2, l2, nd2, by omega, lu2, ?_, _, _, _, rfl⟩
          rw [ws2, ← st]
          omega
        | false =>
          rw [mm, if_pos ⟨rfl, z0⟩] at st
          have big : 16777216 = sizeLine := by decide
          have lad : (u.map Wv.int).length + [Wv.int (k : Nat)].length ≤ sizeLine := by rw [List.length_map]; simp; omega
          have eu : u.map Wv.int ++ [Wv.int (k : Nat)] = (u ++ [(k : Int)]).map Wv.int := by simp
          simp only [Bool.not_false, if_true, e_wSeq, e_wSet, e_wCB, e_wCons, e_wNil, e_wBin, e_wTup, wVar_s, wVar_0, o_addT, lad, e_outV, eu, o_sortT, e_oN]
          intro p hp
          rw [o_tupL wup_same]
          simp only [e_oV, List.set_cons_succ, List.set_cons_zero, e_wAsg, e_wBin, wGet2, wVar_s, wVar_0, e_wC]
          have Lp : L ≠ p := by rintro rfl; rw [l2] at hp; cases hp
          have l3 : wup h2 p (.lst ((sortI (u ++ [(k : Int)])).map .int)) L = some (.dT (ls2.map uF)) := by rw [wup_ne Lp]; exact l2
          have e3 : Ext h (wup h2 p (.lst ((sortI (u ++ [(k : Int)])).map .int))) := Ext.put (Ext.free e2 hp) e2
          generalize wup h2 p (.lst ((sortI (u ++ [(k : Int)])).map .int)) = h3 at l3 e3
          have gt : dlookW h3 (.ref L) (.tup ((sortI (u ++ [(k : Int)])).map .int)) = some ((getU (sortI (u ++ [(k : Int)])) ls2).map .int) := by
            simp only [dlookW, l3, keysT_ints, look_us]
          refine ⟨.inr ⟨rfl, .inr ⟨_, l3⟩⟩, ?_⟩
          rw [gt]
          have gd : ((getU (sortI (u ++ [(k : Int)])) ls2).map Wv.int).getD (.int 0) = .int ((getU (sortI (u ++ [(k : Int)])) ls2).getD 0) := by
            cases getU (sortI (u ++ [(k : Int)])) ls2 <;> rfl
          simp only [gd, o_addI, e_outV, g_sub, wVar_s, wVar_0]
          rw [o_setD l3 (keysT_ints _) (by rw [List.length_map]; omega), put_us]
          have hw := ws_put (m := s) (T := T) (k := sortI (u ++ [(k : Int)])) (x := x) nd2
          rw [gw_more (u := u) (c := k) (fun y => by rw [(sortI_perm _).mem_iff, List.mem_append, List.mem_singleton])] at hw
          refine ⟨_, Ext.put hL e3, wup_same, putU_nodup nd2, ?_, ?_, ?_, _, _, _, rfl⟩
          · have := putU_len (k := sortI (u ++ [(k : Int)])) (v := (getU (sortI (u ++ [(k : Int)])) ls2).getD 0 + x) (us := ls2)
            omega
          · intro z p hp
            have lk : (sortI (u ++ [(k : Int)])).length ≤ i + 1 := by rw [(sortI_perm _).length_eq]; simp; omega
            unfold putU at hp
            split at hp
            · obtain ⟨p', hp', rfl⟩ := List.mem_map.mp hp
              split
              · exact lu2 z p' hp'
              · exact lu2 z p' hp'
            · rcases List.mem_append.mp hp with m | m
              · exact lu2 z p m
              · rw [List.mem_singleton.mp m]
                exact lk
          · rw [hw, ws2, ← st, Int.mul_comm x (rk s T (off (usedS u) k) T.length)]
            omega
  · rintro ρ h2 ⟨ls2, e2, l2, nd2, ll2, lu2, ws2, a, b, c, rfl⟩
    rw [enumW_length, List.length_map, lr] at ll2 ws2
    refine q h2 ls2 _ _ _ e2 l2 nd2 (by omega) lu2 ?_
    rw [ws2, gw_row]
end Pd
set_option Elab.async false
set_option linter.all false
set_option maxRecDepth 100000
set_option maxHeartbeats 1000000
namespace Pd
open PySem PySem.Spec PyProof.Rows L2
def sp_orders : WSp := fun ws h Q _ => ∃ (R : Addr) (as : List Addr) (T : List (List Int)) (s : Nat), s ≤ 7 ∧ T.length ≤ 7 ∧ ws = [.ref R] ∧ TabAt R as T h ∧ (∀ r, r ∈ T → r.length = s) ∧ ∀ h', Ext h h' → Q (.int (rk s T (from_ 0) T.length)) h'
theorem mo_orders : MoP sp_orders := fun ws h Q Q' E E' hq he ⟨R, as, T, s, e1, e2, e3, e4, e5, q⟩ => ⟨R, as, T, s, e1, e2, e3, e4, e5, fun h' a => hq _ _ (q h' a)⟩
theorem sum_take_ws {s : Nat} {T : List (List Int)} {us : Us} {j : Nat} {p : List Int × Int} (e : us[j]? = some p) : ((us.take (j + 1)).map fun p => p.2 * gw s T p.1).sum = ((us.take j).map fun p => p.2 * gw s T p.1).sum + p.2 * gw s T p.1 := by
  rw [List.take_add_one, e]
  simp
@[simp] theorem e_wVals {te : TWE} {ρ : Wen} {h : WH} {Q : WQ} {E : WX} : wVals te ρ h Q E = te ρ h (fun w h1 => match w with
  | .ref a => match (h1 a).bind valsO with
    | some ws => ∀ p, h1 p = none → Q (.ref p) (wup h1 p (.lst ws))
    | none => False
  | _ => False) E := rfl
theorem q_orders (ws_ : List Wv) (h : WH) (Q : WQ) (E : WX) (sp : sp_orders ws_ h Q E) : wBody t_xlaw_orders_sum N_xlaw_orders_sum.length ws_ h Q E := by
  obtain ⟨R, as, T, s, hs, ht, rfl, tab, lr, q⟩ := sp
  simp only [e_wBody, t_xlaw_orders_sum, N_xlaw_orders_sum, wStart_def, List.length_cons, List.length_nil, List.map_cons, List.map_nil, List.cons_append, List.nil_append, Nat.reduceAdd, Nat.reduceSub, List.replicate_succ, List.replicate_zero, e_wSeq, e_wSet, wDisp1T, e_wTup, e_wNil, e_wC]
  intro F0 hF0
  simp only [keysT]
  refine ⟨wup_same, ?_⟩
  rw [wup_wup]
  simp only [List.set_cons_succ, List.set_cons_zero]
  have e0 : Ext h (wup h F0 (.dT [([], .int 1)])) := Ext.new hF0
  have pw : ∀ i, i ≤ 7 → 7 ^ i ≤ 823543 := fun i hi => Nat.le_trans (Nat.pow_le_pow_right (by omega) hi) (by decide)
  rw [wFor]
  simp only [s_seq, wVar_0]
  rw [s_onL (e0 _ _ tab.l)]
  refine ⟨fun i ρ h1 => ∃ F us, Ext h h1 ∧ h F = none ∧ h1 F = some (.dT (us.map uF)) ∧ (us.map (·.1)).Nodup ∧ us.length ≤ 7 ^ i ∧ (∀ p, p ∈ us → p.1.length ≤ i) ∧ ws s (T.drop i) us = rk s T (from_ 0) T.length ∧ ∃ a b c d e f g, ρ = [some (.ref R), some (.ref F), a, b, c, d, e, f, g],
    ⟨F0, [([], 1)], e0, hF0, wup_same, by simp, by simp, by simp, by rw [List.drop_zero, gw_start], _, _, _, _, _, _, _, rfl⟩, fun i ρ h1 _ ⟨_, _, e1, _⟩ => e1 _ _ tab.l, ?_, ?_⟩
  · rintro i w ρ h1 hi ⟨F, us, e1, hF, f1, nd, lu, ul, wsum, a, b, c, d, e, f, g, rfl⟩
    rw [id, List.getElem?_map] at hi
    cases ea : as[i]? with
    | none => rw [ea] at hi; cases hi
    | some ra =>
    rw [ea] at hi
    have hi : w = .ref ra := by simpa using hi.symm
    subst hi
    have la := (List.getElem?_eq_some_iff.mp ea).1
    rw [tab.len] at la
    have er : T[i]? = some T[i] := List.getElem?_eq_getElem la
    generalize T[i] = r at er
    have hr := tab.row i ra r ea er
    have lr' := lr r (List.mem_of_getElem? er)
    refine ⟨_, rfl, ?_⟩
    simp only [List.set_cons_succ, List.set_cons_zero, e_newT]
    intro L hL1
    have FL : F ≠ L := by rintro rfl; rw [f1] at hL1; cases hL1
    have hL : h L = none := Ext.free e1 hL1
    have e2 : Ext h (wup h1 L (.dT [])) := Ext.put hL e1
    have f2 : wup h1 L (.dT []) F = some (.dT (us.map uF)) := by rw [wup_ne FL]; exact f1
    have l2 : wup h1 L (.dT []) L = some (.dT []) := wup_same
    generalize wup h1 L (.dT []) = h2 at e2 f2 l2
    refine ⟨F, .dT (us.map uF), _, rfl, f2, rfl, ?_⟩
    refine ⟨fun j ρ h3 => ∃ ls, Ext h h3 ∧ h3 L = some (.dT (ls.map uF)) ∧ (ls.map (·.1)).Nodup ∧ ls.length ≤ j * 7 ∧ (∀ p, p ∈ ls → p.1.length ≤ i + 1) ∧ ws s (T.drop (i + 1)) ls = ((us.take j).map fun p => p.2 * gw s (T.drop i) p.1).sum ∧
      ∃ c d e f g, ρ = [some (.ref R), some (.ref F), some (.ref ra), some (.ref L), c, d, e, f, g], ⟨[], fun y o hy => ?_, ?_, by simp, by simp, nofun, rfl, _, _, _, _, _, rfl⟩, ?_, ?_⟩
    · rw [hidO_ne (by rintro rfl; rw [hF] at hy; cases hy)]
      exact e2 _ _ hy
    · rw [hidO_ne (Ne.symm FL)]
      exact l2
    · rintro j w ρ h3 hj ⟨ls, e3, l3, nd3, ll3, lu3, ws3, c, d, e, f, g, rfl⟩ _
      rw [List.getElem?_map] at hj
      cases eu : (us.map uF)[j]? with
      | none => rw [eu] at hj; cases hj
      | some kv =>
      rw [eu] at hj
      rw [List.getElem?_map] at eu
      cases eu2 : us[j]? with
      | none => rw [eu2] at eu; cases eu
      | some p =>
      rw [eu2] at eu
      cases eu
      have ew : w = .tup [.tup (p.1.map .int), .int p.2] := by
        have : w = .tup [.tup ((p.1.map (fun (x : Int) => (.inl x : Key))).map keyW), .int p.2] := by simpa using hj.symm
        rw [this, List.map_map]
        rfl
      subst ew
      have lj := (List.getElem?_eq_some_iff.mp eu2).1
      have := pw i (by omega)
      refine ⟨_, rfl, ?_⟩
      refine ord_row (s := s) (i := i) (j := j) (T := T.drop (i + 1)) (r := r) (u := p.1) (x := p.2) hs lr' (by omega) (by omega) e3 hL hr l3 nd3 ll3 (ul p (List.mem_of_getElem? eu2)) ws3 fun h4 ls4 a b c e4 l4 nd4 ll4 lu4 ws4 => ?_
      refine ⟨ls4, e4, l4, nd4, ll4, lu4 lu3, ?_, _, _, _, _, _, rfl⟩
      rw [ws4, sum_take_ws eu2, drop_at er]
    · rintro ρ h3 ⟨ls, e3, l3, nd3, ll3, lu3, ws3, c, d, e, f, g, rfl⟩ hF3
      rw [List.length_map, List.length_map, List.take_length] at ws3
      rw [List.length_map, List.length_map] at ll3
      simp only [wVar_s, wVar_0, List.set_cons_succ, List.set_cons_zero]
      refine ⟨L, ls, Ext.put hF e3, hL, ?_, nd3, ?_, lu3, ?_, _, _, _, _, _, _, _, rfl⟩
      · rw [wup_ne (by rintro rfl; rw [l3] at hF3; cases hF3)]
        exact l3
      · rw [Nat.pow_succ]
        have : us.length * 7 ≤ 7 ^ i * 7 := Nat.mul_le_mul_right 7 lu
        omega
      · rw [ws3, ← wsum]
        rfl
  · rintro ρ h1 ⟨F, us, e1, hF, f1, nd, lu, ul, wsum, a, b, c, d, e, f, g, rfl⟩
    rw [id, List.length_map, tab.len, List.drop_eq_nil_of_le (Nat.le_refl _), ws_end] at wsum
    simp only [e_wRet, e_wCB, e_wCons, e_wNil, e_wVals, wVar_s, wVar_0, f1, Option.bind_some, valsO]
    intro p hp
    have ev : (us.map uF).map (·.2) = (us.map (·.2)).map Wv.int := by
      rw [List.map_map, List.map_map]
      rfl
    rw [o_sum (by rw [wup_same, ev]), wsum]
    simp only [e_oV]
    exact q _ (Ext.put (Ext.free e1 hp) e1)
end Pd
set_option Elab.async false
set_option linter.all false
set_option maxRecDepth 100000
set_option maxHeartbeats 1000000
namespace Pd
open PySem PySem.Spec PyProof.Rows L2
/-! ### _law_is_odd -/
section
variable {R : Addr} {as : List Addr} {rows : List (List Int)} {h : WH} {n : Nat}
/-- a row is replaced by a new list -/
theorem TabAt.repl (t : TabAt R as rows h) {i : Nat} {r : List Int} {p : Addr} (li : i < as.length) (hp : p ∉ as) (pR : p ≠ R) (hr : h p = some (.lst (r.map .int))) : TabAt R (as.set i p) (rows.set i r) (wup h R (.lst ((as.map Wv.ref).set i (.ref p)))) where
  l := by rw [wup_same, List.map_set]
  len := by rw [List.length_set, List.length_set]; exact t.len
  nd := by
    have h1 := set_perm' (x := p) as i li
    have h2 : (as[i] :: as.eraseIdx i).Nodup := (List.Perm.nodup_iff (get_perm (List.getElem?_eq_getElem li))).mp t.nd
    rw [List.Perm.nodup_iff h1, List.nodup_cons]
    exact ⟨fun m => hp (List.mem_of_mem_eraseIdx m), (List.nodup_cons.mp h2).2⟩
  ne := fun m => by
    rcases List.mem_or_eq_of_mem_set m with m | m
    · exact t.ne m
    · exact pR m.symm
  row := fun j a q ha hq => by
    by_cases c : j = i
    · subst c
      rw [List.getElem?_set_self li] at ha
      rw [List.getElem?_set_self (t.len ▸ li)] at hq
      cases ha
      cases hq
      rw [wup_ne pR]
      exact hr
    · rw [List.getElem?_set_ne (Ne.symm c)] at ha hq
      rw [wup_ne (by rintro rfl; exact t.ne (List.mem_of_getElem? ha))]
      exact t.row j a q ha hq
theorem TabAt.cellB (t : TabAt R as rows h) (s : Tb n rows) {i j : Nat} (hi : i < n) (hj : j < n) : ∃ r a, rows[i]? = some r ∧ as[i]? = some a ∧ ixF (.ref R) (.int (i : Nat)) h = some (.val (.ref a)) ∧ h a = some (.lst (r.map .int)) ∧ ixF (.ref a) (.int (j : Nat)) h = some (.val (.int (r.getD j 0))) := by
  have li : i < rows.length := by rw [s.len]; exact hi
  have er : rows[i]? = some rows[i] := List.getElem?_eq_getElem li
  generalize rows[i] = r at er
  obtain ⟨a, a1, a2, a3⟩ := t.at_ er
  have ll := s.ln r (List.mem_of_getElem? er)
  refine ⟨r, a, er, a1, a2, a3, ix_int a3 ?_⟩
  rw [List.getD_eq_getElem?_getD, List.getElem?_eq_getElem (by omega)]
  rfl
end
theorem Tb.swap {n : Nat} {rows : List (List Int)} (t : Tb n rows) {i f : Nat} {x y : List Int} (hx : x ∈ rows) (hy : y ∈ rows) : Tb n ((rows.set i y).set f x) := (t.set (t.ln y hy) (t.bit y hy)).set (t.ln x hx) (t.bit x hx)
theorem cellM_at {rows : List (List Int)} {i j : Nat} {r : List Int} (e : rows[i]? = some r) : cellM rows i j = r.getD j 0 := by
  have : rows.getD i [] = r := by rw [List.getD_eq_getElem?_getD, e]; rfl
  unfold cellM
  rw [this]
def farB (n : Nat) (rows : List (List Int)) (spot : Nat) : List Nat := (List.range' spot (n - spot)).filter fun k => decide (cellM rows k spot = 1)
variable {R0 : Addr} {n i : Nat} {par : Bool} {h : WH} {w0 : Wv}
/-- the rows under one are cleared -/
theorem odd_rows {R : Addr} {as : List Addr} {rows : List (List Int)} {h1 : WH} (n7 : n ≤ 7) (hi : i < n) (e1 : Ext h h1) (hR : h R = none) (t1 : TabAt R as rows h1) (s1 : Tb n rows) (p1 : p2 n ((rows.drop i).map rowB) (from_ i) = par) (one : cellM rows i i = 1) {D : WEnds} {w3 a b c d : Option Wv}
    (q : ∀ h2 as rows a b c d, Ext h h2 → TabAt R as rows h2 → Tb n rows → p2 n ((rows.drop (i + 1)).map rowB) (from_ (i + 1)) = par → D.nx [some w0, some (.ref R), some (.int (i : Nat)), w3, a, b, c, d] h2) :
    wFor (wIRng2 (wBin addF (wVar 2) (wC (.int 1))) (wCB lenF (wCons (wVar 1) (wNil)))) (.nm 4) (wIfS (wTest (wBin eqF (wBin ixF (wBin ixF (wVar 1) (wVar 4)) (wVar 2)) (wC (.int 1)))) (wAsg (wLc (wIZip (wBin ixF (wVar 1) (wVar 4)) (wBin ixF (wVar 1) (wVar 2))) (.tp [.nm 6, .nm 7]) (wYes) (wBin modI (wBin addF (wVar 6) (wVar 7)) (wC (.int 2))) [6, 7]) (wgSub (wVar 1) (wVar 4))) (wNext)) D
      [some w0, some (.ref R), some (.int (i : Nat)), w3, a, b, c, d] h1 := by
  have la : ∀ {as : List Addr} {rows : List (List Int)} {h : WH}, TabAt R as rows h → Tb n rows → lenF [.ref R] h = some (.val (.int (n : Nat))) := fun t s => by rw [o_lenL t.l, List.length_map, t.len, s.len]
  have r1 : rgOk ((i : Int) + 1) = true := by unfold rgOk; simp; omega
  have r2 : rgOk (n : Int) = true := by unfold rgOk; simp; omega
  simp only [wFor, s_rng2, e_wBin, e_wC, e_wCB, e_wCons, e_wNil, wVar_s, wVar_0, o_addI, e_outV, la t1 s1, e_oV]
  refine ⟨⟨r1, r2⟩, fun j ρ h2 => ∃ as rows, Ext h h2 ∧ TabAt R as rows h2 ∧ Tb n rows ∧ p2 n ((rows.drop i).map rowB) (from_ i) = par ∧ cellM rows i i = 1 ∧ (∀ k r, i < k → k < i + 1 + j → rows[k]? = some r → r.getD i 0 = 0) ∧ ∃ a b c d, ρ = [some w0, some (.ref R), some (.int (i : Nat)), w3, a, b, c, d],
    ⟨as, rows, e1, t1, s1, p1, one, fun k r h1 h2 => by omega, _, _, _, _, rfl⟩, fun _ _ _ _ _ => trivial, ?_, ?_⟩
  · rintro j w ρ h2 hj ⟨as, rows, e2, t2, s2, p2', one, clr, a, b, c, d, rfl⟩
    obtain ⟨lj, rfl⟩ := rgW_at hj
    refine ⟨_, rfl, ?_⟩
    have cj : (i : Int) + 1 + (j : Int) = ((i + 1 + j : Nat) : Int) := by omega
    rw [cj]
    have hk : i + 1 + j < n := by omega
    obtain ⟨rk_, ak, ek1, ek2, ek3, ek4, ek5⟩ := t2.cellB s2 hk hi
    obtain ⟨ri, ai, ei1, ei2, ei3, ei4, ei5⟩ := t2.cellB s2 hi hi
    have mk := List.mem_of_getElem? ek1
    have mi := List.mem_of_getElem? ei1
    have bk := bit_at (s2.bit rk_ mk) i
    simp only [List.set_cons_succ, List.set_cons_zero, e_wIfS, e_wTest, e_wBin, e_wC, wVar_s, wVar_0, ek3, ek5, e_outV, o_eqI]
    rcases bk with z | z
    · rw [if_neg (by rw [z]; decide), e_wNext]
      refine ⟨as, rows, e2, t2, s2, p2', one, fun k r h1 h2 h3 => ?_, _, _, _, _, rfl⟩
      by_cases ke : k = i + 1 + j
      · subst ke
        rw [ek1] at h3
        cases h3
        exact z
      · exact clr k r h1 (by omega) h3
    · rw [if_pos (by rw [z]; decide), e_wAsg]
      refine lc_pure (is := zipW (rk_.map .int) (ri.map .int)) (kp := fun h => h ak = some (.lst (rk_.map .int)) ∧ h ai = some (.lst (ri.map .int))) (h1 := h2) (fun RR hR => ?_) (fun h3 e3 => ⟨e3 _ _ ek4, e3 _ _ ei4⟩) ?_ (fun _ => true) (fun w => match w with
        | .tup [.int x, .int y] => .int ((x + y) % 2)
        | _ => .non) ?_ ?_
      · simp only [s_zip, e_wBin, wVar_s, wVar_0, ek3, ei3, e_outV]
        rw [s_zipL ek4 ei4]
        exact hR
      · rw [zipW_length, List.length_map, List.length_map, s2.ln _ mk, s2.ln _ mi]
        have : 1000 < sizeLine := by decide
        omega
      · intro w hw
        obtain ⟨t, ht⟩ := List.getElem?_of_mem hw
        obtain ⟨w1, w2, g1, g2, rfl⟩ := zipW_get _ _ _ _ ht
        rw [List.getElem?_map] at g1 g2
        cases er : rk_[t]? with
        | none => rw [er] at g1; cases g1
        | some x =>
        cases es : ri[t]? with
        | none => rw [es] at g2; cases g2
        | some y =>
        rw [er] at g1
        rw [es] at g2
        have g1 : w1 = .int x := by simpa using g1.symm
        have g2 : w2 = .int y := by simpa using g2.symm
        subst g1 g2
        refine ⟨_, rfl, fun h3 e3 => ⟨fun RQ hRQ => hRQ, fun _ RQ hRQ => ?_⟩⟩
        show wBin modI (wBin addF (wVar 6) (wVar 7)) (wC (.int 2)) _ h3 RQ F0
        have env : List.set (List.set (wipeW [some w0, some (.ref R), some (.int (i : Nat)), w3, some (.int ((i + 1 + j : Nat) : Int)), b, c, d] [6, 7]) 6 (some (.int x))) 7 (some (.int y)) = [some w0, some (.ref R), some (.int (i : Nat)), w3, some (.int ((i + 1 + j : Nat) : Int)), b, some (.int x), some (.int y)] := rfl
        rw [env]
        simp only [e_wBin, wVar_s, wVar_0, o_addI, e_outV, e_wC, o_mod, (by decide : (0 : Int) < 2), if_true]
        exact hRQ h3 (Ext.refl _)
      · intro p h3 hp e3 d3
        have el : ((zipW (rk_.map Wv.int) (ri.map Wv.int)).filter fun _ => true).map (fun w => match w with
          | .tup [.int x, .int y] => .int ((x + y) % 2)
          | _ => .non) = (addR rk_ ri).map Wv.int := by
          rw [List.filter_eq_self.mpr fun _ _ => rfl]
          unfold addR
          clear d3 ek1 ek4 ek5 ei1 ei4 ei5 mk mi z
          induction rk_ generalizing ri with
          | nil => rfl
          | cons x t ih =>
            cases ri with
            | nil => rfl
            | cons y u => exact congrArg _ (ih u)
        rw [el] at d3
        have t3 := t2.ext e3
        have pas : p ∉ as := fun m => by
          obtain ⟨t, ht⟩ := List.getElem?_of_mem m
          have lt := (List.getElem?_eq_some_iff.mp ht).1
          rw [t2.len] at lt
          rw [t2.row t p _ ht (List.getElem?_eq_getElem lt)] at hp
          cases hp
        have pR : p ≠ R := by rintro rfl; rw [t2.l] at hp; cases hp
        have lk : i + 1 + j < as.length := (List.getElem?_eq_some_iff.mp ek2).1
        simp only [g_sub, wVar_s, wVar_0]
        rw [o_setL t3.l (by rw [List.length_map]; exact lk)]
        have ll : (addR rk_ ri).length = n := addR_len (s2.ln _ mk) (s2.ln _ mi)
        have gi : (rows.set (i + 1 + j) (addR rk_ ri)).getD i [] = rows.getD i [] := by
          rw [List.getD_eq_getElem?_getD, List.getElem?_set_ne (by omega), List.getD_eq_getElem?_getD]
        refine ⟨_, _, Ext.put hR (e2.trans e3), t3.repl lk pas pR d3, s2.set ll addR_bit, ?_, ?_, ?_, _, _, _, _, rfl⟩
        · rw [elim_op s2 (by omega) ei1 ek1]
          exact p2'
        · unfold cellM at one ⊢
          rw [gi]
          exact one
        · intro k r h1 h2 h3
          by_cases ke : k = i + 1 + j
          · subst ke
            rw [List.getElem?_set_self (by rw [s2.len]; exact hk)] at h3
            cases h3
            have g1 : ri.getD i 0 = 1 := by rw [← cellM_at ei1]; exact one
            have lrk := s2.ln _ mk
            have lri := s2.ln _ mi
            unfold addR
            rw [List.getD_eq_getElem?_getD, List.getElem?_zipWith]
            rw [List.getD_eq_getElem?_getD, List.getElem?_eq_getElem (show i < rk_.length by omega)] at z
            rw [List.getD_eq_getElem?_getD, List.getElem?_eq_getElem (show i < ri.length by omega)] at g1
            rw [List.getElem?_eq_getElem (show i < rk_.length by omega), List.getElem?_eq_getElem (show i < ri.length by omega)]
            simp only [Option.getD_some] at z g1 ⊢
            rw [z, g1]
            rfl
          · rw [List.getElem?_set_ne (Ne.symm ke)] at h3
            exact clr k r h1 (by omega) h3
  · rintro ρ h2 ⟨as, rows, e2, t2, s2, p2', one, clr, a, b, c, d, rfl⟩
    rw [rgW_length] at clr
    refine q h2 as rows _ _ _ _ e2 t2 s2 ?_
    obtain ⟨ri, ai, ei1, _⟩ := t2.cellB s2 hi hi
    rw [← elim_next s2 ei1 ?_ ?_]
    · exact p2'
    · rw [← cellM_at ei1]; exact one
    · intro k r h1 h2
      have := (List.getElem?_eq_some_iff.mp h2).1
      have := s2.len
      exact clr k r h1 (by omega) h2
end Pd
set_option Elab.async false
set_option linter.all false
set_option maxRecDepth 100000
set_option maxHeartbeats 1000000
namespace Pd
open PySem PySem.Spec PyProof.Rows L2
def sp_odd : WSp := fun ws h Q _ => ∃ (R : Addr) (as : List Addr) (T : List (List Int)) (n : Nat), n ≤ 7 ∧ ws = [.ref R] ∧ TabAt R as T h ∧ Tb n T ∧ ∀ h', Ext h h' → Q (.bl (p2 n (T.map rowB) (from_ 0))) h'
theorem mo_odd : MoP sp_odd := fun ws h Q Q' E E' hq he ⟨R, as, T, s, e1, e2, e3, e4, q⟩ => ⟨R, as, T, s, e1, e2, e3, e4, fun h' a => hq _ _ (q h' a)⟩
theorem e_wFor {s : TWI} {p : Pat} {tb : TWS} {D : WEnds} {ρ : Wen} {h : WH} : wFor s p tb D ρ h = s ρ h (fun is kp h1 => ∃ P : Nat → Wen → WH → Prop, P 0 ρ h1 ∧ (∀ i ρ h, i ≤ is.length → P i ρ h → kp h) ∧
  (∀ i w ρ h, is[i]? = some w → P i ρ h → ∃ ρ2, bindW p w ρ = some ρ2 ∧ tb { D with nx := P (i + 1), ct := P (i + 1), bk := D.nx } ρ2 h) ∧ ∀ ρ h, P is.length ρ h → D.nx ρ h) (D.ex ρ) := rfl
theorem mod2_row {r : List Int} (b : ∀ x, x ∈ r → x = 0 ∨ x = 1) : (r.map fun x => x % 2) = r := by
  conv => rhs; rw [← List.map_id r]
  refine List.map_congr_left fun x hx => ?_
  rcases b x hx with rfl | rfl <;> rfl
theorem q_is_odd (ws_ : List Wv) (h : WH) (Q : WQ) (E : WX) (sp : sp_odd ws_ h Q E) : wBody t_xlaw_is_odd N_xlaw_is_odd.length ws_ h Q E := by
  obtain ⟨R0, as0, T, n, n7, rfl, tab, tb, q⟩ := sp
  have big : 1000 < sizeLine := by decide
  simp only [e_wBody, t_xlaw_is_odd, N_xlaw_is_odd, wStart_def, List.length_cons, List.length_nil, List.map_cons, List.map_nil, List.cons_append, List.nil_append, Nat.reduceAdd, Nat.reduceSub, List.replicate_succ, List.replicate_zero]
  rw [e_wSeq, e_wSet]
  have rowOf : ∀ w, w ∈ as0.map Wv.ref → ∃ a r, w = .ref a ∧ r ∈ T ∧ h a = some (.lst (r.map .int)) := fun w hw => by
    obtain ⟨a, ha, rfl⟩ := List.mem_map.mp hw
    obtain ⟨i, hi⟩ := List.getElem?_of_mem ha
    have li := (List.getElem?_eq_some_iff.mp hi).1
    rw [tab.len] at li
    exact ⟨a, T[i], rfl, List.getElem_mem li, tab.row i a _ hi (List.getElem?_eq_getElem li)⟩
  let rowAt : Wv → List Int := fun w => match w with
    | .ref a => match h a with
      | some (.lst ws) => (intsOf ws).getD []
      | _ => []
    | _ => []
  have rowAt_is : ∀ {a : Addr} {r : List Int}, h a = some (.lst (r.map .int)) → rowAt (.ref a) = r := fun {a r} e => by
    show (match h a with
      | some (.lst ws) => (intsOf ws).getD []
      | _ => []) = r
    rw [e]
    dsimp only
    rw [intsOf_map]
    rfl
  refine lc_tab (is := as0.map Wv.ref) (kp := fun h' => h' R0 = some (.lst (as0.map Wv.ref))) (h1 := h) (fun RR hR => ?_) (fun h2 e2 => e2 _ _ tab.l) (by rw [List.length_map, tab.len, tb.len]; omega) rowAt ?_ ?_
  · simp only [s_seq, wVar_0]
    rw [s_onL tab.l]
    exact hR
  · intro w hw
    obtain ⟨a, r, rfl, hr, ha⟩ := rowOf w hw
    refine ⟨_, rfl, fun h2 e2 RQ hRQ => ?_⟩
    have env : List.set (wipeW [some (Wv.ref R0), none, none, none, none, none, none, none] [5]) 5 (some (.ref a)) = [some (.ref R0), none, none, none, none, some (.ref a), none, none] := rfl
    rw [env]
    have hb := tb.bit r hr
    refine lc_pure (is := r.map Wv.int) (kp := fun h' => h' a = some (.lst (r.map Wv.int))) (h1 := h2) (fun RR hR => ?_) (fun h3 e3 => e3 _ _ (e2 _ _ ha)) (by rw [List.length_map, tb.ln r hr]; omega) (fun _ => true) (fun w => match w with
      | .int x => .int (x % 2)
      | w => w) ?_ ?_
    · simp only [s_seq, wVar_s, wVar_0]
      rw [s_onL (e2 _ _ ha)]
      exact hR
    · intro w hw
      obtain ⟨x, hx, rfl⟩ := List.mem_map.mp hw
      refine ⟨_, rfl, fun h3 e3 => ⟨fun R hR => hR, fun _ R hR => ?_⟩⟩
      have env2 : List.set (wipeW [some (Wv.ref R0), none, none, none, none, some (.ref a), none, none] [6]) 6 (some (.int x)) = [some (.ref R0), none, none, none, none, some (.ref a), some (.int x), none] := rfl
      rw [env2]
      simp only [e_wBin, wVar_s, wVar_0, e_wC, o_mod, (by decide : (0 : Int) < 2), if_true, e_outV]
      exact hR h3 (Ext.refl _)
    · intro p h3 hp e3 d3
      refine hRQ p h3 hp e3 ?_
      rw [d3, rowAt_is ha, List.filter_eq_self.mpr fun _ _ => rfl, List.map_map]
      congr 2
      conv => rhs; rw [← mod2_row hb]
      rw [List.map_map]
      rfl
  · intro R as h1 e1 hR fr t1
    have rows : (as0.map Wv.ref).map rowAt = T := by
      apply List.ext_getElem?
      intro i
      rw [List.map_map, List.getElem?_map]
      rcases Nat.lt_or_ge i as0.length with c | c
      · have c' : i < T.length := by rw [← tab.len]; exact c
        rw [List.getElem?_eq_getElem c, List.getElem?_eq_getElem c']
        simp only [Option.map_some, Function.comp]
        rw [rowAt_is (tab.row i _ _ (List.getElem?_eq_getElem c) (List.getElem?_eq_getElem c'))]
      · have c' : T.length ≤ i := by rw [← tab.len]; exact c
        rw [List.getElem?_eq_none c, List.getElem?_eq_none c']
        rfl
    rw [rows] at t1
    have la : ∀ {as : List Addr} {rows : List (List Int)} {h : WH}, TabAt R as rows h → Tb n rows → lenF [.ref R] h = some (.val (.int (n : Nat))) := fun t s => by rw [o_lenL t.l, List.length_map, t.len, s.len]
    have r2 : rgOk (n : Int) = true := by unfold rgOk; simp; omega
    dsimp only
    rw [e_wSeq, e_wFor]
    simp only [List.set_cons_succ, List.set_cons_zero, s_rng1, e_wCB, e_wCons, e_wNil, wVar_s, wVar_0, la t1 tb, e_oV]
    refine ⟨r2, fun i ρ h2 => ∃ as rows, Ext h h2 ∧ TabAt R as rows h2 ∧ Tb n rows ∧ p2 n ((rows.drop i).map rowB) (from_ i) = p2 n (T.map rowB) (from_ 0) ∧ ∃ a b c d e f, ρ = [some (.ref R0), some (.ref R), a, b, c, d, e, f],
      ⟨as, T, e1, t1, tb, by rw [List.drop_zero], _, _, _, _, _, _, rfl⟩, fun _ _ _ _ _ => trivial, ?_, ?_⟩
    · rintro i w ρ h2 hi ⟨as, rows, e2, t2, s2, pp, a, b, c, d, e, f, rfl⟩
      obtain ⟨li, rfl⟩ := rgW_at hi
      refine ⟨_, rfl, ?_⟩
      have hi' : i < n := by omega
      rw [show (0 : Int) + (i : Int) = (i : Int) by omega]
      have r1 : rgOk (i : Int) = true := by unfold rgOk; simp; omega
      simp only [List.set_cons_succ, List.set_cons_zero]
      rw [e_wSeq, e_wSet]
      refine lc_pure (is := rgW (i : Int) (n : Int)) (kp := fun _ => True) (h1 := h2) (fun RR hR => ?_) (fun _ _ => trivial) (by rw [rgW_length]; omega) (fun w => match w with
        | .int z => decide (cellM rows z.toNat i = 1)
        | _ => false) (fun w => w) ?_ ?_
      · simp only [s_rng2, wVar_s, wVar_0, e_wCB, e_wCons, e_wNil, la t2 s2, e_oV]
        exact ⟨⟨r1, r2⟩, hR⟩
      · intro w hw
        obtain ⟨j, hj⟩ := List.getElem?_of_mem hw
        obtain ⟨lj, rfl⟩ := rgW_at hj
        refine ⟨_, rfl, fun h3 e3 => ?_⟩
        have cj : (i : Int) + (j : Int) = ((i + j : Nat) : Int) := by omega
        have lt : i + j < n := by omega
        obtain ⟨r, a1, er, _, i1, _, j1⟩ := (t2.ext e3).cellB s2 lt hi'
        rw [← cellM_at er] at j1
        have env : List.set (wipeW [some (Wv.ref R0), some (.ref R), some (.int (i : Int)), b, c, d, e, f] [4]) 4 (some (.int ((i : Int) + (j : Int)))) = [some (.ref R0), some (.ref R), some (.int (i : Nat)), b, some (.int ((i + j : Nat) : Int)), d, e, f] := by rw [cj]; rfl
        constructor
        · intro RB hb
          show wTest _ _ h3 RB F0
          rw [env]
          simp only [e_wTest, e_wBin, wVar_s, wVar_0, i1, j1, e_outV, e_wC, o_eqI]
          rw [cj] at hb
          exact hb
        · intro _ RB hb
          show wVar 4 _ h3 RB F0
          rw [env]
          simp only [wVar_s, wVar_0]
          rw [cj] at hb
          exact hb h3 (Ext.refl _)
      · intro D h3 hD e3 d3
        have ef : ((rgW (i : Int) (n : Int)).filter fun w => match w with
            | .int z => decide (cellM rows z.toNat i = 1)
            | _ => false).map (fun w => w) = (farB n rows i).map fun (k : Nat) => Wv.int k := by
          rw [List.map_id']
          unfold farB rgW
          rw [List.filter_map, show ((n : Int) - (i : Int)).toNat = n - i by omega, List.range'_eq_map_range, List.filter_map, List.map_map]
          have c1 : ∀ x : Nat, ((i : Int) + (x : Int)).toNat = i + x := fun x => by omega
          simp only [Function.comp_def, c1]
          refine List.map_congr_left fun x _ => ?_
          congr 1
        rw [ef] at d3
        have t3 := t2.ext e3
        have e03 := e2.trans e3
        have mf : ∀ k, k ∈ farB n rows i → i ≤ k ∧ k < n ∧ cellM rows k i = 1 := fun k hk => by
          unfold farB at hk
          obtain ⟨h1, h2⟩ := List.mem_filter.mp hk
          rw [List.mem_range'_1] at h1
          exact ⟨h1.1, by omega, by simpa using h2⟩
        have okF : okTs 60 ((farB n rows i).map fun (k : Nat) => Wv.int k) = true := by
          generalize farB n rows i = F
          induction F with
          | nil => rfl
          | cons x F ih => rw [List.map_cons]; simp [okTs, okT, ih]
        simp only [List.set_cons_succ, List.set_cons_zero, e_wSeq, e_wIfS, e_wTest, e_wBin, wVar_s, wVar_0, e_wLst, e_wNil]
        intro p hp
        have pD : p ≠ D := by rintro rfl; rw [d3] at hp; cases hp
        rw [o_eqL (by rw [wup_ne (Ne.symm pD)]; exact d3) wup_same okF rfl]
        have t4 := t3.ext (Ext.new (o := .lst []) hp)
        have e04 := e03.trans (Ext.new (o := .lst []) hp)
        have d4 : wup h3 p (.lst []) D = some (.lst ((farB n rows i).map fun (k : Nat) => Wv.int k)) := by rw [wup_ne (Ne.symm pD)]; exact d3
        generalize wup h3 p (.lst []) = h4 at t4 e04 d4
        cases eF : farB n rows i with
        | nil =>
          have z : p2 n ((rows.drop i).map rowB) (from_ i) = false := elim_none s2 hi' fun k r hk hr => by
            have lk := (List.getElem?_eq_some_iff.mp hr).1
            rw [s2.len] at lk
            have bk := bit_at (s2.bit r (List.mem_of_getElem? hr)) i
            rcases bk with c | c
            · exact c
            · have m : k ∈ farB n rows i := by
                unfold farB
                rw [List.mem_filter, List.mem_range'_1, cellM_at hr, c]
                exact ⟨by omega, rfl⟩
              rw [eF] at m
              cases m
          rw [z] at pp
          simp only [List.map_nil, eqWs, e_outV, if_true, e_wRet, e_wC]
          rw [pp]
          exact q h4 e04
        | cons f0 F =>
          rw [eF] at d4
          obtain ⟨f1, f2, f3⟩ := mf f0 (by rw [eF]; exact List.mem_cons_self)
          simp only [List.map_cons, eqWs, e_outV, Bool.false_eq_true, if_false, e_wNext]
          have ixf : ixF (.ref D) (.int 0) h4 = some (.val (.int (f0 : Nat))) := by
            rw [o_ixL d4, List.map_cons, at_0]
            rfl
          obtain ⟨x, a1, ex, a2, a3, _, _⟩ := t4.cellB s2 hi' hi'
          obtain ⟨y, b1, ey, b2, b3, _, _⟩ := t4.cellB s2 f2 hi'
          have t5 := t4.swap f1 a2 b2 ex ey
          have lia := (List.getElem?_eq_some_iff.mp a2).1
          have lfa := (List.getElem?_eq_some_iff.mp b2).1
          have st1 : setW (.ref R) (.int (i : Nat)) (.ref b1) h4 = some (R, .lst ((as.map Wv.ref).set i (.ref b1))) := o_setL t4.l (by rw [List.length_map]; exact lia)
          have st2 : setW (.ref R) (.int (f0 : Nat)) (.ref a1) (wup h4 R (.lst ((as.map Wv.ref).set i (.ref b1)))) = some (R, .lst (((as.map Wv.ref).set i (.ref b1)).set f0 (.ref a1))) := o_setL wup_same (by rw [List.length_set, List.length_map]; exact lfa)
          have nRD : R ≠ D := by rintro rfl; exact absurd (t2.l ▸ hD) nofun
          simp only [e_wAsg, e_wTup, e_wCons, e_wNil, e_wBin, e_wC, wVar_s, wVar_0, ixf, a3, b3, e_outV]
          refine ⟨_, rfl, rfl, _, _, rfl, ?_⟩
          simp only [g_sub, wVar_s, wVar_0, st1]
          refine ⟨_, _, rfl, ?_⟩
          have ixf2 : ixF (.ref D) (.int 0) (wup h4 R (.lst ((as.map Wv.ref).set i (.ref b1)))) = some (.val (.int (f0 : Nat))) := by
            rw [o_ixL (by rw [wup_ne (Ne.symm nRD)]; exact d4), List.map_cons, at_0]
            rfl
          simp only [g_sub, e_wBin, e_wC, wVar_s, wVar_0, ixf2, e_outV, st2]
          refine ⟨rfl, ?_⟩
          rw [wup_wup]
          rw [List.map_set, List.map_set] at t5
          have mx := List.mem_of_getElem? ex
          have my := List.mem_of_getElem? ey
          have lri := (List.getElem?_eq_some_iff.mp ex).1
          have one : cellM ((rows.set i y).set f0 x) i i = 1 := by
            by_cases fi : f0 = i
            · subst fi
              have : x = y := by rw [ex] at ey; cases ey; rfl
              rw [cellM_at (r := x) (by rw [List.getElem?_set_self (by rw [List.length_set]; exact lri)]), ← cellM_at ex]
              exact f3
            · rw [cellM_at (r := y) (by rw [List.getElem?_set_ne fi, List.getElem?_set_self lri]), ← cellM_at ey]
              exact f3
          refine odd_rows (h := h) (R := R) n7 hi' (Ext.put hR e04) hR t5 (s2.swap mx my) (by rw [elim_swap f1 ex ey]) one fun h5 as5 rows5 a b c d e5 t5 s5 p5 => ?_
          exact ⟨as5, rows5, e5, t5, s5, by rw [p5, pp], _, _, _, _, _, _, rfl⟩
    · rintro ρ h2 ⟨as, rows, e2, t2, s2, pp, a, b, c, d, e, f, rfl⟩
      rw [rgW_length, show ((n : Int) - 0).toNat = n by omega, List.drop_eq_nil_of_le (by rw [s2.len]; exact Nat.le_refl _)] at pp
      have pp : true = p2 n (T.map rowB) (from_ 0) := pp
      simp only [e_wRet, e_wC]
      rw [pp]
      exact q h2 e2
end Pd
set_option Elab.async false
set_option linter.all false
set_option maxRecDepth 100000
set_option maxHeartbeats 1000000
namespace Pd
open PySem PySem.Spec PyProof.Rows L2
/-! ### _law_by_number -/
def spB (d : Nat) : WSp := fun ws h Q _ => ∃ (R : Addr) (as : List Addr) (T : List (List Int)) (m k : Nat), ws = [.ref R, .int (k : Nat)] ∧ TabAt R as T h ∧ (∀ r, r ∈ T → r.length = m) ∧ T.length ≤ d ∧ T.length ≤ 7 ∧ m ≤ 7 ∧ ∀ h', Ext h h' → Q (.int (bn T k)) h'
theorem mo_spB (d : Nat) : MoP (spB d) := fun ws h Q Q' E E' hq he ⟨R, as, T, m, k, e1, e2, e3, e4, e5, e6, q⟩ => ⟨R, as, T, m, k, e1, e2, e3, e4, e5, e6, fun h' a => hq _ _ (q h' a)⟩
def spBL : Nat → WSp
  | 0 => fun _ _ _ _ => False
  | d + 1 => spB d
theorem mo_spBL : ∀ d, MoP (spBL d)
  | 0 => fun _ _ _ _ _ _ _ _ q => q
  | d + 1 => mo_spB d
section
variable {R : Addr} {as : List Addr} {rows : List (List Int)} {h : WH}
theorem TabAt.okR (t : TabAt R as rows h) : (as.map Wv.ref).all (Pd.okR h) = true := by
  rw [List.all_eq_true]
  intro w hw
  obtain ⟨a, ha, rfl⟩ := List.mem_map.mp hw
  obtain ⟨i, hi⟩ := List.getElem?_of_mem ha
  have li := (List.getElem?_eq_some_iff.mp hi).1
  rw [t.len] at li
  show (match h a with
    | some (.lst us) => okTs 60 us
    | _ => false) = true
  rw [t.row i a _ hi (List.getElem?_eq_getElem li)]
  exact okTs_ints _
/-- a table beside an empty list -/
theorem TabAt.eq_nil (t : TabAt R as rows h) {p : Addr} (hp : h p = some (.lst [])) : eqF (.ref R) (.ref p) h = some (.val (.bl rows.isEmpty)) := by
  have len := t.len
  cases as with
  | nil =>
    have : rows = [] := List.length_eq_zero_iff.mp len.symm
    subst this
    exact o_eqL t.l hp rfl rfl
  | cons a as =>
    have e : eqLB h (.ref R) (.ref p) = some false := by
      have ok := t.okR
      simp only [eqLB, t.l, hp, ok]
      rfl
    have nr : rows.isEmpty = false := by
      cases rows with
      | nil => cases len
      | cons _ _ => rfl
    have o : okO h (.ref R) = false := by
      show (match h R with
        | some (.lst ws) => okTs 60 ws
        | _ => false) = false
      rw [t.l]
      rfl
    unfold eqF
    rw [o, e, nr]
    rfl
theorem TabAt.tail (t : TabAt R as rows h) {p : Addr} (hp : h p = none) : TabAt p (as.drop 1) (rows.drop 1) (wup h p (.lst ((as.drop 1).map .ref))) where
  l := wup_same
  len := by rw [List.length_drop, List.length_drop, t.len]
  nd := t.nd.sublist (List.drop_sublist 1 as)
  ne := fun m => by
    obtain ⟨i, hi⟩ := List.getElem?_of_mem (List.mem_of_mem_drop m)
    have li := (List.getElem?_eq_some_iff.mp hi).1
    rw [t.len] at li
    rw [t.row i p _ hi (List.getElem?_eq_getElem li)] at hp
    cases hp
  row := fun i a r ha hr => by
    rw [List.getElem?_drop] at ha hr
    have := t.row _ a r ha hr
    rw [wup_ne (by rintro rfl; rw [this] at hp; cases hp)]
    exact this
end
theorem slL {a : Addr} {ws : List Wv} {lo hi : Option Int} {h : WH} (e : h a = some (.lst ws)) : slF (.ref a) lo hi h = some (.lst (cutW ws lo hi)) := by
  simp [slF, e]
theorem bn_step {r : List Int} {T : List (List Int)} {k : Nat} : bn (r :: T) (k + 1) = bn T (k + 1) + sm r.length fun c => if r.getD c 0 ≠ 0 then bn (T.map fun q => q.eraseIdx c) k else 0 := by rw [bn]
theorem q_by_number (d : Nat) (ws_ : List Wv) (h : WH) (Q : WQ) (E : WX) (sp : spB d ws_ h Q E) : wBody (t_xlaw_by_number (spBL d)) N_xlaw_by_number.length ws_ h Q E := by
  obtain ⟨R, as, T, m, k, rfl, tab, lm, ld, l7, m7, q⟩ := sp
  have big : 1000 < sizeLine := by decide
  simp only [e_wBody, t_xlaw_by_number, N_xlaw_by_number, wStart_def, List.length_cons, List.length_nil, List.map_cons, List.map_nil, List.cons_append, List.nil_append, Nat.reduceAdd, Nat.reduceSub, List.replicate_succ, List.replicate_zero]
  rw [e_wSeq, e_wIfS]
  simp only [e_wTest, e_wBin, wVar_s, wVar_0, e_wC, o_eqI, e_outV]
  cases k with
  | zero =>
    rw [if_pos (by decide), e_wRet, e_wC]
    rw [bn_zero] at q
    exact q h (Ext.refl _)
  | succ k =>
  rw [if_neg (by simp; omega), e_wNext]
  dsimp only
  rw [e_wSeq, e_wIfS]
  simp only [e_wTest, e_wBin, wVar_s, wVar_0, e_wC, e_wLst, e_wNil]
  intro p hp
  have ep : Ext h (wup h p (.lst [])) := Ext.new hp
  have t1 := tab.ext ep
  rw [t1.eq_nil wup_same]
  generalize wup h p (.lst []) = h1 at ep t1
  simp only [e_outV]
  cases T with
  | nil =>
    rw [if_pos (show (([] : List (List Int)).isEmpty = true) from rfl), e_wRet, e_wC]
    rw [bn] at q
    exact q h1 ep
  | cons r T =>
  rw [if_neg (show ¬ ((r :: T).isEmpty = true) from nofun), e_wNext]
  dsimp only
  cases d with
  | zero => simp at ld
  | succ d =>
  have hr : r.length = m := lm r List.mem_cons_self
  have lm' : ∀ r, r ∈ T → r.length = m := fun q hq => lm q (List.mem_cons_of_mem _ hq)
  have lT : T.length ≤ d := by simpa using ld
  have lT7 : T.length ≤ 6 := by simpa using l7
  have c1 : cutW (as.map Wv.ref) (some 1) none = (as.drop 1).map .ref := by rw [List.map_drop]; exact cut_from (k := 1)
  rw [e_wSeq, e_wSet]
  simp only [e_wCall, e_wCons, e_wNil, e_wSl, e_wPart, e_wNoPart, e_wC, wVar_s, wVar_0, slL t1.l, e_outL, c1]
  intro p2 hp2
  have t2 := t1.tail hp2
  rw [List.drop_succ_cons, List.drop_zero] at t2
  have e2 : Ext h (wup h1 p2 (.lst ((as.drop 1).map .ref))) := Ext.put (Ext.free ep hp2) ep
  refine ⟨p2, _, T, m, k + 1, rfl, t2, lm', lT, by omega, m7, fun h2 e3 => ?_⟩
  have e03 := e2.trans e3
  have t3 := tab.ext e03
  obtain ⟨ra, a1, a2, a3⟩ := t3.at_ (i := 0) (r := r) rfl
  rw [show ((0 : Nat) : Int) = 0 from rfl] at a2
  rw [bn_step] at q
  simp only [List.set_cons_succ, List.set_cons_zero]
  rw [e_wSeq, e_wFor]
  simp only [s_enum, e_wBin, e_wC, wVar_s, wVar_0, a2, e_outV]
  rw [s_onL a3]
  refine ⟨fun i ρ h3 => Ext h2 h3 ∧ ∃ a b c, ρ = [some (.ref R), some (.int ((k + 1 : Nat) : Int)), some (.int (bn T (k + 1) + sm i fun c => if r.getD c 0 ≠ 0 then bn (T.map fun q => q.eraseIdx c) k else 0)), a, b, c], ⟨Ext.refl _, _, _, _, by rw [sm, Int.add_zero]⟩, fun i ρ h3 _ ⟨e4, _⟩ => e4 _ _ a3, ?_, ?_⟩
  · rintro i w ρ h3 hi ⟨e4, a, b, c, rfl⟩
    obtain ⟨y, ey, rfl⟩ := enum_at hi
    rw [List.getElem?_map] at ey
    cases er : r[i]? with
    | none => rw [er] at ey; cases ey
    | some x =>
    rw [er] at ey
    have ey : y = .int x := by simpa using ey.symm
    subst ey
    have lx := (List.getElem?_eq_some_iff.mp er).1
    have gx : r.getD i 0 = x := by rw [List.getD_eq_getElem?_getD, er]; rfl
    refine ⟨_, rfl, ?_⟩
    simp only [List.set_cons_succ, List.set_cons_zero, e_wIfS, e_wTest, e_wBin, e_wC, wVar_s, wVar_0, o_neI, e_outV]
    rw [sm, gx]
    by_cases z : x = 0
    · rw [if_neg (by simp [z]), e_wNext, if_neg (fun hh => hh z), Int.add_zero]
      exact ⟨e4, _, _, _, rfl⟩
    · rw [if_pos (by simp [z]), if_pos z, e_wSet]
      generalize hb : (bn T (k + 1) + sm i fun c => if r.getD c 0 ≠ 0 then bn (T.map fun q => q.eraseIdx c) k else 0) = base
      rw [← Int.add_assoc, hb]
      simp only [e_wBin, wVar_s, wVar_0, e_wCall]
      rw [e_wCons]
      have t4 := t3.ext e4
      have e04 := e03.trans e4
      -- the rows without a column
      have rowOf : ∀ w, w ∈ (as.drop 1).map Wv.ref → ∃ a r, w = .ref a ∧ r ∈ T ∧ h3 a = some (.lst (r.map .int)) := fun w hw => by
        obtain ⟨a, ha, rfl⟩ := List.mem_map.mp hw
        obtain ⟨j, hj⟩ := List.getElem?_of_mem ha
        rw [List.getElem?_drop] at hj
        have lj := (List.getElem?_eq_some_iff.mp hj).1
        rw [t4.len, List.length_cons] at lj
        have lj' : j < T.length := by omega
        refine ⟨a, T[j], rfl, List.getElem_mem lj', t4.row _ a _ hj ?_⟩
        rw [Nat.add_comm, List.getElem?_cons_succ, List.getElem?_eq_getElem lj']
      let rowAt : Wv → List Int := fun w => match w with
        | .ref a => match h3 a with
          | some (.lst ws) => ((intsOf ws).getD []).eraseIdx i
          | _ => []
        | _ => []
      have rowAt_is : ∀ {a : Addr} {r : List Int}, h3 a = some (.lst (r.map .int)) → rowAt (.ref a) = r.eraseIdx i := fun {a r} e => by
        show (match h3 a with
          | some (.lst ws) => ((intsOf ws).getD []).eraseIdx i
          | _ => []) = r.eraseIdx i
        rw [e]
        dsimp only
        rw [intsOf_map]
        rfl
      rw [lc_body]
      simp only [s_seq, e_wSl, e_wPart, e_wNoPart, e_wC, wVar_s, wVar_0, slL t4.l, e_outL, c1]
      intro p5 hp5
      rw [s_onL wup_same]
      have e5 := Ext.new (o := .lst ((as.drop 1).map .ref)) hp5
      refine tab_core (fun h2 e => e _ _ wup_same) ?_ rowAt ?_ ?_
      · show ((as.drop 1).map Wv.ref).length < _
        rw [List.length_map, List.length_drop, tab.len, List.length_cons]
        omega
      · intro w hw
        obtain ⟨a, r', rfl, hr', ha⟩ := rowOf w hw
        refine ⟨_, rfl, fun h6 e6 RQ hRQ => ?_⟩
        have env : List.set (wipeW [some (Wv.ref R), some (.int ((k + 1 : Nat) : Int)), some (.int base), some (.int (i : Nat)), some (.int x), c] [5]) 5 (some (.ref a)) = [some (.ref R), some (.int ((k + 1 : Nat) : Int)), some (.int base), some (.int (i : Nat)), some (.int x), some (.ref a)] := rfl
        have ha6 := e6 _ _ (e5 _ _ ha)
        have k1 : cutW (r'.map Wv.int) none (some (i : Int)) = (r'.take i).map .int := by rw [cut_to, List.map_take]
        have k2 : cutW (r'.map Wv.int) (some ((i : Int) + 1)) none = (r'.drop (i + 1)).map .int := by
          have := cut_from (ws := r'.map Wv.int) (k := i + 1)
          rw [show ((i + 1 : Nat) : Int) = (i : Int) + 1 by omega] at this
          rw [this, List.map_drop]
        have lr' := lm' r' hr'
        first
          | rw [env]
          | (show wBin _ _ _ _ h6 RQ F0; rw [env])
        simp only [e_wBin, e_wSl, e_wPart, e_wNoPart, e_wC, wVar_s, wVar_0, slL ha6, e_outL, k1]
        intro p6 hp6
        have ha7 := Ext.new (o := .lst ((r'.take i).map .int)) hp6 _ _ ha6
        simp only [o_addI, e_outV, slL ha7, e_outL, k2]
        intro p7 hp7
        have p67 : p6 ≠ p7 := by rintro rfl; rw [wup_same] at hp7; cases hp7
        have l6 : wup (wup h6 p6 (.lst ((r'.take i).map .int))) p7 (.lst ((r'.drop (i + 1)).map .int)) p6 = some (.lst ((r'.take i).map .int)) := by rw [wup_ne p67, wup_same]
        have e7 := (Ext.new (o := .lst ((r'.take i).map .int)) hp6).trans (Ext.new (o := .lst ((r'.drop (i + 1)).map .int)) hp7)
        rw [o_addL l6 wup_same, if_pos (by rw [List.length_map, List.length_map, List.length_take, List.length_drop]; omega)]
        simp only [e_outL]
        intro p8 hp8
        refine hRQ p8 _ (Ext.free e7 hp8) (e7.trans (Ext.new hp8)) ?_
        rw [wup_same, rowAt_is ha, List.eraseIdx_eq_take_drop_succ, List.map_append]
      · intro D as5 h6 e6 hD fr t6
        have e06 := e04.trans (e5.trans e6)
        have rows : ((as.drop 1).map Wv.ref).map rowAt = T.map fun q => q.eraseIdx i := by
          apply List.ext_getElem?
          intro j
          rw [List.map_map, List.getElem?_map, List.getElem?_map]
          rcases Nat.lt_or_ge j T.length with c | c
          · have c' : 1 + j < as.length := by rw [tab.len, List.length_cons]; omega
            rw [List.getElem?_drop, List.getElem?_eq_getElem c', List.getElem?_eq_getElem c]
            simp only [Option.map_some, Function.comp]
            rw [rowAt_is (t4.row (1 + j) _ T[j] (List.getElem?_eq_getElem c') (by rw [Nat.add_comm, List.getElem?_cons_succ, List.getElem?_eq_getElem c]))]
          · rw [List.getElem?_eq_none (show (as.drop 1).length ≤ j by rw [List.length_drop, tab.len, List.length_cons]; omega), List.getElem?_eq_none c]
            rfl
        have t6 : TabAt D as5 (((as.drop 1).map Wv.ref).map rowAt) h6 := t6
        rw [rows] at t6
        simp only [e_wCons, e_wNil, e_wBin, e_wC, wVar_s, wVar_0, o_sub, e_outV]
        refine ⟨D, as5, _, m - 1, k, ?_, t6, ?_, by rw [List.length_map]; omega, by rw [List.length_map]; omega, by omega, fun h7 e7 => ?_⟩
        · congr 3
          omega
        · intro q hq
          obtain ⟨q', hq', rfl⟩ := List.mem_map.mp hq
          rw [List.length_eraseIdx_of_lt (by rw [lm' q' hq']; omega), lm' q' hq']
        · simp only [o_addI, e_outV, List.set_cons_succ, List.set_cons_zero]
          exact ⟨(e4.trans (e5.trans e6)).trans e7, _, _, _, rfl⟩
  · rintro ρ h3 ⟨e4, a, b, c, rfl⟩
    rw [enumW_length, List.length_map]
    simp only [e_wRet, wVar_s, wVar_0]
    exact q h3 (e03.trans e4)
end Pd
set_option Elab.async false
set_option linter.all false
set_option maxRecDepth 100000
set_option maxHeartbeats 1000000
namespace Pd
open PySem PySem.Spec PyProof.Rows L2
/-! ### _law_sides_right: the table is drawn -/
section
variable {R m l l' : Addr} {as : List Addr} {rows : List (List Int)} {h h' : WH}
/-- a table that is not the state's -/
structure OffT (m l R : Addr) (as : List Addr) : Prop where
  Rm : R ≠ m
  Rl : R ≠ l
  am : ∀ a, a ∈ as → a ≠ m ∧ a ≠ l
theorem TabAt.there (t : TabAt R as rows h) {a : Addr} (ha : a ∈ as) : ∃ o, h a = some o := by
  obtain ⟨i, hi⟩ := List.getElem?_of_mem ha
  have li := (List.getElem?_eq_some_iff.mp hi).1
  rw [t.len] at li
  exact ⟨_, t.row i a _ hi (List.getElem?_eq_getElem li)⟩
theorem TabAt.step (t : TabAt R as rows h) (o : OffT m l R as) (s : Step m l h l' h') : TabAt R as rows h' ∧ OffT m l' R as := by
  refine ⟨⟨s.keep _ _ o.Rm o.Rl t.l, t.len, t.nd, t.ne, fun i a r h1 h2 => ?_⟩, o.Rm, s.apart o.Rl t.l, fun a ha => ?_⟩
  · have := o.am a (List.mem_of_getElem? h1)
    exact s.keep _ _ this.1 this.2 (t.row i a r h1 h2)
  · obtain ⟨u, hu⟩ := t.there ha
    exact ⟨(o.am a ha).1, s.apart (o.am a ha).2 hu⟩
theorem TabAt.app (t : TabAt R as rows h) {p : Addr} {r : List Int} (hp : p ∉ as) (pR : p ≠ R) (hr : h p = some (.lst (r.map .int))) : TabAt R (as ++ [p]) (rows ++ [r]) (wup h R (.lst (as.map .ref ++ [.ref p]))) where
  l := by rw [wup_same, List.map_append]; rfl
  len := by rw [List.length_append, List.length_append, t.len]; rfl
  nd := by
    rw [List.nodup_append]
    refine ⟨t.nd, by simp, ?_⟩
    intro a ha b hb
    rw [List.mem_singleton.mp hb]
    rintro rfl
    exact hp ha
  ne := fun m => by
    rcases List.mem_append.mp m with m | m
    · exact t.ne m
    · exact pR (List.mem_singleton.mp m).symm
  row := fun j b q hb hq => by
    have bR : b ≠ R := by
      rintro rfl
      rcases List.mem_append.mp (List.mem_of_getElem? hb) with m | m
      · exact t.ne m
      · exact pR (List.mem_singleton.mp m).symm
    rw [wup_ne bR]
    rcases Nat.lt_or_ge j as.length with c | c
    · rw [List.getElem?_append_left c] at hb
      rw [List.getElem?_append_left (t.len ▸ c)] at hq
      exact t.row j b q hb hq
    · rw [List.getElem?_append_right c] at hb
      rw [List.getElem?_append_right (t.len ▸ c), ← t.len] at hq
      have : j - as.length = 0 := by
        have := (List.getElem?_eq_some_iff.mp hb).1
        simp at this
        omega
      rw [this] at hb hq
      simp at hb hq
      subst hb hq
      exact hr
end
structure Bits (n : Nat) (r : List Int) : Prop where
  len : r.length = n
  bit : ∀ x, x ∈ r → x = 0 ∨ x = 1
/-- one row is drawn -/
theorem draw_row {m c l : Addr} {k size : Nat} {h1 : WH} {share : Int} {Q : WQ} {E : WX} {w2 b4 b5 b6 b7 b8 b9 b10 : Option Wv} (hs : size ≤ 7) (st : LawSt m c l k h1) (hk : k < 100000)
    (q : ∀ D l2 r h2, Bits size r → LawSt m c l2 (k + size) h2 → Step m l h1 l2 h2 → h1 D = none → D ≠ m → D ≠ c → D ≠ l2 → h2 D = some (.lst (r.map .int)) → Q (.ref D) h2) :
    wLc (wIRng1 (wVar 1)) (.nm 9) (wYes) (wCB (C1 int1) (wCons (wBin gtI (wCall sp_next (wCons (wVar 0) (wCons (wC (.int 4)) (wNil)))) (wVar 3)) (wNil))) [9] [some (.ref m), some (.int (size : Nat)), w2, some (.int share), b4, b5, b6, b7, b8, b9, b10] h1 Q E := by
  have rg : rgOk (size : Int) = true := by unfold rgOk; simp; omega
  have big : 1000 < sizeLine := by decide
  rw [lc_body]
  simp only [s_rng1, wVar_s, wVar_0]
  refine ⟨rg, fun D hD => ?_⟩
  have Dm : D ≠ m := by rintro rfl; exact st.there.1 hD
  have Dl : D ≠ l := by rintro rfl; exact st.there.2 hD
  have Dc : D ≠ c := by rintro rfl; exact st.cThere hD
  refine ⟨fun i acc h2 => ∃ l2 r, acc = r.map .int ∧ Bits i r ∧ LawSt m c l2 (k + i) h2 ∧ Step m l h1 l2 h2 ∧ h2 D = some (.lst acc) ∧ D ≠ l2, ?_, fun _ _ _ _ _ => trivial, ?_, ?_⟩
  · exact ⟨l, [], rfl, ⟨rfl, nofun⟩, st.put Dm Dc Dl, Step.refl.put hD, wup_same, Dl⟩
  · rintro i acc w h2 hi ⟨l2, r, rfl, br, st2, s2, d2, Dl2⟩
    obtain ⟨li, rfl⟩ := rgW_at hi
    refine ⟨_, rfl, ?_⟩
    have env : List.set (wipeW [some (Wv.ref m), some (.int (size : Nat)), w2, some (.int share), b4, b5, b6, b7, b8, b9, b10] [9]) 9 (some (.int (0 + (i : Int)))) = [some (.ref m), some (.int (size : Nat)), w2, some (.int share), b4, b5, b6, b7, b8, some (.int (0 + (i : Int))), b10] := rfl
    simp only [env, e_wYes, if_true, e_wCB, e_wCons, e_wNil, e_wBin, e_wCall, e_wC, wVar_s, wVar_0]
    refine ⟨m, c, l2, k + i, 4, rfl, st2, by omega, by omega, by omega, fun h3 l3 v st3 s3 hv => ?_⟩
    simp only [o_gt, e_outV, o_intB, e_oV]
    have d3 := s3.keep D _ Dm Dl2 d2
    have Dl3 := s3.apart Dl2 d2
    have lr := br.len
    refine ⟨d3, by rw [List.length_map, lr]; omega, l3, r ++ [if decide (share < (v : Int)) = true then 1 else 0], by simp, ⟨by simp [lr], ?_⟩, (st3.mono (by omega)).put Dm Dc Dl3, (s2.trans s3 st3.ne).put hD, wup_same, Dl3⟩
    intro x hx
    rcases List.mem_append.mp hx with mm | mm
    · exact br.bit x mm
    · rw [List.mem_singleton.mp mm]
      split
      · exact .inr rfl
      · exact .inl rfl
  · rintro acc h2 ⟨l2, r, rfl, br, st2, s2, d2, Dl2⟩
    rw [rgW_length, show ((size : Int) - 0).toNat = size by omega] at br st2
    exact q D l2 r h2 br st2 s2 hD Dm Dc Dl2 d2
/-- the table is drawn -/
theorem draw_tab {m c l R : Addr} {k size : Nat} {h0 h1 : WH} {l0 : Addr} {share : Int} {D : WEnds} {b4 b5 b6 b7 b8 b9 b10 : Option Wv} (hs : size ≤ 7) (st : LawSt m c l k h1) (hk : k < 10000) (s0 : Step m l0 h0 l h1) (t0 : TabAt R [] [] h1) (o0 : OffT m l R []) (hR : h0 R = none) (Rc : R ≠ c)
    (q : ∀ l2 as T h2 b4, Tb size T → LawSt m c l2 (k + size * size) h2 → Step m l0 h0 l2 h2 → TabAt R as T h2 → OffT m l2 R as → D.nx [some (.ref m), some (.int (size : Nat)), some (.ref R), some (.int share), b4, b5, b6, b7, b8, b9, b10] h2) :
    wFor (wIRng1 (wVar 1)) (.nm 4) (wDrop (wBM "list" appendM (wVar 2) (wCons (wLc (wIRng1 (wVar 1)) (.nm 9) (wYes) (wCB (C1 int1) (wCons (wBin gtI (wCall sp_next (wCons (wVar 0) (wCons (wC (.int 4)) (wNil)))) (wVar 3)) (wNil))) [9]) (wNil)))) D
      [some (.ref m), some (.int (size : Nat)), some (.ref R), some (.int share), b4, b5, b6, b7, b8, b9, b10] h1 := by
  have rg : rgOk (size : Int) = true := by unfold rgOk; simp; omega
  have big : 1000 < sizeLine := by decide
  have sq : ∀ i, i ≤ size → i * size ≤ 49 := fun i hi => Nat.le_trans (Nat.mul_le_mul (show i ≤ 7 by omega) hs) (by decide)
  rw [e_wFor]
  simp only [s_rng1, wVar_s, wVar_0]
  refine ⟨rg, fun i ρ h2 => ∃ l2 as T b4, (∀ r, r ∈ T → Bits size r) ∧ T.length = i ∧ LawSt m c l2 (k + i * size) h2 ∧ Step m l0 h0 l2 h2 ∧ TabAt R as T h2 ∧ OffT m l2 R as ∧
      ρ = [some (.ref m), some (.int (size : Nat)), some (.ref R), some (.int share), b4, b5, b6, b7, b8, b9, b10],
    ⟨l, [], [], b4, nofun, rfl, by simpa using st, s0, t0, o0, rfl⟩, fun _ _ _ _ _ => trivial, ?_, ?_⟩
  · rintro i w ρ h2 hi ⟨l2, as, T, b4, bT, lT, st2, s2, t2, o2, rfl⟩
    obtain ⟨li, rfl⟩ := rgW_at hi
    refine ⟨_, rfl, ?_⟩
    have := sq i (by omega)
    simp only [List.set_cons_succ, List.set_cons_zero]
    rw [e_wDrop, e_wBM, wVar_s, wVar_s, wVar_0]
    refine ⟨.inl ⟨rfl, _, t2.l⟩, ?_⟩
    rw [e_wCons]
    refine draw_row hs st2 (by omega) fun D' l3 r h3 br st3 s3 hD Dm Dc Dl d3 => ?_
    obtain ⟨t3, o3⟩ := t2.step o2 s3
    simp only [e_wNil]
    rw [o_app t3.l, if_pos (by rw [List.length_map, t3.len, lT]; omega)]
    simp only [e_oP]
    have DR : D' ≠ R := by rintro rfl; rw [t2.l] at hD; cases hD
    have Das : D' ∉ as := fun mm => by
      obtain ⟨u, hu⟩ := t2.there mm
      rw [hu] at hD
      cases hD
    refine ⟨l3, as ++ [D'], T ++ [r], _, ?_, by simp [lT], ?_, (s2.trans s3 st3.ne).put hR, t3.app Das DR d3, ⟨o3.Rm, o3.Rl, ?_⟩, rfl⟩
    · intro q hq
      rcases List.mem_append.mp hq with mm | mm
      · exact bT q mm
      · rw [List.mem_singleton.mp mm]
        exact br
    · refine (st3.mono ?_).put o3.Rm Rc o3.Rl
      rw [Nat.add_mul]
      omega
    · intro a ha
      rcases List.mem_append.mp ha with mm | mm
      · exact o3.am a mm
      · rw [List.mem_singleton.mp mm]
        exact ⟨Dm, Dl⟩
  · rintro ρ h2 ⟨l2, as, T, b4, bT, lT, st2, s2, t2, o2, rfl⟩
    rw [rgW_length, show ((size : Int) - 0).toNat = size by omega] at lT st2
    exact q l2 as T h2 b4 ⟨lT, fun r hr => (bT r hr).len, fun r hr => (bT r hr).bit⟩ st2 s2 t2 o2
end Pd
set_option Elab.async false
set_option linter.all false
set_option maxRecDepth 100000
set_option maxHeartbeats 1000000
namespace Pd
open PySem PySem.Spec PyProof.Rows L2
/-! ### the net of a table -/
def rowR (T : List (List Int)) (s i : Nat) : List (Int × Int) := ((List.range s).filter fun j => decide (cellM T i j = 1)).map fun (j : Nat) => ((i : Int), (s : Int) + (j : Int))
def roadsT (T : List (List Int)) (s : Nat) : List (Int × Int) := (List.range s).flatMap (rowR T s)
def netT (T : List (List Int)) (s : Nat) : Net := ⟨2 * s, roadsT T s⟩
theorem mem_rowR {T : List (List Int)} {s i : Nat} {r : Int × Int} : r ∈ rowR T s i ↔ ∃ j, j < s ∧ cellM T i j = 1 ∧ r = ((i : Int), (s : Int) + (j : Int)) := by
  unfold rowR
  rw [List.mem_map]
  constructor
  · rintro ⟨j, hj, rfl⟩
    obtain ⟨h1, h2⟩ := List.mem_filter.mp hj
    exact ⟨j, List.mem_range.mp h1, by simpa using h2, rfl⟩
  · rintro ⟨j, h1, h2, rfl⟩
    exact ⟨j, List.mem_filter.mpr ⟨List.mem_range.mpr h1, by simpa using h2⟩, rfl⟩
theorem mem_roadsT {T : List (List Int)} {s : Nat} {r : Int × Int} : r ∈ roadsT T s ↔ ∃ i j, i < s ∧ j < s ∧ cellM T i j = 1 ∧ r = ((i : Int), (s : Int) + (j : Int)) := by
  unfold roadsT
  rw [List.mem_flatMap]
  constructor
  · rintro ⟨i, hi, hr⟩
    obtain ⟨j, h1, h2, h3⟩ := mem_rowR.mp hr
    exact ⟨i, j, List.mem_range.mp hi, h1, h2, h3⟩
  · rintro ⟨i, j, h0, h1, h2, h3⟩
    exact ⟨i, List.mem_range.mpr h0, mem_rowR.mpr ⟨j, h1, h2, h3⟩⟩
theorem roadsT_nd {T : List (List Int)} {s : Nat} : (roadsT T s).Nodup := by
  unfold roadsT
  rw [List.nodup_iff_pairwise_ne, List.pairwise_flatMap]
  constructor
  · intro i _
    unfold rowR
    rw [List.pairwise_map]
    refine List.Pairwise.filter _ ?_
    refine List.pairwise_lt_range.imp fun {a b} h e => ?_
    have := congrArg Prod.snd e
    simp at this
    omega
  · refine List.pairwise_lt_range.imp fun {a b} h x hx y hy e => ?_
    obtain ⟨_, _, _, rfl⟩ := mem_rowR.mp hx
    obtain ⟨_, _, _, rfl⟩ := mem_rowR.mp hy
    have := congrArg Prod.fst e
    simp at this
    omega
theorem netT_ok {T : List (List Int)} {s : Nat} (hs : s ≤ 7) (hl : (roadsT T s).length ≤ 40) : (netT T s).Ok where
  n14 := by show 2 * s ≤ 14; omega
  r40 := hl
  rd := fun r hr => by
    obtain ⟨i, j, h1, h2, _, rfl⟩ := mem_roadsT.mp hr
    show isRd ((2 * s : Nat) : Int) _ = true
    simp only [isRd, Bool.and_eq_true, decide_eq_true_eq]
    omega
  nd := roadsT_nd
theorem filter_flat {i : Nat} {g : Nat → List (Int × Int)} : ∀ (L : List Nat), L.Nodup → (∀ o, o ∈ L → ∀ x, x ∈ g o → x.1 = (o : Int)) → (L.flatMap g).filter (fun r => decide (r.1 = (i : Int))) = if i ∈ L then g i else []
  | [], _, _ => rfl
  | o :: L, nd, h => by
    have n1 := List.nodup_cons.mp nd
    rw [List.flatMap_cons, List.filter_append, filter_flat L n1.2 fun o ho => h o (List.mem_cons_of_mem _ ho)]
    by_cases e : i = o
    · subst e
      rw [List.filter_eq_self.mpr (fun x hx => by simp [h i List.mem_cons_self x hx]), if_neg n1.1, if_pos List.mem_cons_self, List.append_nil]
    · have e1 : (g o).filter (fun r => decide (r.1 = (i : Int))) = [] := List.filter_eq_nil_iff.mpr fun x hx => by
        have := h o List.mem_cons_self x hx
        simp [this]
        omega
      rw [e1, List.nil_append]
      by_cases m : i ∈ L
      · rw [if_pos m, if_pos (List.mem_cons_of_mem _ m)]
      · rw [if_neg m, if_neg (fun hm => by
          rcases List.mem_cons.mp hm with c | c
          · exact e c
          · exact m c)]
theorem latN_netT {T : List (List Int)} {s : Nat} (t : Tb s T) : latN (netT T s) = latT T s := by
  apply List.ext_getElem?
  intro i
  have e1 : lat_ (netT T s) (netT T s).rs.length i = if i < s then ((List.range s).filter fun j => decide (cellM T i j = 1)).map fun (j : Nat) => (s : Int) + (j : Int) else [] := by
    unfold lat_
    rw [List.take_length]
    show ((roadsT T s).filter _).map _ = _
    unfold roadsT
    rw [filter_flat (List.range s) List.nodup_range (fun o _ x hx => by obtain ⟨_, _, _, rfl⟩ := mem_rowR.mp hx; rfl)]
    by_cases h : i < s
    · rw [if_pos (List.mem_range.mpr h), if_pos h]
      unfold rowR
      rw [List.map_map]
      rfl
    · rw [if_neg (fun m => h (List.mem_range.mp m)), if_neg h]
      rfl
  unfold latN
  rw [List.getElem?_map]
  show Option.map _ (List.range (2 * s))[i]? = _
  have hl := t.len
  unfold latT
  rcases Nat.lt_or_ge i s with c | c
  · rw [List.getElem?_range (by omega), List.getElem?_append_left (by rw [List.length_map]; omega), List.getElem?_map, List.getElem?_eq_getElem (show i < T.length by omega)]
    simp only [Option.map_some]
    rw [e1, if_pos c, List.map_map]
    congr 1
    have e2 : ∀ j, cellM T i j = T[i].getD j 0 := fun j => cellM_at (List.getElem?_eq_getElem (show i < T.length by omega))
    simp only [e2]
    refine List.map_congr_left fun j _ => ?_
    simp only [Function.comp]
    omega
  · rw [List.getElem?_append_right (by rw [List.length_map]; omega), List.length_map, hl, List.getElem?_replicate]
    rcases Nat.lt_or_ge i (2 * s) with d | d
    · rw [List.getElem?_range d, if_pos (by omega)]
      simp only [Option.map_some]
      rw [e1, if_neg (by omega)]
      rfl
    · rw [List.getElem?_eq_none (by simpa using d), if_neg (by omega)]
      rfl
theorem netT_counts {T : List (List Int)} {s : Nat} (t : Tb s T) (k : Nat) : cf (netT T s).counts k = rk s T (from_ 0) k := by
  show cf (cntB (latN (netT T s)) (2 * s) (2 * s) (2 ^ (2 * s) - 1)) k = _
  rw [latN_netT t]
  exact cf_two t k
theorem netT_whole {T : List (List Int)} {s : Nat} (t : Tb s T) : (netT T s).whole = rk s T (from_ 0) T.length := by
  unfold Net.whole
  show (if (2 * s) % 2 = 0 then cf (netT T s).counts (2 * s / 2) else 0) = _
  rw [if_pos (by omega), netT_counts t, t.len]
  congr 1
  omega
/-- all signs 1 -/
theorem lkS_ones {k : Int × Int} : ∀ (rs : List (Int × Int)), lkS (rs.zip (onesL rs.length)) k = if k ∈ rs then 1 else 0
  | [] => rfl
  | r :: t => by
    show lkS ((r, 1) :: t.zip (onesL t.length)) k = _
    unfold lkS
    by_cases c : r = k
    · rw [if_pos c, if_pos (by rw [c]; exact List.mem_cons_self)]
    · rw [if_neg c, lkS_ones t]
      by_cases m : k ∈ t
      · rw [if_pos m, if_pos (List.mem_cons_of_mem _ m)]
      · rw [if_neg m, if_neg (fun hm => by
          rcases List.mem_cons.mp hm with e | e
          · exact c e.symm
          · exact m e)]
theorem netT_sided {T : List (List Int)} {s : Nat} (t : Tb s T) : Sided s (sgZ ((roadsT T s).zip (onesL (roadsT T s).length))) T where
  rr := fun i j hj => by
    show lkS _ _ = 0
    rw [lkS_ones, if_neg]
    intro m
    obtain ⟨a, b, _, _, _, e⟩ := mem_roadsT.mp m
    have := congrArg Prod.snd e
    simp at this
    omega
  rc := fun i r j hr hj => by
    show od (lkS _ _) = _
    rw [lkS_ones]
    have li := (List.getElem?_eq_some_iff.mp hr).1
    rw [t.len] at li
    have b := bit_at (t.bit r (List.mem_of_getElem? hr)) j
    unfold rowB
    by_cases one : r.getD j 0 = 1
    · rw [if_pos (mem_roadsT.mpr ⟨i, j, li, hj, by rw [cellM_at hr]; exact one, by simp⟩), one]
      rfl
    · have z : r.getD j 0 = 0 := b.resolve_right one
      rw [if_neg, z]
      · rfl
      · intro m
        obtain ⟨a, b', _, _, e1, e⟩ := mem_roadsT.mp m
        have h1 := congrArg Prod.fst e
        have h2 := congrArg Prod.snd e
        simp at h1 h2
        obtain rfl : i = a := by omega
        obtain rfl : j = b' := by omega
        rw [cellM_at hr] at e1
        exact one e1
theorem netT_ssum {T : List (List Int)} {s : Nat} (t : Tb s T) : od ((netT T s).ssum (onesL (roadsT T s).length)) = p2 s (T.map rowB) (from_ 0) := by
  unfold Net.ssum
  show od (if (2 * s) % 2 = 0 then tt (sgZ ((roadsT T s).zip (onesL (roadsT T s).length))) (2 * s / 2) (List.range (2 * s)) else 0) = _
  rw [if_pos (by omega), show 2 * s / 2 = s by omega]
  have h1 := odd_tt (netT_sided t) t.len s 0 (List.range s) (by omega) List.length_range List.nodup_range fun c hc => List.mem_range.mp hc
  have e : List.range' 0 s ++ (List.range s).map (s + ·) = List.range (2 * s) := by
    rw [List.range_eq_range' (n := 2 * s), show 2 * s = s + s by omega, ← List.range'_append_1, List.range'_eq_map_range (s := 0 + s)]
    congr 1
    refine List.map_congr_left fun x _ => ?_
    omega
  rw [e, List.drop_zero] at h1
  rw [h1]
  exact p2_congr (S' := from_ 0) _ _ _ fun c hc => by simp [from_, hc]
end Pd
set_option Elab.async false
set_option linter.all false
set_option maxRecDepth 100000
set_option maxHeartbeats 1000000
namespace Pd
open PySem PySem.Spec PyProof.Rows L2
/-! ### _law_sides_right: the roads -/
@[simp] theorem o_neB {a b : Bool} {h : WH} : neF (.bl a) (.bl b) h = some (.val (.bl (!(a == b)))) := by simp [neF, okO, okT, eqO, eqW]
@[simp] theorem o_eqB {a b : Bool} {h : WH} : eqF (.bl a) (.bl b) h = some (.val (.bl (a == b))) := by simp [eqF, okO, okT, eqO, eqW]
theorem row_len {T : List (List Int)} {s i : Nat} : (rowR T s i).length ≤ s := by
  unfold rowR
  rw [List.length_map]
  exact Nat.le_trans (List.length_filter_le _ _) (by rw [List.length_range]; exact Nat.le_refl _)
theorem flat_take {T : List (List Int)} {s i : Nat} : (List.range (i + 1)).flatMap (rowR T s) = (List.range i).flatMap (rowR T s) ++ rowR T s i := by
  rw [List.range_succ, List.flatMap_append]
  simp
theorem flat_len {T : List (List Int)} {s : Nat} : ∀ i, ((List.range i).flatMap (rowR T s)).length ≤ i * s
  | 0 => by simp
  | i + 1 => by
    rw [flat_take, List.length_append, Nat.add_mul]
    have := flat_len (T := T) (s := s) i
    have := row_len (T := T) (s := s) (i := i)
    omega
theorem roads_loop {R p : Addr} {as : List Addr} {T : List (List Int)} {size : Nat} {h5 h6 : WH} {D : WEnds} {w0 w3 b4 b6 b7 b8 b9 b10 : Option Wv} (hs : size ≤ 7) (t : TabAt R as T h5) (tb : Tb size T) (hp : h5 p = none) (e6 : Ext h5 h6) (hp6 : h6 p = some (.lst []))
    (q : ∀ h7 b4, Ext h5 h7 → h7 p = some (.lst ((roadsT T size).map rdW)) → D.nx [w0, some (.int (size : Nat)), some (.ref R), w3, b4, some (.ref p), b6, b7, b8, b9, b10] h7) :
    wFor (wIRng1 (wVar 1)) (.nm 4) (wDrop (wBM "list" extendM (wVar 5) (wCons (wLc (wIRng1 (wVar 1)) (.nm 9) (wTest (wBin eqF (wBin ixF (wBin ixF (wVar 2) (wVar 4)) (wVar 9)) (wC (.int 1)))) (wTup (wCons (wVar 4) (wCons (wBin addF (wVar 1) (wVar 9)) (wNil)))) [9]) (wNil)))) D
      [w0, some (.int (size : Nat)), some (.ref R), w3, b4, some (.ref p), b6, b7, b8, b9, b10] h6 := by
  have rg : rgOk (size : Int) = true := by unfold rgOk; simp; omega
  have big : 1000 < sizeLine := by decide
  rw [e_wFor]
  simp only [s_rng1, wVar_s, wVar_0]
  refine ⟨rg, fun i ρ h => Ext h5 h ∧ h p = some (.lst (((List.range i).flatMap (rowR T size)).map rdW)) ∧ ∃ b4, ρ = [w0, some (.int (size : Nat)), some (.ref R), w3, b4, some (.ref p), b6, b7, b8, b9, b10], ⟨e6, hp6, _, rfl⟩, fun _ _ _ _ _ => trivial, ?_, ?_⟩
  · rintro i w ρ h hi ⟨e7, p7, b4, rfl⟩
    obtain ⟨li, rfl⟩ := rgW_at hi
    have hi' : i < size := by omega
    refine ⟨_, rfl, ?_⟩
    rw [show (0 : Int) + (i : Int) = (i : Int) by omega]
    simp only [List.set_cons_succ, List.set_cons_zero]
    rw [e_wDrop, e_wBM, wVar_s, wVar_s, wVar_s, wVar_s, wVar_s, wVar_0]
    refine ⟨.inl ⟨rfl, _, p7⟩, ?_⟩
    rw [e_wCons]
    refine lc_pure (is := rgW 0 (size : Int)) (kp := fun _ => True) (h1 := h) (fun RR hR => ?_) (fun _ _ => trivial) (by rw [rgW_length]; omega) (fun w => match w with
        | .int z => decide (cellM T i z.toNat = 1)
        | _ => false) (fun w => match w with
        | .int z => rdW ((i : Int), (size : Int) + z)
        | w => w) ?_ ?_
    · simp only [s_rng1, wVar_s, wVar_0]
      exact ⟨rg, hR⟩
    · intro w hw
      obtain ⟨j, hj⟩ := List.getElem?_of_mem hw
      obtain ⟨lj, rfl⟩ := rgW_at hj
      refine ⟨_, rfl, fun h2 e2 => ?_⟩
      have cj : (0 : Int) + (j : Int) = (j : Int) := by omega
      have lt : j < size := by omega
      obtain ⟨r, a1, er, _, i1, _, j1⟩ := (t.ext (e7.trans e2)).cellB tb hi' lt
      rw [← cellM_at er] at j1
      have env : List.set (wipeW [w0, some (.int (size : Nat)), some (Wv.ref R), w3, some (.int (i : Int)), some (.ref p), b6, b7, b8, b9, b10] [9]) 9 (some (.int ((0 : Int) + (j : Int)))) = [w0, some (.int (size : Nat)), some (.ref R), w3, some (.int (i : Nat)), some (.ref p), b6, b7, b8, some (.int (j : Nat)), b10] := by rw [cj]; rfl
      constructor
      · intro RB hb
        show wTest _ _ h2 RB F0
        rw [env]
        simp only [e_wTest, e_wBin, wVar_s, wVar_0, i1, j1, e_outV, e_wC, o_eqI]
        rw [cj] at hb
        exact hb
      · intro _ RB hb
        show wTup _ _ h2 RB F0
        rw [env]
        simp only [e_wTup, e_wCons, e_wNil, e_wBin, wVar_s, wVar_0, o_addI, e_outV]
        rw [cj] at hb
        exact hb h2 (Ext.refl _)
    · intro D' h2 hD e2 d2
      have ef : ((rgW 0 (size : Int)).filter fun w => match w with
          | .int z => decide (cellM T i z.toNat = 1)
          | _ => false).map (fun w => match w with
          | .int z => rdW ((i : Int), (size : Int) + z)
          | w => w) = (rowR T size i).map rdW := by
        unfold rowR rgW
        rw [List.filter_map, show ((size : Int) - 0).toNat = size by omega, List.map_map, List.map_map]
        have c1 : ∀ x : Nat, ((0 : Int) + (x : Int)).toNat = x := fun x => by omega
        simp only [Function.comp_def, c1]
        refine List.map_congr_left fun x _ => ?_
        rw [show (0 : Int) + (x : Int) = (x : Int) by omega]
      rw [ef] at d2
      have p2 := e2 _ _ p7
      have fl := flat_len (T := T) (s := size) i
      have rl := row_len (T := T) (s := size) (i := i)
      have sq : i * size ≤ 49 := Nat.le_trans (Nat.mul_le_mul (show i ≤ 7 by omega) hs) (by decide)
      simp only [e_wNil]
      rw [o_ext p2 d2, if_pos (by rw [List.length_map, List.length_map]; omega)]
      simp only [e_oP]
      refine ⟨Ext.put hp (e7.trans e2), ?_, _, rfl⟩
      rw [wup_same, flat_take, List.map_append]
  · rintro ρ h ⟨e7, p7, b4, rfl⟩
    rw [rgW_length, show ((size : Int) - 0).toNat = size by omega] at p7
    exact q h b4 e7 p7
def sp_sides : WSp := fun ws h Q _ => ∃ (m c l : Addr) (k size : Nat), ws = [.ref m, .int (size : Nat)] ∧ LawSt m c l k h ∧ k < 5000 ∧ size ≤ 7 ∧ ∀ h' l', LawSt m c l' (k + 50) h' → Step m l h l' h' → Q (.bl true) h'
theorem mo_sides : MoP sp_sides := fun ws h Q Q' E E' hq he ⟨m, c, l, k, size, e1, e2, e3, e4, q⟩ => ⟨m, c, l, k, size, e1, e2, e3, e4, fun h' l' a b => hq _ _ (q h' l' a b)⟩
theorem ones_rep (n : Nat) : (List.replicate n [Wv.int 1]).flatten = (onesL n).map .int := by
  unfold onesL
  induction n with
  | zero => rfl
  | succ n ih => rw [List.replicate_succ, List.flatten_cons, ih, List.replicate_succ]; rfl
theorem ones_ok {N : Net} {n : Nat} (h : n = N.rs.length) : SgOk N (onesL n) := ⟨by unfold onesL; rw [List.length_replicate, h], fun x hx => .inl (List.eq_of_mem_replicate hx)⟩
theorem od_mod {a b : Int} (h : od a = od b) : a % 2 = b % 2 := by
  unfold od at h
  have h1 := decide_eq_decide.mp h
  rcases Int.emod_two_eq a with x | x <;> rcases Int.emod_two_eq b with y | y <;> omega
theorem q_sides (ws_ : List Wv) (h : WH) (Q : WQ) (E : WX) (sp : sp_sides ws_ h Q E) : wBody (t_xlaw_sides_right sp_next sp_orders sp_whole sp_like sp_odd sp_ssum sp_number (spB 7)) N_xlaw_sides_right.length ws_ h Q E := by
  obtain ⟨m, c, l, k, size, rfl, st, hk, hs, q⟩ := sp
  have big : 1000 < sizeLine := by decide
  simp only [e_wBody, t_xlaw_sides_right, N_xlaw_sides_right, wStart_def, List.length_cons, List.length_nil, List.map_cons, List.map_nil, List.cons_append, List.nil_append, Nat.reduceAdd, Nat.reduceSub, List.replicate_succ, List.replicate_zero]
  rw [e_wSeq, e_wAsg]
  simp only [e_wTup, e_wCons, e_wNil, e_wLst, e_wCall, e_wC, wVar_0]
  intro R hR
  have Rm : R ≠ m := by rintro rfl; exact st.there.1 hR
  have Rl : R ≠ l := by rintro rfl; exact st.there.2 hR
  have Rc : R ≠ c := by rintro rfl; exact st.cThere hR
  refine ⟨m, c, l, k, 3, rfl, st.put Rm Rc Rl, by omega, by omega, by omega, fun h1 l1 v st1 s1 hv => ?_⟩
  have t0 : TabAt R [] [] (wup h R (.lst [])) := ⟨wup_same, rfl, List.nodup_nil, nofun, fun i a r e => by simp at e⟩
  obtain ⟨t1, o1⟩ := t0.step (m := m) (l := l) ⟨Rm, Rl, nofun⟩ s1
  have s01 : Step m l h l1 h1 := (Step.of (Ext.new hR)).trans s1 st1.ne
  refine ⟨_, rfl, rfl, _, _, rfl, _, rfl, _, _, rfl, _, rfl, rfl, ?_⟩
  simp only [List.set_cons_succ, List.set_cons_zero]
  rw [e_wSeq]
  refine draw_tab hs st1 (by omega) s01 t1 o1 hR Rc fun l2 as T h5 b4 tb st5 s5 t5 o5 => ?_
  have sq : size * size ≤ 49 := Nat.mul_le_mul hs hs
  -- from here on nothing that stands is changed
  have fin : ∀ h', Ext h5 h' → Q (.bl true) h' := fun h' e => q h' l2 ((st5.ext e).mono (by omega)) (s5.trans (Step.of e) st5.ne)
  dsimp only
  rw [e_wSeq, e_wSet, e_wLst, e_wNil]
  intro p hp
  dsimp only [List.set_cons_succ, List.set_cons_zero]
  rw [e_wSeq]
  refine roads_loop hs t5 tb hp (Ext.new hp) wup_same fun h7 b4 e7 p7 => ?_
  dsimp only
  rw [e_wSeq, e_wIfS]
  simp only [e_wTest, e_wBin, e_wCB, e_wCons, e_wNil, wVar_s, wVar_0, e_wC, o_lenL p7, e_oV, o_gt, e_outV, List.length_map]
  by_cases many : (roadsT T size).length ≤ 40
  · rw [if_neg (by simp; omega), e_wNext]
    dsimp only
    have ok := netT_ok hs many
    have m2 : mulOk 2 (size : Int) = true := mulOk_l (by decide) (by decide)
    rw [e_wSeq, e_wSet]
    simp only [e_wTup, e_wBin, e_wCB, e_wCons, e_wNil, wVar_s, wVar_0, e_wC, o_mul, m2, if_true, e_outV, o_tupL p7, e_oV, List.set_cons_succ, List.set_cons_zero]
    have eN : Wv.tup [.int (2 * (size : Int)), .tup ((roadsT T size).map rdW)] = (netT T size).w := by
      unfold Net.w netT
      simp
    rw [eN, e_wSeq, e_wSet]
    simp only [e_wCall, e_wCons, e_wNil, wVar_s, wVar_0]
    refine ⟨R, as, T, size, hs, by rw [tb.len]; omega, rfl, t5.ext e7, tb.ln, fun h8 e8 => ?_⟩
    simp only [List.set_cons_succ, List.set_cons_zero]
    have e58 := e7.trans e8
    rw [e_wSeq, e_wIfS]
    simp only [e_wOr, e_wNot, e_wTest, e_wBin, e_wCall, e_wCons, e_wNil, wVar_s, wVar_0, e_wC]
    refine ⟨netT T size, ok, rfl, fun h9 e9 => ?_⟩
    rw [netT_whole tb]
    refine ⟨_, rfl, .inl ⟨_, rfl⟩, ?_⟩
    have e59 := e58.trans e9
    simp only [Bool.not_true, Bool.false_eq_true, if_false, o_mod, (by decide : (0 : Int) < 2), if_true, e_outV, o_eqI]
    refine ⟨R, as, T, size, hs, rfl, t5.ext e59, tb, fun h10 e10 => ?_⟩
    have hod : decide (rk size T (from_ 0) T.length % 2 = 1) = p2 size (T.map rowB) (from_ 0) := odd_rk T (from_ 0)
    simp only [o_neB, e_outV, hod, BEq.rfl, Bool.not_true, Bool.false_eq_true, if_false]
    have e5a := e59.trans e10
    have pa := (e8.trans (e9.trans e10)) _ _ p7
    simp only [e_wTup, e_wC, e_wCB, e_wCons, e_wNil, wVar_s, wVar_0, o_lenL pa, e_oV, o_mulT, e_outV]
    have le1 : (-(2 ^ 63) ≤ (((roadsT T size).map rdW).length : Int) ∧ (((roadsT T size).map rdW).length : Int) ≤ 1000 ∧ [Wv.int 1].length ≤ 1000) := by
      rw [List.length_map]
      exact ⟨by omega, by omega, by decide⟩
    rw [if_pos le1]
    simp only [e_outV, Int.toNat_natCast, List.length_map, ones_rep]
    refine ⟨netT T size, onesL (roadsT T size).length, ok, ones_ok rfl, rfl, fun h11 e11 => ?_⟩
    have hm : ((netT T size).ssum (onesL (roadsT T size).length)) % 2 = rk size T (from_ 0) T.length % 2 := od_mod (by rw [netT_ssum tb]; exact hod.symm)
    simp only [o_mod, (by decide : (0 : Int) < 2), if_true, e_outV, wVar_s, wVar_0, o_neI, hm, decide_true, Bool.not_true, Bool.false_eq_true, if_false, e_wNext]
    have e5b := e5a.trans e11
    have rest : ∀ h', Ext h5 h' → ∀ ρ, wRet (wC (.bl true)) { nx := fun _ h' => Q .non h', rt := Q, ex := fun _ => E } ρ h' := fun h' e ρ => fin h' e
    rw [e_wSeq, e_wIfS]
    simp only [e_wTest, e_wBin, wVar_s, wVar_0, e_wC, o_lt, e_outV]
    by_cases small : (size : Int) < 6
    · rw [if_pos (by simpa using small), e_wSeq, e_wSet]
      simp only [e_wCall, e_wCons, e_wNil, wVar_s, wVar_0]
      refine ⟨netT T size, ok, rfl, fun h12 e12 => ?_⟩
      have e5c := e5b.trans e12
      simp only [List.set_cons_succ, List.set_cons_zero]
      rw [e_wIfS]
      simp only [e_wOr, e_wNot, e_wTest, e_wBin, e_wCall, e_wCB, e_wCons, e_wNil, wVar_s, wVar_0, e_wC]
      have lc : (netT T size).counts.length ≤ 15 := by
        have := cntB_length (latN (netT T size)) (netT T size).n (netT T size).n (2 ^ (netT T size).n - 1)
        show (cntB _ _ _ _).length ≤ 15
        have := ok.n14
        omega
      have rg : rgOk ((netT T size).counts.length : Int) = true := by unfold rgOk; simp; omega
      have bnk : ∀ k, cf (netT T size).counts k = bn T k := fun k => by rw [netT_counts tb, bn_all tb.ln]
      refine lc_pure (is := rgW 0 ((netT T size).counts.length : Int)) (kp := fun _ => True) (h1 := h12) (fun RR hR => ?_) (fun _ _ => trivial) (by rw [rgW_length]; omega) (fun _ => true) (fun w => match w with
          | .int z => .int (bn T z.toNat)
          | w => w) ?_ ?_
      · simp only [s_rng1, e_wCB, e_wCons, e_wNil, wVar_s, wVar_0, o_lenT, e_oV, List.length_map]
        exact ⟨rg, hR⟩
      · intro w hw
        obtain ⟨j, hj⟩ := List.getElem?_of_mem hw
        obtain ⟨lj, rfl⟩ := rgW_at hj
        refine ⟨_, rfl, fun h13 e13 => ⟨fun RB hb => hb, fun _ RB hb => ?_⟩⟩
        rw [show (0 : Int) + (j : Int) = (j : Int) by omega] at hb ⊢
        show wCall _ _ _ h13 RB F0
        simp only [e_wCall, e_wCons, e_wNil]
        show spB 7 [.ref R, .int (j : Nat)] h13 RB F0
        exact ⟨R, as, T, size, j, rfl, t5.ext (e5c.trans e13), tb.ln, by rw [tb.len]; omega, by rw [tb.len]; omega, hs, fun h' e' => hb h' e'⟩
      · intro D' h13 hD e13 d13
        have e5d := e5c.trans e13
        have ec : ((rgW 0 ((netT T size).counts.length : Int)).filter fun _ => true).map (fun w => match w with
          | .int z => Wv.int (bn T z.toNat)
          | w => w) = (netT T size).counts.map .int := by
          rw [List.filter_eq_self.mpr fun _ _ => rfl]
          apply List.ext_getElem?
          intro j
          rw [List.getElem?_map, List.getElem?_map]
          unfold rgW
          rw [List.getElem?_map, show (((netT T size).counts.length : Int) - 0).toNat = (netT T size).counts.length by omega]
          rcases Nat.lt_or_ge j (netT T size).counts.length with cc | cc
          · rw [List.getElem?_range cc, List.getElem?_eq_getElem cc]
            simp only [Option.map_some]
            have := bnk j
            rw [show ((0 : Int) + (j : Int)).toNat = j by omega, ← this]
            show some (Wv.int ((netT T size).counts.getD j 0)) = _
            rw [List.getD_eq_getElem?_getD, List.getElem?_eq_getElem cc]
            rfl
          · rw [List.getElem?_eq_none (by simpa using cc), List.getElem?_eq_none cc]
            rfl
        rw [ec] at d13
        rw [o_tupL d13]
        simp only [e_oV]
        refine ⟨_, rfl, .inr ⟨_, rfl⟩, ?_⟩
        simp only [Bool.not_true, Bool.false_eq_true, if_false, o_lenT, e_oV, List.length_map]
        refine ⟨R, as, T, size, (netT T size).counts.length, rfl, t5.ext e5d, tb.ln, by rw [tb.len]; omega, by rw [tb.len]; omega, hs, fun h14 e14 => ?_⟩
        have z : bn T (netT T size).counts.length = 0 := by
          rw [← bnk]
          show (netT T size).counts.getD _ 0 = 0
          rw [List.getD_eq_getElem?_getD, List.getElem?_eq_none (Nat.le_refl _)]
          rfl
        simp only [z, o_neI, decide_true, Bool.not_true, e_outV, Bool.false_eq_true, if_false, e_wNext]
        exact fin _ (e5d.trans e14)
    · rw [if_neg (by simpa using small), e_wNext]
      exact fin _ e5b
  · rw [if_pos (by simp; omega), e_wRet, e_wC]
    exact fin h7 e7
end Pd
set_option Elab.async false
set_option linter.all false
set_option maxRecDepth 100000
set_option maxHeartbeats 1000000
namespace Pd
open PySem PySem.Spec PyProof.Rows L2
/-! ### signs of known nets -/
theorem lkS_zero {k : Int × Int} : ∀ {l : List ((Int × Int) × Int)}, (∀ p, p ∈ l → p.1 ≠ k) → lkS l k = 0
  | [], _ => rfl
  | p :: t, h => by
    unfold lkS
    rw [if_neg (h p List.mem_cons_self)]
    exact lkS_zero fun q hq => h q (List.mem_cons_of_mem _ hq)
theorem lkS_at {k : Int × Int} {v : Int} : ∀ {l : List ((Int × Int) × Int)} {i : Nat}, (l.map (·.1)).Nodup → l[i]? = some (k, v) → lkS l k = v
  | [], _, _, h => by simp at h
  | p :: t, 0, _, h => by
    have : p = (k, v) := by simpa using h
    subst this
    exact if_pos rfl
  | p :: t, i + 1, nd, h => by
    have n1 := List.nodup_cons.mp nd
    have h' : t[i]? = some (k, v) := by simpa using h
    unfold lkS
    rw [if_neg]
    · exact lkS_at n1.2 h'
    · rintro rfl
      exact n1.1 (List.mem_map.mpr ⟨_, List.mem_of_getElem? h', rfl⟩)
theorem zip_at {rs : List (Int × Int)} {ss : List Int} {i : Nat} {r : Int × Int} (hl : ss.length = rs.length) (hr : rs[i]? = some r) : (rs.zip ss)[i]? = some (r, ss.getD i 0) := by
  have li := (List.getElem?_eq_some_iff.mp hr).1
  rw [List.getElem?_zip_eq_some]
  refine ⟨hr, ?_⟩
  rw [List.getD_eq_getElem?_getD, List.getElem?_eq_getElem (by omega)]
  rfl
theorem zip_fst {rs : List (Int × Int)} {ss : List Int} (hl : ss.length = rs.length) : (rs.zip ss).map (·.1) = rs := List.map_fst_zip (by rw [hl]; exact Nat.le_refl _)
theorem lkS_net {N : Net} {ss : List Int} (ok : N.Ok) (so : SgOk N ss) {i : Nat} {r : Int × Int} (hr : N.rs[i]? = some r) : lkS (N.rs.zip ss) r = ss.getD i 0 := lkS_at (by rw [zip_fst so.len]; exact ok.nd) (zip_at so.len hr)
theorem lkS_no {N : Net} {ss : List Int} {r : Int × Int} (hr : r ∉ N.rs) : lkS (N.rs.zip ss) r = 0 := lkS_zero fun p hp e => hr (by rw [← e]; exact (List.of_mem_zip hp).1)
/-- a net is right: looked at -/
def okNB (N : Net) : Bool := decide (N.n ≤ 14) && decide (N.rs.length ≤ 40) && N.rs.all (isRd N.n) && decide N.rs.Nodup
theorem okNB_ok {N : Net} (h : okNB N = true) : N.Ok := by
  unfold okNB at h
  simp only [Bool.and_eq_true, decide_eq_true_eq, List.all_eq_true] at h
  exact ⟨h.1.1.1, h.1.1.2, fun r hr => h.1.2 r hr, h.2⟩
def crossN (s : Nat) : Net := ⟨2 * s, (List.range s).map fun (a : Nat) => ((a : Int), (a : Int) + (s : Int))⟩
theorem rowN_ok : ∀ n, n < 15 → okNB (rowN n) = true := by decide +kernel
theorem ringN_ok : ∀ n, n < 15 → 3 ≤ n → okNB (ringN n) = true := by decide +kernel
theorem crossN_ok : ∀ n, n < 8 → okNB (crossN n) = true := by decide +kernel
theorem fullN_ok : ∀ n, n < 7 → okNB (fullN n) = true := by decide +kernel
theorem everyN_ok : ∀ n, n < 5 → okNB (everyN n) = true := by decide +kernel
theorem ladderN_ok : ∀ n, n < 8 → okNB (ladderN n) = true := by decide +kernel
theorem row_sg {n p : Nat} {ss : List Int} (n15 : n < 15) (so : SgOk (rowN n) ss) (hp : p + 1 < n) : sgZ ((rowN n).rs.zip ss) p (p + 1) = ss.getD p 0 := by
  refine lkS_net (okNB_ok (rowN_ok n n15)) so ?_
  unfold rowN
  rw [List.getElem?_map, List.getElem?_range (by omega)]
  simp
theorem row_sg0 {n p o : Nat} {ss : List Int} (h : o ≠ p + 1) : sgZ ((rowN n).rs.zip ss) p o = 0 := by
  refine lkS_no fun m => ?_
  unfold rowN at m
  obtain ⟨a, _, e⟩ := List.mem_map.mp m
  have h1 := congrArg Prod.fst e
  have h2 := congrArg Prod.snd e
  simp at h1 h2
  omega
theorem row_ssum {h : Nat} {ss : List Int} (h8 : h < 8) (so : SgOk (rowN (2 * h)) ss) : (rowN (2 * h)).ssum ss = pr (fun i => ss.getD i 0) h 0 := by
  unfold Net.ssum
  show (if (2 * h) % 2 = 0 then tt (sgZ ((rowN (2 * h)).rs.zip ss)) (2 * h / 2) (List.range (2 * h)) else 0) = _
  rw [if_pos (by omega), show 2 * h / 2 = h by omega, List.range_eq_range']
  exact tt_row (b := 2 * h) h 0 (by omega) (fun p _ hp => row_sg (by omega) so hp) (fun p o _ h2 _ => row_sg0 (by omega))
theorem ring_ssum {k : Nat} {ss : List Int} {last : Int} (h6 : k < 6) (hl : ss.length = 2 * k + 3) (so : SgOk (ringN (2 * k + 4)) (ss ++ [last])) : (ringN (2 * k + 4)).ssum (ss ++ [last]) = pr (fun i => ss.getD i 0) (k + 2) 0 + last * pr (fun i => ss.getD i 0) (k + 1) 1 := by
  have ok := okNB_ok (ringN_ok (2 * k + 4) (by omega) (by omega))
  unfold Net.ssum
  show (if (2 * k + 4) % 2 = 0 then tt (sgZ ((ringN (2 * k + 4)).rs.zip (ss ++ [last]))) ((2 * k + 4) / 2) (List.range (2 * k + 4)) else 0) = _
  rw [if_pos (by omega), show (2 * k + 4) / 2 = k + 2 by omega, List.range_eq_range']
  refine tt_ring (fun p hp => ?_) (fun p o h1 h2 h3 => ?_) ?_
  · have e := lkS_net ok so (i := p) (r := ((p : Int), ((p + 1 : Nat) : Int))) (by
      unfold ringN
      rw [List.getElem?_append_left (by rw [List.length_map, List.length_range]; omega), List.getElem?_map, List.getElem?_range (by omega)]
      simp)
    rw [show sgZ ((ringN (2 * k + 4)).rs.zip (ss ++ [last])) p (p + 1) = _ from e, List.getD_eq_getElem?_getD, List.getElem?_append_left (by omega), ← List.getD_eq_getElem?_getD]
  · refine lkS_no fun m => ?_
    unfold ringN at m
    rcases List.mem_append.mp m with m | m
    · obtain ⟨a, _, e⟩ := List.mem_map.mp m
      have h1 := congrArg Prod.fst e
      have h2 := congrArg Prod.snd e
      simp at h1 h2
      omega
    · have e := List.mem_singleton.mp m
      have h1 := congrArg Prod.fst e
      have h2 := congrArg Prod.snd e
      simp at h1 h2
      exact h3 ⟨by omega, by omega⟩
  · have e := lkS_net ok so (i := 2 * k + 3) (r := (((0 : Nat) : Int), ((2 * k + 3 : Nat) : Int))) (by
      unfold ringN
      rw [List.getElem?_append_right (by rw [List.length_map, List.length_range]; omega), List.length_map, List.length_range, show 2 * k + 3 - (2 * k + 4 - 1) = 0 by omega]
      simp
      omega)
    rw [show sgZ ((ringN (2 * k + 4)).rs.zip (ss ++ [last])) 0 (2 * k + 3) = _ from e, List.getD_eq_getElem?_getD, List.getElem?_append_right (by omega), hl, Nat.sub_self]
    rfl
theorem cross_ssum {h : Nat} {ss : List Int} (h8 : h < 8) (so : SgOk (crossN h) ss) : (crossN h).ssum ss = pq (fun i => ss.getD i 0) h 0 * crs h := by
  have ok := okNB_ok (crossN_ok h h8)
  unfold Net.ssum
  show (if (2 * h) % 2 = 0 then tt (sgZ ((crossN h).rs.zip ss)) (2 * h / 2) (List.range (2 * h)) else 0) = _
  have e : List.range (2 * h) = List.range' 0 h ++ List.range' (0 + h) h := by
    rw [List.range_eq_range', show 2 * h = h + h by omega, ← List.range'_append_1]
  rw [if_pos (by omega), show 2 * h / 2 = h by omega, e, tt_cross (f := fun i => ss.getD i 0) (h := h) (fun p hp => ?_) (fun p o hp ho => ?_) h 0 (by omega), cr_pq]
  · refine lkS_net ok so ?_
    unfold crossN
    rw [List.getElem?_map, List.getElem?_range hp]
    simp
  · refine lkS_no fun m => ?_
    unfold crossN at m
    obtain ⟨a, _, e⟩ := List.mem_map.mp m
    have h1 := congrArg Prod.fst e
    have h2 := congrArg Prod.snd e
    simp at h1 h2
    omega
/-! ### products of signs -/
theorem pq_shift {f : Nat → Int} : ∀ (k a : Nat), pq f k (a + 1) = pq (fun i => f (i + 1)) k a
  | 0, _ => rfl
  | k + 1, a => by rw [pq, pq, pq_shift k (a + 1)]
theorem prodL_pq : ∀ (ss : List Int), prodL ss = pq (fun i => ss.getD i 0) ss.length 0
  | [] => rfl
  | x :: t => by
    rw [prodL, prodL_pq t, List.length_cons, pq, pq_shift]
    rfl
theorem pr_range {f : Nat → Int} : ∀ (k a : Nat), prodL ((List.range k).map fun t => f (a + 2 * t)) = pr f k a
  | 0, _ => rfl
  | k + 1, a => by
    rw [List.range_succ_eq_map, List.map_cons, prodL, List.map_map, pr, ← pr_range k (a + 2)]
    congr 2
    refine List.map_congr_left fun t _ => ?_
    simp only [Function.comp]
    congr 1
    omega
theorem step_even : ∀ h, h < 8 → 1 ≤ h → stepOf (2 * h - 1) none none 2 = (List.range h).map fun t => 0 + 2 * t := by decide +kernel
theorem step_odd : ∀ h, h < 8 → 1 ≤ h → stepOf (2 * h - 1) (some 1) none 2 = (List.range (h - 1)).map fun t => 1 + 2 * t := by decide +kernel
theorem fm_all {α β : Type} {g : α → Option β} {f : α → β} : ∀ (l : List α), (∀ t, t ∈ l → g t = some (f t)) → l.filterMap g = l.map f
  | [], _ => rfl
  | x :: l, h => by rw [List.filterMap_cons, h x List.mem_cons_self, List.map_cons, fm_all l fun t ht => h t (List.mem_cons_of_mem _ ht)]
theorem pick_map {ss : List Int} {k a : Nat} (h : ∀ t, t < k → a + 2 * t < ss.length) : ((List.range k).map fun t => a + 2 * t).filterMap (fun i => (ss.map Wv.int)[i]?) = ((List.range k).map fun t => ss.getD (a + 2 * t) 0).map Wv.int := by
  rw [List.filterMap_map, List.map_map]
  refine fm_all _ fun t ht => ?_
  have := h t (List.mem_range.mp ht)
  simp only [Function.comp]
  rw [List.getElem?_map, List.getElem?_eq_getElem this, List.getD_eq_getElem?_getD, List.getElem?_eq_getElem this]
  rfl
theorem picked_even {h : Nat} {ss : List Int} (h8 : h < 8) (h1 : 1 ≤ h) (hl : ss.length = 2 * h - 1) : picked (ss.map Wv.int) none none 2 = ((List.range h).map fun t => ss.getD (0 + 2 * t) 0).map Wv.int := by
  unfold picked
  rw [List.length_map, hl, step_even h h8 h1]
  exact pick_map fun t ht => by omega
theorem picked_odd {h : Nat} {ss : List Int} (h8 : h < 8) (h1 : 1 ≤ h) (hl : ss.length = 2 * h - 1) : picked (ss.map Wv.int) (some 1) none 2 = ((List.range (h - 1)).map fun t => ss.getD (1 + 2 * t) 0).map Wv.int := by
  unfold picked
  rw [List.length_map, hl, step_odd h h8 h1]
  exact pick_map fun t ht => by omega
end Pd
set_option Elab.async false
set_option linter.all false
set_option maxRecDepth 100000
set_option maxHeartbeats 1000000
namespace Pd
open PySem PySem.Spec PyProof.Rows L2
/-! ### _law_signs_right -/
def PM (ss : List Int) : Prop := ∀ x, x ∈ ss → x = 1 ∨ x = -1
theorem draw_signs {m c l : Addr} {k j : Nat} {h1 : WH} {ρ : Wen} {its : List Wv} {Q : WQ} {E : WX} (hj : ρ[j]? = some (some (.tup its))) (henv : ∀ w, (List.set (wipeW ρ [9]) 9 (some w))[0]? = some (some (.ref m))) (hn : its.length ≤ 20) (st : LawSt m c l k h1) (hk : k < 100000)
    (q : ∀ D l2 ss h2, ss.length = its.length → PM ss → LawSt m c l2 (k + its.length) h2 → Step m l h1 l2 h2 → h2 D = some (.lst (ss.map .int)) → Q (.ref D) h2) :
    wLc (wISeq (wVar j)) (.nm 9) (wYes) (wCall sp_of (wCons (wVar 0) (wCons (wLst (wCons (wC (.int 1)) (wCons (wUn negF (wC (.int 1))) (wNil)))) (wNil)))) [9] ρ h1 Q E := by
  have big : 1000 < sizeLine := by decide
  rw [lc_body]
  simp only [s_seq]
  rw [wVar_at hj]
  simp only [s_onT, id]
  intro D hD
  have Dm : D ≠ m := by rintro rfl; exact st.there.1 hD
  have Dl : D ≠ l := by rintro rfl; exact st.there.2 hD
  have Dc : D ≠ c := by rintro rfl; exact st.cThere hD
  refine ⟨fun i acc h2 => ∃ l2 ss, acc = ss.map .int ∧ ss.length = i ∧ PM ss ∧ LawSt m c l2 (k + i) h2 ∧ Step m l h1 l2 h2 ∧ h2 D = some (.lst acc) ∧ D ≠ l2, ?_, fun _ _ _ _ _ => trivial, ?_, ?_⟩
  · exact ⟨l, [], rfl, rfl, nofun, st.put Dm Dc Dl, Step.refl.put hD, wup_same, Dl⟩
  · rintro i acc w h2 hi ⟨l2, ss, rfl, hl, pm, st2, s2, d2, Dl2⟩
    have li := (List.getElem?_eq_some_iff.mp hi).1
    refine ⟨_, rfl, ?_⟩
    simp only [e_wYes, if_true, e_wCall, e_wCons, e_wNil, e_wLst, e_wC, e_wUn, o_neg, e_outV]
    rw [wVar_at (henv w)]
    intro b hb
    have bl : b ≠ l2 := by rintro rfl; exact st2.there.2 hb
    have Db : D ≠ b := by rintro rfl; rw [d2] at hb; cases hb
    refine ⟨m, c, l2, k + i, b, _, rfl, st2.ext (Ext.new hb), by omega, wup_same, by simp, by simp, bl, fun h3 l3 w st3 s3 hw => ?_⟩
    have d3 := s3.keep D _ Dm Dl2 (by rw [wup_ne Db]; exact d2)
    have Dl3 := s3.apart Dl2 (by rw [wup_ne Db]; exact d2)
    have s23 := (s2.trans (Step.of (Ext.new hb)) st2.ne).trans s3 st3.ne
    have hv : ∃ v : Int, w = .int v ∧ (v = 1 ∨ v = -1) := by
      rcases List.mem_cons.mp hw with rfl | hw
      · exact ⟨1, rfl, .inl rfl⟩
      · rw [List.mem_singleton.mp hw]
        exact ⟨-1, rfl, .inr rfl⟩
    obtain ⟨v, rfl, hv⟩ := hv
    refine ⟨d3, by rw [List.length_map]; omega, l3, ss ++ [v], by simp, by simp [hl], ?_, (st3.mono (by omega)).put Dm Dc Dl3, s23.put hD, wup_same, Dl3⟩
    intro x hx
    rcases List.mem_append.mp hx with mm | mm
    · exact pm x mm
    · rw [List.mem_singleton.mp mm]
      exact hv
  · rintro acc h2 ⟨l2, ss, rfl, hl, pm, st2, s2, d2, Dl2⟩
    exact q D l2 ss h2 hl pm (hl ▸ st2) s2 d2
@[simp] theorem e_wStep {te ts : TWE} {tl th : TWO} {ρ : Wen} {h : WH} {Q : WQ} {E : WX} : wStep te tl th ts ρ h Q E = te ρ h (fun w h1 => tl ρ h1 (fun l h2 => th ρ h2 (fun u h3 => ts ρ h3 (fun c h4 => match w, c with
  | .tup ws, .int k => 2 ≤ k ∧ (picked ws l u k).length ≤ 1000 ∧ Q (.tup (picked ws l u k)) h4
  | _, _ => False) E) E) E) E := rfl
/-- places joined to later ones, so far on -/
def shiftR (n d : Nat) : List (Int × Int) := (List.range n).map fun (a : Nat) => ((a : Int), (a : Int) + (d : Int))
def sp_signs : WSp := fun ws h Q _ => ∃ (m c l : Addr) (k p : Nat), ws = [.ref m, .int (p : Nat)] ∧ LawSt m c l k h ∧ k < 5000 ∧ 2 ≤ p ∧ p < 15 ∧ ∀ h' l', LawSt m c l' (k + 30) h' → Step m l h l' h' → Q (.bl true) h'
theorem mo_signs : MoP sp_signs := fun ws h Q Q' E E' hq he ⟨m, c, l, k, size, e1, e2, e3, e4, e5, q⟩ => ⟨m, c, l, k, size, e1, e2, e3, e4, e5, fun h' l' a b => hq _ _ (q h' l' a b)⟩
theorem mulOk_r {i j : Int} (a : -(2 ^ 64) < j) (b : j < 2 ^ 64) : mulOk i j = true := by
  unfold mulOk
  rw [decide_eq_true a, decide_eq_true b]
  simp
theorem sig_val {hf : Nat} {ρ : Wen} {h : WH} {Q : WQ} {E : WX} (e : ρ[6]? = some (some (.int (hf : Nat)))) (h8 : hf < 8) :
    wBin subI (wC (.int 1)) (wBin mulF (wC (.int 2)) (wBin modI (wBin divI (wBin mulF (wVar 6) (wBin subI (wVar 6) (wC (.int 1)))) (wC (.int 2))) (wC (.int 2)))) ρ h Q E = Q (.int (crs hf)) h := by
  simp only [e_wBin, e_wC]
  rw [wVar_at e]
  simp only [wVar_at e]
  have hc : ∀ k, k < 8 → subI (.int ((k : Nat) : Int)) (.int 1) h = some (.val (.int (((k : Nat) : Int) - 1))) := fun _ _ => rfl
  rcases (show hf = 0 ∨ hf = 1 ∨ hf = 2 ∨ hf = 3 ∨ hf = 4 ∨ hf = 5 ∨ hf = 6 ∨ hf = 7 by omega) with rfl | rfl | rfl | rfl | rfl | rfl | rfl | rfl <;> rfl
theorem crs_mul {hf : Nat} {x : Int} (h8 : hf < 8) : mulOk x (crs hf) = true := by
  have : ∀ k, k < 8 → crs k = 1 ∨ crs k = -1 := by decide
  rcases this hf h8 with z | z <;> rw [z] <;> exact mulOk_r (by decide) (by decide)
/-- what comes behind the ring -/
theorem signs_back {m c l : Addr} {k hf : Nat} {h6 : WH} {row signs : List Wv} {due last : Int} {Q : WQ} {E : WX} (h1 : 1 ≤ hf) (h8 : hf < 8) (st6 : LawSt m c l k h6) (hk : k < 50000) (q : ∀ h' l', LawSt m c l' (k + 7) h' → Step m l h6 l' h' → Q (.bl true) h') :
    wSeq (wSet 6 (wBin divI (wVar 1) (wC (.int 2)))) (wSeq (wSet 7 (wCB (C1 tup1) (wCons (wLc (wIRng1 (wVar 6)) (.nm 8) (wYes) (wTup (wCons (wVar 8) (wCons (wBin addF (wVar 8) (wVar 6)) (wNil)))) [8]) (wNil)))) (wSeq (wSet 3 (wCB (C1 tup1) (wCons (wLc (wISeq (wVar 7)) (.nm 9) (wYes) (wCall sp_of (wCons (wVar 0) (wCons (wLst (wCons (wC (.int 1)) (wCons (wUn negF (wC (.int 1))) (wNil)))) (wNil)))) [9]) (wNil)))) (wRet (wCall sp_like (wCons (wCall sp_ssum (wCons (wTup (wCons (wVar 1) (wCons (wVar 7) (wNil)))) (wCons (wVar 3) (wNil)))) (wCons (wBin mulF (wCall sp_product (wCons (wVar 3) (wNil))) (wBin subI (wC (.int 1)) (wBin mulF (wC (.int 2)) (wBin modI (wBin divI (wBin mulF (wVar 6) (wBin subI (wVar 6) (wC (.int 1)))) (wC (.int 2))) (wC (.int 2)))))) (wNil)))))))
        { nx := fun _ h' => Q .non h', rt := Q, ex := fun _ => E } [some (.ref m), some (.int ((2 * hf : Nat) : Int)), some (.tup row), some (.tup signs), some (.int due), some (.int last), none, none, none, none] h6 := by
  have big : 1000 < sizeLine := by decide
  have d2_ : divOk ((2 * hf : Nat) : Int) 2 = true := by unfold divOk; simp
  have hh : ((2 * hf : Nat) : Int) / 2 = (hf : Int) := by omega
  rw [e_wSeq, e_wSet]
  simp only [e_wBin, e_wC, wVar_s, wVar_0, o_div, d2_, if_true, e_outV, hh, List.set_cons_succ, List.set_cons_zero]
  rw [e_wSeq, e_wSet]
  simp only [e_wCB]
  rw [e_wCons]
  refine lc_pure (is := rgW 0 (hf : Int)) (kp := fun _ => True) (h1 := h6) (fun RR hR => ?_) (fun _ _ => trivial) (by rw [rgW_length]; omega) (fun _ => true) (fun w => match w with
      | .int z => rdW (z, z + (hf : Int))
      | w => w) ?_ ?_
  · have rg : rgOk (hf : Int) = true := by unfold rgOk; simp; omega
    simp only [s_rng1, wVar_s, wVar_0]
    exact ⟨rg, hR⟩
  · intro w hw
    obtain ⟨j, hj⟩ := List.getElem?_of_mem hw
    obtain ⟨lj, rfl⟩ := rgW_at hj
    refine ⟨_, rfl, fun h2 e2 => ⟨fun RB hb => hb, fun _ RB hb => ?_⟩⟩
    exact hb h2 (Ext.refl _)
  · intro D3 h7 hD3 e7 d7
    have ec : ((rgW 0 (hf : Int)).filter fun _ => true).map (fun w => match w with
        | .int z => rdW (z, z + (hf : Int))
        | w => w) = (crossN hf).rs.map rdW := by
      rw [List.filter_eq_self.mpr fun _ _ => rfl]
      unfold rgW crossN
      rw [List.map_map, List.map_map, show ((hf : Int) - 0).toNat = hf by omega]
      refine List.map_congr_left fun x _ => ?_
      simp [rdW]
    rw [ec] at d7
    have ncr : (crossN hf).rs.length = hf := by unfold crossN; rw [List.length_map, List.length_range]
    simp only [e_wNil]
    rw [o_tupL d7]
    simp only [e_oV, List.set_cons_succ, List.set_cons_zero]
    have st7 := st6.ext e7
    rw [e_wSeq, e_wSet]
    simp only [e_wCB]
    rw [e_wCons]
    refine draw_signs (j := 7) rfl (fun w => rfl) (by rw [List.length_map, ncr]; omega) st7 (by omega) fun D4 l8 s2 h8_ hl2 pm2 st8 s8 d8 => ?_
    rw [List.length_map, ncr] at hl2 st8
    simp only [e_wNil]
    rw [o_tupL d8]
    simp only [e_oV, List.set_cons_succ, List.set_cons_zero]
    have so3 : SgOk (crossN hf) s2 := ⟨by rw [hl2, ncr], pm2⟩
    have ok3 := okNB_ok (crossN_ok hf h8)
    rw [e_wRet, e_wCall, e_wCons, e_wCall, e_wCons, e_wTup, e_wCons, wVar_s, wVar_0, e_wCons, wVar_s, wVar_s, wVar_s, wVar_s, wVar_s, wVar_s, wVar_s, wVar_0, e_wNil, e_wCons, wVar_s, wVar_s, wVar_s, wVar_0, e_wNil]
    refine ⟨crossN hf, s2, ok3, so3, rfl, fun h9 e9 => ?_⟩
    rw [cross_ssum h8 so3]
    dsimp only
    rw [e_wCons, e_wBin, e_wCall, e_wCons, wVar_s, wVar_s, wVar_s, wVar_0, e_wNil]
    refine ⟨s2, rfl, pm2, ?_⟩
    dsimp only
    rw [sig_val rfl h8, o_mul, if_pos (crs_mul h8), e_outV, e_wNil]
    refine ⟨.int (pq (fun i => s2.getD i 0) hf 0 * crs hf), ?_, .inl ⟨_, rfl⟩, ?_⟩
    · rw [prodL_pq, hl2]
    have st9 := st8.ext e9
    exact q h9 l8 (st9.mono (by omega)) (((Step.of e7).trans s8 st8.ne).trans (Step.of e9) st9.ne)
theorem q_signs (ws_ : List Wv) (h : WH) (Q : WQ) (E : WX) (sp : sp_signs ws_ h Q E) : wBody (t_xlaw_signs_right sp_of sp_product sp_ssum sp_like) N_xlaw_signs_right.length ws_ h Q E := by
  obtain ⟨m, c, l, k, p, rfl, st, hk, p2_, p15, q⟩ := sp
  have big : 1000 < sizeLine := by decide
  obtain ⟨hf, hfe⟩ : ∃ hf : Nat, hf = p / 2 := ⟨_, rfl⟩
  have h1 : 1 ≤ hf := by omega
  have h8 : hf < 8 := by omega
  have pe : (p : Int) - (p : Int) % 2 = ((2 * hf : Nat) : Int) := by omega
  simp only [e_wBody, t_xlaw_signs_right, N_xlaw_signs_right, wStart_def, List.length_cons, List.length_nil, List.map_cons, List.map_nil, List.cons_append, List.nil_append, Nat.reduceAdd, Nat.reduceSub, List.replicate_succ, List.replicate_zero]
  rw [e_wSeq, e_wSet]
  simp only [e_wBin, wVar_s, wVar_0, e_wC, o_mod, (by decide : (0 : Int) < 2), if_true, e_outV, o_sub, pe, List.set_cons_succ, List.set_cons_zero]
  -- the row
  rw [e_wSeq, e_wSet]
  simp only [e_wCB]
  rw [e_wCons]
  refine lc_pure (is := rgW 0 (((2 * hf : Nat) : Int) - 1)) (kp := fun _ => True) (h1 := h) (fun RR hR => ?_) (fun _ _ => trivial) (by rw [rgW_length]; omega) (fun _ => true) (fun w => match w with
      | .int z => rdW (z, z + 1)
      | w => w) ?_ ?_
  · have rg : rgOk (((2 * hf : Nat) : Int) - 1) = true := by unfold rgOk; simp; omega
    simp only [s_rng1, e_wBin, wVar_s, wVar_0, e_wC, o_sub, e_outV]
    exact ⟨rg, hR⟩
  · intro w hw
    obtain ⟨j, hj⟩ := List.getElem?_of_mem hw
    obtain ⟨lj, rfl⟩ := rgW_at hj
    refine ⟨_, rfl, fun h2 e2 => ⟨fun RB hb => hb, fun _ RB hb => ?_⟩⟩
    exact hb h2 (Ext.refl _)
  · intro D1 h2 hD1 e2 d2
    have er : ((rgW 0 (((2 * hf : Nat) : Int) - 1)).filter fun _ => true).map (fun w => match w with
        | .int z => rdW (z, z + 1)
        | w => w) = (rowN (2 * hf)).rs.map rdW := by
      rw [List.filter_eq_self.mpr fun _ _ => rfl]
      unfold rgW rowN
      rw [List.map_map, List.map_map, show (((2 * hf : Nat) : Int) - 1 - 0).toNat = 2 * hf - 1 by omega]
      refine List.map_congr_left fun x _ => ?_
      simp [rdW]
    rw [er] at d2
    have nrow : (rowN (2 * hf)).rs.length = 2 * hf - 1 := by unfold rowN; rw [List.length_map, List.length_range]
    simp only [e_wNil]
    rw [o_tupL d2]
    simp only [e_oV, List.set_cons_succ, List.set_cons_zero]
    have st2 := st.ext e2
    -- the signs
    rw [e_wSeq, e_wSet]
    simp only [e_wCB]
    rw [e_wCons]
    refine draw_signs (j := 2) rfl (fun w => rfl) (by rw [List.length_map, nrow]; omega) st2 (by omega) fun D2 l3 ss h3 hl pm st3 s3 d3 => ?_
    rw [List.length_map, nrow] at hl st3
    simp only [e_wNil]
    rw [o_tupL d3]
    simp only [e_oV, List.set_cons_succ, List.set_cons_zero]
    have so1 : SgOk (rowN (2 * hf)) ss := ⟨by rw [hl, nrow], pm⟩
    have s03 : Step m l h l3 h3 := (Step.of e2).trans s3 st3.ne
    -- due
    have pe1 := picked_even h8 h1 hl
    have pmE : ∀ (a n : Nat), PM ((List.range n).map fun t => ss.getD (a + 2 * t) 0) ∨ True := fun _ _ => .inr trivial
    have getPM : ∀ i, i < ss.length → ss.getD i 0 = 1 ∨ ss.getD i 0 = -1 := fun i hi => by
      rw [List.getD_eq_getElem?_getD, List.getElem?_eq_getElem hi]
      exact pm _ (List.getElem_mem hi)
    rw [e_wSeq, e_wSet]
    simp only [e_wCall, e_wCons, e_wNil, e_wStep, e_wNoPart, e_wC, wVar_s, wVar_0, pe1]
    refine ⟨by decide, by rw [List.length_map, List.length_map, List.length_range]; omega, _, rfl, fun x hx => ?_, ?_⟩
    · obtain ⟨t, ht, rfl⟩ := List.mem_map.mp hx
      have := List.mem_range.mp ht
      exact getPM _ (by omega)
    rw [pr_range (f := fun i => ss.getD i 0)]
    simp only [List.set_cons_succ, List.set_cons_zero]
    -- the row's sum
    rw [e_wSeq, e_wIfS]
    simp only [e_wNot, e_wTest, e_wCall, e_wCons, e_wNil, e_wTup, wVar_s, wVar_0]
    have ok1 := okNB_ok (rowN_ok (2 * hf) (by omega))
    refine ⟨rowN (2 * hf), ss, ok1, so1, rfl, fun h4 e4 => ?_⟩
    rw [row_ssum h8 so1]
    refine ⟨_, rfl, .inl ⟨_, rfl⟩, ?_⟩
    simp only [Bool.not_true, Bool.false_eq_true, if_false, e_wNext]
    have st4 := st3.ext e4
    have s04 : Step m l h l3 h4 := s03.trans (Step.of e4) st4.ne
    -- one sign more
    rw [e_wSeq, e_wSet]
    simp only [e_wCall, e_wCons, e_wNil, e_wLst, e_wC, e_wUn, o_neg, e_outV, wVar_s, wVar_0]
    intro b hb
    have bl : b ≠ l3 := by rintro rfl; exact st4.there.2 hb
    refine ⟨m, c, l3, _, b, _, rfl, st4.ext (Ext.new hb), by omega, wup_same, by simp, by simp, bl, fun h5 l5 w st5 s5 hw => ?_⟩
    have hv : ∃ v : Int, w = .int v ∧ (v = 1 ∨ v = -1) := by
      rcases List.mem_cons.mp hw with rfl | hw
      · exact ⟨1, rfl, .inl rfl⟩
      · rw [List.mem_singleton.mp hw]
        exact ⟨-1, rfl, .inr rfl⟩
    obtain ⟨last, rfl, hlast⟩ := hv
    have s05 : Step m l h l5 h5 := (s04.trans (Step.of (Ext.new hb)) st4.ne).trans s5 st5.ne
    simp only [List.set_cons_succ, List.set_cons_zero]
    have back : ∀ h6, Ext h5 h6 → _ := fun h6 e6 => signs_back (E := E) (row := (rowN (2 * hf)).rs.map rdW) (signs := ss.map .int) (due := pr (fun i => ss.getD i 0) hf 0) (last := last) h1 h8 (st5.ext e6) (by omega) fun h' l' sx tx => q h' l' (sx.mono (by omega)) ((s05.trans (Step.of e6) (st5.ext e6).ne).trans tx sx.ne)
    -- the ring
    rw [e_wSeq, e_wIfS]
    simp only [e_wAnd, e_wNot, e_wTest, e_wBin, e_wC, wVar_s, wVar_0, o_gt, e_outV]
    by_cases ring : hf = 1
    · rw [if_neg (by simp; omega)]
      simp only [Bool.false_eq_true, if_false, e_wNext]
      exact back h5 (Ext.refl _)
    · rw [if_pos (by simp; omega)]
      obtain ⟨k2, rfl⟩ : ∃ k2, hf = k2 + 2 := ⟨hf - 2, by omega⟩
      have pe2 := picked_odd h8 h1 hl
      have nring : (ringN (2 * (k2 + 2))).rs.length = 2 * (k2 + 2) := by
        unfold ringN
        rw [List.length_append, List.length_map, List.length_range]
        simp
        omega
      have so2 : SgOk (ringN (2 * (k2 + 2))) (ss ++ [last]) := ⟨by rw [nring, List.length_append, hl]; simp; omega, fun x hx => by
        rcases List.mem_append.mp hx with mm | mm
        · exact pm x mm
        · rw [List.mem_singleton.mp mm]; exact hlast⟩
      have ok2 := okNB_ok (ringN_ok (2 * (k2 + 2)) (by omega) (by omega))
      have l1 : ((rowN (2 * (k2 + 2))).rs.map rdW).length + [Wv.tup [.int 0, .int (((2 * (k2 + 2) : Nat) : Int) - 1)]].length ≤ sizeLine := by
        rw [List.length_map, nrow]
        simp
        omega
      have l2 : (ss.map Wv.int).length + [Wv.int last].length ≤ sizeLine := by
        rw [List.length_map, hl]
        simp
        omega
      simp only [e_wCall, e_wCons, e_wNil, e_wTup, e_wBin, e_wC, wVar_s, wVar_0, o_sub, e_outV, o_addT, l1, l2, if_true]
      have rr : (rowN (2 * (k2 + 2))).rs.map rdW ++ [Wv.tup [.int 0, .int (((2 * (k2 + 2) : Nat) : Int) - 1)]] = (ringN (2 * (k2 + 2))).rs.map rdW := by
        unfold ringN rowN
        rw [List.map_append]
        rfl
      have rs2 : ss.map Wv.int ++ [Wv.int last] = (ss ++ [last]).map .int := by simp
      rw [rr, rs2]
      refine ⟨ringN (2 * (k2 + 2)), ss ++ [last], ok2, so2, rfl, fun h6 e6 => ?_⟩
      have rsum := ring_ssum (k := k2) (ss := ss) (last := last) (by omega) (by omega) so2
      rw [show (ringN (2 * (k2 + 2))).ssum (ss ++ [last]) = _ from rsum]
      have ml : ∀ x : Int, mulOk last x = true := fun x => mulOk_l (by rcases hlast with z | z <;> rw [z] <;> decide) (by rcases hlast with z | z <;> rw [z] <;> decide)
      simp only [e_wCall, e_wCons, e_wNil, e_wStep, e_wPart, e_wNoPart, e_wC, e_wBin, wVar_s, wVar_0, pe2]
      refine ⟨by decide, by rw [List.length_map, List.length_map, List.length_range]; omega, _, rfl, fun x hx => ?_, ?_⟩
      · obtain ⟨t, ht, rfl⟩ := List.mem_map.mp hx
        have := List.mem_range.mp ht
        exact getPM _ (by omega)
      rw [pr_range (f := fun i => ss.getD i 0)]
      simp only [o_mul, ml, if_true, e_outV, o_addI]
      refine ⟨_, rfl, .inl ⟨_, rfl⟩, ?_⟩
      simp only [Bool.not_true, Bool.false_eq_true, if_false, e_wNext]
      exact back h6 e6
end Pd
set_option Elab.async false
set_option linter.all false
set_option maxRecDepth 100000
set_option maxHeartbeats 1000000
namespace Pd
open PySem PySem.Spec PyProof.Rows L2
/-! ### the law -/
theorem grow_loop {n t : Nat} {p : Addr} {env : Option Wv → Wen} {src lc : TWE} {g : Nat → List (Int × Int)} {h5 h6 : WH} {D : WEnds} {z0 : Option Wv} (hset : ∀ z w, bindW (.nm 6) w (env z) = some (env (some w))) (ht : ∀ z, (env z)[t]? = some (some (.ref p)))
    (hsrc : ∀ h R E, R (.int (n : Nat)) h → src (env z0) h R E) (n20 : n ≤ 20) (lens : ∀ i, i < n → (g i).length ≤ 20) (hp : h5 p = none) (e6 : Ext h5 h6) (hp6 : h6 p = some (.lst []))
    (comp : ∀ i, i < n → ∀ h, Ext h5 h → ∀ R E, (∀ D h2, h D = none → Ext h h2 → h2 D = some (.lst ((g i).map rdW)) → R (.ref D) h2) → lc (env (some (.int (i : Nat)))) h R E)
    (q : ∀ h7 z, Ext h5 h7 → h7 p = some (.lst (((List.range n).flatMap g).map rdW)) → D.nx (env z) h7) :
    wFor (wIRng1 src) (.nm 6) (wDrop (wBM "list" extendM (wVar t) (wCons lc (wNil)))) D (env z0) h6 := by
  have rg : rgOk (n : Int) = true := by unfold rgOk; simp; omega
  have big : 1000 < sizeLine := by decide
  have fl : ∀ i, i ≤ n → ((List.range i).flatMap g).length ≤ i * 20 := by
    intro i
    induction i with
    | zero => intro _; simp
    | succ i ih =>
      intro hi
      have h1 := ih (by omega)
      have h2 := lens i (by omega)
      rw [List.range_succ, List.flatMap_append, List.length_append, List.flatMap_cons, List.flatMap_nil, List.append_nil]
      omega
  rw [e_wFor, s_rng1]
  refine hsrc _ _ _ ⟨rg, fun i ρ h => Ext h5 h ∧ h p = some (.lst (((List.range i).flatMap g).map rdW)) ∧ ∃ z, ρ = env z, ⟨e6, hp6, _, rfl⟩, fun _ _ _ _ _ => trivial, ?_, ?_⟩
  · rintro i w ρ h hi ⟨e7, p7, z, rfl⟩
    obtain ⟨li, rfl⟩ := rgW_at hi
    have hi' : i < n := by omega
    refine ⟨_, hset _ _, ?_⟩
    rw [show (0 : Int) + (i : Int) = (i : Int) by omega, e_wDrop, e_wBM, wVar_at (ht _)]
    refine ⟨.inl ⟨rfl, _, p7⟩, ?_⟩
    rw [e_wCons]
    refine comp i hi' h e7 _ _ fun D' h2 hD e2 d2 => ?_
    have p2 := e2 _ _ p7
    have f1 := fl i (by omega)
    have f2 := lens i hi'
    simp only [e_wNil]
    rw [o_ext p2 d2, if_pos (by rw [List.length_map, List.length_map]; omega)]
    simp only [e_oP]
    refine ⟨Ext.put hp (e7.trans e2), ?_, _, rfl⟩
    rw [wup_same, List.range_succ, List.flatMap_append, List.map_append]
    simp
  · rintro ρ h ⟨e7, p7, z, rfl⟩
    rw [rgW_length, show ((n : Int) - 0).toNat = n by omega] at p7
    exact q h z e7 p7
/-- a comprehension of roads over numbers -/
theorem lc_rd {s : TWI} {j : Nat} {te : TWE} {ρ : Wen} {h : WH} {Q : WQ} {E : WX} {a b : Int} (F : Int → Int × Int) (hs : ∀ R : List Wv → (WH → Prop) → WH → Prop, R (rgW a b) (fun _ => True) h → s ρ h R E) (hl : (b - a).toNat ≤ 100)
    (st : ∀ (z : Int) h2 (R : WQ), R (rdW (F z)) h2 → te (List.set (wipeW ρ [j]) j (some (.int z))) h2 R F0)
    (q : ∀ D h2, h D = none → Ext h h2 → h2 D = some (.lst (((List.range (b - a).toNat).map fun (i : Nat) => F (a + (i : Int))).map rdW)) → Q (.ref D) h2) : wLc s (.nm j) wYes te [j] ρ h Q E := by
  have big : 1000 < sizeLine := by decide
  refine lc_pure (is := rgW a b) (kp := fun _ => True) (h1 := h) hs (fun _ _ => trivial) (by rw [rgW_length]; omega) (fun _ => true) (fun w => match w with
      | .int z => rdW (F z)
      | w => w) ?_ ?_
  · intro w hw
    obtain ⟨i, hi⟩ := List.getElem?_of_mem hw
    obtain ⟨_, rfl⟩ := rgW_at hi
    exact ⟨_, rfl, fun h2 e2 => ⟨fun RB hb => hb, fun _ RB hb => st _ h2 _ (hb h2 (Ext.refl _))⟩⟩
  · intro D h2 hD e2 d2
    refine q D h2 hD e2 ?_
    rw [d2, List.filter_eq_self.mpr fun _ _ => rfl]
    unfold rgW
    rw [List.map_map, List.map_map]
    rfl
abbrev EN (Q : WQ) (E : WX) : WEnds := { nx := fun _ h' => Q .non h', rt := Q, ex := fun _ => E }
/-- the ladder -/
theorem law_ladder {m c l : Addr} {k : Nat} {h : WH} {Q : WQ} {E : WX} {s0 s2 s3 s4 s5 s6 s7 s8 s9 s10 s11 s12 s13 s14 s15 s16 : Option Wv} (st : LawSt m c l k h) (hk : k < 50000) (q : ∀ h' l', l' ≠ m → Step m l h l' h' → Q (.bl true) h') :
    wSeq (wPar 11 12 (wCons (wBin addF (wC (.int 1)) (wCall sp_next (wCons (wVar 1) (wCons (wC (.int 7)) (wNil))))) (wCons (wTup (wCons (wC (.int 1)) (wCons (wC (.int 1)) (wNil)))) (wNil)))) (wSeq (wFor (wIRng1 (wVar 11)) (.nm 2) (wSet 12 (wTup (wCons (wBin ixF (wVar 12) (wC (.int 1))) (wCons (wBin addF (wBin ixF (wVar 12) (wC (.int 0))) (wBin ixF (wVar 12) (wC (.int 1)))) (wNil)))))) (wSeq (wSet 13 (wBin addF (wBin addF (wLc (wIRng1 (wVar 11)) (.nm 15) (wYes) (wTup (wCons (wBin mulF (wC (.int 2)) (wVar 15)) (wCons (wBin addF (wBin mulF (wC (.int 2)) (wVar 15)) (wC (.int 1))) (wNil)))) [15]) (wLc (wIRng1 (wBin subI (wVar 11) (wC (.int 1)))) (.nm 15) (wYes) (wTup (wCons (wBin mulF (wC (.int 2)) (wVar 15)) (wCons (wBin addF (wBin mulF (wC (.int 2)) (wVar 15)) (wC (.int 2))) (wNil)))) [15])) (wLc (wIRng1 (wBin subI (wVar 11) (wC (.int 1)))) (.nm 15) (wYes) (wTup (wCons (wBin addF (wBin mulF (wC (.int 2)) (wVar 15)) (wC (.int 1))) (wCons (wBin addF (wBin mulF (wC (.int 2)) (wVar 15)) (wC (.int 3))) (wNil)))) [15]))) (wRet (wBin eqF (wCall sp_whole (wCons (wTup (wCons (wBin mulF (wC (.int 2)) (wVar 11)) (wCons (wCB (C1 tup1) (wCons (wVar 13) (wNil))) (wNil)))) (wNil))) (wBin ixF (wVar 12) (wC (.int 0)))))))
      (EN Q E) [s0, some (.ref m), s2, s3, s4, s5, s6, s7, s8, s9, s10, s11, s12, s13, s14, s15, s16] h := by
  have big : 1000 < sizeLine := by decide
  rw [e_wSeq, e_wPar]
  simp only [e_wCons, e_wBin, e_wC, e_wCall, e_wNil, e_wTup, wVar_s, wVar_0]
  refine ⟨m, c, l, k, 7, rfl, st, by omega, by omega, by omega, fun h1 l1 v st1 s1 hv => ?_⟩
  obtain ⟨n, hn⟩ : ∃ n, n = v + 1 := ⟨_, rfl⟩
  have en : (1 : Int) + (v : Int) = (n : Int) := by omega
  simp only [o_addI, e_outV, en, List.set_cons_succ, List.set_cons_zero]
  have rg : rgOk (n : Int) = true := by unfold rgOk; simp; omega
  have rg1 : rgOk ((n : Int) - 1) = true := by unfold rgOk; simp; omega
  rw [e_wSeq, e_wFor]
  simp only [s_rng1, wVar_s, wVar_0]
  refine ⟨rg, fun i ρ h2 => h2 = h1 ∧ ∃ z, ρ = [s0, some (.ref m), z, s3, s4, s5, s6, s7, s8, s9, s10, some (.int (n : Nat)), some (.tup [.int (fibI i).1, .int (fibI i).2]), s13, s14, s15, s16], ⟨rfl, _, rfl⟩, fun _ _ _ _ _ => trivial, ?_, ?_⟩
  · rintro i w ρ h2 hi ⟨rfl, z, rfl⟩
    refine ⟨_, rfl, ?_⟩
    simp only [List.set_cons_succ, List.set_cons_zero, e_wSet, e_wTup, e_wCons, e_wNil, e_wBin, e_wC, wVar_s, wVar_0, o_ixT, at_0, at_1, Option.map_some, e_outV, o_addI]
    exact ⟨trivial, _, rfl⟩
  · rintro ρ h2 ⟨rfl, z, rfl⟩
    rw [rgW_length, show ((n : Int) - 0).toNat = n by omega]
    rw [e_wSeq, e_wSet]
    have m2 : ∀ x : Int, mulOk 2 x = true := fun x => mulOk_l (by decide) (by decide)
    rw [e_wBin, e_wBin]
    refine lc_rd (a := 0) (b := (n : Int)) (fun z => (2 * z, 2 * z + 1)) (fun R hR => ?_) (by omega) (fun z h3 R hR => ?_) fun D1 h3 hD1 e3 d3 => ?_
    · simp only [s_rng1, wVar_s, wVar_0]
      exact ⟨rg, hR⟩
    · show wTup _ [s0, some (.ref m), _, s3, s4, s5, s6, s7, s8, s9, s10, some (.int (n : Nat)), _, s13, s14, some (.int z), s16] h3 R F0
      simp only [e_wTup, e_wCons, e_wNil, e_wBin, e_wC, wVar_s, wVar_0, o_mul, m2, if_true, e_outV, o_addI]
      exact hR
    refine lc_rd (a := 0) (b := (n : Int) - 1) (fun z => (2 * z, 2 * z + 2)) (fun R hR => ?_) (by omega) (fun z h3 R hR => ?_) fun D2 h4 hD2 e4 d4 => ?_
    · simp only [s_rng1, e_wBin, e_wC, wVar_s, wVar_0, o_sub, e_outV]
      exact ⟨rg1, hR⟩
    · show wTup _ [s0, some (.ref m), _, s3, s4, s5, s6, s7, s8, s9, s10, some (.int (n : Nat)), _, s13, s14, some (.int z), s16] h3 R F0
      simp only [e_wTup, e_wCons, e_wNil, e_wBin, e_wC, wVar_s, wVar_0, o_mul, m2, if_true, e_outV, o_addI]
      exact hR
    have d3' := e4 _ _ d3
    rw [o_addL d3' d4, if_pos (by simp; omega)]
    simp only [e_outL]
    intro D3 hD3
    have e5 := Ext.new (o := .lst (((List.range ((n : Int) - 0).toNat).map fun (i : Nat) => (2 * (0 + (i : Int)), 2 * (0 + (i : Int)) + 1)).map rdW ++ ((List.range ((n : Int) - 1 - 0).toNat).map fun (i : Nat) => (2 * (0 + (i : Int)), 2 * (0 + (i : Int)) + 2)).map rdW)) hD3
    have d5 : wup h4 D3 (.lst (((List.range ((n : Int) - 0).toNat).map fun (i : Nat) => (2 * (0 + (i : Int)), 2 * (0 + (i : Int)) + 1)).map rdW ++ ((List.range ((n : Int) - 1 - 0).toNat).map fun (i : Nat) => (2 * (0 + (i : Int)), 2 * (0 + (i : Int)) + 2)).map rdW)) D3 = _ := wup_same
    generalize wup h4 D3 _ = h5 at e5 d5
    refine lc_rd (a := 0) (b := (n : Int) - 1) (fun z => (2 * z + 1, 2 * z + 3)) (fun R hR => ?_) (by omega) (fun z h3 R hR => ?_) fun D4 h6 hD4 e6 d6 => ?_
    · simp only [s_rng1, e_wBin, e_wC, wVar_s, wVar_0, o_sub, e_outV]
      exact ⟨rg1, hR⟩
    · show wTup _ [s0, some (.ref m), _, s3, s4, s5, s6, s7, s8, s9, s10, some (.int (n : Nat)), _, s13, s14, some (.int z), s16] h3 R F0
      simp only [e_wTup, e_wCons, e_wNil, e_wBin, e_wC, wVar_s, wVar_0, o_mul, m2, if_true, e_outV, o_addI]
      exact hR
    have d5' := e6 _ _ d5
    rw [o_addL d5' d6, if_pos (by simp; omega)]
    simp only [e_outL]
    intro D5 hD5
    have er : ((List.range ((n : Int) - 0).toNat).map fun (i : Nat) => (2 * (0 + (i : Int)), 2 * (0 + (i : Int)) + 1)).map rdW ++ ((List.range ((n : Int) - 1 - 0).toNat).map fun (i : Nat) => (2 * (0 + (i : Int)), 2 * (0 + (i : Int)) + 2)).map rdW ++ ((List.range ((n : Int) - 1 - 0).toNat).map fun (i : Nat) => (2 * (0 + (i : Int)) + 1, 2 * (0 + (i : Int)) + 3)).map rdW = (ladderN n).rs.map rdW := by
      unfold ladderN
      rw [show ((n : Int) - 0).toNat = n by omega, show ((n : Int) - 1 - 0).toNat = n - 1 by omega, List.map_append, List.map_append]
      simp only [Int.zero_add]
    rw [er]
    have e7 := Ext.new (o := .lst ((ladderN n).rs.map rdW)) hD5
    have d7 : wup h6 D5 (.lst ((ladderN n).rs.map rdW)) D5 = some (.lst ((ladderN n).rs.map rdW)) := wup_same
    generalize wup h6 D5 (.lst ((ladderN n).rs.map rdW)) = h7 at e7 d7
    have m2n : mulOk 2 (n : Int) = true := m2 _
    simp only [List.set_cons_succ, List.set_cons_zero, e_wRet, e_wBin, e_wCall, e_wCons, e_wNil, e_wTup, e_wC, e_wCB, wVar_s, wVar_0, o_mul, m2n, if_true, e_outV]
    rw [o_tupL d7]
    simp only [e_oV]
    refine ⟨ladderN n, okNB_ok (ladderN_ok n (by omega)), ?_, fun h8 e8 => ?_⟩
    · unfold Net.w
      rw [show ((ladderN n).n : Int) = 2 * (n : Int) by unfold ladderN; simp]
    · rw [ladder_counts n (by omega) (by omega)]
      simp only [e_wBin, e_wC, wVar_s, wVar_0, o_ixT, at_0, Option.map_some, e_outV, o_eqI, decide_true]
      refine q h8 l1 st1.ne (s1.trans (Step.of ?_) st1.ne)
      exact ((((e3.trans e4).trans e5).trans e6).trans e7).trans e8
end Pd
set_option Elab.async false
set_option linter.all false
set_option maxRecDepth 100000
set_option maxHeartbeats 1000000
namespace Pd
open PySem PySem.Spec PyProof.Rows L2
/-- rows, rings, signs -/
theorem law_rows {m c l : Addr} {k : Nat} {h : WH} {Q : WQ} {E : WX} {s0 s2 s3 s4 s5 s6 s7 s8 s9 s10 s11 s12 s13 s14 s15 s16 : Option Wv} (st : LawSt m c l k h) (hk : k < 4000) (q : ∀ h' l', l' ≠ m → Step m l h l' h' → Q (.bl true) h') :
    wSeq (wSet 9 (wBin addF (wC (.int 2)) (wCall sp_next (wCons (wVar 1) (wCons (wC (.int 13)) (wNil)))))) (wSeq (wSet 10 (wTup (wCons (wVar 9) (wCons (wCB (C1 tup1) (wCons (wLc (wIRng1 (wBin subI (wVar 9) (wC (.int 1)))) (.nm 15) (wYes) (wTup (wCons (wVar 15) (wCons (wBin addF (wVar 15) (wC (.int 1))) (wNil)))) [15]) (wNil))) (wNil))))) (wSeq (wIfS (wOr (wTest (wBin neF (wCall sp_whole (wCons (wVar 10) (wNil))) (wBin subI (wC (.int 1)) (wBin modI (wVar 9) (wC (.int 2)))))) (wTest (wBin neF (wCall sp_ssum (wCons (wVar 10) (wCons (wBin mulF (wTup (wCons (wC (.int 1)) (wNil))) (wBin subI (wVar 9) (wC (.int 1)))) (wNil)))) (wBin subI (wC (.int 1)) (wBin modI (wVar 9) (wC (.int 2))))))) (wRet (wC (.bl false))) (wNext)) (wSeq (wIfS (wTest (wBin gtI (wVar 9) (wC (.int 2)))) (wSeq (wSet 14 (wTup (wCons (wVar 9) (wCons (wBin addF (wBin ixF (wVar 10) (wC (.int 1))) (wTup (wCons (wTup (wCons (wC (.int 0)) (wCons (wBin subI (wVar 9) (wC (.int 1))) (wNil)))) (wNil)))) (wNil))))) (wIfS (wOr (wTest (wBin neF (wCall sp_whole (wCons (wVar 14) (wNil))) (wBin mulF (wC (.int 2)) (wBin subI (wC (.int 1)) (wBin modI (wVar 9) (wC (.int 2))))))) (wTest (wBin neF (wCall sp_mdet (wCons (wVar 14) (wCons (wBin mulF (wTup (wCons (wC (.int 1)) (wNil))) (wVar 9)) (wNil)))) (wBin mulF (wC (.int 4)) (wBin subI (wC (.int 1)) (wBin modI (wVar 9) (wC (.int 2)))))))) (wRet (wC (.bl false))) (wNext))) (wNext)) (wSeq (wIfS (wNot (wTest (wCall sp_signs (wCons (wVar 1) (wCons (wVar 9) (wNil)))))) (wRet (wC (.bl false))) (wNext)) (wSeq (wPar 11 12 (wCons (wBin addF (wC (.int 1)) (wCall sp_next (wCons (wVar 1) (wCons (wC (.int 7)) (wNil))))) (wCons (wTup (wCons (wC (.int 1)) (wCons (wC (.int 1)) (wNil)))) (wNil)))) (wSeq (wFor (wIRng1 (wVar 11)) (.nm 2) (wSet 12 (wTup (wCons (wBin ixF (wVar 12) (wC (.int 1))) (wCons (wBin addF (wBin ixF (wVar 12) (wC (.int 0))) (wBin ixF (wVar 12) (wC (.int 1)))) (wNil)))))) (wSeq (wSet 13 (wBin addF (wBin addF (wLc (wIRng1 (wVar 11)) (.nm 15) (wYes) (wTup (wCons (wBin mulF (wC (.int 2)) (wVar 15)) (wCons (wBin addF (wBin mulF (wC (.int 2)) (wVar 15)) (wC (.int 1))) (wNil)))) [15]) (wLc (wIRng1 (wBin subI (wVar 11) (wC (.int 1)))) (.nm 15) (wYes) (wTup (wCons (wBin mulF (wC (.int 2)) (wVar 15)) (wCons (wBin addF (wBin mulF (wC (.int 2)) (wVar 15)) (wC (.int 2))) (wNil)))) [15])) (wLc (wIRng1 (wBin subI (wVar 11) (wC (.int 1)))) (.nm 15) (wYes) (wTup (wCons (wBin addF (wBin mulF (wC (.int 2)) (wVar 15)) (wC (.int 1))) (wCons (wBin addF (wBin mulF (wC (.int 2)) (wVar 15)) (wC (.int 3))) (wNil)))) [15]))) (wRet (wBin eqF (wCall sp_whole (wCons (wTup (wCons (wBin mulF (wC (.int 2)) (wVar 11)) (wCons (wCB (C1 tup1) (wCons (wVar 13) (wNil))) (wNil)))) (wNil))) (wBin ixF (wVar 12) (wC (.int 0))))))))))))
      (EN Q E) [s0, some (.ref m), s2, s3, s4, s5, s6, s7, s8, s9, s10, s11, s12, s13, s14, s15, s16] h := by
  have big : 1000 < sizeLine := by decide
  rw [e_wSeq, e_wSet]
  simp only [e_wBin, e_wC, e_wCall, e_wCons, e_wNil, wVar_s, wVar_0]
  refine ⟨m, c, l, k, 13, rfl, st, by omega, by omega, by omega, fun h1 l1 v st1 s1 hv => ?_⟩
  obtain ⟨p, hp⟩ : ∃ p, p = v + 2 := ⟨_, rfl⟩
  have ep : (2 : Int) + (v : Int) = (p : Int) := by omega
  have p2_ : 2 ≤ p := by omega
  have p15 : p < 15 := by omega
  simp only [o_addI, e_outV, ep, List.set_cons_succ, List.set_cons_zero]
  have rg1 : rgOk ((p : Int) - 1) = true := by unfold rgOk; simp; omega
  rw [e_wSeq, e_wSet, e_wTup, e_wCons]
  simp only [wVar_s, wVar_0]
  rw [e_wCons, e_wCB, e_wCons]
  refine lc_rd (a := 0) (b := (p : Int) - 1) (fun z => (z, z + 1)) (fun R hR => ?_) (by omega) (fun z h3 R hR => ?_) fun D1 h2 hD1 e2 d2 => ?_
  · simp only [s_rng1, e_wBin, e_wC, wVar_s, wVar_0, o_sub, e_outV]
    exact ⟨rg1, hR⟩
  · exact hR
  have er : ((List.range ((p : Int) - 1 - 0).toNat).map fun (i : Nat) => ((0 : Int) + (i : Int), (0 : Int) + (i : Int) + 1)).map rdW = (rowN p).rs.map rdW := by
    unfold rowN
    rw [show ((p : Int) - 1 - 0).toNat = p - 1 by omega]
    simp only [Int.zero_add]
  rw [er] at d2
  simp only [e_wNil]
  rw [o_tupL d2]
  simp only [e_oV, List.set_cons_succ, List.set_cons_zero]
  have eN : Wv.tup [.int (p : Nat), .tup ((rowN p).rs.map rdW)] = (rowN p).w := rfl
  rw [eN]
  have t12 : Step m l h l1 h2 := s1.trans (Step.of e2) st1.ne
  have st2 := st1.ext e2
  have okr := okNB_ok (rowN_ok p p15)
  have nrow : (rowN p).rs.length = p - 1 := by unfold rowN; rw [List.length_map, List.length_range]
  rw [e_wSeq, e_wIfS]
  simp only [e_wOr, e_wTest, e_wBin, e_wCall, e_wCons, e_wNil, e_wC, wVar_s, wVar_0]
  refine ⟨rowN p, okr, rfl, fun h3 e3 => ?_⟩
  rw [row_counts p p15 p2_]
  simp only [o_mod, (by decide : (0 : Int) < 2), if_true, e_outV, o_sub, o_neI, decide_true, Bool.not_true, Bool.false_eq_true, if_false, e_wTup, e_wCons, e_wNil, e_wC, wVar_s, wVar_0, e_wBin, o_mulT]
  have le1 : (-(2 ^ 63) ≤ (p : Int) - 1 ∧ (p : Int) - 1 ≤ 1000 ∧ [Wv.int 1].length ≤ 1000) := ⟨by omega, by omega, by decide⟩
  rw [if_pos le1]
  simp only [e_outV, show ((p : Int) - 1).toNat = p - 1 by omega, ones_rep]
  refine ⟨rowN p, onesL (p - 1), okr, ones_ok nrow.symm, rfl, fun h4 e4 => ?_⟩
  rw [row_sums p p15 p2_]
  simp only [o_neI, decide_true, Bool.not_true, e_outV, Bool.false_eq_true, if_false, e_wNext]
  have e24 := e3.trans e4
  have s14_ : Step m l h l1 h4 := t12.trans (Step.of e24) st2.ne
  have st4 := st2.ext e24
  -- what comes behind the ring
  have back : ∀ h5 u, Ext h4 h5 → wSeq (wIfS (wNot (wTest (wCall sp_signs (wCons (wVar 1) (wCons (wVar 9) (wNil)))))) (wRet (wC (.bl false))) (wNext)) (wSeq (wPar 11 12 (wCons (wBin addF (wC (.int 1)) (wCall sp_next (wCons (wVar 1) (wCons (wC (.int 7)) (wNil))))) (wCons (wTup (wCons (wC (.int 1)) (wCons (wC (.int 1)) (wNil)))) (wNil)))) (wSeq (wFor (wIRng1 (wVar 11)) (.nm 2) (wSet 12 (wTup (wCons (wBin ixF (wVar 12) (wC (.int 1))) (wCons (wBin addF (wBin ixF (wVar 12) (wC (.int 0))) (wBin ixF (wVar 12) (wC (.int 1)))) (wNil)))))) (wSeq (wSet 13 (wBin addF (wBin addF (wLc (wIRng1 (wVar 11)) (.nm 15) (wYes) (wTup (wCons (wBin mulF (wC (.int 2)) (wVar 15)) (wCons (wBin addF (wBin mulF (wC (.int 2)) (wVar 15)) (wC (.int 1))) (wNil)))) [15]) (wLc (wIRng1 (wBin subI (wVar 11) (wC (.int 1)))) (.nm 15) (wYes) (wTup (wCons (wBin mulF (wC (.int 2)) (wVar 15)) (wCons (wBin addF (wBin mulF (wC (.int 2)) (wVar 15)) (wC (.int 2))) (wNil)))) [15])) (wLc (wIRng1 (wBin subI (wVar 11) (wC (.int 1)))) (.nm 15) (wYes) (wTup (wCons (wBin addF (wBin mulF (wC (.int 2)) (wVar 15)) (wC (.int 1))) (wCons (wBin addF (wBin mulF (wC (.int 2)) (wVar 15)) (wC (.int 3))) (wNil)))) [15]))) (wRet (wBin eqF (wCall sp_whole (wCons (wTup (wCons (wBin mulF (wC (.int 2)) (wVar 11)) (wCons (wCB (C1 tup1) (wCons (wVar 13) (wNil))) (wNil)))) (wNil))) (wBin ixF (wVar 12) (wC (.int 0)))))))) (EN Q E)
      [s0, some (.ref m), s2, s3, s4, s5, s6, s7, s8, some (.int (p : Nat)), some (rowN p).w, s11, s12, s13, u, s15, s16] h5 := by
    intro h5 u e5
    have st5 := st4.ext e5
    rw [e_wSeq, e_wIfS]
    simp only [e_wNot, e_wTest, e_wCall, e_wCons, e_wNil, wVar_s, wVar_0]
    refine ⟨m, c, l1, _, p, rfl, st5, by omega, p2_, p15, fun h6 l6 st6 s6_ => ?_⟩
    simp only [Bool.not_true, Bool.false_eq_true, if_false, e_wNext]
    exact law_ladder st6 (by omega) fun h' l' nl s => q h' l' nl (((s14_.trans (Step.of e5) st5.ne).trans s6_ st6.ne).trans s nl)
  rw [e_wSeq, e_wIfS]
  simp only [e_wTest, e_wBin, e_wC, wVar_s, wVar_0, o_gt, e_outV]
  by_cases big2 : 2 < p
  · rw [if_pos (by simp; omega), e_wSeq, e_wSet]
    have ix1 : ∀ h, ixF (rowN p).w (.int 1) h = some (.val (.tup ((rowN p).rs.map rdW))) := fun h => by simp [Net.w]
    have l1_ : ((rowN p).rs.map rdW).length + [Wv.tup [.int 0, .int ((p : Int) - 1)]].length ≤ sizeLine := by
      rw [List.length_map, nrow]
      simp
      omega
    simp only [e_wTup, e_wCons, e_wNil, e_wBin, e_wC, wVar_s, wVar_0, ix1, o_sub, e_outV, o_addT, l1_, if_true, List.set_cons_succ, List.set_cons_zero]
    have rr : (rowN p).rs.map rdW ++ [Wv.tup [.int 0, .int ((p : Int) - 1)]] = (ringN p).rs.map rdW := by
      unfold ringN rowN
      rw [List.map_append]
      rfl
    rw [rr]
    have eR : Wv.tup [.int (p : Nat), .tup ((ringN p).rs.map rdW)] = (ringN p).w := rfl
    rw [eR]
    have okg := okNB_ok (ringN_ok p p15 (by omega))
    have nring : (ringN p).rs.length = p := by
      unfold ringN
      rw [List.length_append, List.length_map, List.length_range]
      simp
      omega
    rw [e_wIfS]
    simp only [e_wOr, e_wTest, e_wBin, e_wCall, e_wCons, e_wNil, e_wC, wVar_s, wVar_0]
    refine ⟨ringN p, okg, rfl, fun h5 e5 => ?_⟩
    rw [ring_counts p p15 (by omega)]
    have m2 : ∀ x : Int, mulOk 2 x = true := fun x => mulOk_l (by decide) (by decide)
    have m4 : ∀ x : Int, mulOk 4 x = true := fun x => mulOk_l (by decide) (by decide)
    simp only [o_mod, (by decide : (0 : Int) < 2), if_true, e_outV, o_sub, o_mul, m2, o_neI, decide_true, Bool.not_true, Bool.false_eq_true, if_false, e_wTup, e_wCons, e_wNil, e_wC, wVar_s, wVar_0, e_wBin, o_mulT]
    have le2 : (-(2 ^ 63) ≤ (p : Int) ∧ (p : Int) ≤ 1000 ∧ [Wv.int 1].length ≤ 1000) := ⟨by omega, by omega, by decide⟩
    rw [if_pos le2]
    simp only [e_outV, Int.toNat_natCast, ones_rep]
    refine ⟨ringN p, onesL p, _, okg, ones_ok nring.symm, rfl, det_ring p p15 (by omega), fun h6 e6 => ?_⟩
    simp only [o_mod, (by decide : (0 : Int) < 2), if_true, e_outV, o_sub, o_mul, m4, o_neI, decide_true, Bool.not_true, Bool.false_eq_true, if_false, e_wNext]
    exact back h6 _ (e5.trans e6)
  · rw [if_neg (by simp; omega), e_wNext]
    exact back h4 _ (Ext.refl _)
end Pd
set_option Elab.async false
set_option linter.all false
set_option maxRecDepth 100000
set_option maxHeartbeats 1000000
namespace Pd
open PySem PySem.Spec PyProof.Rows L2
theorem every_len : ∀ s, s < 7 → decide ((everyN s).rs.length ≤ 40) = decide (s < 5) := by decide +kernel
theorem full_is {s : Nat} : ((List.range s).flatMap fun (a : Nat) => (List.range s).map fun (b : Nat) => ((a : Int), (s : Int) + (b : Int))) = (fullN s).rs := rfl
theorem every_is {s : Nat} : ((List.range (2 * s)).flatMap fun (a : Nat) => (List.range' (a + 1) (2 * s - (a + 1))).map fun (b : Nat) => ((a : Int), (b : Int))) = (everyN s).rs := rfl
/-- full sides, all roads -/
theorem law_full {m c l : Addr} {k s : Nat} {h : WH} {Q : WQ} {E : WX} {s0 s2 s6 s7 s8 s9 s10 s11 s12 s13 s14 s15 s16 : Option Wv} (st : LawSt m c l k h) (hk : k < 3000) (h1 : 1 ≤ s) (h7 : s < 7) (q : ∀ h' l', l' ≠ m → Step m l h l' h' → Q (.bl true) h') :
    wSeq (wPar 7 8 (wCons (wLst (wNil)) (wCons (wLst (wNil)) (wNil)))) (wSeq (wFor (wIRng1 (wVar 3)) (.nm 6) (wDrop (wBM "list" extendM (wVar 7) (wCons (wLc (wIRng1 (wVar 3)) (.nm 16) (wYes) (wTup (wCons (wVar 6) (wCons (wBin addF (wVar 3) (wVar 16)) (wNil)))) [16]) (wNil))))) (wSeq (wFor (wIRng1 (wBin mulF (wC (.int 2)) (wVar 3))) (.nm 6) (wDrop (wBM "list" extendM (wVar 8) (wCons (wLc (wIRng2 (wBin addF (wVar 6) (wC (.int 1))) (wBin mulF (wC (.int 2)) (wVar 3))) (.nm 16) (wYes) (wTup (wCons (wVar 6) (wCons (wVar 16) (wNil)))) [16]) (wNil))))) (wSeq (wIfS (wOr (wTest (wBin neF (wCall sp_whole (wCons (wTup (wCons (wBin mulF (wC (.int 2)) (wVar 3)) (wCons (wCB (C1 tup1) (wCons (wVar 7) (wNil))) (wNil)))) (wNil))) (wVar 4))) (wOr (wAnd (wTest (wBin leI (wCB lenF (wCons (wVar 8) (wNil))) (wC (.int 40)))) (wTest (wBin neF (wCall sp_whole (wCons (wTup (wCons (wBin mulF (wC (.int 2)) (wVar 3)) (wCons (wCB (C1 tup1) (wCons (wVar 8) (wNil))) (wNil)))) (wNil))) (wVar 5)))) (wTest (wBin neF (wCall sp_filled (wCons (wTup (wCons (wBin mulF (wC (.int 2)) (wVar 3)) (wCons (wTup (wNil)) (wNil)))) (wNil))) (wVar 5))))) (wRet (wC (.bl false))) (wNext)) (wSeq (wSet 9 (wBin addF (wC (.int 2)) (wCall sp_next (wCons (wVar 1) (wCons (wC (.int 13)) (wNil)))))) (wSeq (wSet 10 (wTup (wCons (wVar 9) (wCons (wCB (C1 tup1) (wCons (wLc (wIRng1 (wBin subI (wVar 9) (wC (.int 1)))) (.nm 15) (wYes) (wTup (wCons (wVar 15) (wCons (wBin addF (wVar 15) (wC (.int 1))) (wNil)))) [15]) (wNil))) (wNil))))) (wSeq (wIfS (wOr (wTest (wBin neF (wCall sp_whole (wCons (wVar 10) (wNil))) (wBin subI (wC (.int 1)) (wBin modI (wVar 9) (wC (.int 2)))))) (wTest (wBin neF (wCall sp_ssum (wCons (wVar 10) (wCons (wBin mulF (wTup (wCons (wC (.int 1)) (wNil))) (wBin subI (wVar 9) (wC (.int 1)))) (wNil)))) (wBin subI (wC (.int 1)) (wBin modI (wVar 9) (wC (.int 2))))))) (wRet (wC (.bl false))) (wNext)) (wSeq (wIfS (wTest (wBin gtI (wVar 9) (wC (.int 2)))) (wSeq (wSet 14 (wTup (wCons (wVar 9) (wCons (wBin addF (wBin ixF (wVar 10) (wC (.int 1))) (wTup (wCons (wTup (wCons (wC (.int 0)) (wCons (wBin subI (wVar 9) (wC (.int 1))) (wNil)))) (wNil)))) (wNil))))) (wIfS (wOr (wTest (wBin neF (wCall sp_whole (wCons (wVar 14) (wNil))) (wBin mulF (wC (.int 2)) (wBin subI (wC (.int 1)) (wBin modI (wVar 9) (wC (.int 2))))))) (wTest (wBin neF (wCall sp_mdet (wCons (wVar 14) (wCons (wBin mulF (wTup (wCons (wC (.int 1)) (wNil))) (wVar 9)) (wNil)))) (wBin mulF (wC (.int 4)) (wBin subI (wC (.int 1)) (wBin modI (wVar 9) (wC (.int 2)))))))) (wRet (wC (.bl false))) (wNext))) (wNext)) (wSeq (wIfS (wNot (wTest (wCall sp_signs (wCons (wVar 1) (wCons (wVar 9) (wNil)))))) (wRet (wC (.bl false))) (wNext)) (wSeq (wPar 11 12 (wCons (wBin addF (wC (.int 1)) (wCall sp_next (wCons (wVar 1) (wCons (wC (.int 7)) (wNil))))) (wCons (wTup (wCons (wC (.int 1)) (wCons (wC (.int 1)) (wNil)))) (wNil)))) (wSeq (wFor (wIRng1 (wVar 11)) (.nm 2) (wSet 12 (wTup (wCons (wBin ixF (wVar 12) (wC (.int 1))) (wCons (wBin addF (wBin ixF (wVar 12) (wC (.int 0))) (wBin ixF (wVar 12) (wC (.int 1)))) (wNil)))))) (wSeq (wSet 13 (wBin addF (wBin addF (wLc (wIRng1 (wVar 11)) (.nm 15) (wYes) (wTup (wCons (wBin mulF (wC (.int 2)) (wVar 15)) (wCons (wBin addF (wBin mulF (wC (.int 2)) (wVar 15)) (wC (.int 1))) (wNil)))) [15]) (wLc (wIRng1 (wBin subI (wVar 11) (wC (.int 1)))) (.nm 15) (wYes) (wTup (wCons (wBin mulF (wC (.int 2)) (wVar 15)) (wCons (wBin addF (wBin mulF (wC (.int 2)) (wVar 15)) (wC (.int 2))) (wNil)))) [15])) (wLc (wIRng1 (wBin subI (wVar 11) (wC (.int 1)))) (.nm 15) (wYes) (wTup (wCons (wBin addF (wBin mulF (wC (.int 2)) (wVar 15)) (wC (.int 1))) (wCons (wBin addF (wBin mulF (wC (.int 2)) (wVar 15)) (wC (.int 3))) (wNil)))) [15]))) (wRet (wBin eqF (wCall sp_whole (wCons (wTup (wCons (wBin mulF (wC (.int 2)) (wVar 11)) (wCons (wCB (C1 tup1) (wCons (wVar 13) (wNil))) (wNil)))) (wNil))) (wBin ixF (wVar 12) (wC (.int 0))))))))))))))))
      (EN Q E) [s0, some (.ref m), s2, some (.int (s : Nat)), some (.int (factI s)), some (.int (oddF s)), s6, s7, s8, s9, s10, s11, s12, s13, s14, s15, s16] h := by
  have big : 1000 < sizeLine := by decide
  have m2 : ∀ x : Int, mulOk 2 x = true := fun x => mulOk_l (by decide) (by decide)
  rw [e_wSeq, e_wPar]
  simp only [e_wCons, e_wLst, e_wNil]
  intro p1 hp1 p2 hp2
  have p12 : p1 ≠ p2 := by rintro rfl; rw [wup_same] at hp2; cases hp2
  have hp2h : h p2 = none := by rw [wup_ne (Ne.symm p12)] at hp2; exact hp2
  have e1 : Ext h (wup (wup h p1 (.lst [])) p2 (.lst [])) := (Ext.new hp1).trans (Ext.new hp2)
  have d1 : wup (wup h p1 (.lst [])) p2 (.lst []) p1 = some (.lst []) := by rw [wup_ne p12, wup_same]
  have d2 : wup (wup h p1 (.lst [])) p2 (.lst []) p2 = some (.lst []) := wup_same
  generalize wup (wup h p1 (.lst [])) p2 (.lst []) = h2 at e1 d1 d2
  simp only [List.set_cons_succ, List.set_cons_zero]
  rw [e_wSeq]
  -- p2 stays empty while the first list grows
  refine grow_loop (n := s) (t := 7) (p := p1) (h5 := wup h p2 (.lst [])) (env := fun z => [s0, some (.ref m), s2, some (.int (s : Nat)), some (.int (factI s)), some (.int (oddF s)), z, some (.ref p1), some (.ref p2), s9, s10, s11, s12, s13, s14, s15, s16])
    (g := fun a => (List.range s).map fun (b : Nat) => ((a : Int), (s : Int) + (b : Int))) (fun z w => rfl) (fun z => rfl) (fun h R E hR => hR) (by omega) (fun i hi => by rw [List.length_map, List.length_range]; omega) (by rw [wup_ne p12]; exact hp1) (fun y o hy => ?_) d1 (fun i hi h3 e3 R E hR => ?_) fun h3 z e3 d3 => ?_
  · by_cases c : y = p2
    · subst c
      rw [wup_same] at hy
      rw [d2]
      exact hy
    · rw [wup_ne c] at hy
      exact e1 y o hy
  · have rg : rgOk (s : Int) = true := by unfold rgOk; simp; omega
    refine lc_rd (a := 0) (b := (s : Int)) (fun z => ((i : Int), (s : Int) + z)) (fun R hR => ?_) (by omega) (fun z h3 R hR => ?_) fun D1 h4 hD1 e4 d4 => hR D1 h4 hD1 e4 ?_
    · simp only [s_rng1, wVar_s, wVar_0]
      exact ⟨rg, hR⟩
    · exact hR
    · rw [d4, show ((s : Int) - 0).toNat = s by omega]
      simp only [Int.zero_add]
  rw [full_is] at d3
  have e03 : Ext h h3 := (Ext.new hp2h).trans e3
  have d23 : h3 p2 = some (.lst []) := e3 _ _ wup_same
  dsimp only
  rw [e_wSeq]
  refine grow_loop (n := 2 * s) (t := 8) (p := p2) (h5 := fun y => if y = p2 then none else h3 y) (env := fun z => [s0, some (.ref m), s2, some (.int (s : Nat)), some (.int (factI s)), some (.int (oddF s)), z, some (.ref p1), some (.ref p2), s9, s10, s11, s12, s13, s14, s15, s16])
    (g := fun a => (List.range' (a + 1) (2 * s - (a + 1))).map fun (b : Nat) => ((a : Int), (b : Int))) (fun z w => rfl) (fun z => rfl) (fun h R E hR => ?_) (by omega) (fun i hi => by rw [List.length_map, List.length_range']; omega) (if_pos rfl) (fun y o hy => ?_) d23 (fun i hi h4 e4 R E hR => ?_) fun h4 z4 e4 d4 => ?_
  · simp only [e_wBin, e_wC, wVar_s, wVar_0, o_mul, m2, if_true, e_outV]
    rw [show 2 * (s : Int) = ((2 * s : Nat) : Int) by omega]
    exact hR
  · by_cases c : y = p2
    · dsimp only at hy
      rw [if_pos c] at hy; cases hy
    · dsimp only at hy
      rw [if_neg c] at hy
      exact hy
  · have rg1 : rgOk ((i : Int) + 1) = true := by unfold rgOk; simp; omega
    have rg2 : rgOk (2 * (s : Int)) = true := by unfold rgOk; simp; omega
    refine lc_rd (a := (i : Int) + 1) (b := 2 * (s : Int)) (fun z => ((i : Int), z)) (fun R hR => ?_) (by omega) (fun z h3 R hR => ?_) fun D1 h4 hD1 e4 d4 => hR D1 h4 hD1 e4 ?_
    · simp only [s_rng2, e_wBin, e_wC, wVar_s, wVar_0, o_addI, o_mul, m2, if_true, e_outV]
      exact ⟨⟨rg1, rg2⟩, hR⟩
    · exact hR
    · rw [d4, show (2 * (s : Int) - ((i : Int) + 1)).toNat = 2 * s - (i + 1) by omega, List.range'_eq_map_range, List.map_map]
      refine congrArg some (congrArg Wo.lst ?_)
      simp only [List.map_map]
      refine List.map_congr_left fun x _ => ?_
      exact congrArg rdW (Prod.ext rfl (show (i : Int) + 1 + (x : Int) = ((i + 1 + x : Nat) : Int) by omega))
  rw [every_is] at d4
  have k4 : ∀ y o, y ≠ p2 → h3 y = some o → h4 y = some o := fun y o c hy => e4 y o (by dsimp only; rw [if_neg c]; exact hy)
  have e04 : Ext h h4 := fun y o hy => k4 y o (by rintro rfl; rw [hp2h] at hy; cases hy) (e03 y o hy)
  have d14 := k4 p1 _ p12 d3
  have st4 := st.ext e04
  have fin : ∀ h5, Ext h4 h5 → LawSt m c l k h5 ∧ Step m l h l h5 := fun h5 e5 => ⟨st4.ext e5, Step.of (e04.trans e5)⟩
  have m2s : mulOk 2 (s : Int) = true := m2 _
  have s6 : s ≤ 6 := by omega
  dsimp only
  rw [e_wSeq, e_wIfS]
  simp only [e_wOr, e_wAnd, e_wTest, e_wBin, e_wCall, e_wCons, e_wNil, e_wTup, e_wC, e_wCB, wVar_s, wVar_0, o_mul, m2s, if_true, e_outV]
  rw [o_tupL d14]
  simp only [e_oV]
  refine ⟨fullN s, okNB_ok (fullN_ok s h7), by unfold Net.w; rw [show ((fullN s).n : Int) = 2 * (s : Int) by unfold fullN; simp], fun h5 e5 => ?_⟩
  rw [full_counts s h7]
  have d45 := e5 _ _ d4
  simp only [o_neI, decide_true, Bool.not_true, e_outV, Bool.false_eq_true, if_false, o_lenL d45, e_oV, o_le, List.length_map]
  have el : decide (((everyN s).rs.length : Int) ≤ 40) = decide (s < 5) := by
    rw [← every_len s h7]
    exact decide_eq_decide.mpr (by omega)
  rw [el]
  -- the last test
  have last : ∀ h6, Ext h4 h6 → sp_filled [.tup [.int (2 * (s : Int)), .tup []]] h6 (fun w h1 => outR (neF w (.int (oddF s)) h1) h1 fun w h' => match w with
      | .bl b => if b = true then wRet (wC (.bl false)) { nx := fun ρ' h' => (wSeq (wSet 9 (wBin addF (wC (.int 2)) (wCall sp_next (wCons (wVar 1) (wCons (wC (.int 13)) (wNil)))))) (wSeq (wSet 10 (wTup (wCons (wVar 9) (wCons (wCB (C1 tup1) (wCons (wLc (wIRng1 (wBin subI (wVar 9) (wC (.int 1)))) (.nm 15) (wYes) (wTup (wCons (wVar 15) (wCons (wBin addF (wVar 15) (wC (.int 1))) (wNil)))) [15]) (wNil))) (wNil))))) (wSeq (wIfS (wOr (wTest (wBin neF (wCall sp_whole (wCons (wVar 10) (wNil))) (wBin subI (wC (.int 1)) (wBin modI (wVar 9) (wC (.int 2)))))) (wTest (wBin neF (wCall sp_ssum (wCons (wVar 10) (wCons (wBin mulF (wTup (wCons (wC (.int 1)) (wNil))) (wBin subI (wVar 9) (wC (.int 1)))) (wNil)))) (wBin subI (wC (.int 1)) (wBin modI (wVar 9) (wC (.int 2))))))) (wRet (wC (.bl false))) (wNext)) (wSeq (wIfS (wTest (wBin gtI (wVar 9) (wC (.int 2)))) (wSeq (wSet 14 (wTup (wCons (wVar 9) (wCons (wBin addF (wBin ixF (wVar 10) (wC (.int 1))) (wTup (wCons (wTup (wCons (wC (.int 0)) (wCons (wBin subI (wVar 9) (wC (.int 1))) (wNil)))) (wNil)))) (wNil))))) (wIfS (wOr (wTest (wBin neF (wCall sp_whole (wCons (wVar 14) (wNil))) (wBin mulF (wC (.int 2)) (wBin subI (wC (.int 1)) (wBin modI (wVar 9) (wC (.int 2))))))) (wTest (wBin neF (wCall sp_mdet (wCons (wVar 14) (wCons (wBin mulF (wTup (wCons (wC (.int 1)) (wNil))) (wVar 9)) (wNil)))) (wBin mulF (wC (.int 4)) (wBin subI (wC (.int 1)) (wBin modI (wVar 9) (wC (.int 2)))))))) (wRet (wC (.bl false))) (wNext))) (wNext)) (wSeq (wIfS (wNot (wTest (wCall sp_signs (wCons (wVar 1) (wCons (wVar 9) (wNil)))))) (wRet (wC (.bl false))) (wNext)) (wSeq (wPar 11 12 (wCons (wBin addF (wC (.int 1)) (wCall sp_next (wCons (wVar 1) (wCons (wC (.int 7)) (wNil))))) (wCons (wTup (wCons (wC (.int 1)) (wCons (wC (.int 1)) (wNil)))) (wNil)))) (wSeq (wFor (wIRng1 (wVar 11)) (.nm 2) (wSet 12 (wTup (wCons (wBin ixF (wVar 12) (wC (.int 1))) (wCons (wBin addF (wBin ixF (wVar 12) (wC (.int 0))) (wBin ixF (wVar 12) (wC (.int 1)))) (wNil)))))) (wSeq (wSet 13 (wBin addF (wBin addF (wLc (wIRng1 (wVar 11)) (.nm 15) (wYes) (wTup (wCons (wBin mulF (wC (.int 2)) (wVar 15)) (wCons (wBin addF (wBin mulF (wC (.int 2)) (wVar 15)) (wC (.int 1))) (wNil)))) [15]) (wLc (wIRng1 (wBin subI (wVar 11) (wC (.int 1)))) (.nm 15) (wYes) (wTup (wCons (wBin mulF (wC (.int 2)) (wVar 15)) (wCons (wBin addF (wBin mulF (wC (.int 2)) (wVar 15)) (wC (.int 2))) (wNil)))) [15])) (wLc (wIRng1 (wBin subI (wVar 11) (wC (.int 1)))) (.nm 15) (wYes) (wTup (wCons (wBin addF (wBin mulF (wC (.int 2)) (wVar 15)) (wC (.int 1))) (wCons (wBin addF (wBin mulF (wC (.int 2)) (wVar 15)) (wC (.int 3))) (wNil)))) [15]))) (wRet (wBin eqF (wCall sp_whole (wCons (wTup (wCons (wBin mulF (wC (.int 2)) (wVar 11)) (wCons (wCB (C1 tup1) (wCons (wVar 13) (wNil))) (wNil)))) (wNil))) (wBin ixF (wVar 12) (wC (.int 0))))))))))))) (EN Q E) ρ' h', rt := Q, ex := fun _ => E } [s0, some (.ref m), s2, some (.int (s : Nat)), some (.int (factI s)), some (.int (oddF s)), z4, some (.ref p1), some (.ref p2), s9, s10, s11, s12, s13, s14, s15, s16] h'
        else wNext { nx := fun ρ' h' => (wSeq (wSet 9 (wBin addF (wC (.int 2)) (wCall sp_next (wCons (wVar 1) (wCons (wC (.int 13)) (wNil)))))) (wSeq (wSet 10 (wTup (wCons (wVar 9) (wCons (wCB (C1 tup1) (wCons (wLc (wIRng1 (wBin subI (wVar 9) (wC (.int 1)))) (.nm 15) (wYes) (wTup (wCons (wVar 15) (wCons (wBin addF (wVar 15) (wC (.int 1))) (wNil)))) [15]) (wNil))) (wNil))))) (wSeq (wIfS (wOr (wTest (wBin neF (wCall sp_whole (wCons (wVar 10) (wNil))) (wBin subI (wC (.int 1)) (wBin modI (wVar 9) (wC (.int 2)))))) (wTest (wBin neF (wCall sp_ssum (wCons (wVar 10) (wCons (wBin mulF (wTup (wCons (wC (.int 1)) (wNil))) (wBin subI (wVar 9) (wC (.int 1)))) (wNil)))) (wBin subI (wC (.int 1)) (wBin modI (wVar 9) (wC (.int 2))))))) (wRet (wC (.bl false))) (wNext)) (wSeq (wIfS (wTest (wBin gtI (wVar 9) (wC (.int 2)))) (wSeq (wSet 14 (wTup (wCons (wVar 9) (wCons (wBin addF (wBin ixF (wVar 10) (wC (.int 1))) (wTup (wCons (wTup (wCons (wC (.int 0)) (wCons (wBin subI (wVar 9) (wC (.int 1))) (wNil)))) (wNil)))) (wNil))))) (wIfS (wOr (wTest (wBin neF (wCall sp_whole (wCons (wVar 14) (wNil))) (wBin mulF (wC (.int 2)) (wBin subI (wC (.int 1)) (wBin modI (wVar 9) (wC (.int 2))))))) (wTest (wBin neF (wCall sp_mdet (wCons (wVar 14) (wCons (wBin mulF (wTup (wCons (wC (.int 1)) (wNil))) (wVar 9)) (wNil)))) (wBin mulF (wC (.int 4)) (wBin subI (wC (.int 1)) (wBin modI (wVar 9) (wC (.int 2)))))))) (wRet (wC (.bl false))) (wNext))) (wNext)) (wSeq (wIfS (wNot (wTest (wCall sp_signs (wCons (wVar 1) (wCons (wVar 9) (wNil)))))) (wRet (wC (.bl false))) (wNext)) (wSeq (wPar 11 12 (wCons (wBin addF (wC (.int 1)) (wCall sp_next (wCons (wVar 1) (wCons (wC (.int 7)) (wNil))))) (wCons (wTup (wCons (wC (.int 1)) (wCons (wC (.int 1)) (wNil)))) (wNil)))) (wSeq (wFor (wIRng1 (wVar 11)) (.nm 2) (wSet 12 (wTup (wCons (wBin ixF (wVar 12) (wC (.int 1))) (wCons (wBin addF (wBin ixF (wVar 12) (wC (.int 0))) (wBin ixF (wVar 12) (wC (.int 1)))) (wNil)))))) (wSeq (wSet 13 (wBin addF (wBin addF (wLc (wIRng1 (wVar 11)) (.nm 15) (wYes) (wTup (wCons (wBin mulF (wC (.int 2)) (wVar 15)) (wCons (wBin addF (wBin mulF (wC (.int 2)) (wVar 15)) (wC (.int 1))) (wNil)))) [15]) (wLc (wIRng1 (wBin subI (wVar 11) (wC (.int 1)))) (.nm 15) (wYes) (wTup (wCons (wBin mulF (wC (.int 2)) (wVar 15)) (wCons (wBin addF (wBin mulF (wC (.int 2)) (wVar 15)) (wC (.int 2))) (wNil)))) [15])) (wLc (wIRng1 (wBin subI (wVar 11) (wC (.int 1)))) (.nm 15) (wYes) (wTup (wCons (wBin addF (wBin mulF (wC (.int 2)) (wVar 15)) (wC (.int 1))) (wCons (wBin addF (wBin mulF (wC (.int 2)) (wVar 15)) (wC (.int 3))) (wNil)))) [15]))) (wRet (wBin eqF (wCall sp_whole (wCons (wTup (wCons (wBin mulF (wC (.int 2)) (wVar 11)) (wCons (wCB (C1 tup1) (wCons (wVar 13) (wNil))) (wNil)))) (wNil))) (wBin ixF (wVar 12) (wC (.int 0))))))))))))) (EN Q E) ρ' h', rt := Q, ex := fun _ => E } [s0, some (.ref m), s2, some (.int (s : Nat)), some (.int (factI s)), some (.int (oddF s)), z4, some (.ref p1), some (.ref p2), s9, s10, s11, s12, s13, s14, s15, s16] h'
      | _ => False) E := by
    intro h6 e6
    refine ⟨s, by omega, by unfold Net.w; simp, fun h7 e7 => ?_⟩
    simp only [o_neI, decide_true, Bool.not_true, e_outV, Bool.false_eq_true, if_false, e_wNext]
    obtain ⟨a1, a2⟩ := fin h7 (e6.trans e7)
    exact law_rows a1 (by omega) fun h' l' nl t => q h' l' nl (a2.trans t nl)
  by_cases small : s < 5
  · simp only [small, decide_true, if_true, e_wBin, e_wCall, e_wCons, e_wNil, e_wTup, e_wC, e_wCB, wVar_s, wVar_0, o_mul, m2s, e_outV]
    rw [o_tupL d45]
    simp only [e_oV]
    refine ⟨everyN s, okNB_ok (everyN_ok s small), by unfold Net.w; rw [show ((everyN s).n : Int) = 2 * (s : Int) by unfold everyN; simp], fun h6 e6 => ?_⟩
    rw [every_counts s small h1]
    simp only [o_neI, decide_true, Bool.not_true, e_outV, Bool.false_eq_true, if_false]
    exact last h6 (e5.trans e6)
  · simp only [small, decide_false, Bool.false_eq_true, if_false]
    exact last h5 e5
/-- all of it -/
def sp_law : WSp := fun ws h Q _ => ∃ ns : List Int, ws = [.scr ns] ∧ ns.length ≤ 1000 ∧ ∀ h', Q (.bl true) h'
theorem mo_law : MoP sp_law := fun ws h Q Q' E E' hq he ⟨ns, e1, e3, q⟩ => ⟨ns, e1, e3, fun h' => hq _ _ (q h')⟩
theorem q_law (ws_ : List Wv) (h : WH) (Q : WQ) (E : WX) (sp : sp_law ws_ h Q E) : wBody (t_law sp_begun sp_next sp_sides sp_whole sp_filled sp_ssum sp_mdet sp_signs) N_law.length ws_ h Q E := by
  obtain ⟨ns, rfl, hl, q⟩ := sp
  have m2 : ∀ x : Int, mulOk 2 x = true := fun x => mulOk_l (by decide) (by decide)
  simp only [e_wBody, t_law, N_law, wStart_def, List.length_cons, List.length_nil, List.map_cons, List.map_nil, List.cons_append, List.nil_append, Nat.reduceAdd, Nat.reduceSub, List.replicate_succ, List.replicate_zero]
  rw [e_wSeq, e_wSet]
  simp only [e_wCall, e_wCons, e_wNil, wVar_0]
  refine ⟨ns, rfl, hl, fun h1 m c l e1 st1 hm hll => ?_⟩
  have fin : ∀ h' l', Step m l h1 l' h' → Q (.bl true) h' := fun h' _ _ => q h'
  simp only [List.set_cons_succ, List.set_cons_zero]
  rw [e_wSeq, e_wFor]
  simp only [s_rng1, e_wC]
  refine ⟨by decide, fun i ρ h2 => ∃ l2 z, LawSt m c l2 (51 * i) h2 ∧ Step m l h1 l2 h2 ∧ ρ = [some (.scr ns), some (.ref m), z, none, none, none, none, none, none, none, none, none, none, none, none, none, none], ⟨l, _, st1, Step.refl, rfl⟩, fun _ _ _ _ _ => trivial, ?_, ?_⟩
  · rintro i w ρ h2 hi ⟨l2, z, st2, s2, rfl⟩
    obtain ⟨li, rfl⟩ := rgW_at hi
    have li : i < 5 := by simpa using li
    refine ⟨_, rfl, ?_⟩
    simp only [List.set_cons_succ, List.set_cons_zero]
    rw [e_wIfS]
    simp only [e_wNot, e_wTest, e_wCall, e_wCons, e_wNil, e_wBin, e_wC, wVar_s, wVar_0]
    refine ⟨m, c, l2, 51 * i, 7, rfl, st2, by omega, by omega, by omega, fun h3 l3 v st3 s3 hv => ?_⟩
    simp only [o_addI, e_outV]
    refine ⟨m, c, l3, 51 * i + 1, v + 1, ?_, st3, by omega, by omega, fun h4 l4 st4 s4 => ?_⟩
    · congr 3
      omega
    · simp only [Bool.not_true, Bool.false_eq_true, if_false, e_wNext]
      exact ⟨l4, _, st4.mono (by omega), (s2.trans s3 st3.ne).trans s4 st4.ne, rfl⟩
  · rintro ρ h2 ⟨l2, z, st2, s2, rfl⟩
    have st2 : LawSt m c l2 255 h2 := st2
    rw [e_wSeq, e_wAsg]
    simp only [e_wTup, e_wCons, e_wNil, e_wBin, e_wC, e_wCall, wVar_s, wVar_0]
    refine ⟨m, c, l2, 255, 6, rfl, st2, by omega, by omega, by omega, fun h3 l3 v st3 s3 hv => ?_⟩
    obtain ⟨s, hs⟩ : ∃ s, s = v + 1 := ⟨_, rfl⟩
    have en : (1 : Int) + (v : Int) = (s : Int) := by omega
    simp only [o_addI, e_outV, en]
    refine ⟨_, rfl, rfl, _, _, rfl, _, rfl, _, _, rfl, _, rfl, _, _, rfl, _, rfl, rfl, ?_⟩
    simp only [List.set_cons_succ, List.set_cons_zero]
    have rg2 : rgOk 2 = true := by decide
    have rgs : rgOk ((s : Int) + 1) = true := by unfold rgOk; simp; omega
    -- product
    rw [e_wSeq, e_wFor]
    simp only [s_rng2, e_wC, e_wBin, wVar_s, wVar_0, o_addI, e_outV]
    refine ⟨⟨rg2, rgs⟩, fun i ρ h4 => h4 = h3 ∧ ∃ z6, ρ = [some (.scr ns), some (.ref m), z, some (.int (s : Nat)), some (.int (factI (i + 1))), some (.int 1), z6, none, none, none, none, none, none, none, none, none, none], ⟨rfl, _, rfl⟩, fun _ _ _ _ _ => trivial, ?_, ?_⟩
    · rintro i w ρ h4 hi ⟨rfl, z6, rfl⟩
      obtain ⟨li, rfl⟩ := rgW_at hi
      refine ⟨_, rfl, ?_⟩
      have mk : mulOk (factI (i + 1)) (2 + (i : Int)) = true := mulOk_r (by omega) (by omega)
      simp only [List.set_cons_succ, List.set_cons_zero, e_wSet, e_wBin, wVar_s, wVar_0, o_mul, mk, if_true, e_outV]
      rw [show factI (i + 1 + 1) = factI (i + 1) * (((i + 1 : Nat) : Int) + 1) from rfl, show ((i + 1 : Nat) : Int) + 1 = 2 + (i : Int) by omega]
      exact ⟨trivial, _, rfl⟩
    · rintro ρ h4 ⟨rfl, z6, rfl⟩
      rw [rgW_length, show ((s : Int) + 1 - 2).toNat + 1 = s by omega]
      -- odd
      obtain ⟨o1, o2⟩ := rng_odd s (by omega)
      rw [e_wSeq, e_wFor]
      simp only [s_rng3, e_wC, e_wBin, wVar_s, wVar_0, o_mul, m2, if_true, e_outV]
      rw [o2]
      refine ⟨o1, fun i ρ h5 => h5 = h4 ∧ ∃ z6, ρ = [some (.scr ns), some (.ref m), z, some (.int (s : Nat)), some (.int (factI s)), some (.int (oddF i)), z6, none, none, none, none, none, none, none, none, none, none], ⟨rfl, _, rfl⟩, fun _ _ _ _ _ => trivial, ?_, ?_⟩
      · rintro i w ρ h5 hi ⟨rfl, z6, rfl⟩
        have lj := (List.getElem?_eq_some_iff.mp hi).1
        rw [rgcW_length] at lj
        unfold rgcW at hi
        rw [List.getElem?_map, List.getElem?_range lj] at hi
        have hi : w = .int (1 + (i : Int) * 2) := by simpa using hi.symm
        subst hi
        refine ⟨_, rfl, ?_⟩
        have mk : mulOk (oddF i) (1 + (i : Int) * 2) = true := mulOk_r (by omega) (by omega)
        simp only [List.set_cons_succ, List.set_cons_zero, e_wSet, e_wBin, wVar_s, wVar_0, o_mul, mk, if_true, e_outV]
        exact ⟨trivial, _, rfl⟩
      · rintro ρ h5 ⟨rfl, z6, rfl⟩
        rw [rgcW_length]
        exact law_full st3 (by omega) (by omega) (by omega) fun h' l' nl t => fin h' l' ((s2.trans s3 st3.ne).trans t nl)
end Pd
set_option Elab.async false
set_option linter.all false
set_option maxRecDepth 100000
set_option maxHeartbeats 1000000
namespace Pd
open PySem PySem.Spec PyProof.Rows L2
theorem mo_is_number : MoP sp_is_number := fun ws h Q Q' E E' hq he ⟨w, e1, e2, q⟩ => ⟨w, e1, e2, hq _ _ q⟩
theorem mo_is_among : MoP sp_is_among := fun ws h Q Q' E E' hq he s => by
  unfold sp_is_among at s
  split at s
  · exact hq _ _ s
  · exact s.elim
theorem mo_is_tuple_of : MoP sp_is_tuple_of := fun ws h Q Q' E E' hq he s => by
  unfold sp_is_tuple_of at s
  split at s
  · exact hq _ _ s
  · exact s.elim
theorem mo_is_road : MoP sp_is_road := fun ws h Q Q' E E' hq he s => by
  unfold sp_is_road at s
  split at s
  · exact hq _ _ s
  · exact s.elim
theorem mo_need_net : MoP sp_need_net := fun ws h Q Q' E E' hq he ⟨N, e1, e2, q⟩ => ⟨N, e1, e2, fun h' a => hq _ _ (q h' a)⟩
theorem mo_put_behind : MoP sp_put_behind := fun ws h Q Q' E E' hq he ⟨a, b, x, f, m, e1, e2, e3, e4, e5, q⟩ => ⟨a, b, x, f, m, e1, e2, e3, e4, e5, hq _ _ q⟩
/-- _law_like, by how deep -/
def spLike : Nat → WSp
  | 0 => sp_like0
  | _ + 1 => sp_like
def spLikeL : Nat → WSp
  | 0 => fun _ _ _ _ => False
  | d + 1 => spLike d
theorem mo_spLike : ∀ d, MoP (spLike d)
  | 0 => mo_like0
  | _ + 1 => mo_like
theorem len_spLike : ∀ (d : Nat) (ws : List Wv) (h : WH) (Q : WQ) (E : WX), spLike d ws h Q E → ws.length = 2
  | 0, _, _, _, _, ⟨_, e, _⟩ => by rw [e]; rfl
  | _ + 1, _, _, _, _, ⟨_, e, _⟩ => by rw [e]; rfl
theorem like0_like {ws : List Wv} {h : WH} {Q : WQ} {E : WX} (s : sp_like0 ws h Q E) : sp_like ws h Q E := by
  obtain ⟨i, e, q⟩ := s
  exact ⟨_, e, .inl ⟨_, rfl⟩, q⟩
theorem q_spLike : ∀ (d : Nat) (ws : List Wv) (h : WH) (Q : WQ) (E : WX), spLike d ws h Q E → wBody (t_xlaw_like (spLikeL d)) N_xlaw_like.length ws h Q E
  | 0, ws, h, Q, E, s => q_like0 ws h Q E s
  | 1, ws, h, Q, E, s => q_likeG (fun i h Q E q => ⟨i, rfl, q⟩) ws h Q E s
  | d + 2, ws, h, Q, E, s => q_likeG (fun i h Q E q => ⟨_, rfl, .inl ⟨i, rfl⟩, q⟩) ws h Q E s
end Pd
set_option Elab.async false
set_option linter.all false
set_option maxRecDepth 100000
set_option maxHeartbeats 0
namespace Pd
open PySem PySem.Spec PyProof.Rows L2
/-! ### the head: facts by names, the run -/
def d_is_number : He.DefD := ⟨("is_number", none), "is_number", "is_number", defArgs s_is_number, defBody s_is_number, defScope s_is_number, [], []⟩
def d_is_among : He.DefD := ⟨("is_among", none), "is_among", "is_among", defArgs s_is_among, defBody s_is_among, defScope s_is_among, [], []⟩
def d_is_tuple_of : He.DefD := ⟨("is_tuple_of", none), "is_tuple_of", "is_tuple_of", defArgs s_is_tuple_of, defBody s_is_tuple_of, defScope s_is_tuple_of, [], []⟩
def d_is_road : He.DefD := ⟨("is_road", none), "is_road", "is_road", defArgs s_is_road, defBody s_is_road, defScope s_is_road, [], []⟩
def d_need_net : He.DefD := ⟨("need_net", none), "need_net", "need_net", defArgs s_need_net, defBody s_need_net, defScope s_need_net, [], []⟩
def d_RoadCounts_xinitx : He.DefD := ⟨("RoadCounts", some "__init__"), "__init__", "RoadCounts.__init__", defArgs s_RoadCounts_xinitx, defBody s_RoadCounts_xinitx, defScope s_RoadCounts_xinitx, [], []⟩
def d_RoadCounts_counts : He.DefD := ⟨("RoadCounts", some "counts"), "counts", "RoadCounts.counts", defArgs s_RoadCounts_counts, defBody s_RoadCounts_counts, defScope s_RoadCounts_counts, [], []⟩
def d_put_behind : He.DefD := ⟨("put_behind", none), "put_behind", "put_behind", defArgs s_put_behind, defBody s_put_behind, defScope s_put_behind, [], []⟩
def d_counts_by : He.DefD := ⟨("counts_by", none), "counts_by", "counts_by", defArgs s_counts_by, defBody s_counts_by, defScope s_counts_by, [], []⟩
def d_whole_count_by : He.DefD := ⟨("whole_count_by", none), "whole_count_by", "whole_count_by", defArgs s_whole_count_by, defBody s_whole_count_by, defScope s_whole_count_by, [], []⟩
def d_whole_count : He.DefD := ⟨("whole_count", none), "whole_count", "whole_count", defArgs s_whole_count, defBody s_whole_count, defScope s_whole_count, [], []⟩
def d_counts_by_number : He.DefD := ⟨("counts_by_number", none), "counts_by_number", "counts_by_number", defArgs s_counts_by_number, defBody s_counts_by_number, defScope s_counts_by_number, [], []⟩
def d_filled_count : He.DefD := ⟨("filled_count", none), "filled_count", "filled_count", defArgs s_filled_count, defBody s_filled_count, defScope s_filled_count, [], []⟩
def d_need_right_signs : He.DefD := ⟨("need_right_signs", none), "need_right_signs", "need_right_signs", defArgs s_need_right_signs, defBody s_need_right_signs, defScope s_need_right_signs, [], []⟩
def d_need_signs : He.DefD := ⟨("need_signs", none), "need_signs", "need_signs", defArgs s_need_signs, defBody s_need_signs, defScope s_need_signs, [], []⟩
def d_SignedSums_xinitx : He.DefD := ⟨("SignedSums", some "__init__"), "__init__", "SignedSums.__init__", defArgs s_SignedSums_xinitx, defBody s_SignedSums_xinitx, defScope s_SignedSums_xinitx, [], []⟩
def d_SignedSums_total : He.DefD := ⟨("SignedSums", some "total"), "total", "SignedSums.total", defArgs s_SignedSums_total, defBody s_SignedSums_total, defScope s_SignedSums_total, [], []⟩
def d_signed_sum_by : He.DefD := ⟨("signed_sum_by", none), "signed_sum_by", "signed_sum_by", defArgs s_signed_sum_by, defBody s_signed_sum_by, defScope s_signed_sum_by, [], []⟩
def d_signed_sum : He.DefD := ⟨("signed_sum", none), "signed_sum", "signed_sum", defArgs s_signed_sum, defBody s_signed_sum, defScope s_signed_sum, [], []⟩
def d_matrix_by : He.DefD := ⟨("matrix_by", none), "matrix_by", "matrix_by", defArgs s_matrix_by, defBody s_matrix_by, defScope s_matrix_by, [], []⟩
def d_determinant_by : He.DefD := ⟨("determinant_by", none), "determinant_by", "determinant_by", defArgs s_determinant_by, defBody s_determinant_by, defScope s_determinant_by, [], []⟩
def d_matrix_determinant : He.DefD := ⟨("matrix_determinant", none), "matrix_determinant", "matrix_determinant", defArgs s_matrix_determinant, defBody s_matrix_determinant, defScope s_matrix_determinant, [], []⟩
def d_xlaw_begun : He.DefD := ⟨("_law_begun", none), "_law_begun", "_law_begun", defArgs s_xlaw_begun, defBody s_xlaw_begun, defScope s_xlaw_begun, [], []⟩
def d_xlaw_next : He.DefD := ⟨("_law_next", none), "_law_next", "_law_next", defArgs s_xlaw_next, defBody s_xlaw_next, defScope s_xlaw_next, [], []⟩
def d_xlaw_of : He.DefD := ⟨("_law_of", none), "_law_of", "_law_of", defArgs s_xlaw_of, defBody s_xlaw_of, defScope s_xlaw_of, [], []⟩
def d_xlaw_like : He.DefD := ⟨("_law_like", none), "_law_like", "_law_like", defArgs s_xlaw_like, defBody s_xlaw_like, defScope s_xlaw_like, [], []⟩
def d_xlaw_orders_sum : He.DefD := ⟨("_law_orders_sum", none), "_law_orders_sum", "_law_orders_sum", defArgs s_xlaw_orders_sum, defBody s_xlaw_orders_sum, defScope s_xlaw_orders_sum, [], []⟩
def d_xlaw_is_odd : He.DefD := ⟨("_law_is_odd", none), "_law_is_odd", "_law_is_odd", defArgs s_xlaw_is_odd, defBody s_xlaw_is_odd, defScope s_xlaw_is_odd, [], []⟩
def d_xlaw_by_number : He.DefD := ⟨("_law_by_number", none), "_law_by_number", "_law_by_number", defArgs s_xlaw_by_number, defBody s_xlaw_by_number, defScope s_xlaw_by_number, [], []⟩
def d_xlaw_sides_right : He.DefD := ⟨("_law_sides_right", none), "_law_sides_right", "_law_sides_right", defArgs s_xlaw_sides_right, defBody s_xlaw_sides_right, defScope s_xlaw_sides_right, [], []⟩
def d_xlaw_product : He.DefD := ⟨("_law_product", none), "_law_product", "_law_product", defArgs s_xlaw_product, defBody s_xlaw_product, defScope s_xlaw_product, [], []⟩
def d_xlaw_signs_right : He.DefD := ⟨("_law_signs_right", none), "_law_signs_right", "_law_signs_right", defArgs s_xlaw_signs_right, defBody s_xlaw_signs_right, defScope s_xlaw_signs_right, [], []⟩
def d_law : He.DefD := ⟨("law", none), "law", "law", defArgs s_law, defBody s_law, defScope s_law, [], []⟩
def fn0 : List He.DefD := [d_is_number, d_is_among, d_is_tuple_of, d_is_road, d_need_net, d_RoadCounts_xinitx, d_RoadCounts_counts, d_put_behind, d_counts_by, d_whole_count_by, d_whole_count, d_counts_by_number, d_filled_count, d_need_right_signs, d_need_signs, d_SignedSums_xinitx, d_SignedSums_total, d_signed_sum_by, d_signed_sum, d_matrix_by]
def fn1 : List He.DefD := [d_determinant_by, d_matrix_determinant, d_xlaw_begun, d_xlaw_next, d_xlaw_of, d_xlaw_like, d_xlaw_orders_sum, d_xlaw_is_odd, d_xlaw_by_number, d_xlaw_sides_right, d_xlaw_product, d_xlaw_signs_right, d_law]
def fn : List He.DefD := fn0 ++ fn1
def fa0 : List He.Fa := [.glo "PairError", .glo "BadNet", .glo "BadList", .glo "is_number", .glo "is_among", .glo "is_tuple_of", .int "MOST_PLACES" (14), .int "MOST_ROADS" (40), .glo "is_road", .glo "need_net", .glo "RoadCounts", .glo "put_behind", .glo "counts_by", .glo "whole_count_by", .glo "whole_count", .glo "counts_by_number", .glo "filled_count", .glo "need_right_signs", .glo "need_signs", .glo "SignedSums"]
def fa1 : List He.Fa := [.glo "signed_sum_by", .glo "signed_sum", .glo "matrix_by", .glo "determinant_by", .glo "matrix_determinant", .glo "_law_begun", .glo "_law_next", .glo "_law_of", .glo "_law_like", .glo "_law_orders_sum", .glo "_law_is_odd", .glo "_law_by_number", .glo "_law_sides_right", .glo "_law_product", .glo "_law_signs_right", .glo "law", .free "ValueError", .free "bool", .free "dict", .free "enumerate"]
def fa2 : List He.Fa := [.free "int", .free "isinstance", .free "len", .free "list", .free "range", .free "sorted", .free "str", .free "sum", .free "super", .free "tuple", .free "zip", .cls "RoadCounts", .mkr "RoadCounts", .noat "RoadCounts" "own_known", .noat "RoadCounts" "own_later", .noat "RoadCounts" "own_powers", .meth "RoadCounts" "counts", .cls "SignedSums", .mkr "SignedSums", .noat "SignedSums" "own_known"]
def fa3 : List He.Fa := [.noat "SignedSums" "own_signs", .meth "SignedSums" "total"]
def fa : List He.Fa := fa0 ++ fa1 ++ fa2 ++ fa3
abbrev R : PySem.W.OpenRow := PySem.W.OpenLaw.row PySem.Challenge.rw_pairedoff_k35_whole_two_sides_counted
abbrev hk : PySem.W.Hook := He.hookD 4 fa fn
def ob (s : PySem.W.SharedT) : He.AlD := He.obsDG 4 fa fn (HandSHeadRun.getT s)
theorem ob_eq (s : PySem.W.SharedT) : ob s = hk.obs s.abs := He.obsDG_eq (HandSHeadRun.getT_eq s)
def loose0 : List Str := ["PairError", "BadNet", "BadList", "is_number", "is_among", "is_tuple_of", "MOST_PLACES", "MOST_ROADS", "is_road", "need_net", "RoadCounts", "put_behind", "counts_by", "whole_count_by", "whole_count"]
def loose1 : List Str := ["counts_by_number", "filled_count", "need_right_signs", "need_signs", "SignedSums", "signed_sum_by", "signed_sum", "matrix_by", "determinant_by", "matrix_determinant", "_law_begun", "_law_next", "_law_of", "_law_like", "_law_orders_sum"]
def loose2 : List Str := ["_law_is_odd", "_law_by_number", "_law_sides_right", "_law_product", "_law_signs_right"]
def loose : List Str := loose0 ++ loose1 ++ loose2
theorem run (w : World) : HandSHeadRun.RunEq R (PySem.W.view R.prog [41]) hk ob 20000 loose w := by
  intro os
  kernel_rfl
/-! ### what each def promises, in the module -/
structure Cn (K : PySem.W.Frag) (mg : Str → Option Value) : Prop where
  c : He.SaysD fa fn K
  ex : ∃ h : Heap, K.In h ∧ h.Ns mainGlobals mg
section
variable {P : Program} {w : World} {K : PySem.W.Frag} {mg : Str → Option Value} {base : Heap}
theorem WFn.no {k : Nat} {x : Str} {f : Addr} (h : mg x = some (.ref f)) (kp : PySem.W.keepIn K (.ref f) = true) {fd : FuncData} {ps : List Str} (b : Binds K fd ps []) : WFn P w K mg base k x (fun _ _ _ _ => False) :=
  ⟨⟨f, fd, ps, h, kp, b, ⟨fun vs H Q E ⟨_, _, _, _, q⟩ => q.elim, fun _ _ _ _ _ _ _ _ _ _ _ _ _ ⟨_, _, _, _, q⟩ => q.elim⟩⟩, fun _ _ _ _ _ _ _ _ q => q⟩
theorem WMet.no {k : Nat} {C f : Addr} {m : Str} (h : Meth K C m f) {fd : FuncData} {ps : List Str} (b : Binds K fd ps []) : WMet P w K mg base k C m (fun _ _ _ _ => False) :=
  ⟨⟨f, fd, ps, h, b, ⟨fun vs H Q E ⟨_, _, _, _, q⟩ => q.elim, fun _ _ _ _ _ _ _ _ _ _ _ _ _ ⟨_, _, _, _, q⟩ => q.elim⟩⟩, fun _ _ _ _ _ _ _ _ q => q⟩
theorem WMet.lift {j k : Nat} {C : Addr} {m : Str} {sp : WSp} (F : WMet P w K mg base j C m sp) (le : j ≤ k) : WMet P w K mg base k C m sp :=
  let ⟨f, fd, ps, a, b, d⟩ := F.ex
  ⟨⟨f, fd, ps, a, b, d.mono le⟩, F.mo⟩
theorem WMak.lift {j k : Nat} {C : Addr} {x : Str} {sp : WSp} (F : WMak P w K mg base j x C sp) (le : j ≤ k) : WMak P w K mg base k x C sp :=
  let ⟨f, fd, ps, a, m, b, d⟩ := F.ex
  ⟨⟨f, fd, ps, a, m, b, d.mono le⟩, F.mo⟩
theorem Cn.mf (Y : Cn K mg) : Mf mg := by
  obtain ⟨h, X, G⟩ := Y.ex
  exact {
    b_bool := He.free_ok X G (Y.c.fact 37 (f := .free "bool") rfl),
    b_dict := He.free_ok X G (Y.c.fact 38 (f := .free "dict") rfl),
    b_enumerate := He.free_ok X G (Y.c.fact 39 (f := .free "enumerate") rfl),
    b_int := He.free_ok X G (Y.c.fact 40 (f := .free "int") rfl),
    b_isinstance := He.free_ok X G (Y.c.fact 41 (f := .free "isinstance") rfl),
    b_len := He.free_ok X G (Y.c.fact 42 (f := .free "len") rfl),
    b_list := He.free_ok X G (Y.c.fact 43 (f := .free "list") rfl),
    b_range := He.free_ok X G (Y.c.fact 44 (f := .free "range") rfl),
    b_sorted := He.free_ok X G (Y.c.fact 45 (f := .free "sorted") rfl),
    b_str := He.free_ok X G (Y.c.fact 46 (f := .free "str") rfl),
    b_sum := He.free_ok X G (Y.c.fact 47 (f := .free "sum") rfl),
    b_tuple := He.free_ok X G (Y.c.fact 49 (f := .free "tuple") rfl),
    b_zip := He.free_ok X G (Y.c.fact 50 (f := .free "zip") rfl),
    i_MOST_PLACES := He.int_ok X G (Y.c.fact 6 (f := .int "MOST_PLACES" (14)) rfl),
    i_MOST_ROADS := He.int_ok X G (Y.c.fact 7 (f := .int "MOST_ROADS" (40)) rfl) }
theorem Cn.glo (Y : Cn K mg) {x : Str} (c : (He.Fa.glo x).ok K = true) : mg x = some (.ref (He.ga K x)) := by
  obtain ⟨h, X, G⟩ := Y.ex
  exact He.glo_ok X G c
theorem W_RoadCounts (Y : Cn K mg) : WCls P w K mg base "RoadCounts" (He.ga K "RoadCounts") := ⟨Y.glo (Y.c.fact 10 (f := .glo "RoadCounts") rfl), He.cls_ok (Y.c.fact 51 (f := .cls "RoadCounts") rfl)⟩
theorem W_SignedSums (Y : Cn K mg) : WCls P w K mg base "SignedSums" (He.ga K "SignedSums") := ⟨Y.glo (Y.c.fact 19 (f := .glo "SignedSums") rfl), He.cls_ok (Y.c.fact 57 (f := .cls "SignedSums") rfl)⟩
theorem len_is_number : ∀ ws h Q E, (sp_is_number) ws h Q E → ws.length = 1 := by
  intro ws h Q E s
  first
    | (obtain ⟨_, rfl, _⟩ := s; rfl)
    | (obtain ⟨_, _, rfl, _⟩ := s; rfl)
    | (obtain ⟨_, _, _, rfl, _⟩ := s; rfl)
    | (obtain ⟨_, _, _, _, rfl, _⟩ := s; rfl)
    | (obtain ⟨_, _, _, _, _, rfl, _⟩ := s; rfl)
    | (obtain ⟨_, _, _, _, _, _, rfl, _⟩ := s; rfl)
    | (obtain ⟨_, _, _, _, _, _, _, rfl, _⟩ := s; rfl)
    | (obtain ⟨_, _, _, _, _, _, _, _, rfl, _⟩ := s; rfl)
    | (obtain ⟨_, _, _, _, _, _, _, _, _, rfl, _⟩ := s; rfl)
    | (obtain ⟨_, _, _, _, _, _, _, _, _, _, rfl, _⟩ := s; rfl)
    | (obtain ⟨_, _, _, _, _, _, _, _, _, _, _, rfl, _⟩ := s; rfl)
    | (obtain ⟨_, _, _, _, _, _, _, _, _, _, _, _, rfl, _⟩ := s; rfl)
    | (obtain ⟨_, _, _, _, _, _, _, _, _, _, _, _, _, rfl, _⟩ := s; rfl)

theorem P_is_number (Y : Cn K mg) : WFn P w K mg base (2) "is_number" (sp_is_number) := by
  obtain ⟨fd, F⟩ := Y.c.def_ 0 (d := d_is_number) rfl
  exact ⟨⟨_, fd, ["thing"], Y.glo (Y.c.fact 3 (f := .glo "is_number") rfl), F.kp, (F.bindsN (ps := ["thing"]) fun _ _ _ _ _ _ us hl => match us, hl with | [_], _ => rfl), w_def F sc_is_number len_is_number fun cdv A outer s H E hr => ⟨_, j_is_number (k := 0) Y.mf  hr, q_is_number⟩⟩, mo_is_number⟩
theorem len_is_among : ∀ ws h Q E, (sp_is_among) ws h Q E → ws.length = 3 := fun ws h Q E s => by
  unfold sp_is_among at s
  split at s
  · rfl
  · exact s.elim

theorem P_is_among (Y : Cn K mg) : WFn P w K mg base (4) "is_among" (sp_is_among) := by
  obtain ⟨fd, F⟩ := Y.c.def_ 1 (d := d_is_among) rfl
  exact ⟨⟨_, fd, ["thing", "least", "most"], Y.glo (Y.c.fact 4 (f := .glo "is_among") rfl), F.kp, (F.bindsN (ps := ["thing", "least", "most"]) fun _ _ _ _ _ _ us hl => match us, hl with | [_, _, _], _ => rfl), w_def F sc_is_among len_is_among fun cdv A outer s H E hr => ⟨_, j_is_among (k := 2) Y.mf (F_is_number := (P_is_number Y).lift (by decide)) hr, q_is_among⟩⟩, mo_is_among⟩
theorem len_is_tuple_of : ∀ ws h Q E, (sp_is_tuple_of) ws h Q E → ws.length = 3 := fun ws h Q E s => by
  unfold sp_is_tuple_of at s
  split at s
  · rfl
  · exact s.elim

theorem P_is_tuple_of (Y : Cn K mg) : WFn P w K mg base (2) "is_tuple_of" (sp_is_tuple_of) := by
  obtain ⟨fd, F⟩ := Y.c.def_ 2 (d := d_is_tuple_of) rfl
  exact ⟨⟨_, fd, ["thing", "least", "most"], Y.glo (Y.c.fact 5 (f := .glo "is_tuple_of") rfl), F.kp, (F.bindsN (ps := ["thing", "least", "most"]) fun _ _ _ _ _ _ us hl => match us, hl with | [_, _, _], _ => rfl), w_def F sc_is_tuple_of len_is_tuple_of fun cdv A outer s H E hr => ⟨_, j_is_tuple_of (k := 0) Y.mf  hr, q_is_tuple_of⟩⟩, mo_is_tuple_of⟩
theorem len_is_road : ∀ ws h Q E, (sp_is_road) ws h Q E → ws.length = 2 := fun ws h Q E s => by
  unfold sp_is_road at s
  split at s
  · rfl
  · exact s.elim

theorem P_is_road (Y : Cn K mg) : WFn P w K mg base (6) "is_road" (sp_is_road) := by
  obtain ⟨fd, F⟩ := Y.c.def_ 3 (d := d_is_road) rfl
  exact ⟨⟨_, fd, ["thing", "places"], Y.glo (Y.c.fact 8 (f := .glo "is_road") rfl), F.kp, (F.bindsN (ps := ["thing", "places"]) fun _ _ _ _ _ _ us hl => match us, hl with | [_, _], _ => rfl), w_def F sc_is_road len_is_road fun cdv A outer s H E hr => ⟨_, j_is_road (k := 4) Y.mf (F_is_tuple_of := (P_is_tuple_of Y).lift (by decide)) (F_is_among := (P_is_among Y).lift (by decide)) hr, q_is_road⟩⟩, mo_is_road⟩
theorem len_need_net : ∀ ws h Q E, (sp_need_net) ws h Q E → ws.length = 1 := by
  intro ws h Q E s
  first
    | (obtain ⟨_, rfl, _⟩ := s; rfl)
    | (obtain ⟨_, _, rfl, _⟩ := s; rfl)
    | (obtain ⟨_, _, _, rfl, _⟩ := s; rfl)
    | (obtain ⟨_, _, _, _, rfl, _⟩ := s; rfl)
    | (obtain ⟨_, _, _, _, _, rfl, _⟩ := s; rfl)
    | (obtain ⟨_, _, _, _, _, _, rfl, _⟩ := s; rfl)
    | (obtain ⟨_, _, _, _, _, _, _, rfl, _⟩ := s; rfl)
    | (obtain ⟨_, _, _, _, _, _, _, _, rfl, _⟩ := s; rfl)
    | (obtain ⟨_, _, _, _, _, _, _, _, _, rfl, _⟩ := s; rfl)
    | (obtain ⟨_, _, _, _, _, _, _, _, _, _, rfl, _⟩ := s; rfl)
    | (obtain ⟨_, _, _, _, _, _, _, _, _, _, _, rfl, _⟩ := s; rfl)
    | (obtain ⟨_, _, _, _, _, _, _, _, _, _, _, _, rfl, _⟩ := s; rfl)
    | (obtain ⟨_, _, _, _, _, _, _, _, _, _, _, _, _, rfl, _⟩ := s; rfl)

theorem P_need_net (Y : Cn K mg) : WFn P w K mg base (8) "need_net" (sp_need_net) := by
  obtain ⟨fd, F⟩ := Y.c.def_ 4 (d := d_need_net) rfl
  exact ⟨⟨_, fd, ["net"], Y.glo (Y.c.fact 9 (f := .glo "need_net") rfl), F.kp, (F.bindsN (ps := ["net"]) fun _ _ _ _ _ _ us hl => match us, hl with | [_], _ => rfl), w_def F sc_need_net len_need_net fun cdv A outer s H E hr => ⟨_, j_need_net (k := 6) Y.mf (F_is_tuple_of := (P_is_tuple_of Y).lift (by decide)) (F_is_among := (P_is_among Y).lift (by decide)) (F_is_road := (P_is_road Y).lift (by decide)) hr, q_need_net⟩⟩, mo_need_net⟩
theorem len_RoadCounts_xinitx {C : Addr} : ∀ ws h Q E, (sp_init C) ws h Q E → ws.length = 2 := by
  intro ws h Q E s
  first
    | (obtain ⟨_, rfl, _⟩ := s; rfl)
    | (obtain ⟨_, _, rfl, _⟩ := s; rfl)
    | (obtain ⟨_, _, _, rfl, _⟩ := s; rfl)
    | (obtain ⟨_, _, _, _, rfl, _⟩ := s; rfl)
    | (obtain ⟨_, _, _, _, _, rfl, _⟩ := s; rfl)
    | (obtain ⟨_, _, _, _, _, _, rfl, _⟩ := s; rfl)
    | (obtain ⟨_, _, _, _, _, _, _, rfl, _⟩ := s; rfl)
    | (obtain ⟨_, _, _, _, _, _, _, _, rfl, _⟩ := s; rfl)
    | (obtain ⟨_, _, _, _, _, _, _, _, _, rfl, _⟩ := s; rfl)
    | (obtain ⟨_, _, _, _, _, _, _, _, _, _, rfl, _⟩ := s; rfl)
    | (obtain ⟨_, _, _, _, _, _, _, _, _, _, _, rfl, _⟩ := s; rfl)
    | (obtain ⟨_, _, _, _, _, _, _, _, _, _, _, _, rfl, _⟩ := s; rfl)
    | (obtain ⟨_, _, _, _, _, _, _, _, _, _, _, _, _, rfl, _⟩ := s; rfl)

theorem P_RoadCounts_xinitx (Y : Cn K mg) : WMak P w K mg base (2) "RoadCounts" (He.ga K "RoadCounts") (sp_init (He.ga K "RoadCounts")) := by
  obtain ⟨fd, F⟩ := Y.c.def_ 5 (d := d_RoadCounts_xinitx) rfl
  exact ⟨⟨_, fd, ["self", "net"], He.mkr_ok (Y.c.fact 52 (f := .mkr "RoadCounts") rfl), Y.glo (Y.c.fact 10 (f := .glo "RoadCounts") rfl), (F.bindsN (ps := ["self", "net"]) fun _ _ _ _ _ _ us hl => match us, hl with | [_, _], _ => rfl), w_def F sc_RoadCounts_xinitx len_RoadCounts_xinitx fun cdv A outer s H E hr => ⟨_, j_RoadCounts_xinitx (k := 0) Y.mf (W_RoadCounts := W_RoadCounts Y) (n_RoadCounts_own_later := He.noat_ok (Y.c.fact 54 (f := .noat "RoadCounts" "own_later") rfl)) (n_RoadCounts_own_powers := He.noat_ok (Y.c.fact 55 (f := .noat "RoadCounts" "own_powers") rfl)) (n_RoadCounts_own_known := He.noat_ok (Y.c.fact 53 (f := .noat "RoadCounts" "own_known") rfl)) hr, q_init (He.ga K "RoadCounts")⟩⟩, mo_init (He.ga K "RoadCounts")⟩
theorem len_put_behind : ∀ ws h Q E, (sp_put_behind) ws h Q E → ws.length = 2 := by
  intro ws h Q E s
  first
    | (obtain ⟨_, rfl, _⟩ := s; rfl)
    | (obtain ⟨_, _, rfl, _⟩ := s; rfl)
    | (obtain ⟨_, _, _, rfl, _⟩ := s; rfl)
    | (obtain ⟨_, _, _, _, rfl, _⟩ := s; rfl)
    | (obtain ⟨_, _, _, _, _, rfl, _⟩ := s; rfl)
    | (obtain ⟨_, _, _, _, _, _, rfl, _⟩ := s; rfl)
    | (obtain ⟨_, _, _, _, _, _, _, rfl, _⟩ := s; rfl)
    | (obtain ⟨_, _, _, _, _, _, _, _, rfl, _⟩ := s; rfl)
    | (obtain ⟨_, _, _, _, _, _, _, _, _, rfl, _⟩ := s; rfl)
    | (obtain ⟨_, _, _, _, _, _, _, _, _, _, rfl, _⟩ := s; rfl)
    | (obtain ⟨_, _, _, _, _, _, _, _, _, _, _, rfl, _⟩ := s; rfl)
    | (obtain ⟨_, _, _, _, _, _, _, _, _, _, _, _, rfl, _⟩ := s; rfl)
    | (obtain ⟨_, _, _, _, _, _, _, _, _, _, _, _, _, rfl, _⟩ := s; rfl)

theorem P_put_behind (Y : Cn K mg) : WFn P w K mg base (2) "put_behind" (sp_put_behind) := by
  obtain ⟨fd, F⟩ := Y.c.def_ 7 (d := d_put_behind) rfl
  exact ⟨⟨_, fd, ["found", "more"], Y.glo (Y.c.fact 11 (f := .glo "put_behind") rfl), F.kp, (F.bindsN (ps := ["found", "more"]) fun _ _ _ _ _ _ us hl => match us, hl with | [_, _], _ => rfl), w_def F sc_put_behind len_put_behind fun cdv A outer s H E hr => ⟨_, j_put_behind (k := 0) Y.mf  hr, q_put_behind⟩⟩, mo_put_behind⟩
theorem len_RoadCounts_counts {C : Addr} {d : Nat} : ∀ ws h Q E, (spC C d) ws h Q E → ws.length = 3 := by
  intro ws h Q E s
  first
    | (obtain ⟨_, rfl, _⟩ := s; rfl)
    | (obtain ⟨_, _, rfl, _⟩ := s; rfl)
    | (obtain ⟨_, _, _, rfl, _⟩ := s; rfl)
    | (obtain ⟨_, _, _, _, rfl, _⟩ := s; rfl)
    | (obtain ⟨_, _, _, _, _, rfl, _⟩ := s; rfl)
    | (obtain ⟨_, _, _, _, _, _, rfl, _⟩ := s; rfl)
    | (obtain ⟨_, _, _, _, _, _, _, rfl, _⟩ := s; rfl)
    | (obtain ⟨_, _, _, _, _, _, _, _, rfl, _⟩ := s; rfl)
    | (obtain ⟨_, _, _, _, _, _, _, _, _, rfl, _⟩ := s; rfl)
    | (obtain ⟨_, _, _, _, _, _, _, _, _, _, rfl, _⟩ := s; rfl)
    | (obtain ⟨_, _, _, _, _, _, _, _, _, _, _, rfl, _⟩ := s; rfl)
    | (obtain ⟨_, _, _, _, _, _, _, _, _, _, _, _, rfl, _⟩ := s; rfl)
    | (obtain ⟨_, _, _, _, _, _, _, _, _, _, _, _, _, rfl, _⟩ := s; rfl)

theorem S_RoadCounts_counts (Y : Cn K mg) (d : Nat) (low : WMet P w K mg base (2 * d + 2) (He.ga K "RoadCounts") "counts" (spL (He.ga K "RoadCounts") d)) : WMet P w K mg base (2 * d + 4) (He.ga K "RoadCounts") "counts" (spC (He.ga K "RoadCounts") d) := by
  obtain ⟨fd, F⟩ := Y.c.def_ 6 (d := d_RoadCounts_counts) rfl
  exact ⟨⟨_, fd, ["self", "bits", "place"], He.meth_ok (Y.c.fact 56 (f := .meth "RoadCounts" "counts") rfl), (F.bindsN (ps := ["self", "bits", "place"]) fun _ _ _ _ _ _ us hl => match us, hl with | [_, _, _], _ => rfl), w_def F sc_RoadCounts_counts len_RoadCounts_counts fun cdv A outer s H E hr => ⟨_, j_RoadCounts_counts (k := 2 * d + 2) Y.mf (F_put_behind := (P_put_behind Y).lift (by omega)) (F_RoadCounts_counts := low) (W_RoadCounts := W_RoadCounts Y) (n_RoadCounts_own_powers := He.noat_ok (Y.c.fact 55 (f := .noat "RoadCounts" "own_powers") rfl)) (n_RoadCounts_own_known := He.noat_ok (Y.c.fact 53 (f := .noat "RoadCounts" "own_known") rfl)) (n_RoadCounts_own_later := He.noat_ok (Y.c.fact 54 (f := .noat "RoadCounts" "own_later") rfl)) hr, q_counts d⟩⟩, mo_spC (He.ga K "RoadCounts") d⟩
theorem R_RoadCounts_counts (Y : Cn K mg) : ∀ d : Nat, WMet P w K mg base (2 * d + 4) (He.ga K "RoadCounts") "counts" (spC (He.ga K "RoadCounts") d)
  | 0 => S_RoadCounts_counts Y 0 (by
    obtain ⟨fd, F⟩ := Y.c.def_ 6 (d := d_RoadCounts_counts) rfl
    exact WMet.no (He.meth_ok (Y.c.fact 56 (f := .meth "RoadCounts" "counts") rfl)) (F.bindsN (ps := ["self", "bits", "place"]) fun _ _ _ _ _ _ us hl => match us, hl with | [_, _, _], _ => rfl))
  | d + 1 => S_RoadCounts_counts Y (d + 1) ((R_RoadCounts_counts Y d).lift (by omega))
theorem P_RoadCounts_counts (Y : Cn K mg) : WMet P w K mg base (32) (He.ga K "RoadCounts") "counts" (spC (He.ga K "RoadCounts") 14) := R_RoadCounts_counts Y 14
theorem len_counts_by : ∀ ws h Q E, (sp_counts_by) ws h Q E → ws.length = 1 := by
  intro ws h Q E s
  first
    | (obtain ⟨_, rfl, _⟩ := s; rfl)
    | (obtain ⟨_, _, rfl, _⟩ := s; rfl)
    | (obtain ⟨_, _, _, rfl, _⟩ := s; rfl)
    | (obtain ⟨_, _, _, _, rfl, _⟩ := s; rfl)
    | (obtain ⟨_, _, _, _, _, rfl, _⟩ := s; rfl)
    | (obtain ⟨_, _, _, _, _, _, rfl, _⟩ := s; rfl)
    | (obtain ⟨_, _, _, _, _, _, _, rfl, _⟩ := s; rfl)
    | (obtain ⟨_, _, _, _, _, _, _, _, rfl, _⟩ := s; rfl)
    | (obtain ⟨_, _, _, _, _, _, _, _, _, rfl, _⟩ := s; rfl)
    | (obtain ⟨_, _, _, _, _, _, _, _, _, _, rfl, _⟩ := s; rfl)
    | (obtain ⟨_, _, _, _, _, _, _, _, _, _, _, rfl, _⟩ := s; rfl)
    | (obtain ⟨_, _, _, _, _, _, _, _, _, _, _, _, rfl, _⟩ := s; rfl)
    | (obtain ⟨_, _, _, _, _, _, _, _, _, _, _, _, _, rfl, _⟩ := s; rfl)

theorem P_counts_by (Y : Cn K mg) : WFn P w K mg base (34) "counts_by" (sp_counts_by) := by
  obtain ⟨fd, F⟩ := Y.c.def_ 8 (d := d_counts_by) rfl
  exact ⟨⟨_, fd, ["net"], Y.glo (Y.c.fact 12 (f := .glo "counts_by") rfl), F.kp, (F.bindsN (ps := ["net"]) fun _ _ _ _ _ _ us hl => match us, hl with | [_], _ => rfl), w_def F sc_counts_by len_counts_by fun cdv A outer s H E hr => ⟨_, j_counts_by (k := 32) Y.mf (K_RoadCounts := (P_RoadCounts_xinitx Y).lift (by decide)) (F_RoadCounts_counts := (P_RoadCounts_counts Y).lift (by decide)) (W_RoadCounts := W_RoadCounts Y) (n_RoadCounts_own_powers := He.noat_ok (Y.c.fact 55 (f := .noat "RoadCounts" "own_powers") rfl)) hr, q_counts_by (He.ga K "RoadCounts")⟩⟩, mo_counts_by⟩
theorem len_whole_count_by : ∀ ws h Q E, (sp_whole) ws h Q E → ws.length = 1 := by
  intro ws h Q E s
  first
    | (obtain ⟨_, rfl, _⟩ := s; rfl)
    | (obtain ⟨_, _, rfl, _⟩ := s; rfl)
    | (obtain ⟨_, _, _, rfl, _⟩ := s; rfl)
    | (obtain ⟨_, _, _, _, rfl, _⟩ := s; rfl)
    | (obtain ⟨_, _, _, _, _, rfl, _⟩ := s; rfl)
    | (obtain ⟨_, _, _, _, _, _, rfl, _⟩ := s; rfl)
    | (obtain ⟨_, _, _, _, _, _, _, rfl, _⟩ := s; rfl)
    | (obtain ⟨_, _, _, _, _, _, _, _, rfl, _⟩ := s; rfl)
    | (obtain ⟨_, _, _, _, _, _, _, _, _, rfl, _⟩ := s; rfl)
    | (obtain ⟨_, _, _, _, _, _, _, _, _, _, rfl, _⟩ := s; rfl)
    | (obtain ⟨_, _, _, _, _, _, _, _, _, _, _, rfl, _⟩ := s; rfl)
    | (obtain ⟨_, _, _, _, _, _, _, _, _, _, _, _, rfl, _⟩ := s; rfl)
    | (obtain ⟨_, _, _, _, _, _, _, _, _, _, _, _, _, rfl, _⟩ := s; rfl)

theorem P_whole_count_by (Y : Cn K mg) : WFn P w K mg base (36) "whole_count_by" (sp_whole) := by
  obtain ⟨fd, F⟩ := Y.c.def_ 9 (d := d_whole_count_by) rfl
  exact ⟨⟨_, fd, ["net"], Y.glo (Y.c.fact 13 (f := .glo "whole_count_by") rfl), F.kp, (F.bindsN (ps := ["net"]) fun _ _ _ _ _ _ us hl => match us, hl with | [_], _ => rfl), w_def F sc_whole_count_by len_whole_count_by fun cdv A outer s H E hr => ⟨_, j_whole_count_by (k := 34) Y.mf (F_counts_by := (P_counts_by Y).lift (by decide)) hr, q_whole_count_by⟩⟩, mo_whole⟩
theorem len_whole_count : ∀ ws h Q E, (sp_whole) ws h Q E → ws.length = 1 := by
  intro ws h Q E s
  first
    | (obtain ⟨_, rfl, _⟩ := s; rfl)
    | (obtain ⟨_, _, rfl, _⟩ := s; rfl)
    | (obtain ⟨_, _, _, rfl, _⟩ := s; rfl)
    | (obtain ⟨_, _, _, _, rfl, _⟩ := s; rfl)
    | (obtain ⟨_, _, _, _, _, rfl, _⟩ := s; rfl)
    | (obtain ⟨_, _, _, _, _, _, rfl, _⟩ := s; rfl)
    | (obtain ⟨_, _, _, _, _, _, _, rfl, _⟩ := s; rfl)
    | (obtain ⟨_, _, _, _, _, _, _, _, rfl, _⟩ := s; rfl)
    | (obtain ⟨_, _, _, _, _, _, _, _, _, rfl, _⟩ := s; rfl)
    | (obtain ⟨_, _, _, _, _, _, _, _, _, _, rfl, _⟩ := s; rfl)
    | (obtain ⟨_, _, _, _, _, _, _, _, _, _, _, rfl, _⟩ := s; rfl)
    | (obtain ⟨_, _, _, _, _, _, _, _, _, _, _, _, rfl, _⟩ := s; rfl)
    | (obtain ⟨_, _, _, _, _, _, _, _, _, _, _, _, _, rfl, _⟩ := s; rfl)

theorem P_whole_count (Y : Cn K mg) : WFn P w K mg base (38) "whole_count" (sp_whole) := by
  obtain ⟨fd, F⟩ := Y.c.def_ 10 (d := d_whole_count) rfl
  exact ⟨⟨_, fd, ["net"], Y.glo (Y.c.fact 14 (f := .glo "whole_count") rfl), F.kp, (F.bindsN (ps := ["net"]) fun _ _ _ _ _ _ us hl => match us, hl with | [_], _ => rfl), w_def F sc_whole_count len_whole_count fun cdv A outer s H E hr => ⟨_, j_whole_count (k := 36) Y.mf (F_need_net := (P_need_net Y).lift (by decide)) (F_whole_count_by := (P_whole_count_by Y).lift (by decide)) hr, q_whole_count⟩⟩, mo_whole⟩
theorem len_counts_by_number : ∀ ws h Q E, (sp_number) ws h Q E → ws.length = 1 := by
  intro ws h Q E s
  first
    | (obtain ⟨_, rfl, _⟩ := s; rfl)
    | (obtain ⟨_, _, rfl, _⟩ := s; rfl)
    | (obtain ⟨_, _, _, rfl, _⟩ := s; rfl)
    | (obtain ⟨_, _, _, _, rfl, _⟩ := s; rfl)
    | (obtain ⟨_, _, _, _, _, rfl, _⟩ := s; rfl)
    | (obtain ⟨_, _, _, _, _, _, rfl, _⟩ := s; rfl)
    | (obtain ⟨_, _, _, _, _, _, _, rfl, _⟩ := s; rfl)
    | (obtain ⟨_, _, _, _, _, _, _, _, rfl, _⟩ := s; rfl)
    | (obtain ⟨_, _, _, _, _, _, _, _, _, rfl, _⟩ := s; rfl)
    | (obtain ⟨_, _, _, _, _, _, _, _, _, _, rfl, _⟩ := s; rfl)
    | (obtain ⟨_, _, _, _, _, _, _, _, _, _, _, rfl, _⟩ := s; rfl)
    | (obtain ⟨_, _, _, _, _, _, _, _, _, _, _, _, rfl, _⟩ := s; rfl)
    | (obtain ⟨_, _, _, _, _, _, _, _, _, _, _, _, _, rfl, _⟩ := s; rfl)

theorem P_counts_by_number (Y : Cn K mg) : WFn P w K mg base (36) "counts_by_number" (sp_number) := by
  obtain ⟨fd, F⟩ := Y.c.def_ 11 (d := d_counts_by_number) rfl
  exact ⟨⟨_, fd, ["net"], Y.glo (Y.c.fact 15 (f := .glo "counts_by_number") rfl), F.kp, (F.bindsN (ps := ["net"]) fun _ _ _ _ _ _ us hl => match us, hl with | [_], _ => rfl), w_def F sc_counts_by_number len_counts_by_number fun cdv A outer s H E hr => ⟨_, j_counts_by_number (k := 34) Y.mf (F_need_net := (P_need_net Y).lift (by decide)) (F_counts_by := (P_counts_by Y).lift (by decide)) hr, q_counts_by_number⟩⟩, mo_number⟩
theorem len_filled_count : ∀ ws h Q E, (sp_filled) ws h Q E → ws.length = 1 := by
  intro ws h Q E s
  first
    | (obtain ⟨_, rfl, _⟩ := s; rfl)
    | (obtain ⟨_, _, rfl, _⟩ := s; rfl)
    | (obtain ⟨_, _, _, rfl, _⟩ := s; rfl)
    | (obtain ⟨_, _, _, _, rfl, _⟩ := s; rfl)
    | (obtain ⟨_, _, _, _, _, rfl, _⟩ := s; rfl)
    | (obtain ⟨_, _, _, _, _, _, rfl, _⟩ := s; rfl)
    | (obtain ⟨_, _, _, _, _, _, _, rfl, _⟩ := s; rfl)
    | (obtain ⟨_, _, _, _, _, _, _, _, rfl, _⟩ := s; rfl)
    | (obtain ⟨_, _, _, _, _, _, _, _, _, rfl, _⟩ := s; rfl)
    | (obtain ⟨_, _, _, _, _, _, _, _, _, _, rfl, _⟩ := s; rfl)
    | (obtain ⟨_, _, _, _, _, _, _, _, _, _, _, rfl, _⟩ := s; rfl)
    | (obtain ⟨_, _, _, _, _, _, _, _, _, _, _, _, rfl, _⟩ := s; rfl)
    | (obtain ⟨_, _, _, _, _, _, _, _, _, _, _, _, _, rfl, _⟩ := s; rfl)

theorem P_filled_count (Y : Cn K mg) : WFn P w K mg base (36) "filled_count" (sp_filled) := by
  obtain ⟨fd, F⟩ := Y.c.def_ 12 (d := d_filled_count) rfl
  exact ⟨⟨_, fd, ["net"], Y.glo (Y.c.fact 16 (f := .glo "filled_count") rfl), F.kp, (F.bindsN (ps := ["net"]) fun _ _ _ _ _ _ us hl => match us, hl with | [_], _ => rfl), w_def F sc_filled_count len_filled_count fun cdv A outer s H E hr => ⟨_, j_filled_count (k := 34) Y.mf (F_need_net := (P_need_net Y).lift (by decide)) (F_counts_by := (P_counts_by Y).lift (by decide)) hr, q_filled_count⟩⟩, mo_filled⟩
theorem len_need_right_signs : ∀ ws h Q E, (sp_right_signs) ws h Q E → ws.length = 2 := by
  intro ws h Q E s
  first
    | (obtain ⟨_, rfl, _⟩ := s; rfl)
    | (obtain ⟨_, _, rfl, _⟩ := s; rfl)
    | (obtain ⟨_, _, _, rfl, _⟩ := s; rfl)
    | (obtain ⟨_, _, _, _, rfl, _⟩ := s; rfl)
    | (obtain ⟨_, _, _, _, _, rfl, _⟩ := s; rfl)
    | (obtain ⟨_, _, _, _, _, _, rfl, _⟩ := s; rfl)
    | (obtain ⟨_, _, _, _, _, _, _, rfl, _⟩ := s; rfl)
    | (obtain ⟨_, _, _, _, _, _, _, _, rfl, _⟩ := s; rfl)
    | (obtain ⟨_, _, _, _, _, _, _, _, _, rfl, _⟩ := s; rfl)
    | (obtain ⟨_, _, _, _, _, _, _, _, _, _, rfl, _⟩ := s; rfl)
    | (obtain ⟨_, _, _, _, _, _, _, _, _, _, _, rfl, _⟩ := s; rfl)
    | (obtain ⟨_, _, _, _, _, _, _, _, _, _, _, _, rfl, _⟩ := s; rfl)
    | (obtain ⟨_, _, _, _, _, _, _, _, _, _, _, _, _, rfl, _⟩ := s; rfl)

theorem P_need_right_signs (Y : Cn K mg) : WFn P w K mg base (4) "need_right_signs" (sp_right_signs) := by
  obtain ⟨fd, F⟩ := Y.c.def_ 13 (d := d_need_right_signs) rfl
  exact ⟨⟨_, fd, ["net", "signs"], Y.glo (Y.c.fact 17 (f := .glo "need_right_signs") rfl), F.kp, (F.bindsN (ps := ["net", "signs"]) fun _ _ _ _ _ _ us hl => match us, hl with | [_, _], _ => rfl), w_def F sc_need_right_signs len_need_right_signs fun cdv A outer s H E hr => ⟨_, j_need_right_signs (k := 2) Y.mf (F_is_tuple_of := (P_is_tuple_of Y).lift (by decide)) (F_is_number := (P_is_number Y).lift (by decide)) hr, q_need_right_signs⟩⟩, mo_right_signs⟩
theorem len_need_signs : ∀ ws h Q E, (sp_need_signs) ws h Q E → ws.length = 2 := by
  intro ws h Q E s
  first
    | (obtain ⟨_, rfl, _⟩ := s; rfl)
    | (obtain ⟨_, _, rfl, _⟩ := s; rfl)
    | (obtain ⟨_, _, _, rfl, _⟩ := s; rfl)
    | (obtain ⟨_, _, _, _, rfl, _⟩ := s; rfl)
    | (obtain ⟨_, _, _, _, _, rfl, _⟩ := s; rfl)
    | (obtain ⟨_, _, _, _, _, _, rfl, _⟩ := s; rfl)
    | (obtain ⟨_, _, _, _, _, _, _, rfl, _⟩ := s; rfl)
    | (obtain ⟨_, _, _, _, _, _, _, _, rfl, _⟩ := s; rfl)
    | (obtain ⟨_, _, _, _, _, _, _, _, _, rfl, _⟩ := s; rfl)
    | (obtain ⟨_, _, _, _, _, _, _, _, _, _, rfl, _⟩ := s; rfl)
    | (obtain ⟨_, _, _, _, _, _, _, _, _, _, _, rfl, _⟩ := s; rfl)
    | (obtain ⟨_, _, _, _, _, _, _, _, _, _, _, _, rfl, _⟩ := s; rfl)
    | (obtain ⟨_, _, _, _, _, _, _, _, _, _, _, _, _, rfl, _⟩ := s; rfl)

theorem P_need_signs (Y : Cn K mg) : WFn P w K mg base (10) "need_signs" (sp_need_signs) := by
  obtain ⟨fd, F⟩ := Y.c.def_ 14 (d := d_need_signs) rfl
  exact ⟨⟨_, fd, ["net", "signs"], Y.glo (Y.c.fact 18 (f := .glo "need_signs") rfl), F.kp, (F.bindsN (ps := ["net", "signs"]) fun _ _ _ _ _ _ us hl => match us, hl with | [_, _], _ => rfl), w_def F sc_need_signs len_need_signs fun cdv A outer s H E hr => ⟨_, j_need_signs (k := 8) Y.mf (F_need_net := (P_need_net Y).lift (by decide)) (F_need_right_signs := (P_need_right_signs Y).lift (by decide)) hr, q_need_signs⟩⟩, mo_need_signs⟩
theorem len_SignedSums_xinitx {C : Addr} : ∀ ws h Q E, (sp_ssinit C) ws h Q E → ws.length = 3 := by
  intro ws h Q E s
  first
    | (obtain ⟨_, rfl, _⟩ := s; rfl)
    | (obtain ⟨_, _, rfl, _⟩ := s; rfl)
    | (obtain ⟨_, _, _, rfl, _⟩ := s; rfl)
    | (obtain ⟨_, _, _, _, rfl, _⟩ := s; rfl)
    | (obtain ⟨_, _, _, _, _, rfl, _⟩ := s; rfl)
    | (obtain ⟨_, _, _, _, _, _, rfl, _⟩ := s; rfl)
    | (obtain ⟨_, _, _, _, _, _, _, rfl, _⟩ := s; rfl)
    | (obtain ⟨_, _, _, _, _, _, _, _, rfl, _⟩ := s; rfl)
    | (obtain ⟨_, _, _, _, _, _, _, _, _, rfl, _⟩ := s; rfl)
    | (obtain ⟨_, _, _, _, _, _, _, _, _, _, rfl, _⟩ := s; rfl)
    | (obtain ⟨_, _, _, _, _, _, _, _, _, _, _, rfl, _⟩ := s; rfl)
    | (obtain ⟨_, _, _, _, _, _, _, _, _, _, _, _, rfl, _⟩ := s; rfl)
    | (obtain ⟨_, _, _, _, _, _, _, _, _, _, _, _, _, rfl, _⟩ := s; rfl)

theorem P_SignedSums_xinitx (Y : Cn K mg) : WMak P w K mg base (2) "SignedSums" (He.ga K "SignedSums") (sp_ssinit (He.ga K "SignedSums")) := by
  obtain ⟨fd, F⟩ := Y.c.def_ 15 (d := d_SignedSums_xinitx) rfl
  exact ⟨⟨_, fd, ["self", "net", "signs"], He.mkr_ok (Y.c.fact 58 (f := .mkr "SignedSums") rfl), Y.glo (Y.c.fact 19 (f := .glo "SignedSums") rfl), (F.bindsN (ps := ["self", "net", "signs"]) fun _ _ _ _ _ _ us hl => match us, hl with | [_, _, _], _ => rfl), w_def F sc_SignedSums_xinitx len_SignedSums_xinitx fun cdv A outer s H E hr => ⟨_, j_SignedSums_xinitx (k := 0) Y.mf (W_SignedSums := W_SignedSums Y) (n_SignedSums_own_known := He.noat_ok (Y.c.fact 59 (f := .noat "SignedSums" "own_known") rfl)) (n_SignedSums_own_signs := He.noat_ok (Y.c.fact 60 (f := .noat "SignedSums" "own_signs") rfl)) hr, q_ssinit (He.ga K "SignedSums")⟩⟩, mo_ssinit (He.ga K "SignedSums")⟩
theorem len_SignedSums_total {C : Addr} {d : Nat} : ∀ ws h Q E, (spT C d) ws h Q E → ws.length = 2 := by
  intro ws h Q E s
  first
    | (obtain ⟨_, rfl, _⟩ := s; rfl)
    | (obtain ⟨_, _, rfl, _⟩ := s; rfl)
    | (obtain ⟨_, _, _, rfl, _⟩ := s; rfl)
    | (obtain ⟨_, _, _, _, rfl, _⟩ := s; rfl)
    | (obtain ⟨_, _, _, _, _, rfl, _⟩ := s; rfl)
    | (obtain ⟨_, _, _, _, _, _, rfl, _⟩ := s; rfl)
    | (obtain ⟨_, _, _, _, _, _, _, rfl, _⟩ := s; rfl)
    | (obtain ⟨_, _, _, _, _, _, _, _, rfl, _⟩ := s; rfl)
    | (obtain ⟨_, _, _, _, _, _, _, _, _, rfl, _⟩ := s; rfl)
    | (obtain ⟨_, _, _, _, _, _, _, _, _, _, rfl, _⟩ := s; rfl)
    | (obtain ⟨_, _, _, _, _, _, _, _, _, _, _, rfl, _⟩ := s; rfl)
    | (obtain ⟨_, _, _, _, _, _, _, _, _, _, _, _, rfl, _⟩ := s; rfl)
    | (obtain ⟨_, _, _, _, _, _, _, _, _, _, _, _, _, rfl, _⟩ := s; rfl)

theorem S_SignedSums_total (Y : Cn K mg) (d : Nat) (low : WMet P w K mg base (2 * d + 2) (He.ga K "SignedSums") "total" (spTL (He.ga K "SignedSums") d)) : WMet P w K mg base (2 * d + 4) (He.ga K "SignedSums") "total" (spT (He.ga K "SignedSums") d) := by
  obtain ⟨fd, F⟩ := Y.c.def_ 16 (d := d_SignedSums_total) rfl
  exact ⟨⟨_, fd, ["self", "places"], He.meth_ok (Y.c.fact 61 (f := .meth "SignedSums" "total") rfl), (F.bindsN (ps := ["self", "places"]) fun _ _ _ _ _ _ us hl => match us, hl with | [_, _], _ => rfl), w_def F sc_SignedSums_total len_SignedSums_total fun cdv A outer s H E hr => ⟨_, j_SignedSums_total (k := 2 * d + 2) Y.mf (F_SignedSums_total := low) (W_SignedSums := W_SignedSums Y) (n_SignedSums_own_known := He.noat_ok (Y.c.fact 59 (f := .noat "SignedSums" "own_known") rfl)) (n_SignedSums_own_signs := He.noat_ok (Y.c.fact 60 (f := .noat "SignedSums" "own_signs") rfl)) hr, q_total d⟩⟩, mo_spT (He.ga K "SignedSums") d⟩
theorem R_SignedSums_total (Y : Cn K mg) : ∀ d : Nat, WMet P w K mg base (2 * d + 4) (He.ga K "SignedSums") "total" (spT (He.ga K "SignedSums") d)
  | 0 => S_SignedSums_total Y 0 (by
    obtain ⟨fd, F⟩ := Y.c.def_ 16 (d := d_SignedSums_total) rfl
    exact WMet.no (He.meth_ok (Y.c.fact 61 (f := .meth "SignedSums" "total") rfl)) (F.bindsN (ps := ["self", "places"]) fun _ _ _ _ _ _ us hl => match us, hl with | [_, _], _ => rfl))
  | d + 1 => S_SignedSums_total Y (d + 1) ((R_SignedSums_total Y d).lift (by omega))
theorem P_SignedSums_total (Y : Cn K mg) : WMet P w K mg base (18) (He.ga K "SignedSums") "total" (spT (He.ga K "SignedSums") 7) := R_SignedSums_total Y 7
theorem len_signed_sum_by : ∀ ws h Q E, (sp_ssum) ws h Q E → ws.length = 2 := by
  intro ws h Q E s
  first
    | (obtain ⟨_, rfl, _⟩ := s; rfl)
    | (obtain ⟨_, _, rfl, _⟩ := s; rfl)
    | (obtain ⟨_, _, _, rfl, _⟩ := s; rfl)
    | (obtain ⟨_, _, _, _, rfl, _⟩ := s; rfl)
    | (obtain ⟨_, _, _, _, _, rfl, _⟩ := s; rfl)
    | (obtain ⟨_, _, _, _, _, _, rfl, _⟩ := s; rfl)
    | (obtain ⟨_, _, _, _, _, _, _, rfl, _⟩ := s; rfl)
    | (obtain ⟨_, _, _, _, _, _, _, _, rfl, _⟩ := s; rfl)
    | (obtain ⟨_, _, _, _, _, _, _, _, _, rfl, _⟩ := s; rfl)
    | (obtain ⟨_, _, _, _, _, _, _, _, _, _, rfl, _⟩ := s; rfl)
    | (obtain ⟨_, _, _, _, _, _, _, _, _, _, _, rfl, _⟩ := s; rfl)
    | (obtain ⟨_, _, _, _, _, _, _, _, _, _, _, _, rfl, _⟩ := s; rfl)
    | (obtain ⟨_, _, _, _, _, _, _, _, _, _, _, _, _, rfl, _⟩ := s; rfl)

theorem P_signed_sum_by (Y : Cn K mg) : WFn P w K mg base (20) "signed_sum_by" (sp_ssum) := by
  obtain ⟨fd, F⟩ := Y.c.def_ 17 (d := d_signed_sum_by) rfl
  exact ⟨⟨_, fd, ["net", "signs"], Y.glo (Y.c.fact 20 (f := .glo "signed_sum_by") rfl), F.kp, (F.bindsN (ps := ["net", "signs"]) fun _ _ _ _ _ _ us hl => match us, hl with | [_, _], _ => rfl), w_def F sc_signed_sum_by len_signed_sum_by fun cdv A outer s H E hr => ⟨_, j_signed_sum_by (k := 18) Y.mf (K_SignedSums := (P_SignedSums_xinitx Y).lift (by decide)) (F_SignedSums_total := (P_SignedSums_total Y).lift (by decide)) (W_SignedSums := W_SignedSums Y) hr, q_signed_sum_by (He.ga K "SignedSums")⟩⟩, mo_ssum⟩
theorem len_signed_sum : ∀ ws h Q E, (sp_ssum) ws h Q E → ws.length = 2 := by
  intro ws h Q E s
  first
    | (obtain ⟨_, rfl, _⟩ := s; rfl)
    | (obtain ⟨_, _, rfl, _⟩ := s; rfl)
    | (obtain ⟨_, _, _, rfl, _⟩ := s; rfl)
    | (obtain ⟨_, _, _, _, rfl, _⟩ := s; rfl)
    | (obtain ⟨_, _, _, _, _, rfl, _⟩ := s; rfl)
    | (obtain ⟨_, _, _, _, _, _, rfl, _⟩ := s; rfl)
    | (obtain ⟨_, _, _, _, _, _, _, rfl, _⟩ := s; rfl)
    | (obtain ⟨_, _, _, _, _, _, _, _, rfl, _⟩ := s; rfl)
    | (obtain ⟨_, _, _, _, _, _, _, _, _, rfl, _⟩ := s; rfl)
    | (obtain ⟨_, _, _, _, _, _, _, _, _, _, rfl, _⟩ := s; rfl)
    | (obtain ⟨_, _, _, _, _, _, _, _, _, _, _, rfl, _⟩ := s; rfl)
    | (obtain ⟨_, _, _, _, _, _, _, _, _, _, _, _, rfl, _⟩ := s; rfl)
    | (obtain ⟨_, _, _, _, _, _, _, _, _, _, _, _, _, rfl, _⟩ := s; rfl)

theorem P_signed_sum (Y : Cn K mg) : WFn P w K mg base (22) "signed_sum" (sp_ssum) := by
  obtain ⟨fd, F⟩ := Y.c.def_ 18 (d := d_signed_sum) rfl
  exact ⟨⟨_, fd, ["net", "signs"], Y.glo (Y.c.fact 21 (f := .glo "signed_sum") rfl), F.kp, (F.bindsN (ps := ["net", "signs"]) fun _ _ _ _ _ _ us hl => match us, hl with | [_, _], _ => rfl), w_def F sc_signed_sum len_signed_sum fun cdv A outer s H E hr => ⟨_, j_signed_sum (k := 20) Y.mf (F_need_signs := (P_need_signs Y).lift (by decide)) (F_signed_sum_by := (P_signed_sum_by Y).lift (by decide)) hr, q_signed_sum⟩⟩, mo_ssum⟩
theorem len_matrix_by : ∀ ws h Q E, (sp_matrix_by) ws h Q E → ws.length = 2 := by
  intro ws h Q E s
  first
    | (obtain ⟨_, rfl, _⟩ := s; rfl)
    | (obtain ⟨_, _, rfl, _⟩ := s; rfl)
    | (obtain ⟨_, _, _, rfl, _⟩ := s; rfl)
    | (obtain ⟨_, _, _, _, rfl, _⟩ := s; rfl)
    | (obtain ⟨_, _, _, _, _, rfl, _⟩ := s; rfl)
    | (obtain ⟨_, _, _, _, _, _, rfl, _⟩ := s; rfl)
    | (obtain ⟨_, _, _, _, _, _, _, rfl, _⟩ := s; rfl)
    | (obtain ⟨_, _, _, _, _, _, _, _, rfl, _⟩ := s; rfl)
    | (obtain ⟨_, _, _, _, _, _, _, _, _, rfl, _⟩ := s; rfl)
    | (obtain ⟨_, _, _, _, _, _, _, _, _, _, rfl, _⟩ := s; rfl)
    | (obtain ⟨_, _, _, _, _, _, _, _, _, _, _, rfl, _⟩ := s; rfl)
    | (obtain ⟨_, _, _, _, _, _, _, _, _, _, _, _, rfl, _⟩ := s; rfl)
    | (obtain ⟨_, _, _, _, _, _, _, _, _, _, _, _, _, rfl, _⟩ := s; rfl)

theorem P_matrix_by (Y : Cn K mg) : WFn P w K mg base (2) "matrix_by" (sp_matrix_by) := by
  obtain ⟨fd, F⟩ := Y.c.def_ 19 (d := d_matrix_by) rfl
  exact ⟨⟨_, fd, ["net", "signs"], Y.glo (Y.c.fact 22 (f := .glo "matrix_by") rfl), F.kp, (F.bindsN (ps := ["net", "signs"]) fun _ _ _ _ _ _ us hl => match us, hl with | [_, _], _ => rfl), w_def F sc_matrix_by len_matrix_by fun cdv A outer s H E hr => ⟨_, j_matrix_by (k := 0) Y.mf  hr, q_matrix_by⟩⟩, mo_matrix_by⟩
theorem len_determinant_by : ∀ ws h Q E, (sp_det) ws h Q E → ws.length = 1 := by
  intro ws h Q E s
  first
    | (obtain ⟨_, rfl, _⟩ := s; rfl)
    | (obtain ⟨_, _, rfl, _⟩ := s; rfl)
    | (obtain ⟨_, _, _, rfl, _⟩ := s; rfl)
    | (obtain ⟨_, _, _, _, rfl, _⟩ := s; rfl)
    | (obtain ⟨_, _, _, _, _, rfl, _⟩ := s; rfl)
    | (obtain ⟨_, _, _, _, _, _, rfl, _⟩ := s; rfl)
    | (obtain ⟨_, _, _, _, _, _, _, rfl, _⟩ := s; rfl)
    | (obtain ⟨_, _, _, _, _, _, _, _, rfl, _⟩ := s; rfl)
    | (obtain ⟨_, _, _, _, _, _, _, _, _, rfl, _⟩ := s; rfl)
    | (obtain ⟨_, _, _, _, _, _, _, _, _, _, rfl, _⟩ := s; rfl)
    | (obtain ⟨_, _, _, _, _, _, _, _, _, _, _, rfl, _⟩ := s; rfl)
    | (obtain ⟨_, _, _, _, _, _, _, _, _, _, _, _, rfl, _⟩ := s; rfl)
    | (obtain ⟨_, _, _, _, _, _, _, _, _, _, _, _, _, rfl, _⟩ := s; rfl)

theorem P_determinant_by (Y : Cn K mg) : WFn P w K mg base (2) "determinant_by" (sp_det) := by
  obtain ⟨fd, F⟩ := Y.c.def_ 20 (d := d_determinant_by) rfl
  exact ⟨⟨_, fd, ["rows"], Y.glo (Y.c.fact 23 (f := .glo "determinant_by") rfl), F.kp, (F.bindsN (ps := ["rows"]) fun _ _ _ _ _ _ us hl => match us, hl with | [_], _ => rfl), w_def F sc_determinant_by len_determinant_by fun cdv A outer s H E hr => ⟨_, j_determinant_by (k := 0) Y.mf  hr, q_det⟩⟩, mo_det⟩
theorem len_matrix_determinant : ∀ ws h Q E, (sp_mdet) ws h Q E → ws.length = 2 := by
  intro ws h Q E s
  first
    | (obtain ⟨_, rfl, _⟩ := s; rfl)
    | (obtain ⟨_, _, rfl, _⟩ := s; rfl)
    | (obtain ⟨_, _, _, rfl, _⟩ := s; rfl)
    | (obtain ⟨_, _, _, _, rfl, _⟩ := s; rfl)
    | (obtain ⟨_, _, _, _, _, rfl, _⟩ := s; rfl)
    | (obtain ⟨_, _, _, _, _, _, rfl, _⟩ := s; rfl)
    | (obtain ⟨_, _, _, _, _, _, _, rfl, _⟩ := s; rfl)
    | (obtain ⟨_, _, _, _, _, _, _, _, rfl, _⟩ := s; rfl)
    | (obtain ⟨_, _, _, _, _, _, _, _, _, rfl, _⟩ := s; rfl)
    | (obtain ⟨_, _, _, _, _, _, _, _, _, _, rfl, _⟩ := s; rfl)
    | (obtain ⟨_, _, _, _, _, _, _, _, _, _, _, rfl, _⟩ := s; rfl)
    | (obtain ⟨_, _, _, _, _, _, _, _, _, _, _, _, rfl, _⟩ := s; rfl)
    | (obtain ⟨_, _, _, _, _, _, _, _, _, _, _, _, _, rfl, _⟩ := s; rfl)

theorem P_matrix_determinant (Y : Cn K mg) : WFn P w K mg base (12) "matrix_determinant" (sp_mdet) := by
  obtain ⟨fd, F⟩ := Y.c.def_ 21 (d := d_matrix_determinant) rfl
  exact ⟨⟨_, fd, ["net", "signs"], Y.glo (Y.c.fact 24 (f := .glo "matrix_determinant") rfl), F.kp, (F.bindsN (ps := ["net", "signs"]) fun _ _ _ _ _ _ us hl => match us, hl with | [_, _], _ => rfl), w_def F sc_matrix_determinant len_matrix_determinant fun cdv A outer s H E hr => ⟨_, j_matrix_determinant (k := 10) Y.mf (F_need_signs := (P_need_signs Y).lift (by decide)) (F_matrix_by := (P_matrix_by Y).lift (by decide)) (F_determinant_by := (P_determinant_by Y).lift (by decide)) hr, q_mdet⟩⟩, mo_mdet⟩
theorem len_xlaw_begun : ∀ ws h Q E, (sp_begun) ws h Q E → ws.length = 1 := by
  intro ws h Q E s
  first
    | (obtain ⟨_, rfl, _⟩ := s; rfl)
    | (obtain ⟨_, _, rfl, _⟩ := s; rfl)
    | (obtain ⟨_, _, _, rfl, _⟩ := s; rfl)
    | (obtain ⟨_, _, _, _, rfl, _⟩ := s; rfl)
    | (obtain ⟨_, _, _, _, _, rfl, _⟩ := s; rfl)
    | (obtain ⟨_, _, _, _, _, _, rfl, _⟩ := s; rfl)
    | (obtain ⟨_, _, _, _, _, _, _, rfl, _⟩ := s; rfl)
    | (obtain ⟨_, _, _, _, _, _, _, _, rfl, _⟩ := s; rfl)
    | (obtain ⟨_, _, _, _, _, _, _, _, _, rfl, _⟩ := s; rfl)
    | (obtain ⟨_, _, _, _, _, _, _, _, _, _, rfl, _⟩ := s; rfl)
    | (obtain ⟨_, _, _, _, _, _, _, _, _, _, _, rfl, _⟩ := s; rfl)
    | (obtain ⟨_, _, _, _, _, _, _, _, _, _, _, _, rfl, _⟩ := s; rfl)
    | (obtain ⟨_, _, _, _, _, _, _, _, _, _, _, _, _, rfl, _⟩ := s; rfl)

theorem P_xlaw_begun (Y : Cn K mg) : WFn P w K mg base (2) "_law_begun" (sp_begun) := by
  obtain ⟨fd, F⟩ := Y.c.def_ 22 (d := d_xlaw_begun) rfl
  exact ⟨⟨_, fd, ["script"], Y.glo (Y.c.fact 25 (f := .glo "_law_begun") rfl), F.kp, (F.bindsN (ps := ["script"]) fun _ _ _ _ _ _ us hl => match us, hl with | [_], _ => rfl), w_def F sc_xlaw_begun len_xlaw_begun fun cdv A outer s H E hr => ⟨_, j_xlaw_begun (k := 0) Y.mf  hr, q_begun⟩⟩, mo_begun⟩
theorem len_xlaw_next : ∀ ws h Q E, (sp_next) ws h Q E → ws.length = 2 := by
  intro ws h Q E s
  first
    | (obtain ⟨_, rfl, _⟩ := s; rfl)
    | (obtain ⟨_, _, rfl, _⟩ := s; rfl)
    | (obtain ⟨_, _, _, rfl, _⟩ := s; rfl)
    | (obtain ⟨_, _, _, _, rfl, _⟩ := s; rfl)
    | (obtain ⟨_, _, _, _, _, rfl, _⟩ := s; rfl)
    | (obtain ⟨_, _, _, _, _, _, rfl, _⟩ := s; rfl)
    | (obtain ⟨_, _, _, _, _, _, _, rfl, _⟩ := s; rfl)
    | (obtain ⟨_, _, _, _, _, _, _, _, rfl, _⟩ := s; rfl)
    | (obtain ⟨_, _, _, _, _, _, _, _, _, rfl, _⟩ := s; rfl)
    | (obtain ⟨_, _, _, _, _, _, _, _, _, _, rfl, _⟩ := s; rfl)
    | (obtain ⟨_, _, _, _, _, _, _, _, _, _, _, rfl, _⟩ := s; rfl)
    | (obtain ⟨_, _, _, _, _, _, _, _, _, _, _, _, rfl, _⟩ := s; rfl)
    | (obtain ⟨_, _, _, _, _, _, _, _, _, _, _, _, _, rfl, _⟩ := s; rfl)

theorem P_xlaw_next (Y : Cn K mg) : WFn P w K mg base (2) "_law_next" (sp_next) := by
  obtain ⟨fd, F⟩ := Y.c.def_ 23 (d := d_xlaw_next) rfl
  exact ⟨⟨_, fd, ["m", "many"], Y.glo (Y.c.fact 26 (f := .glo "_law_next") rfl), F.kp, (F.bindsN (ps := ["m", "many"]) fun _ _ _ _ _ _ us hl => match us, hl with | [_, _], _ => rfl), w_def F sc_xlaw_next len_xlaw_next fun cdv A outer s H E hr => ⟨_, j_xlaw_next (k := 0) Y.mf  hr, q_next⟩⟩, mo_next⟩
theorem len_xlaw_of : ∀ ws h Q E, (sp_of) ws h Q E → ws.length = 2 := by
  intro ws h Q E s
  first
    | (obtain ⟨_, rfl, _⟩ := s; rfl)
    | (obtain ⟨_, _, rfl, _⟩ := s; rfl)
    | (obtain ⟨_, _, _, rfl, _⟩ := s; rfl)
    | (obtain ⟨_, _, _, _, rfl, _⟩ := s; rfl)
    | (obtain ⟨_, _, _, _, _, rfl, _⟩ := s; rfl)
    | (obtain ⟨_, _, _, _, _, _, rfl, _⟩ := s; rfl)
    | (obtain ⟨_, _, _, _, _, _, _, rfl, _⟩ := s; rfl)
    | (obtain ⟨_, _, _, _, _, _, _, _, rfl, _⟩ := s; rfl)
    | (obtain ⟨_, _, _, _, _, _, _, _, _, rfl, _⟩ := s; rfl)
    | (obtain ⟨_, _, _, _, _, _, _, _, _, _, rfl, _⟩ := s; rfl)
    | (obtain ⟨_, _, _, _, _, _, _, _, _, _, _, rfl, _⟩ := s; rfl)
    | (obtain ⟨_, _, _, _, _, _, _, _, _, _, _, _, rfl, _⟩ := s; rfl)
    | (obtain ⟨_, _, _, _, _, _, _, _, _, _, _, _, _, rfl, _⟩ := s; rfl)

theorem P_xlaw_of (Y : Cn K mg) : WFn P w K mg base (4) "_law_of" (sp_of) := by
  obtain ⟨fd, F⟩ := Y.c.def_ 24 (d := d_xlaw_of) rfl
  exact ⟨⟨_, fd, ["m", "some"], Y.glo (Y.c.fact 27 (f := .glo "_law_of") rfl), F.kp, (F.bindsN (ps := ["m", "some"]) fun _ _ _ _ _ _ us hl => match us, hl with | [_, _], _ => rfl), w_def F sc_xlaw_of len_xlaw_of fun cdv A outer s H E hr => ⟨_, j_xlaw_of (k := 2) Y.mf (F_xlaw_next := (P_xlaw_next Y).lift (by decide)) hr, q_of⟩⟩, mo_of⟩
theorem len_xlaw_like {d : Nat} : ∀ ws h Q E, (spLike d) ws h Q E → ws.length = 2 := fun ws h Q E s => len_spLike d ws h Q E s

theorem S_xlaw_like (Y : Cn K mg) (d : Nat) (low : WFn P w K mg base (2 * d + 2) "_law_like" (spLikeL d)) : WFn P w K mg base (2 * d + 4) "_law_like" (spLike d) := by
  obtain ⟨fd, F⟩ := Y.c.def_ 25 (d := d_xlaw_like) rfl
  exact ⟨⟨_, fd, ["told", "due"], Y.glo (Y.c.fact 28 (f := .glo "_law_like") rfl), F.kp, (F.bindsN (ps := ["told", "due"]) fun _ _ _ _ _ _ us hl => match us, hl with | [_, _], _ => rfl), w_def F sc_xlaw_like len_xlaw_like fun cdv A outer s H E hr => ⟨_, j_xlaw_like (k := 2 * d + 2) Y.mf (F_xlaw_like := low) hr, q_spLike d⟩⟩, mo_spLike d⟩
theorem R_xlaw_like (Y : Cn K mg) : ∀ d : Nat, WFn P w K mg base (2 * d + 4) "_law_like" (spLike d)
  | 0 => S_xlaw_like Y 0 (by
    obtain ⟨fd, F⟩ := Y.c.def_ 25 (d := d_xlaw_like) rfl
    exact WFn.no (Y.glo (Y.c.fact 28 (f := .glo "_law_like") rfl)) F.kp (F.bindsN (ps := ["told", "due"]) fun _ _ _ _ _ _ us hl => match us, hl with | [_, _], _ => rfl))
  | d + 1 => S_xlaw_like Y (d + 1) ((R_xlaw_like Y d).lift (by omega))
theorem P_xlaw_like (Y : Cn K mg) : WFn P w K mg base (6) "_law_like" (spLike 1) := R_xlaw_like Y 1
theorem len_xlaw_orders_sum : ∀ ws h Q E, (sp_orders) ws h Q E → ws.length = 1 := by
  intro ws h Q E s
  first
    | (obtain ⟨_, rfl, _⟩ := s; rfl)
    | (obtain ⟨_, _, rfl, _⟩ := s; rfl)
    | (obtain ⟨_, _, _, rfl, _⟩ := s; rfl)
    | (obtain ⟨_, _, _, _, rfl, _⟩ := s; rfl)
    | (obtain ⟨_, _, _, _, _, rfl, _⟩ := s; rfl)
    | (obtain ⟨_, _, _, _, _, _, rfl, _⟩ := s; rfl)
    | (obtain ⟨_, _, _, _, _, _, _, rfl, _⟩ := s; rfl)
    | (obtain ⟨_, _, _, _, _, _, _, _, rfl, _⟩ := s; rfl)
    | (obtain ⟨_, _, _, _, _, _, _, _, _, rfl, _⟩ := s; rfl)
    | (obtain ⟨_, _, _, _, _, _, _, _, _, _, rfl, _⟩ := s; rfl)
    | (obtain ⟨_, _, _, _, _, _, _, _, _, _, _, rfl, _⟩ := s; rfl)
    | (obtain ⟨_, _, _, _, _, _, _, _, _, _, _, _, rfl, _⟩ := s; rfl)
    | (obtain ⟨_, _, _, _, _, _, _, _, _, _, _, _, _, rfl, _⟩ := s; rfl)

theorem P_xlaw_orders_sum (Y : Cn K mg) : WFn P w K mg base (2) "_law_orders_sum" (sp_orders) := by
  obtain ⟨fd, F⟩ := Y.c.def_ 26 (d := d_xlaw_orders_sum) rfl
  exact ⟨⟨_, fd, ["table"], Y.glo (Y.c.fact 29 (f := .glo "_law_orders_sum") rfl), F.kp, (F.bindsN (ps := ["table"]) fun _ _ _ _ _ _ us hl => match us, hl with | [_], _ => rfl), w_def F sc_xlaw_orders_sum len_xlaw_orders_sum fun cdv A outer s H E hr => ⟨_, j_xlaw_orders_sum (k := 0) Y.mf  hr, q_orders⟩⟩, mo_orders⟩
theorem len_xlaw_is_odd : ∀ ws h Q E, (sp_odd) ws h Q E → ws.length = 1 := by
  intro ws h Q E s
  first
    | (obtain ⟨_, rfl, _⟩ := s; rfl)
    | (obtain ⟨_, _, rfl, _⟩ := s; rfl)
    | (obtain ⟨_, _, _, rfl, _⟩ := s; rfl)
    | (obtain ⟨_, _, _, _, rfl, _⟩ := s; rfl)
    | (obtain ⟨_, _, _, _, _, rfl, _⟩ := s; rfl)
    | (obtain ⟨_, _, _, _, _, _, rfl, _⟩ := s; rfl)
    | (obtain ⟨_, _, _, _, _, _, _, rfl, _⟩ := s; rfl)
    | (obtain ⟨_, _, _, _, _, _, _, _, rfl, _⟩ := s; rfl)
    | (obtain ⟨_, _, _, _, _, _, _, _, _, rfl, _⟩ := s; rfl)
    | (obtain ⟨_, _, _, _, _, _, _, _, _, _, rfl, _⟩ := s; rfl)
    | (obtain ⟨_, _, _, _, _, _, _, _, _, _, _, rfl, _⟩ := s; rfl)
    | (obtain ⟨_, _, _, _, _, _, _, _, _, _, _, _, rfl, _⟩ := s; rfl)
    | (obtain ⟨_, _, _, _, _, _, _, _, _, _, _, _, _, rfl, _⟩ := s; rfl)

theorem P_xlaw_is_odd (Y : Cn K mg) : WFn P w K mg base (2) "_law_is_odd" (sp_odd) := by
  obtain ⟨fd, F⟩ := Y.c.def_ 27 (d := d_xlaw_is_odd) rfl
  exact ⟨⟨_, fd, ["table"], Y.glo (Y.c.fact 30 (f := .glo "_law_is_odd") rfl), F.kp, (F.bindsN (ps := ["table"]) fun _ _ _ _ _ _ us hl => match us, hl with | [_], _ => rfl), w_def F sc_xlaw_is_odd len_xlaw_is_odd fun cdv A outer s H E hr => ⟨_, j_xlaw_is_odd (k := 0) Y.mf  hr, q_is_odd⟩⟩, mo_odd⟩
theorem len_xlaw_by_number {d : Nat} : ∀ ws h Q E, (spB d) ws h Q E → ws.length = 2 := by
  intro ws h Q E s
  first
    | (obtain ⟨_, rfl, _⟩ := s; rfl)
    | (obtain ⟨_, _, rfl, _⟩ := s; rfl)
    | (obtain ⟨_, _, _, rfl, _⟩ := s; rfl)
    | (obtain ⟨_, _, _, _, rfl, _⟩ := s; rfl)
    | (obtain ⟨_, _, _, _, _, rfl, _⟩ := s; rfl)
    | (obtain ⟨_, _, _, _, _, _, rfl, _⟩ := s; rfl)
    | (obtain ⟨_, _, _, _, _, _, _, rfl, _⟩ := s; rfl)
    | (obtain ⟨_, _, _, _, _, _, _, _, rfl, _⟩ := s; rfl)
    | (obtain ⟨_, _, _, _, _, _, _, _, _, rfl, _⟩ := s; rfl)
    | (obtain ⟨_, _, _, _, _, _, _, _, _, _, rfl, _⟩ := s; rfl)
    | (obtain ⟨_, _, _, _, _, _, _, _, _, _, _, rfl, _⟩ := s; rfl)
    | (obtain ⟨_, _, _, _, _, _, _, _, _, _, _, _, rfl, _⟩ := s; rfl)
    | (obtain ⟨_, _, _, _, _, _, _, _, _, _, _, _, _, rfl, _⟩ := s; rfl)

theorem S_xlaw_by_number (Y : Cn K mg) (d : Nat) (low : WFn P w K mg base (2 * d + 2) "_law_by_number" (spBL d)) : WFn P w K mg base (2 * d + 4) "_law_by_number" (spB d) := by
  obtain ⟨fd, F⟩ := Y.c.def_ 28 (d := d_xlaw_by_number) rfl
  exact ⟨⟨_, fd, ["table", "many"], Y.glo (Y.c.fact 31 (f := .glo "_law_by_number") rfl), F.kp, (F.bindsN (ps := ["table", "many"]) fun _ _ _ _ _ _ us hl => match us, hl with | [_, _], _ => rfl), w_def F sc_xlaw_by_number len_xlaw_by_number fun cdv A outer s H E hr => ⟨_, j_xlaw_by_number (k := 2 * d + 2) Y.mf (F_xlaw_by_number := low) hr, q_by_number d⟩⟩, mo_spB d⟩
theorem R_xlaw_by_number (Y : Cn K mg) : ∀ d : Nat, WFn P w K mg base (2 * d + 4) "_law_by_number" (spB d)
  | 0 => S_xlaw_by_number Y 0 (by
    obtain ⟨fd, F⟩ := Y.c.def_ 28 (d := d_xlaw_by_number) rfl
    exact WFn.no (Y.glo (Y.c.fact 31 (f := .glo "_law_by_number") rfl)) F.kp (F.bindsN (ps := ["table", "many"]) fun _ _ _ _ _ _ us hl => match us, hl with | [_, _], _ => rfl))
  | d + 1 => S_xlaw_by_number Y (d + 1) ((R_xlaw_by_number Y d).lift (by omega))
theorem P_xlaw_by_number (Y : Cn K mg) : WFn P w K mg base (18) "_law_by_number" (spB 7) := R_xlaw_by_number Y 7
theorem len_xlaw_product : ∀ ws h Q E, (sp_product) ws h Q E → ws.length = 1 := by
  intro ws h Q E s
  first
    | (obtain ⟨_, rfl, _⟩ := s; rfl)
    | (obtain ⟨_, _, rfl, _⟩ := s; rfl)
    | (obtain ⟨_, _, _, rfl, _⟩ := s; rfl)
    | (obtain ⟨_, _, _, _, rfl, _⟩ := s; rfl)
    | (obtain ⟨_, _, _, _, _, rfl, _⟩ := s; rfl)
    | (obtain ⟨_, _, _, _, _, _, rfl, _⟩ := s; rfl)
    | (obtain ⟨_, _, _, _, _, _, _, rfl, _⟩ := s; rfl)
    | (obtain ⟨_, _, _, _, _, _, _, _, rfl, _⟩ := s; rfl)
    | (obtain ⟨_, _, _, _, _, _, _, _, _, rfl, _⟩ := s; rfl)
    | (obtain ⟨_, _, _, _, _, _, _, _, _, _, rfl, _⟩ := s; rfl)
    | (obtain ⟨_, _, _, _, _, _, _, _, _, _, _, rfl, _⟩ := s; rfl)
    | (obtain ⟨_, _, _, _, _, _, _, _, _, _, _, _, rfl, _⟩ := s; rfl)
    | (obtain ⟨_, _, _, _, _, _, _, _, _, _, _, _, _, rfl, _⟩ := s; rfl)

theorem P_xlaw_product (Y : Cn K mg) : WFn P w K mg base (2) "_law_product" (sp_product) := by
  obtain ⟨fd, F⟩ := Y.c.def_ 30 (d := d_xlaw_product) rfl
  exact ⟨⟨_, fd, ["signs"], Y.glo (Y.c.fact 33 (f := .glo "_law_product") rfl), F.kp, (F.bindsN (ps := ["signs"]) fun _ _ _ _ _ _ us hl => match us, hl with | [_], _ => rfl), w_def F sc_xlaw_product len_xlaw_product fun cdv A outer s H E hr => ⟨_, j_xlaw_product (k := 0) Y.mf  hr, q_product⟩⟩, mo_product⟩
theorem len_xlaw_sides_right : ∀ ws h Q E, (sp_sides) ws h Q E → ws.length = 2 := by
  intro ws h Q E s
  first
    | (obtain ⟨_, rfl, _⟩ := s; rfl)
    | (obtain ⟨_, _, rfl, _⟩ := s; rfl)
    | (obtain ⟨_, _, _, rfl, _⟩ := s; rfl)
    | (obtain ⟨_, _, _, _, rfl, _⟩ := s; rfl)
    | (obtain ⟨_, _, _, _, _, rfl, _⟩ := s; rfl)
    | (obtain ⟨_, _, _, _, _, _, rfl, _⟩ := s; rfl)
    | (obtain ⟨_, _, _, _, _, _, _, rfl, _⟩ := s; rfl)
    | (obtain ⟨_, _, _, _, _, _, _, _, rfl, _⟩ := s; rfl)
    | (obtain ⟨_, _, _, _, _, _, _, _, _, rfl, _⟩ := s; rfl)
    | (obtain ⟨_, _, _, _, _, _, _, _, _, _, rfl, _⟩ := s; rfl)
    | (obtain ⟨_, _, _, _, _, _, _, _, _, _, _, rfl, _⟩ := s; rfl)
    | (obtain ⟨_, _, _, _, _, _, _, _, _, _, _, _, rfl, _⟩ := s; rfl)
    | (obtain ⟨_, _, _, _, _, _, _, _, _, _, _, _, _, rfl, _⟩ := s; rfl)

theorem P_xlaw_sides_right (Y : Cn K mg) : WFn P w K mg base (40) "_law_sides_right" (sp_sides) := by
  obtain ⟨fd, F⟩ := Y.c.def_ 29 (d := d_xlaw_sides_right) rfl
  exact ⟨⟨_, fd, ["m", "size"], Y.glo (Y.c.fact 32 (f := .glo "_law_sides_right") rfl), F.kp, (F.bindsN (ps := ["m", "size"]) fun _ _ _ _ _ _ us hl => match us, hl with | [_, _], _ => rfl), w_def F sc_xlaw_sides_right len_xlaw_sides_right fun cdv A outer s H E hr => ⟨_, j_xlaw_sides_right (k := 38) Y.mf (F_xlaw_next := (P_xlaw_next Y).lift (by decide)) (F_xlaw_orders_sum := (P_xlaw_orders_sum Y).lift (by decide)) (F_whole_count := (P_whole_count Y).lift (by decide)) (F_xlaw_like := (P_xlaw_like Y).lift (by decide)) (F_xlaw_is_odd := (P_xlaw_is_odd Y).lift (by decide)) (F_signed_sum := (P_signed_sum Y).lift (by decide)) (F_counts_by_number := (P_counts_by_number Y).lift (by decide)) (F_xlaw_by_number := (P_xlaw_by_number Y).lift (by decide)) hr, q_sides⟩⟩, mo_sides⟩
theorem len_xlaw_signs_right : ∀ ws h Q E, (sp_signs) ws h Q E → ws.length = 2 := by
  intro ws h Q E s
  first
    | (obtain ⟨_, rfl, _⟩ := s; rfl)
    | (obtain ⟨_, _, rfl, _⟩ := s; rfl)
    | (obtain ⟨_, _, _, rfl, _⟩ := s; rfl)
    | (obtain ⟨_, _, _, _, rfl, _⟩ := s; rfl)
    | (obtain ⟨_, _, _, _, _, rfl, _⟩ := s; rfl)
    | (obtain ⟨_, _, _, _, _, _, rfl, _⟩ := s; rfl)
    | (obtain ⟨_, _, _, _, _, _, _, rfl, _⟩ := s; rfl)
    | (obtain ⟨_, _, _, _, _, _, _, _, rfl, _⟩ := s; rfl)
    | (obtain ⟨_, _, _, _, _, _, _, _, _, rfl, _⟩ := s; rfl)
    | (obtain ⟨_, _, _, _, _, _, _, _, _, _, rfl, _⟩ := s; rfl)
    | (obtain ⟨_, _, _, _, _, _, _, _, _, _, _, rfl, _⟩ := s; rfl)
    | (obtain ⟨_, _, _, _, _, _, _, _, _, _, _, _, rfl, _⟩ := s; rfl)
    | (obtain ⟨_, _, _, _, _, _, _, _, _, _, _, _, _, rfl, _⟩ := s; rfl)

theorem P_xlaw_signs_right (Y : Cn K mg) : WFn P w K mg base (24) "_law_signs_right" (sp_signs) := by
  obtain ⟨fd, F⟩ := Y.c.def_ 31 (d := d_xlaw_signs_right) rfl
  exact ⟨⟨_, fd, ["m", "places"], Y.glo (Y.c.fact 34 (f := .glo "_law_signs_right") rfl), F.kp, (F.bindsN (ps := ["m", "places"]) fun _ _ _ _ _ _ us hl => match us, hl with | [_, _], _ => rfl), w_def F sc_xlaw_signs_right len_xlaw_signs_right fun cdv A outer s H E hr => ⟨_, j_xlaw_signs_right (k := 22) Y.mf (F_xlaw_of := (P_xlaw_of Y).lift (by decide)) (F_xlaw_product := (P_xlaw_product Y).lift (by decide)) (F_signed_sum := (P_signed_sum Y).lift (by decide)) (F_xlaw_like := (P_xlaw_like Y).lift (by decide)) hr, q_signs⟩⟩, mo_signs⟩
theorem len_law : ∀ ws h Q E, (sp_law) ws h Q E → ws.length = 1 := by
  intro ws h Q E s
  first
    | (obtain ⟨_, rfl, _⟩ := s; rfl)
    | (obtain ⟨_, _, rfl, _⟩ := s; rfl)
    | (obtain ⟨_, _, _, rfl, _⟩ := s; rfl)
    | (obtain ⟨_, _, _, _, rfl, _⟩ := s; rfl)
    | (obtain ⟨_, _, _, _, _, rfl, _⟩ := s; rfl)
    | (obtain ⟨_, _, _, _, _, _, rfl, _⟩ := s; rfl)
    | (obtain ⟨_, _, _, _, _, _, _, rfl, _⟩ := s; rfl)
    | (obtain ⟨_, _, _, _, _, _, _, _, rfl, _⟩ := s; rfl)
    | (obtain ⟨_, _, _, _, _, _, _, _, _, rfl, _⟩ := s; rfl)
    | (obtain ⟨_, _, _, _, _, _, _, _, _, _, rfl, _⟩ := s; rfl)
    | (obtain ⟨_, _, _, _, _, _, _, _, _, _, _, rfl, _⟩ := s; rfl)
    | (obtain ⟨_, _, _, _, _, _, _, _, _, _, _, _, rfl, _⟩ := s; rfl)
    | (obtain ⟨_, _, _, _, _, _, _, _, _, _, _, _, _, rfl, _⟩ := s; rfl)

end
theorem FnOk.calm {P : Program} {w : World} {K : PySem.W.Frag} {mg : Str → Option Value} {base : Heap} {k : Nat} {f : Addr} {fd : FuncData} {ps : List Str} {sp : Sp} (F : FnOk P w K mg base (L2.CX P w) k f fd ps sp) : FnOk P w K mg base CX0 k f fd ps (fun vs H Q E => sp vs H Q E ∧ E = fun _ _ _ => False) :=
  ⟨fun vs H Q E h => F.len vs H Q E h.1, fun A outer s H args us vs Q E hr he hb hv h => codeAny_mono (F.run A outer s H args us vs Q E hr he hb hv h.1) fun r s' z => by
    cases r with
    | ok fl => cases fl <;> exact z
    | error e =>
      have z : L2.CX P w outer H s E e s' := z
      obtain ⟨_, _, _, _, _, _, _, _, _, _, _, _, q⟩ := z
      rw [h.2] at q
      exact q⟩
theorem facts {P : Program} {w : World} {K : PySem.W.Frag} {h : Heap} {mg : Str → Option Value} {f : Addr} (X : K.In h) (G : h.Ns mainGlobals mg) (hfa : mg ("law" : Str) = some (.ref f)) (c : He.SaysD fa fn K) :
    ∃ fd : FuncData, (∀ (s : Shared) (v : Value), BindsTo s fd ⟨[v], []⟩ [("script", v)]) ∧ ∀ base : Heap, K.In base → base.Ns mainGlobals mg → FnOk P w K mg base CX0 42 f fd ["script"] (fun vs H Q E => liP K sp_law vs H Q E ∧ E = fun _ _ _ => False) := by
  obtain ⟨fd, F⟩ := c.def_ 32 (d := d_law) rfl
  have e := hfa.symm.trans (He.glo_ok X G (c.fact 35 (f := .glo "law") rfl))
  cases e
  have Y : Cn K mg := ⟨c, h, X, G⟩
  have b := FunD.bindsA (ps := ["script"]) F fun _ _ _ _ _ _ us hl => match us, hl with | [_], _ => rfl
  refine ⟨fd, fun s v => b s [v] rfl, fun base _ _ => ?_⟩
  exact FnOk.calm (w_def F sc_law len_law fun cdv A outer s H E hr => ⟨_, j_law (k := 40) Y.mf (F_xlaw_begun := (P_xlaw_begun Y).lift (by decide)) (F_xlaw_next := (P_xlaw_next Y).lift (by decide)) (F_xlaw_sides_right := (P_xlaw_sides_right Y).lift (by decide)) (F_whole_count := (P_whole_count Y).lift (by decide)) (F_filled_count := (P_filled_count Y).lift (by decide)) (F_signed_sum := (P_signed_sum Y).lift (by decide)) (F_matrix_determinant := (P_matrix_determinant Y).lift (by decide)) (F_xlaw_signs_right := (P_xlaw_signs_right Y).lift (by decide)) hr, q_law⟩)
theorem cx_no {P : Program} {w : World} {st : List Env} {H : Hp} {s : Shared} {e : Value} {s' : Shared} (z : L2.CX P w st H s (fun _ _ _ => False) e s') : False := by
  obtain ⟨_, _, _, _, _, _, _, _, _, _, _, _, q⟩ := z
  exact q
theorem start_law {K : PySem.W.Frag} {H : Hp} {a : Addr} {ns : List Int} (hl : ns.length ≤ 63) (hO : Only H) (hS : SqL K H a (ns.map V.int)) : (fun vs H Q E => liP K sp_law vs H Q E ∧ E = fun _ _ _ => False : Sp) [.ref a] H (fun v _ => v = .bl true) fun _ _ _ => False := by
  refine ⟨⟨[.scr ns], fun _ => none, ⟨_, _, rfl, ⟨a, rfl, ?_⟩, rfl⟩, (fun _ _ z => by cases z), ns, rfl, (by omega), (fun h' v H' _ _ d => d)⟩, rfl⟩
  rcases hS with (e | ⟨o, e⟩) | e
  · rcases hO a with z | ⟨o, xs, z⟩
    · rw [e] at z; cases z
    · rw [e] at z; cases z
  · exact .inl ⟨o, e⟩
  · exact .inr (.inr e)
end Pd
open PySem PySem.W PySem.Calls PyProof.Rows
theorem PySem.Challenge.cw_pairedoff_k35_whole_two_sides_counted_holds : PySem.Challenge.rw_pairedoff_k35_whole_two_sides_counted.Holds := by
  w_on; o_law
  refine HandSHeadRun.head_any (r := OpenLaw.row PySem.Challenge.rw_pairedoff_k35_whole_two_sides_counted) (q := view (OpenLaw.row PySem.Challenge.rw_pairedoff_k35_whole_two_sides_counted).prog [41]) (H := Pd.hk) (ob := Pd.ob) (M := 20000) (loose := Pd.loose) (d := HandSHeadRun.topDef (OpenLaw.row PySem.Challenge.rw_pairedoff_k35_whole_two_sides_counted).prog 41) (kwd := []) Pd.ob_eq
    (by kernel_rfl) (fun s => by kernel_rfl) Pd.run (by kernel_rfl) (by kernel_rfl) (by kernel_rfl) (by rfl) (by first | assumption | decide +kernel) (by decide +kernel) ⟨rfl, rfl, rfl, rfl, rfl, by decide +kernel⟩ ?hw ?hc
  case hw => w_witness2
  case hc =>
    refine L2.walk_ofE (l := PySem.Challenge.rw_pairedoff_k35_whole_two_sides_counted) (n := 63) (k := 42) (x := "script") (CX := L2.CX0) rfl (by decide) (by kernel_rfl) ⟨rfl, by decide, by decide⟩ ?F (fun _ _ _ _ z => z)
    case F =>
      intro w mg fa h Y G hmg0
      obtain ⟨K, KX, c⟩ := Y
      have hmg : mg ("law" : PySem.Str) = some (.ref fa) := by
        have e : (HandSHeadRun.topDef (OpenLaw.row PySem.Challenge.rw_pairedoff_k35_whole_two_sides_counted).prog 41).name = ("law" : PySem.Str) := by kernel_rfl
        rw [← e]
        exact hmg0
      obtain ⟨fd, hb, hF⟩ := Pd.facts (P := (PySem.Challenge.rw_pairedoff_k35_whole_two_sides_counted).prog) (w := w) KX G hmg c
      exact ⟨K, fd, _, KX, hb, fun H a ns hl hO hS => Pd.start_law hl hO hS, hF⟩
