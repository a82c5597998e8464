import PyProof.Rows.All
import Wide.All
import OpenK.AllK
import Wide.FinOn
import HandS.ForMost
import HandS.More
import HandS.Walk
import HandS.Defaults
import HandS.HeadHook1
import HandS.HeadHook2
import HandS.Wide
import HandS.WideBits
import HandS.TupAny
import HandS.TupLe
import HandS.Zip
import HandS.IsInst
import KE.DataMinMax
import KE.KTupSum
import KE.KDictZip
import KE.KItemsList
import HandS.ListItems
import HandS.Style
import HandS.WordsExc
import HandS.Head0
import HandS.Head1
import HandS.Head2
import HandS.HeadEnd
import HandS.HeadHook4
import PySem.Challenge.RW_toothyard_k61_fewest_pairs
set_option Elab.async false
set_option linter.all false
set_option maxRecDepth 100000
set_option maxHeartbeats 0
/-! D-layer: data as trees; a frozen part G of the heap, owned objects beside it -/
namespace T
open PySem PySem.Spec PyProof.Rows L2

/-- the program's classes by numbers: a name, the fields in the order in which they are first stored -/
def clsTab : List (Str × List Str) := [
  ("Ratio", ["top", "bottom"]), ("Arbor", ["way", "name"]), ("Wheel", ["way", "name", "arbor", "teeth"]), ("Mesh", ["way", "one", "other", "arm"]), ("Ring", ["way", "one", "other", "arm"]),
  ("Drive", ["way", "arbor", "ratio"]), ("Still", ["way", "arbor"]), ("Hand", ["way", "name", "arbor", "marks", "begin"]), ("Count", ["way", "name", "arbor", "teeth", "begin"]), ("Bell", ["way", "name", "counter", "strokes"]),
  ("Use", ["way", "part", "name", "arbors"]), ("Part", ["way", "name", "params", "rows"]), ("Plan", ["things"]), ("Asked", ["terms", "total"]), ("Work", ["all_rows", "known", "by_names", "moment"]),
  ("Face", ["begin", "growth", "modulus"]), ("Reading", ["things", "head", "inner"]), ("Settling", ["parts", "kinds", "teeth", "settled_rows", "arbors"]), ("Desk", ["table", "work", "things_seen"])]
def clsName (C : Nat) : Str := (clsTab.getD C ("", [])).1
def clsFields (C : Nat) : List Str := (clsTab.getD C ("", [])).2
abbrev cA (K : PySem.W.Frag) (C : Nat) : Addr := He.ga K (clsName C)

inductive D where
  | non | bl (b : Bool) | int (i : Int) | str (x : Str) | ty (n : String) | adr (a : Addr)
  | tup (xs : List D) | lst (xs : List D) | scr (xs : List D) | dct (kvs : List (Key × D)) | ins (C : Nat) (fs : List D)

mutual
inductive Is (K : PySem.W.Frag) (G : Hp) : V → D → Prop
  | non : Is K G .non .non
  | bl (b : Bool) : Is K G (.bl b) (.bl b)
  | int (i : Int) : Is K G (.int i) (.int i)
  | str (x : Str) : Is K G (.str x) (.str x)
  | ty (n : String) : Is K G (.ty n) (.ty n)
  | adr (a : Addr) : Is K G (.ref a) (.adr a)
  | tup {a : Addr} {vs : List V} {ds : List D} : SqT K G a vs → IsL K G vs ds → Is K G (.ref a) (.tup ds)
  | lst {a : Addr} {vs : List V} {ds : List D} : G a = some (.lst vs) → IsL K G vs ds → Is K G (.ref a) (.lst ds)
  | scr {a : Addr} {vs : List V} {ds : List D} : SqL K G a vs → IsL K G vs ds → Is K G (.ref a) (.scr ds)
  | dct {a : Addr} {kvs : List (Key × V)} {es : List (Key × D)} : Rd G a (.dK kvs) → IsK K G kvs es → Is K G (.ref a) (.dct es)
  | ins {a dx : Addr} {C : Nat} {vs : List V} {es : List D} : G a = some (.ins (cA K C) dx ((clsFields C).zip vs)) → IsL K G vs es → Is K G (.ref a) (.ins C es)
inductive IsL (K : PySem.W.Frag) (G : Hp) : List V → List D → Prop
  | nil : IsL K G [] []
  | cons {v : V} {d : D} {vs : List V} {ds : List D} : Is K G v d → IsL K G vs ds → IsL K G (v :: vs) (d :: ds)
inductive IsK (K : PySem.W.Frag) (G : Hp) : List (Key × V) → List (Key × D) → Prop
  | nil : IsK K G [] []
  | cons {k : Key} {v : V} {d : D} {vs : List (Key × V)} {ds : List (Key × D)} : Is K G v d → IsK K G vs ds → IsK K G ((k, v) :: vs) ((k, d) :: ds)
end

/-- H has what G has; a dict of G may be locked -/
def Le (G H : Hp) : Prop := ∀ a u, G a = some u → H a = some u ∨ ((∃ kvs, u = .dK kvs) ∧ ∃ o, H a = some (.frz o u))
theorem Le.refl (G : Hp) : Le G G := fun _ _ h => .inl h
theorem Le.of {G H : Hp} (h : Same G H) : Le G H := fun a u e => .inl (h a u e)
theorem Le.trans {G H I : Hp} (a : Le G H) (b : Le H I) : Le G I := fun c u e => by
  rcases a c u e with h | ⟨h1, o, h2⟩
  · exact b c u h
  · rcases b c _ h2 with h | ⟨⟨kvs, h⟩, _⟩
    · exact .inr ⟨h1, o, h⟩
    · cases h
theorem Le.rd {G H : Hp} (h : Le G H) {a : Addr} {u : HO} (e : Rd G a u) : Rd H a u := by
  rcases e with e | ⟨o, e⟩
  · rcases h a u e with q | ⟨_, o, q⟩
    · exact .inl q
    · exact .inr ⟨o, q⟩
  · rcases h a _ e with q | ⟨⟨_, q⟩, _⟩
    · exact .inr ⟨o, q⟩
    · cases q
theorem Le.sqL {K : PySem.W.Frag} {G H : Hp} (h : Le G H) {a : Addr} {xs : List V} (e : SqL K G a xs) : SqL K H a xs := e.imp (fun z => h.rd z) id
theorem Le.sqT {K : PySem.W.Frag} {G H : Hp} (h : Le G H) {a : Addr} {xs : List V} (e : SqT K G a xs) : SqT K H a xs := e.imp (fun z => h.rd z) id
theorem Le.ins {G H : Hp} (h : Le G H) {a C dx : Addr} {fs : List (Str × V)} (e : G a = some (.ins C dx fs)) : H a = some (.ins C dx fs) := by
  rcases h a _ e with q | ⟨⟨_, q⟩, _⟩
  · exact q
  · cases q
theorem Le.lst {G H : Hp} (h : Le G H) {a : Addr} {xs : List V} (e : G a = some (.lst xs)) : H a = some (.lst xs) := by
  rcases h a _ e with q | ⟨⟨_, q⟩, _⟩
  · exact q
  · cases q
theorem Le.some {G H : Hp} (h : Le G H) {a : Addr} (e : G a ≠ none) : H a ≠ none := by
  cases q : G a with
  | none => exact absurd q e
  | some u =>
    rcases h a u q with z | ⟨_, o, z⟩ <;> rw [z] <;> exact fun y => nomatch y

variable {K : PySem.W.Frag} {G G' H H' : Hp}
mutual
theorem Is.le (h : Le G G') : ∀ {v : V} (d : D), Is K G v d → Is K G' v d
  | _, .non, .non => .non
  | _, .bl _, .bl b => .bl b
  | _, .int _, .int b => .int b
  | _, .str _, .str b => .str b
  | _, .ty _, .ty b => .ty b
  | _, .adr _, .adr b => .adr b
  | _, .tup ds, .tup e r => .tup (h.sqT e) (IsL.le h ds r)
  | _, .lst ds, .lst e r => .lst (h.lst e) (IsL.le h ds r)
  | _, .scr ds, .scr e r => .scr (h.sqL e) (IsL.le h ds r)
  | _, .dct ds, .dct e r => .dct (h.rd e) (IsK.le h ds r)
  | _, .ins _ ds, .ins e r => .ins (h.ins e) (IsL.le h ds r)
theorem IsL.le (h : Le G G') : ∀ {vs : List V} (ds : List D), IsL K G vs ds → IsL K G' vs ds
  | _, [], .nil => .nil
  | _, d :: ds, .cons a r => .cons (Is.le h d a) (IsL.le h ds r)
theorem IsK.le (h : Le G G') : ∀ {vs : List (Key × V)} (ds : List (Key × D)), IsK K G vs ds → IsK K G' vs ds
  | _, [], .nil => .nil
  | _, (_, d) :: ds, .cons a r => .cons (Is.le h d a) (IsK.le h ds r)
end
end T
namespace T
open PySem PySem.Spec PyProof.Rows L2

/-- a slot's content: frozen data, or an object that nobody else holds (its address, if told) -/
inductive O where
  | fz (d : D) | lst (t : Option Addr) (xs : List O) | tup (t : Option Addr) (xs : List O) | dct (t : Option Addr) (kvs : List (Key × O)) | ins (t : Option Addr) (C : Nat) (fs : List O)
def tagOk (t : Option Addr) (a : Addr) : Prop := t = none ∨ t = some a
mutual
inductive Ow (K : PySem.W.Frag) (G H : Hp) : V → O → List Addr → Prop
  | fz {v : V} {d : D} : Is K G v d → Ow K G H v (.fz d) []
  | lst {a : Addr} {t : Option Addr} {vs : List V} {os : List O} {fp : List Addr} : H a = some (.lst vs) → G a = none → OwL K G H vs os fp → a ∉ fp → tagOk t a → Ow K G H (.ref a) (.lst t os) (a :: fp)
  | tup {a : Addr} {t : Option Addr} {vs : List V} {os : List O} {fp : List Addr} : H a = some (.tup vs) → G a = none → OwL K G H vs os fp → a ∉ fp → tagOk t a → Ow K G H (.ref a) (.tup t os) (a :: fp)
  | dct {a : Addr} {t : Option Addr} {vs : List (Key × V)} {os : List (Key × O)} {fp : List Addr} : H a = some (.dK vs) → G a = none → OwK K G H vs os fp → a ∉ fp → tagOk t a → Ow K G H (.ref a) (.dct t os) (a :: fp)
  | ins {a dx : Addr} {C : Nat} {t : Option Addr} {vs : List V} {os : List O} {fp : List Addr} : H a = some (.ins (cA K C) dx ((clsFields C).zip vs)) → G a = none → OwL K G H vs os fp → a ∉ fp → tagOk t a → Ow K G H (.ref a) (.ins t C os) (a :: fp)
inductive OwL (K : PySem.W.Frag) (G H : Hp) : List V → List O → List Addr → Prop
  | nil : OwL K G H [] [] []
  | cons {v : V} {o : O} {vs : List V} {os : List O} {fp fq : List Addr} : Ow K G H v o fp → OwL K G H vs os fq → (∀ a ∈ fp, a ∉ fq) → OwL K G H (v :: vs) (o :: os) (fp ++ fq)
inductive OwK (K : PySem.W.Frag) (G H : Hp) : List (Key × V) → List (Key × O) → List Addr → Prop
  | nil : OwK K G H [] [] []
  | cons {k : Key} {v : V} {o : O} {vs : List (Key × V)} {os : List (Key × O)} {fp fq : List Addr} : Ow K G H v o fp → OwK K G H vs os fq → (∀ a ∈ fp, a ∉ fq) → OwK K G H ((k, v) :: vs) ((k, o) :: os) (fp ++ fq)
end
mutual
/-- what it is when nobody changes it any more -/
def frz : O → D
  | .fz d => d
  | .lst _ xs => .lst (frzL xs)
  | .tup _ xs => .tup (frzL xs)
  | .dct _ kvs => .dct (frzK kvs)
  | .ins _ C fs => .ins C (frzL fs)
def frzL : List O → List D
  | [] => []
  | o :: os => frz o :: frzL os
def frzK : List (Key × O) → List (Key × D)
  | [] => []
  | (k, o) :: os => (k, frz o) :: frzK os
end
variable {K : PySem.W.Frag} {G G' H H' : Hp}
mutual
theorem Ow.live : ∀ {v : V} (o : O) {fp : List Addr}, Ow K G H v o fp → ∀ a ∈ fp, H a ≠ none ∧ G a = none
  | _, .fz _, _, .fz _, a, ha => by cases ha
  | _, .lst _ os, _, .lst e g r n _, a, ha => by
    rcases List.mem_cons.mp ha with q | q
    · subst q; exact ⟨by rw [e]; exact fun z => (nomatch z), g⟩
    · exact OwL.live os r a q
  | _, .tup _ os, _, .tup e g r n _, a, ha => by
    rcases List.mem_cons.mp ha with q | q
    · subst q; exact ⟨by rw [e]; exact fun z => (nomatch z), g⟩
    · exact OwL.live os r a q
  | _, .dct _ os, _, .dct e g r n _, a, ha => by
    rcases List.mem_cons.mp ha with q | q
    · subst q; exact ⟨by rw [e]; exact fun z => (nomatch z), g⟩
    · exact OwK.live os r a q
  | _, .ins _ _ os, _, .ins e g r n _, a, ha => by
    rcases List.mem_cons.mp ha with q | q
    · subst q; exact ⟨by rw [e]; exact fun z => (nomatch z), g⟩
    · exact OwL.live os r a q
theorem OwL.live : ∀ {vs : List V} (os : List O) {fp : List Addr}, OwL K G H vs os fp → ∀ a ∈ fp, H a ≠ none ∧ G a = none
  | _, [], _, .nil, a, ha => by cases ha
  | _, o :: os, _, .cons x r d, a, ha => (List.mem_append.mp ha).elim (Ow.live o x a) (OwL.live os r a)
theorem OwK.live : ∀ {vs : List (Key × V)} (os : List (Key × O)) {fp : List Addr}, OwK K G H vs os fp → ∀ a ∈ fp, H a ≠ none ∧ G a = none
  | _, [], _, .nil, a, ha => by cases ha
  | _, (_, o) :: os, _, .cons x r d, a, ha => (List.mem_append.mp ha).elim (Ow.live o x a) (OwK.live os r a)
end
mutual
theorem Ow.keep (h : Le G G') : ∀ {v : V} (o : O) {fp : List Addr}, Ow K G H v o fp → (∀ a ∈ fp, G' a = none) → (∀ a ∈ fp, H' a = H a) → Ow K G' H' v o fp
  | _, .fz d, _, .fz e, _, _ => .fz (Is.le h d e)
  | _, .lst _ os, _, .lst e g r n t, h1, h2 => .lst (by rw [h2 _ List.mem_cons_self]; exact e) (h1 _ List.mem_cons_self) (OwL.keep h os r (fun a z => h1 a (List.mem_cons_of_mem _ z)) fun a z => h2 a (List.mem_cons_of_mem _ z)) n t
  | _, .tup _ os, _, .tup e g r n t, h1, h2 => .tup (by rw [h2 _ List.mem_cons_self]; exact e) (h1 _ List.mem_cons_self) (OwL.keep h os r (fun a z => h1 a (List.mem_cons_of_mem _ z)) fun a z => h2 a (List.mem_cons_of_mem _ z)) n t
  | _, .dct _ os, _, .dct e g r n t, h1, h2 => .dct (by rw [h2 _ List.mem_cons_self]; exact e) (h1 _ List.mem_cons_self) (OwK.keep h os r (fun a z => h1 a (List.mem_cons_of_mem _ z)) fun a z => h2 a (List.mem_cons_of_mem _ z)) n t
  | _, .ins _ _ os, _, .ins e g r n t, h1, h2 => .ins (by rw [h2 _ List.mem_cons_self]; exact e) (h1 _ List.mem_cons_self) (OwL.keep h os r (fun a z => h1 a (List.mem_cons_of_mem _ z)) fun a z => h2 a (List.mem_cons_of_mem _ z)) n t
theorem OwL.keep (h : Le G G') : ∀ {vs : List V} (os : List O) {fp : List Addr}, OwL K G H vs os fp → (∀ a ∈ fp, G' a = none) → (∀ a ∈ fp, H' a = H a) → OwL K G' H' vs os fp
  | _, [], _, .nil, _, _ => .nil
  | _, o :: os, _, .cons x r d, h1, h2 => .cons (Ow.keep h o x (fun a z => h1 a (List.mem_append_left _ z)) fun a z => h2 a (List.mem_append_left _ z)) (OwL.keep h os r (fun a z => h1 a (List.mem_append_right _ z)) fun a z => h2 a (List.mem_append_right _ z)) d
theorem OwK.keep (h : Le G G') : ∀ {vs : List (Key × V)} (os : List (Key × O)) {fp : List Addr}, OwK K G H vs os fp → (∀ a ∈ fp, G' a = none) → (∀ a ∈ fp, H' a = H a) → OwK K G' H' vs os fp
  | _, [], _, .nil, _, _ => .nil
  | _, (_, o) :: os, _, .cons x r d, h1, h2 => .cons (Ow.keep h o x (fun a z => h1 a (List.mem_append_left _ z)) fun a z => h2 a (List.mem_append_left _ z)) (OwK.keep h os r (fun a z => h1 a (List.mem_append_right _ z)) fun a z => h2 a (List.mem_append_right _ z)) d
end
mutual
theorem Ow.freeze (h : Le G G') : ∀ {v : V} (o : O) {fp : List Addr}, Ow K G H v o fp → (∀ a ∈ fp, G' a = H a) → Is K G' v (frz o)
  | _, .fz d, _, .fz e, _ => Is.le h d e
  | _, .lst _ os, _, .lst e g r n _, h2 => .lst (by rw [h2 _ List.mem_cons_self]; exact e) (OwL.freeze h os r fun a z => h2 a (List.mem_cons_of_mem _ z))
  | _, .tup _ os, _, .tup e g r n _, h2 => .tup (.inl (.inl (by rw [h2 _ List.mem_cons_self]; exact e))) (OwL.freeze h os r fun a z => h2 a (List.mem_cons_of_mem _ z))
  | _, .dct _ os, _, .dct e g r n _, h2 => .dct (.inl (by rw [h2 _ List.mem_cons_self]; exact e)) (OwK.freeze h os r fun a z => h2 a (List.mem_cons_of_mem _ z))
  | _, .ins _ _ os, _, .ins e g r n _, h2 => .ins (by rw [h2 _ List.mem_cons_self]; exact e) (OwL.freeze h os r fun a z => h2 a (List.mem_cons_of_mem _ z))
theorem OwL.freeze (h : Le G G') : ∀ {vs : List V} (os : List O) {fp : List Addr}, OwL K G H vs os fp → (∀ a ∈ fp, G' a = H a) → IsL K G' vs (frzL os)
  | _, [], _, .nil, _ => .nil
  | _, o :: os, _, .cons x r d, h2 => .cons (Ow.freeze h o x fun a z => h2 a (List.mem_append_left _ z)) (OwL.freeze h os r fun a z => h2 a (List.mem_append_right _ z))
theorem OwK.freeze (h : Le G G') : ∀ {vs : List (Key × V)} (os : List (Key × O)) {fp : List Addr}, OwK K G H vs os fp → (∀ a ∈ fp, G' a = H a) → IsK K G' vs (frzK os)
  | _, [], _, .nil, _ => .nil
  | _, (_, o) :: os, _, .cons x r d, h2 => .cons (Ow.freeze h o x fun a z => h2 a (List.mem_append_left _ z)) (OwK.freeze h os r fun a z => h2 a (List.mem_append_right _ z))
end
/-- the footprint moves into the frozen part -/
def ice (G H : Hp) (fp : List Addr) : Hp := fun a => if a ∈ fp then H a else G a
theorem ice_in {fp : List Addr} {a : Addr} (h : a ∈ fp) : ice G H fp a = H a := if_pos h
theorem ice_out {fp : List Addr} {a : Addr} (h : a ∉ fp) : ice G H fp a = G a := if_neg h
theorem ice_same {fp : List Addr} (h : ∀ a ∈ fp, G a = none) : Same G (ice G H fp) := fun a u e => by
  by_cases q : a ∈ fp
  · rw [h a q] at e; cases e
  · rw [ice_out q]; exact e
theorem ice_le {fp : List Addr} (h : Le G H) : Le (ice G H fp) H := fun a u e => by
  by_cases q : a ∈ fp
  · rw [ice_in q] at e; exact .inl e
  · rw [ice_out q] at e; exact h a u e

/-! ### the slots -/
abbrev Env := List (Option O)
abbrev Fps := Nat → List Addr
abbrev U (fps : Fps) : Addr → Prop := fun a => ∃ i, a ∈ fps i
structure Rel (K : PySem.W.Frag) (G H : Hp) (σ : L2.St) (ρ : Env) (fps : Fps) : Prop where
  le : Le G H
  len : ρ.length = σ.length
  sl : ∀ i o, ρ[i]? = some (some o) → ∃ v, σ[i]? = some (some v) ∧ Ow K G H v o (fps i)
  em : ∀ i, (∀ o, ρ[i]? ≠ some (some o)) → fps i = []
  dj : ∀ i j a, a ∈ fps i → a ∈ fps j → i = j
/-- from one moment to a later one: F, F' what is owned -/
structure Fr (G H : Hp) (F : Addr → Prop) (G' H' : Hp) (F' : Addr → Prop) : Prop where
  gg : Same G G'
  keep : ∀ a u, H a = some u → ¬ F a → H' a = some u
  live : ∀ a, H a ≠ none → H' a ≠ none
  gnew : ∀ a, G' a ≠ none → G a ≠ none ∨ F a ∨ H a = none
  fnew : ∀ a, F' a → F a ∨ H a = none
theorem Fr.refl {F : Addr → Prop} : Fr G H F G H F := ⟨Same.refl _, fun _ _ h _ => h, fun _ h => h, fun _ h => .inl h, fun _ h => .inl h⟩
theorem Fr.trans {G'' H'' : Hp} {F F' F'' : Addr → Prop} (a : Fr G H F G' H' F') (b : Fr G' H' F' G'' H'' F'') : Fr G H F G'' H'' F'' where
  gg := a.gg.trans b.gg
  keep := fun c u e n => b.keep c u (a.keep c u e n) fun z => (a.fnew c z).elim n fun q => by rw [e] at q; cases q
  live := fun c e => b.live c (a.live c e)
  gnew := fun c e => by
    rcases b.gnew c e with q | q | q
    · exact a.gnew c q
    · rcases a.fnew c q with z | z
      · exact .inr (.inl z)
      · exact .inr (.inr z)
    · refine .inr (.inr ?_)
      cases z : H c with
      | none => rfl
      | some u => exact absurd q (a.live c (by rw [z]; exact fun y => (nomatch y)))
  fnew := fun c e => by
    rcases b.fnew c e with q | q
    · exact a.fnew c q
    · refine .inr ?_
      cases z : H c with
      | none => rfl
      | some u => exact absurd q (a.live c (by rw [z]; exact fun y => (nomatch y)))
theorem Fr.mono {F F' E E' : Addr → Prop} (a : Fr G H F G' H' F') (h : ∀ x, F x → E x) (h' : ∀ x, E' x → F' x) : Fr G H E G' H' E' :=
  ⟨a.gg, fun c u e n => a.keep c u e fun z => n (h c z), a.live, fun c e => (a.gnew c e).imp id fun z => z.imp (h c) id, fun c e => (a.fnew c (h' c e)).imp (h c) id⟩
/-- what is frozen stays -/
theorem Fr.is {F F' : Addr → Prop} (a : Fr G H F G' H' F') {v : V} {d : D} (h : Is K G v d) : Is K G' v d := Is.le (.of a.gg) d h
theorem Fr.isL {F F' : Addr → Prop} (a : Fr G H F G' H' F') {v : List V} {d : List D} (h : IsL K G v d) : IsL K G' v d := IsL.le (.of a.gg) d h
/-- what is owned beside F stays -/
theorem Fr.ow {F F' : Addr → Prop} (a : Fr G H F G' H' F') {v : V} {o : O} {fp : List Addr} (h : Ow K G H v o fp) (hF : ∀ c ∈ fp, ¬ F c) : Ow K G' H' v o fp :=
  Ow.keep (.of a.gg) o h (fun c hc => by
    obtain ⟨l, g⟩ := Ow.live o h c hc
    cases q : G' c with
    | none => rfl
    | some u =>
      rcases a.gnew c (by rw [q]; exact fun y => (nomatch y)) with z | z | z
      · exact absurd g z
      · exact absurd z (hF c hc)
      · exact absurd z l) fun c hc => by
    obtain ⟨l, _⟩ := Ow.live o h c hc
    cases q : H c with
    | none => exact absurd q l
    | some u => exact a.keep c u q (hF c hc)
theorem Rel.out {σ : L2.St} {ρ : Env} {fps : Fps} (R : Rel K G H σ ρ fps) {a : Addr} (h : U fps a) : H a ≠ none ∧ G a = none := by
  obtain ⟨i, h⟩ := h
  cases q : ρ[i]? with
  | none => rw [R.em i (fun o e => by rw [q] at e; cases e)] at h; cases h
  | some p =>
    cases p with
    | none => rw [R.em i (fun o e => by rw [q] at e; cases e)] at h; cases h
    | some o =>
      obtain ⟨v, _, w⟩ := R.sl i o q
      exact Ow.live o w a h
/-- a slot is frozen -/
theorem Rel.freeze {σ : L2.St} {ρ : Env} {fps : Fps} (R : Rel K G H σ ρ fps) {i : Nat} {o : O} (h : ρ[i]? = some (some o)) :
    ∃ v G' fps', σ[i]? = some (some v) ∧ Rel K G' H σ (ρ.set i (some (.fz (frz o)))) fps' ∧ Fr G H (U fps) G' H (U fps') ∧ Is K G' v (frz o) := by
  obtain ⟨v, e, w⟩ := R.sl i o h
  have hout : ∀ a ∈ fps i, G a = none := fun a ha => (Ow.live o w a ha).2
  have sm : Same G (ice G H (fps i)) := ice_same hout
  have hi : i < ρ.length := (List.getElem?_eq_some_iff.mp h).1
  have is' : Is K (ice G H (fps i)) v (frz o) := Ow.freeze (.of sm) o w fun a ha => ice_in ha
  refine ⟨v, ice G H (fps i), fun j => if j = i then [] else fps j, e, ⟨ice_le R.le, by simpa using R.len, fun j o' q => ?_, fun j q => ?_, fun j k a ha hb => ?_⟩, ⟨sm, fun _ _ z _ => z, fun _ z => z, fun a z => ?_, fun a z => .inl ?_⟩, is'⟩
  · by_cases hj : j = i
    · subst hj
      rw [List.getElem?_set_self hi] at q
      cases q
      refine ⟨v, e, ?_⟩
      rw [if_pos rfl]
      exact .fz is'
    · rw [List.getElem?_set_ne (Ne.symm hj)] at q
      obtain ⟨v', e', w'⟩ := R.sl j o' q
      refine ⟨v', e', ?_⟩
      rw [if_neg hj]
      exact Ow.keep (.of sm) o' w' (fun a ha => by
        rw [ice_out fun z => hj (R.dj j i a ha z)]
        exact (Ow.live o' w' a ha).2) fun _ _ => rfl
  · by_cases hj : j = i
    · rw [if_pos hj]
    · rw [if_neg hj]
      refine R.em j fun o' e' => q o' ?_
      rw [List.getElem?_set_ne (Ne.symm hj)]
      exact e'
  · by_cases hj : j = i
    · rw [if_pos hj] at ha; cases ha
    · by_cases hk : k = i
      · rw [if_pos hk] at hb; cases hb
      · rw [if_neg hj] at ha
        rw [if_neg hk] at hb
        exact R.dj j k a ha hb
  · by_cases q : a ∈ fps i
    · exact .inr (.inl ⟨i, q⟩)
    · rw [ice_out q] at z; exact .inl z
  · obtain ⟨j, z⟩ := z
    dsimp only at z
    by_cases hj : j = i
    · rw [if_pos hj] at z; cases z
    · rw [if_neg hj] at z; exact ⟨j, z⟩
/-- a slot is stored -/
theorem Rel.store {σ : L2.St} {ρ : Env} {fps : Fps} (R : Rel K G H σ ρ fps) {v : V} {o : O} {fv : List Addr} (w : Ow K G H v o fv) (dj : ∀ a ∈ fv, ¬ U fps a) {i : Nat} (hi : i < ρ.length) :
    ∃ fps', Rel K G H (σ.set i (some v)) (ρ.set i (some o)) fps' ∧ ∀ a, U fps' a → U fps a ∨ a ∈ fv := by
  have hσ : i < σ.length := by rw [← R.len]; exact hi
  refine ⟨fun j => if j = i then fv else fps j, ⟨R.le, by simpa using R.len, fun j o' q => ?_, fun j q => ?_, fun j k a ha hb => ?_⟩, fun a ⟨j, z⟩ => ?_⟩
  · by_cases hj : j = i
    · subst hj
      rw [List.getElem?_set_self hi] at q
      cases q
      exact ⟨v, List.getElem?_set_self hσ, by rw [if_pos rfl]; exact w⟩
    · rw [List.getElem?_set_ne (Ne.symm hj)] at q
      obtain ⟨v', e', w'⟩ := R.sl j o' q
      exact ⟨v', by rw [List.getElem?_set_ne (Ne.symm hj)]; exact e', by rw [if_neg hj]; exact w'⟩
  · by_cases hj : j = i
    · subst hj
      exact absurd (List.getElem?_set_self hi) (q o)
    · rw [if_neg hj]
      refine R.em j fun o' e' => q o' ?_
      rw [List.getElem?_set_ne (Ne.symm hj)]
      exact e'
  · by_cases hj : j = i
    · by_cases hk : k = i
      · rw [hj, hk]
      · rw [if_pos hj] at ha
        rw [if_neg hk] at hb
        exact absurd ⟨k, hb⟩ (dj a ha)
    · rw [if_neg hj] at ha
      by_cases hk : k = i
      · rw [if_pos hk] at hb
        exact absurd ⟨j, ha⟩ (dj a hb)
      · rw [if_neg hk] at hb
        exact R.dj j k a ha hb
  · dsimp only at z
    by_cases hj : j = i
    · rw [if_pos hj] at z; exact .inr z
    · rw [if_neg hj] at z; exact .inl ⟨j, z⟩
/-- a new heap beside what is owned -/
theorem Rel.go {σ : L2.St} {ρ : Env} {fps : Fps} (R : Rel K G H σ ρ fps) (sg : Same G G') (le : Le G' H') (hg : ∀ a, U fps a → G' a = none) (hh : ∀ a, U fps a → H' a = H a) : Rel K G' H' σ ρ fps :=
  ⟨le, R.len, fun i o q => by
    obtain ⟨v, e, w⟩ := R.sl i o q
    exact ⟨v, e, Ow.keep (.of sg) o w (fun a ha => hg a ⟨i, ha⟩) fun a ha => hh a ⟨i, ha⟩⟩, R.em, R.dj⟩
/-- a new frozen object -/
theorem Rel.newG {σ : L2.St} {ρ : Env} {fps : Fps} (R : Rel K G H σ ρ fps) {p : Addr} {u : HO} (hp : H p = none) :
    Rel K (upd G p u) (upd H p u) σ ρ fps ∧ Fr G H (U fps) (upd G p u) (upd H p u) (U fps) := by
  have gp : G p = none := by
    cases q : G p with
    | none => rfl
    | some z => exact absurd hp (R.le.some (by rw [q]; exact fun y => (nomatch y)))
  have sg : Same G (upd G p u) := fun a z e => by
    rw [upd_ne (ne_of_none e gp)]; exact e
  refine ⟨R.go sg (fun a z e => ?_) (fun a ha => ?_) fun a ha => ?_, ⟨sg, fun a z e _ => ?_, fun a e => ?_, fun a e => ?_, fun a e => .inl e⟩⟩
  · by_cases hap : a = p
    · subst hap
      rw [upd_same] at e ⊢
      exact .inl e
    · rw [upd_ne hap] at e ⊢
      exact R.le a z e
  · have : a ≠ p := fun z => (R.out ha).1 (by rw [z]; exact hp)
    rw [upd_ne this]
    exact (R.out ha).2
  · have : a ≠ p := fun z => (R.out ha).1 (by rw [z]; exact hp)
    rw [upd_ne this]
  · rw [upd_ne (ne_of_none e hp)]; exact e
  · have : a ≠ p := fun z => e (by rw [z]; exact hp)
    rw [upd_ne this]; exact e
  · by_cases hap : a = p
    · exact .inr (.inr (by rw [hap]; exact hp))
    · rw [upd_ne hap] at e; exact .inl e
/-- a new object, owned by nobody yet -/
theorem Rel.newO {σ : L2.St} {ρ : Env} {fps : Fps} (R : Rel K G H σ ρ fps) {p : Addr} {u : HO} (hp : H p = none) :
    Rel K G (upd H p u) σ ρ fps ∧ Fr G H (U fps) G (upd H p u) (fun a => U fps a ∨ a = p) ∧ G p = none ∧ ¬ U fps p := by
  have gp : G p = none := by
    cases q : G p with
    | none => rfl
    | some z => exact absurd hp (R.le.some (by rw [q]; exact fun y => (nomatch y)))
  have np : ∀ a, U fps a → a ≠ p := fun a ha z => (R.out ha).1 (by rw [z]; exact hp)
  refine ⟨R.go (Same.refl _) (fun a z e => ?_) (fun a ha => (R.out ha).2) fun a ha => by rw [upd_ne (np a ha)], ⟨Same.refl _, fun a z e _ => ?_, fun a e => ?_, fun a e => .inl e, fun a e => e.imp id fun z => by rw [z]; exact hp⟩, gp, fun z => np p z rfl⟩
  · rw [upd_ne (ne_of_none e gp)]
    exact R.le a z e
  · rw [upd_ne (ne_of_none e hp)]; exact e
  · have : a ≠ p := fun z => e (by rw [z]; exact hp)
    rw [upd_ne this]; exact e
end T
namespace T
open PySem PySem.Spec PyProof.Rows L2

/-- what an expression does to the slots -/
abbrev F (α : Type) := Env → Option (α × Env)
inductive Out where
  | nx (ρ : Env) | rt (o : O) (ρ : Env) | bk (ρ : Env) | ct (ρ : Env)
abbrev FS := Env → Option Out

section
variable (K : PySem.W.Frag)
def tE (f : F D) : TE := fun σ H Q => ∃ G ρ fps d ρ', Rel K G H σ ρ fps ∧ f ρ = some (d, ρ') ∧
  ∀ v H' G' fps', Rel K G' H' σ ρ' fps' → Fr G H (U fps) G' H' (U fps') → Is K G' v d → Q v H'
def tO (f : F O) : TE := fun σ H Q => ∃ G ρ fps o ρ', Rel K G H σ ρ fps ∧ f ρ = some (o, ρ') ∧
  ∀ v H' G' fps' fv, Rel K G' H' σ ρ' fps' → Fr G H (U fps) G' H' (fun a => U fps' a ∨ a ∈ fv) → Ow K G' H' v o fv → (∀ a ∈ fv, ¬ U fps' a) → Q v H'
def tT (f : F Bool) : TT := fun σ H Q => ∃ G ρ fps b ρ', Rel K G H σ ρ fps ∧ f ρ = some (b, ρ') ∧
  ∀ H' G' fps', Rel K G' H' σ ρ' fps' → Fr G H (U fps) G' H' (U fps') → Q b H'
def tA (f : F (List D)) : TA := fun σ H Q => ∃ G ρ fps ds ρ', Rel K G H σ ρ fps ∧ f ρ = some (ds, ρ') ∧
  ∀ vs H' G' fps', Rel K G' H' σ ρ' fps' → Fr G H (U fps) G' H' (U fps') → IsL K G' vs ds → Q vs H'
def Post (Dn : Ends) (G H : Hp) (fps : Fps) : Out → Prop
  | .nx ρ' => ∀ σ' H' G' fps', Rel K G' H' σ' ρ' fps' → Fr G H (U fps) G' H' (U fps') → Dn.nx σ' H'
  | .bk ρ' => ∀ σ' H' G' fps', Rel K G' H' σ' ρ' fps' → Fr G H (U fps) G' H' (U fps') → Dn.bk σ' H'
  | .ct ρ' => ∀ σ' H' G' fps', Rel K G' H' σ' ρ' fps' → Fr G H (U fps) G' H' (U fps') → Dn.ct σ' H'
  | .rt o ρ' => ∀ v σ' H' G' fps' fv, Rel K G' H' σ' ρ' fps' → Fr G H (U fps) G' H' (fun a => U fps' a ∨ a ∈ fv) → Ow K G' H' v o fv → (∀ a ∈ fv, ¬ U fps' a) → Dn.rt v H'
def tS (f : FS) : TS := fun Dn σ H => ∃ G ρ fps o, Rel K G H σ ρ fps ∧ f ρ = some o ∧ Post K Dn G H fps o
end
abbrev DE (X : Cx) (e : Expr) (f : F D) : Prop := PE X e (tE X.K f)
abbrev DO (X : Cx) (e : Expr) (f : F O) : Prop := PE X e (tO X.K f)
abbrev DT (X : Cx) (e : Expr) (f : F Bool) : Prop := PT X e (tT X.K f)
abbrev DA (X : Cx) (es : List Expr) (f : F (List D)) : Prop := PA X es (tA X.K f)
abbrev DS (X : Cx) (s : Stmt) (f : FS) : Prop := PS X s (tS X.K f)
abbrev DSs (X : Cx) (s : List Stmt) (f : FS) : Prop := PSs X s (tS X.K f)

theorem PE.imp {X : Cx} {e : Expr} {t t' : TE} (h : PE X e t) (k : ∀ σ H Q, t' σ H Q → t σ H Q) : PE X e t' := ⟨fun pins s σ H Q I q => h.run pins s σ H Q I (k _ _ _ q)⟩
theorem PT.imp {X : Cx} {e : Expr} {t t' : TT} (h : PT X e t) (k : ∀ σ H Q, t' σ H Q → t σ H Q) : PT X e t' := ⟨fun pins s σ H Q I q => h.run pins s σ H Q I (k _ _ _ q)⟩
theorem PA.imp {X : Cx} {e : List Expr} {t t' : TA} (h : PA X e t) (k : ∀ σ H Q, t' σ H Q → t σ H Q) : PA X e t' := ⟨fun p pins s σ H Q I q => h.run p pins s σ H Q I (k _ _ _ q)⟩
theorem PS.imp {X : Cx} {e : Stmt} {t t' : TS} (h : PS X e t) (k : ∀ Dn σ H, t' Dn σ H → t Dn σ H) : PS X e t' := ⟨fun pins s σ H Q I q => h.run pins s σ H Q I (k _ _ _ q)⟩
theorem PSs.imp {X : Cx} {e : List Stmt} {t t' : TS} (h : PSs X e t) (k : ∀ Dn σ H, t' Dn σ H → t Dn σ H) : PSs X e t' := ⟨fun pins s σ H Q I q => h.run pins s σ H Q I (k _ _ _ q)⟩
theorem PE.or {X : Cx} {e : Expr} {t t' : TE} (h : PE X e t) (h' : PE X e t') : PE X e (fun σ H Q => t σ H Q ∨ t' σ H Q) := ⟨fun pins s σ H Q I q => q.elim (h.run pins s σ H Q I) (h'.run pins s σ H Q I)⟩

/-! ### what grows -/
/-- the frozen part grows by one object at most -/
inductive Grow (G H : Hp) : Hp → Hp → Prop
  | no : Grow G H G H
  | one (p : Addr) (u : HO) : H p = none → Grow G H (upd G p u) (upd H p u)
theorem Rel.grow {K : PySem.W.Frag} {G H G' H' : Hp} {σ : L2.St} {ρ : Env} {fps : Fps} (R : Rel K G H σ ρ fps) (g : Grow G H G' H') : Rel K G' H' σ ρ fps ∧ Fr G H (U fps) G' H' (U fps) := by
  cases g with
  | no => exact ⟨R, Fr.refl⟩
  | one p u hp => exact R.newG hp

/-! ### bind -/
def bindF {α β : Type} (f : F α) (g : α → F β) : F β := fun ρ => match f ρ with
  | some (a, ρ1) => g a ρ1
  | none => none
theorem bindF_some {α β : Type} {f : F α} {g : α → F β} {ρ ρ' : Env} {b : β} (h : bindF f g ρ = some (b, ρ')) : ∃ a ρ1, f ρ = some (a, ρ1) ∧ g a ρ1 = some (b, ρ') := by
  unfold bindF at h
  cases q : f ρ with
  | none => rw [q] at h; cases h
  | some p =>
    obtain ⟨a, ρ1⟩ := p
    rw [q] at h
    exact ⟨a, ρ1, rfl, h⟩
/-- a plain function of the value -/
def mapF {α β : Type} (f : F α) (g : α → Option β) : F β := bindF f fun a ρ => match g a with
  | some b => some (b, ρ)
  | none => none
theorem mapF_some {α β : Type} {f : F α} {g : α → Option β} {ρ ρ' : Env} {b : β} (h : mapF f g ρ = some (b, ρ')) : ∃ a, f ρ = some (a, ρ') ∧ g a = some b := by
  obtain ⟨a, ρ1, h1, h2⟩ := bindF_some h
  cases q : g a with
  | none => rw [q] at h2; cases h2
  | some c =>
    rw [q] at h2
    cases h2
    exact ⟨a, h1, q⟩
def map2F {α β γ : Type} (f : F α) (f' : F β) (g : α → β → Option γ) : F γ := bindF f fun a => mapF f' (g a)
theorem map2F_some {α β γ : Type} {f : F α} {f' : F β} {g : α → β → Option γ} {ρ ρ' : Env} {c : γ} (h : map2F f f' g ρ = some (c, ρ')) : ∃ a ρ1 b, f ρ = some (a, ρ1) ∧ f' ρ1 = some (b, ρ') ∧ g a b = some c := by
  obtain ⟨a, ρ1, h1, h2⟩ := bindF_some h
  obtain ⟨b, h3, h4⟩ := mapF_some h2
  exact ⟨a, ρ1, b, h1, h3, h4⟩

theorem Ow.fz_inv {K : PySem.W.Frag} {G H : Hp} {v : V} {d : D} {fp : List Addr} (w : Ow K G H v (.fz d) fp) : Is K G v d ∧ fp = [] := by
  cases w with
  | fz i => exact ⟨i, rfl⟩
section
variable {X : Cx}

/-! ### names, constants -/
def eVar (i : Nat) : F D := fun ρ => match ρ[i]? with
  | some (some (.fz d)) => some (d, ρ)
  | some (some o) => some (frz o, ρ.set i (some (.fz (frz o))))
  | _ => none
theorem de_of_var {e : Expr} {i : Nat} (h : PE X e (tVar i)) : DE X e (eVar i) := by
  refine PE.imp h fun σ H Q ⟨G, ρ, fps, d, ρ', R, e, k⟩ => ?_
  unfold eVar at e
  cases q : ρ[i]? with
  | none => rw [q] at e; cases e
  | some o =>
    cases o with
    | none => rw [q] at e; cases e
    | some o =>
      cases o with
      | fz d' =>
        rw [q] at e
        cases e
        obtain ⟨v, e1, w⟩ := R.sl i _ q
        exact ⟨v, e1, k v H G fps R Fr.refl w.fz_inv.1⟩
      | lst t xs =>
        rw [q] at e
        cases e
        obtain ⟨v, G', fps', e1, R', f, is⟩ := R.freeze q
        exact ⟨v, e1, k v H G' fps' R' f is⟩
      | tup t xs =>
        rw [q] at e
        cases e
        obtain ⟨v, G', fps', e1, R', f, is⟩ := R.freeze q
        exact ⟨v, e1, k v H G' fps' R' f is⟩
      | dct t xs =>
        rw [q] at e
        cases e
        obtain ⟨v, G', fps', e1, R', f, is⟩ := R.freeze q
        exact ⟨v, e1, k v H G' fps' R' f is⟩
      | ins t C xs =>
        rw [q] at e
        cases e
        obtain ⟨v, G', fps', e1, R', f, is⟩ := R.freeze q
        exact ⟨v, e1, k v H G' fps' R' f is⟩
theorem dv (i : Nat) {x : Str} {pos : Pos} (hN : X.N[i]? = some x := by rfl) (hv : Vis X.env.scope x := by first | exact Or.inl rfl | exact Or.inr (Or.inl rfl) | exact Or.inr (Or.inr rfl)) (hd : (x == ("__debug__" : Str)) = false := by decide)
    (hcd : (x == ("__classdict__" : Str)) = false := by decide) : DE X (.Name x pos) (eVar i) := de_of_var (pe_var hN hv hd hcd)
def eC (d : D) : F D := fun ρ => some (d, ρ)
theorem de_of_c {e : Expr} {v : V} {d : D} (h : PE X e (tC v)) (hd : ∀ G, Is X.K G v d) : DE X e (eC d) := PE.imp h fun σ H Q ⟨G, ρ, fps, d', ρ', R, e, k⟩ => by
  cases e
  exact k v H G fps R Fr.refl (hd G)
theorem de_int {i j pos} : DE X (.Constant (.int i) j pos) (eC (.int i)) := de_of_c pe_int fun _ => .int i
theorem de_bl {b j pos} : DE X (.Constant (.bool b) j pos) (eC (.bl b)) := de_of_c pe_bl fun _ => .bl b
theorem de_non {j pos} : DE X (.Constant .none j pos) (eC .non) := de_of_c pe_non fun _ => .non
theorem de_str {x j pos} : DE X (.Constant (.str x) j pos) (eC (.str x)) := de_of_c pe_str fun _ => .str x

/-! ### owned and frozen -/
def fzF (f : F D) : F O := mapF f fun d => some (.fz d)
def frF (f : F O) : F D := mapF f fun o => some (frz o)
theorem do_of {e : Expr} {f : F D} (h : DE X e f) : DO X e (fzF f) := PE.imp h fun σ H Q ⟨G, ρ, fps, o, ρ', R, e, k⟩ => by
  obtain ⟨d, e1, e2⟩ := mapF_some e
  cases e2
  exact ⟨G, ρ, fps, d, ρ', R, e1, fun v H' G' fps' R' f' i => k v H' G' fps' [] R' (f'.mono (fun _ z => z) fun _ z => z.elim id fun y => nomatch y) (.fz i) fun _ z => nomatch z⟩
/-- what nobody else holds is frozen -/
theorem ow_freeze {K : PySem.W.Frag} {G H : Hp} {σ : L2.St} {ρ : Env} {fps : Fps} {v : V} {o : O} {fv : List Addr} (R : Rel K G H σ ρ fps) (w : Ow K G H v o fv) (dj : ∀ a ∈ fv, ¬ U fps a) :
    ∃ G', Rel K G' H σ ρ fps ∧ Fr G H (fun a => U fps a ∨ a ∈ fv) G' H (U fps) ∧ Is K G' v (frz o) := by
  have hout : ∀ a ∈ fv, G a = none := fun a ha => (Ow.live o w a ha).2
  have sm : Same G (ice G H fv) := ice_same hout
  refine ⟨ice G H fv, R.go sm (ice_le R.le) (fun a ha => ?_) fun _ _ => rfl, ⟨sm, fun _ _ z _ => z, fun _ z => z, fun a z => ?_, fun a z => .inl (.inl z)⟩, Ow.freeze (.of sm) o w fun a ha => ice_in ha⟩
  · rw [ice_out fun z => dj a z ha]
    exact (R.out ha).2
  · by_cases q : a ∈ fv
    · exact .inr (.inl (.inr q))
    · rw [ice_out q] at z; exact .inl z
theorem de_of {e : Expr} {f : F O} (h : DO X e f) : DE X e (frF f) := PE.imp h fun σ H Q ⟨G, ρ, fps, d, ρ', R, e, k⟩ => by
  obtain ⟨o, e1, e2⟩ := mapF_some e
  cases e2
  refine ⟨G, ρ, fps, o, ρ', R, e1, fun v H' G' fps' fv R' f' w dj => ?_⟩
  obtain ⟨G2, R2, f2, i2⟩ := ow_freeze R' w dj
  exact k v H' G2 fps' R2 (f'.trans f2) i2

/-! ### operators by values -/
abbrev D1 := D → Option D
abbrev D2 := D → D → Option D
/-- the operator's reading follows from data -/
def Op2 (X : Cx) (r : R2) (g : D2) : Prop := ∀ x y H Q G a b d, Le G H → Is X.K G x a → Is X.K G y b → g a b = some d → (∀ v G' H', Grow G H G' H' → Is X.K G' v d → Q v H') → r x y H Q
def Op1 (X : Cx) (r : V → Hp → VK → Prop) (g : D1) : Prop := ∀ x H Q G a d, Le G H → Is X.K G x a → g a = some d → (∀ v G' H', Grow G H G' H' → Is X.K G' v d → Q v H') → r x H Q
theorem de_2 {e : Expr} {a b : Expr} {r : R2} {g : D2} {f f' : F D} (h : ∀ ta tb, PE X a ta → PE X b tb → PE X e (tOp r ta tb)) (hg : Op2 X r g) (ha : DE X a f) (hb : DE X b f') : DE X e (map2F f f' g) :=
  PE.imp (h _ _ ha hb) fun σ H Q ⟨G, ρ, fps, d, ρ', R, e, k⟩ => by
    obtain ⟨da, ρ1, db, e1, e2, e3⟩ := map2F_some e
    refine ⟨G, ρ, fps, da, ρ1, R, e1, fun x H1 G1 fps1 R1 f1 i1 => ?_⟩
    refine ⟨G1, ρ1, fps1, db, ρ', R1, e2, fun y H2 G2 fps2 R2 f2 i2 => ?_⟩
    refine hg x y H2 Q G2 da db d R2.le (f2.is i1) i2 e3 fun v G3 H3 gr i3 => ?_
    obtain ⟨R3, f3⟩ := R2.grow gr
    exact k v H3 G3 fps2 R3 ((f1.trans f2).trans f3) i3
theorem de_1 {e : Expr} {a : Expr} {r : V → Hp → VK → Prop} {g : D1} {f : F D} (h : ∀ ta, PE X a ta → PE X e (tUn r ta)) (hg : Op1 X r g) (ha : DE X a f) : DE X e (mapF f g) :=
  PE.imp (h _ ha) fun σ H Q ⟨G, ρ, fps, d, ρ', R, e, k⟩ => by
    obtain ⟨da, e1, e3⟩ := mapF_some e
    refine ⟨G, ρ, fps, da, ρ', R, e1, fun x H1 G1 fps1 R1 f1 i1 => ?_⟩
    refine hg x H1 Q G1 da d R1.le i1 e3 fun v G3 H3 gr i3 => ?_
    obtain ⟨R3, f3⟩ := R1.grow gr
    exact k v H3 G3 fps1 R3 (f1.trans f3) i3
theorem Op2.or {r r' : R2} {g g' : D2} {g2 : D2} (h : Op2 X r g) (h' : Op2 X r' g') (he : ∀ a b d, g2 a b = some d → g a b = some d ∨ g' a b = some d) : Op2 X (fun x y H Q => r x y H Q ∨ r' x y H Q) g2 :=
  fun x y H Q G a b d le ia ib e k => (he a b d e).imp (fun z => h x y H Q G a b d le ia ib z k) fun z => h' x y H Q G a b d le ia ib z k
end
end T
namespace T
open PySem PySem.Spec PyProof.Rows L2

/-! ### inversions -/
section
variable {K : PySem.W.Frag} {G : Hp}
theorem Is.int_inv {v : V} {i : Int} (h : Is K G v (.int i)) : v = .int i := by cases h; rfl
theorem Is.bl_inv {v : V} {i : Bool} (h : Is K G v (.bl i)) : v = .bl i := by cases h; rfl
theorem Is.str_inv {v : V} {i : Str} (h : Is K G v (.str i)) : v = .str i := by cases h; rfl
theorem Is.non_inv {v : V} (h : Is K G v .non) : v = .non := by cases h; rfl
theorem Is.adr_inv {v : V} {a : Addr} (h : Is K G v (.adr a)) : v = .ref a := by cases h; rfl
theorem Is.ty_inv {v : V} {a : String} (h : Is K G v (.ty a)) : v = .ty a := by cases h; rfl
theorem Is.tup_inv {v : V} {ds : List D} (h : Is K G v (.tup ds)) : ∃ a vs, v = .ref a ∧ SqT K G a vs ∧ IsL K G vs ds := by
  cases h with
  | tup a b => exact ⟨_, _, rfl, a, b⟩
theorem Is.lst_inv {v : V} {ds : List D} (h : Is K G v (.lst ds)) : ∃ a vs, v = .ref a ∧ G a = some (.lst vs) ∧ IsL K G vs ds := by
  cases h with
  | lst a b => exact ⟨_, _, rfl, a, b⟩
theorem Is.scr_inv {v : V} {ds : List D} (h : Is K G v (.scr ds)) : ∃ a vs, v = .ref a ∧ SqL K G a vs ∧ IsL K G vs ds := by
  cases h with
  | scr a b => exact ⟨_, _, rfl, a, b⟩
theorem Is.dct_inv {v : V} {ds : List (Key × D)} (h : Is K G v (.dct ds)) : ∃ a vs, v = .ref a ∧ Rd G a (.dK vs) ∧ IsK K G vs ds := by
  cases h with
  | dct a b => exact ⟨_, _, rfl, a, b⟩
theorem Is.ins_inv {v : V} {C : Nat} {ds : List D} (h : Is K G v (.ins C ds)) : ∃ a dx vs, v = .ref a ∧ G a = some (.ins (cA K C) dx ((clsFields C).zip vs)) ∧ IsL K G vs ds := by
  cases h with
  | ins a b => exact ⟨_, _, _, rfl, a, b⟩
theorem IsL.length : ∀ {vs : List V} {ds : List D}, IsL K G vs ds → vs.length = ds.length
  | _, _, .nil => rfl
  | _, _, .cons _ r => congrArg Nat.succ (IsL.length r)
theorem IsL.append : ∀ {vs ws : List V} {ds es : List D}, IsL K G vs ds → IsL K G ws es → IsL K G (vs ++ ws) (ds ++ es)
  | _, _, _, _, .nil, s => s
  | _, _, _, _, .cons a r, s => .cons a (IsL.append r s)
theorem IsL.get : ∀ {vs : List V} {ds : List D} {i : Nat} {d : D}, IsL K G vs ds → ds[i]? = some d → ∃ v, vs[i]? = some v ∧ Is K G v d
  | _, _, _, _, .nil, h => by simp at h
  | _, _, 0, _, .cons a r, h => by simp at h; subst h; exact ⟨_, rfl, a⟩
  | _, _, i + 1, _, .cons a r, h => by
    obtain ⟨v, e, q⟩ := IsL.get r (i := i) (by simpa using h)
    exact ⟨v, by simpa using e, q⟩
theorem IsL.drop : ∀ (n : Nat) {vs : List V} {ds : List D}, IsL K G vs ds → IsL K G (vs.drop n) (ds.drop n)
  | 0, _, _, h => h
  | n + 1, _, _, .nil => .nil
  | n + 1, _, _, .cons _ r => IsL.drop n r
theorem IsL.take : ∀ (n : Nat) {vs : List V} {ds : List D}, IsL K G vs ds → IsL K G (vs.take n) (ds.take n)
  | 0, _, _, h => .nil
  | n + 1, _, _, .nil => .nil
  | n + 1, _, _, .cons a r => .cons a (IsL.take n r)
theorem IsL.rep {vs : List V} {ds : List D} (h : IsL K G vs ds) : ∀ k : Nat, IsL K G (List.replicate k vs).flatten (List.replicate k ds).flatten
  | 0 => .nil
  | k + 1 => by rw [List.replicate_succ, List.replicate_succ, List.flatten_cons, List.flatten_cons]; exact h.append (IsL.rep h k)
theorem IsL.reverse : ∀ {vs : List V} {ds : List D}, IsL K G vs ds → IsL K G vs.reverse ds.reverse
  | _, _, .nil => .nil
  | _, _, .cons a r => by rw [List.reverse_cons, List.reverse_cons]; exact (IsL.reverse r).append (.cons a .nil)
theorem isL_ints : ∀ (ns : List Int), IsL K G (ns.map V.int) (ns.map D.int)
  | [] => .nil
  | n :: ns => .cons (.int n) (isL_ints ns)
theorem IsL.ints : ∀ {vs : List V} {ns : List Int}, IsL K G vs (ns.map D.int) → vs = ns.map V.int
  | _, [], .nil => rfl
  | _, n :: ns, .cons a r => by rw [IsL.ints r, a.int_inv]; rfl
theorem IsL.strs : ∀ {vs : List V} {ns : List Str}, IsL K G vs (ns.map D.str) → vs = ns.map V.str
  | _, [], .nil => rfl
  | _, n :: ns, .cons a r => by rw [IsL.strs r, a.str_inv]; rfl
theorem IsL.bls : ∀ {vs : List V} {ns : List Bool}, IsL K G vs (ns.map D.bl) → vs = ns.map V.bl
  | _, [], .nil => rfl
  | _, n :: ns, .cons a r => by rw [IsL.bls r, a.bl_inv]; rfl
end

/-! ### arithmetic -/
/-- the model multiplies numbers of so many bits together -/
def szM (i j : Int) : Bool := decide (Builtin.Int.intBits i + Builtin.Int.intBits j ≤ 134217728)
def addD : D2
  | .int a, .int b => some (.int (a + b))
  | .str a, .str b => if a.length + b.length ≤ sizeLine then some (.str (a ++ b)) else none
  | .tup a, .tup b => if a.length + b.length ≤ sizeLine then some (.tup (a ++ b)) else none
  | .lst a, .lst b => if a.length + b.length ≤ sizeLine then some (.lst (a ++ b)) else none
  | _, _ => none
def subD : D2
  | .int a, .int b => some (.int (a - b))
  | _, _ => none
def mulD : D2
  | .int a, .int b => if szM a b then some (.int (a * b)) else none
  | .lst a, .int b => if 0 ≤ b ∧ b < 2 ^ 62 ∧ a.length * b.toNat ≤ sizeLine then some (.lst (List.replicate b.toNat a).flatten) else none
  | .tup a, .int b => if a ≠ [] ∧ 2 ≤ b ∧ b ≤ 1000 ∧ a.length ≤ 1000 then some (.tup (List.replicate b.toNat a).flatten) else none
  | _, _ => none
def divD : D2
  | .int a, .int b => if b ≠ 0 ∧ b.natAbs.log2 < 9000 then some (.int (a.fdiv b)) else none
  | _, _ => none
def modD : D2
  | .int a, .int b => if b ≠ 0 then some (.int (a.fmod b)) else none
  | _, _ => none
def powD : D2
  | .int a, .int b => if 0 ≤ b ∧ b ≤ 1000000 ∧ a.natAbs < 2 ^ 64 then some (.int (a ^ b.toNat)) else none
  | _, _ => none
def negD : D1
  | .int a => some (.int (-a))
  | _ => none

section
variable {X : Cx}
theorem op2_int {r : R2} {g : D2} (h : ∀ a b d, g a b = some d → ∃ i j k, a = .int i ∧ b = .int j ∧ d = .int k ∧ ∀ H Q, Q (.int k) H → r (.int i) (.int j) H Q) : Op2 X r g :=
  fun x y H Q G a b d le ia ib e k => by
    obtain ⟨i, j, m, rfl, rfl, rfl, q⟩ := h a b d e
    rw [ia.int_inv, ib.int_inv]
    exact q H Q (k _ G H .no (.int m))
def gAddI : D2
  | .int a, .int b => some (.int (a + b))
  | _, _ => none
theorem o2_addI : Op2 X (rI0 fun i j => .int (i + j)) gAddI := op2_int fun a b d e => by
  cases a <;> cases b <;> simp [gAddI] at e
  exact ⟨_, _, _, rfl, rfl, e.symm, fun H Q q => ⟨_, _, rfl, rfl, q⟩⟩
theorem o2_subI : Op2 X (rI0 fun i j => .int (i - j)) subD := op2_int fun a b d e => by
  cases a <;> cases b <;> simp [subD] at e
  exact ⟨_, _, _, rfl, rfl, e.symm, fun H Q q => ⟨_, _, rfl, rfl, q⟩⟩
theorem op_fdivX : OpR X (binaryOp .FloorDiv) (rI (fun i j => j ≠ 0 ∧ j.natAbs.log2 < 9000) fun i j => .int (i.fdiv j)) := opI fun i j _ _ _ _ _ hc q => by
  exact floordiv_int hc.1 q (.inl (PyProof.noPylong_of_log2 hc.2))
theorem o2_div : Op2 X (rI (fun i j => j ≠ 0 ∧ j.natAbs.log2 < 9000) fun i j => .int (i.fdiv j)) divD := op2_int fun a b d e => by
  cases a <;> cases b <;> simp only [divD, reduceCtorEq] at e
  split at e
  · cases e
    exact ⟨_, _, _, rfl, rfl, rfl, fun H Q q => ⟨_, _, rfl, rfl, by assumption, q⟩⟩
  · cases e
theorem o2_mod : Op2 X (rI (fun _ j => j ≠ 0) fun i j => .int (i.fmod j)) modD := op2_int fun a b d e => by
  cases a <;> cases b <;> simp only [modD, reduceCtorEq] at e
  split at e
  · cases e
    exact ⟨_, _, _, rfl, rfl, rfl, fun H Q q => ⟨_, _, rfl, rfl, by assumption, q⟩⟩
  · cases e
theorem o2_pow : Op2 X (rI CPow fun i j => .int (i ^ j.toNat)) powD := op2_int fun a b d e => by
  cases a <;> cases b <;> simp only [powD, reduceCtorEq] at e
  split at e
  · cases e
    exact ⟨_, _, _, rfl, rfl, rfl, fun H Q q => ⟨_, _, rfl, rfl, by assumption, q⟩⟩
  · cases e
def gMulI : D2
  | .int a, .int b => if szM a b then some (.int (a * b)) else none
  | _, _ => none
theorem szM_ok {i j : Int} (h : szM i j = true) : CMulX i j := by
  unfold szM at h
  have h2 := of_decide_eq_true h
  unfold CMulX
  omega
theorem o2_mulI : Op2 X (rI CMulX fun i j => .int (i * j)) gMulI := op2_int fun a b d e => by
  cases a <;> cases b <;> simp only [gMulI, reduceCtorEq] at e
  split at e
  · rename_i h
    cases e
    exact ⟨_, _, _, rfl, rfl, rfl, fun H Q q => ⟨_, _, rfl, rfl, szM_ok h, q⟩⟩
  · cases e
def gAddS : D2
  | .str a, .str b => if a.length + b.length ≤ sizeLine then some (.str (a ++ b)) else none
  | _, _ => none
theorem o2_addS : Op2 X (fun x y H Q => ∃ i j, x = .str i ∧ y = .str j ∧ i.length + j.length ≤ sizeLine ∧ Q (.str (i ++ j)) H) gAddS := fun x y H Q G a b d le ia ib e k => by
  cases a <;> cases b <;> simp only [gAddS, reduceCtorEq] at e
  split at e
  · rename_i h
    cases e
    exact ⟨_, _, ia.str_inv, ib.str_inv, h, k _ G H .no (.str _)⟩
  · cases e
def gAddT : D2
  | .tup a, .tup b => if a.length + b.length ≤ sizeLine then some (.tup (a ++ b)) else none
  | _, _ => none
theorem isL_nil {K : PySem.W.Frag} {G : Hp} {vs : List V} {ds : List D} (h : IsL K G vs ds) : vs = [] ↔ ds = [] := by
  cases h <;> simp
/-- a new frozen object's data -/
theorem new_is {K : PySem.W.Frag} {G H : Hp} {p : Addr} {u : HO} (le : Le G H) (hp : H p = none) {v : V} {d : D} (i : Is K G v d) : Is K (upd G p u) v d := Is.le (.of fun a z e => by
  have gp : G p = none := by
    cases q : G p with
    | none => rfl
    | some z => exact absurd hp (le.some (by rw [q]; exact fun y => (nomatch y)))
  rw [upd_ne (ne_of_none e gp)]; exact e) d i
theorem new_isL {K : PySem.W.Frag} {G H : Hp} {p : Addr} {u : HO} (le : Le G H) (hp : H p = none) {v : List V} {d : List D} (i : IsL K G v d) : IsL K (upd G p u) v d := IsL.le (.of fun a z e => by
  have gp : G p = none := by
    cases q : G p with
    | none => rfl
    | some z => exact absurd hp (le.some (by rw [q]; exact fun y => (nomatch y)))
  rw [upd_ne (ne_of_none e gp)]; exact e) d i
theorem o2_addT : Op2 X (rCatA X.K) gAddT := fun x y H Q G a b d le ia ib e k => by
  cases a <;> cases b <;> simp only [gAddT, reduceCtorEq] at e
  split at e
  · rename_i as bs h
    cases e
    obtain ⟨a, vs, rfl, sa, la⟩ := ia.tup_inv
    obtain ⟨b, ws, rfl, sb, lb⟩ := ib.tup_inv
    refine ⟨a, b, vs, ws, rfl, rfl, le.sqT sa, le.sqT sb, by rw [la.length, lb.length]; exact h, fun e => ?_, fun _ e => ?_, fun _ _ p hp => ?_⟩
    · have := (isL_nil la).mp e
      subst this
      exact k _ G H .no ib
    · have := (isL_nil lb).mp e
      subst this
      exact k _ G H .no (by rw [List.append_nil]; exact ia)
    · exact k _ _ _ (.one p _ hp) (.tup (.inl (.inl upd_same)) (new_isL le hp (la.append lb)))
  · cases e
def gAddL : D2
  | .lst a, .lst b => if a.length + b.length ≤ sizeLine then some (.lst (a ++ b)) else none
  | _, _ => none
theorem o2_addL : Op2 X rCat gAddL := fun x y H Q G a b d le ia ib e k => by
  cases a <;> cases b <;> simp only [gAddL, reduceCtorEq] at e
  split at e
  · rename_i as bs h
    cases e
    obtain ⟨a, vs, rfl, sa, la⟩ := ia.lst_inv
    obtain ⟨b, ws, rfl, sb, lb⟩ := ib.lst_inv
    refine ⟨a, b, vs, ws, rfl, rfl, le.lst sa, le.lst sb, by rw [la.length, lb.length]; exact h, fun p hp => ?_⟩
    exact k _ _ _ (.one p _ hp) (.lst upd_same (new_isL le hp (la.append lb)))
  · cases e
abbrev rAddU (X : Cx) : R2 := fun x y H Q => rI0 (fun i j => .int (i + j)) x y H Q ∨ ((∃ i j, x = .str i ∧ y = .str j ∧ i.length + j.length ≤ sizeLine ∧ Q (.str (i ++ j)) H) ∨ (rCatA X.K x y H Q ∨ rCat x y H Q))
theorem op_addU : OpR X (binaryOp .Add) (rAddU X) := op_add.or (op_add_str.or (op_catA.or op_cat))
def gTL : D2 := fun a b => match a with
  | .tup _ => gAddT a b
  | _ => gAddL a b
def gSTL : D2 := fun a b => match a with
  | .str _ => gAddS a b
  | _ => gTL a b
theorem o2_addU : Op2 X (rAddU X) addD := by
  refine Op2.or (g := gAddI) (g' := gSTL) o2_addI (Op2.or (g := gAddS) (g' := gTL) o2_addS (Op2.or (g := gAddT) (g' := gAddL) o2_addT o2_addL fun a b d e => ?_) fun a b d e => ?_) fun a b d e => ?_
  · unfold gTL at e
    split at e
    · exact .inl e
    · exact .inr e
  · unfold gSTL at e
    split at e
    · exact .inl e
    · exact .inr e
  · cases a <;> cases b <;> first | exact .inl e | exact .inr e | (simp [addD] at e; done)
abbrev rMulU (X : Cx) : R2 := fun x y H Q => rI CMulX (fun i j => .int (i * j)) x y H Q ∨ (rRep x y H Q)
def gRepL : D2
  | .lst a, .int b => if 0 ≤ b ∧ b < 2 ^ 62 ∧ a.length * b.toNat ≤ sizeLine then some (.lst (List.replicate b.toNat a).flatten) else none
  | _, _ => none
theorem o2_rep : Op2 X rRep gRepL := fun x y H Q G a b d le ia ib e k => by
  cases a <;> cases b <;> simp only [gRepL, reduceCtorEq] at e
  split at e
  · rename_i as bs h
    cases e
    obtain ⟨a, vs, rfl, sa, la⟩ := ia.lst_inv
    obtain ⟨h0, h1, h2⟩ := h
    refine ⟨a, _, vs, rfl, ib.int_inv, le.lst sa, by omega, by omega, by rw [la.length]; exact h2, fun p hp => ?_⟩
    exact k _ _ _ (.one p _ hp) (.lst upd_same (new_isL le hp (la.rep _)))
  · cases e
def mulU : D2
  | .int a, .int b => if szM a b then some (.int (a * b)) else none
  | .lst a, .int b => if 0 ≤ b ∧ b < 2 ^ 62 ∧ a.length * b.toNat ≤ sizeLine then some (.lst (List.replicate b.toNat a).flatten) else none
  | _, _ => none
theorem op_mulU : OpR X (binaryOp .Mult) (rMulU X) := op_mulX.or op_rep
theorem o2_mulU : Op2 X (rMulU X) mulU := Op2.or (g := gMulI) (g' := gRepL) o2_mulI o2_rep fun a b d e => by
  cases a <;> cases b <;> first | exact .inl e | exact .inr e | (simp [mulU] at e; done)
variable {a b : Expr} {f f' : F D} {pos : Pos}
theorem de_add (ha : DE X a f) (hb : DE X b f') : DE X (.BinOp a .Add b pos) (map2F f f' addD) := de_2 (fun _ _ => pe_op op_addU) o2_addU ha hb
theorem de_sub (ha : DE X a f) (hb : DE X b f') : DE X (.BinOp a .Sub b pos) (map2F f f' subD) := de_2 (fun _ _ => pe_op op_sub) o2_subI ha hb
theorem de_mul (ha : DE X a f) (hb : DE X b f') : DE X (.BinOp a .Mult b pos) (map2F f f' mulU) := de_2 (fun _ _ => pe_op op_mulU) o2_mulU ha hb
theorem de_div (ha : DE X a f) (hb : DE X b f') : DE X (.BinOp a .FloorDiv b pos) (map2F f f' divD) := de_2 (fun _ _ => pe_op op_fdivX) o2_div ha hb
theorem de_mod (ha : DE X a f) (hb : DE X b f') : DE X (.BinOp a .Mod b pos) (map2F f f' modD) := de_2 (fun _ _ => pe_op op_modN) o2_mod ha hb
theorem de_pow (ha : DE X a f) (hb : DE X b f') : DE X (.BinOp a .Pow b pos) (map2F f f' powD) := de_2 (fun _ _ => pe_op op_pow) o2_pow ha hb
theorem o1_neg : Op1 X (rU fun i => .int (-i)) negD := fun x H Q G a d le ia e k => by
  cases a <;> simp only [negD, reduceCtorEq] at e
  cases e
  exact ⟨_, ia.int_inv, k _ G H .no (.int _)⟩
theorem de_neg (ha : DE X a f) : DE X (.UnaryOp .USub a pos) (mapF f negD) := de_1 (fun _ => pe_un un_neg) o1_neg ha

/-! ### comparisons -/
mutual
def toP : D → Option PyData
  | .non => some .none
  | .bl b => some (.bool b)
  | .int i => some (.int i)
  | .str x => some (.str x)
  | .tup xs => (toPs xs).map .tuple
  | .lst xs => (toPs xs).map .list
  | _ => none
def toPs : List D → Option (List PyData)
  | [] => some []
  | d :: ds => match toP d, toPs ds with
    | some p, some ps => some (p :: ps)
    | _, _ => none
end
mutual
theorem toP_dp {K : PySem.W.Frag} {G H : Hp} (le : Le G H) : ∀ (d : D) {v : V} {p : PyData}, Is K G v d → toP d = some p → Dp K H v p
  | .non, _, _, i, e => by cases e; rw [i.non_inv]; exact .non
  | .bl b, _, _, i, e => by cases e; rw [i.bl_inv]; exact .bl b
  | .int b, _, _, i, e => by cases e; rw [i.int_inv]; exact .int b
  | .str b, _, _, i, e => by cases e; rw [i.str_inv]; exact .str b
  | .tup ds, _, _, i, e => by
    obtain ⟨a, vs, rfl, s, l⟩ := i.tup_inv
    simp only [toP, Option.map_eq_some_iff] at e
    obtain ⟨ps, e, rfl⟩ := e
    exact .tup (le.sqT s) (toPs_dp le ds l e)
  | .lst ds, _, _, i, e => by
    obtain ⟨a, vs, rfl, s, l⟩ := i.lst_inv
    simp only [toP, Option.map_eq_some_iff] at e
    obtain ⟨ps, e, rfl⟩ := e
    exact .lst (.of (le.lst s)) (toPs_dp le ds l e)
  | .scr _, _, _, _, e => by simp [toP] at e
  | .ty _, _, _, _, e => by simp [toP] at e
  | .adr _, _, _, _, e => by simp [toP] at e
  | .dct _, _, _, _, e => by simp [toP] at e
  | .ins _ _, _, _, _, e => by simp [toP] at e
theorem toPs_dp {K : PySem.W.Frag} {G H : Hp} (le : Le G H) : ∀ (ds : List D) {vs : List V} {ps : List PyData}, IsL K G vs ds → toPs ds = some ps → DpAll K H vs ps
  | [], _, _, .nil, e => by cases e; exact .nil
  | d :: ds, _, _, .cons i r, e => by
    simp only [toPs] at e
    cases h : toP d with
    | none => rw [h] at e; cases e
    | some p =>
      cases h2 : toPs ds with
      | none => rw [h, h2] at e; cases e
      | some ps =>
        rw [h, h2] at e
        cases e
        exact .cons (toP_dp le d i h) (toPs_dp le ds r h2)
end
def eqD : D2 := fun a b => match toP a, toP b with
  | some p, some q => if SeqAt.shaped p = true ∧ SeqAt.shaped q = true then some (.bl (PyData.eqv p q)) else none
  | _, _ => none
def neD : D2 := fun a b => match toP a, toP b with
  | some p, some q => if SeqAt.shaped p = true ∧ SeqAt.shaped q = true then some (.bl (!PyData.eqv p q)) else none
  | _, _ => none
theorem o2_eq : Op2 X (rEqD X.K) eqD := fun x y H Q G a b d le ia ib e k => by
  unfold eqD at e
  split at e
  · rename_i p q hp hq
    split at e
    · rename_i h
      cases e
      exact ⟨p, q, toP_dp le a ia hp, toP_dp le b ib hq, h.1, h.2, k _ G H .no (.bl _)⟩
    · cases e
  · cases e
theorem o2_ne : Op2 X (rNeD X.K) neD := fun x y H Q G a b d le ia ib e k => by
  unfold neD at e
  split at e
  · rename_i p q hp hq
    split at e
    · rename_i h
      cases e
      exact ⟨p, q, toP_dp le a ia hp, toP_dp le b ib hq, h.1, h.2, k _ G H .no (.bl _)⟩
    · cases e
  · cases e
theorem de_eq (hu : X.A.units + 64 < cLine) (ha : DE X a f) (hb : DE X b f') : DE X (.Compare a [.Eq] [b] pos) (map2F f f' eqD) := de_2 (fun _ _ x y => pe_cmpR (op_eqD hu) x y (nomark _)) o2_eq ha hb
theorem de_ne (hu : X.A.units + 64 < cLine) (ha : DE X a f) (hb : DE X b f') : DE X (.Compare a [.NotEq] [b] pos) (map2F f f' neD) := de_2 (fun _ _ x y => pe_cmpR (op_neD hu) x y (nomark _)) o2_ne ha hb
/-! order: ints now; data in general below -/
def cmpI (p : Int → Int → Bool) : D2
  | .int a, .int b => some (.bl (p a b))
  | _, _ => none
theorem o2_cmpI (p : Int → Int → Bool) : Op2 X (rI0 fun i j => .bl (p i j)) (cmpI p) := fun x y H Q G a b d le ia ib e k => by
  cases a <;> cases b <;> simp only [cmpI, reduceCtorEq] at e
  cases e
  exact ⟨_, _, ia.int_inv, ib.int_inv, k _ G H .no (.bl _)⟩
/-- is None, is not None -/
def isN : D1
  | .non => some (.bl true)
  | _ => some (.bl false)
def notN : D1
  | .non => some (.bl false)
  | _ => some (.bl true)
theorem Is.nn {K : PySem.W.Frag} {G : Hp} {v : V} {d : D} (h : Is K G v d) : v = .non ↔ d = .non := by
  cases h <;> simp
theorem de_isN {j pos'} (ha : DE X a f) : DE X (.Compare a [.Is] [.Constant .none j pos'] pos) (mapF f isN) :=
  de_1 (r := fun x H Q => Q (.bl (decide (x = .non))) H) (fun _ h => pe_cmp (pc_isN h)) (fun x H Q G a d le ia e k => by
    have : d = .bl (decide (x = .non)) := by
      have h := ia.nn
      cases a <;> simp only [isN, Option.some.injEq] at e <;> subst e <;> simp_all
    subst this
    exact k _ G H .no (.bl _)) ha
theorem de_notN {j pos'} (ha : DE X a f) : DE X (.Compare a [.IsNot] [.Constant .none j pos'] pos) (mapF f notN) :=
  de_1 (r := fun x H Q => Q (.bl (!decide (x = .non))) H) (fun _ h => pe_cmp (pc_notN h)) (fun x H Q G a d le ia e k => by
    have : d = .bl (!decide (x = .non)) := by
      have h := ia.nn
      cases a <;> simp only [notN, Option.some.injEq] at e <;> subst e <;> simp_all
    subst this
    exact k _ G H .no (.bl _)) ha

/-! ### tests -/
def unB : D → Option Bool
  | .bl b => some b
  | _ => none
theorem dt_val (ha : DE X a f) (he : ∀ whole, isTrue a X.env whole = (do let v ← whole; standAt a.pos; holding [v] (truthy v)) := by intro _; rfl) : DT X a (mapF f unB) :=
  PT.imp (pt_val ha he) fun σ H Q ⟨G, ρ, fps, b, ρ', R, e, k⟩ => by
    obtain ⟨d, e1, e2⟩ := mapF_some e
    refine ⟨G, ρ, fps, d, ρ', R, e1, fun v H' G' fps' R' f' i => ?_⟩
    cases d <;> simp only [unB, reduceCtorEq] at e2
    cases e2
    exact ⟨_, i.bl_inv, k H' G' fps' R' f'⟩
/-- a comparison as a test -/
theorem dt_cmp {op : CmpOp} {t : TE} (h : PC X op a b t) {g : F D} (hd : ∀ σ H Q, tE X.K g σ H Q → t σ H Q) (h1 : behindInMarks op b = false := by first | exact nobehind _ (by decide) (by decide) | rfl) : DT X (.Compare a [op] [b] pos) (mapF g unB) :=
  PT.imp (pt_cmp h h1) fun σ H Q ⟨G, ρ, fps, b, ρ', R, e, k⟩ => by
    obtain ⟨d, e1, e2⟩ := mapF_some e
    refine hd _ _ _ ⟨G, ρ, fps, d, ρ', R, e1, fun v H' G' fps' R' f' i => ?_⟩
    cases d <;> simp only [unB, reduceCtorEq] at e2
    cases e2
    exact ⟨_, i.bl_inv, k H' G' fps' R' f'⟩
def andF (f g : F Bool) : F Bool := bindF f fun b => if b then g else fun ρ => some (false, ρ)
def orF (f g : F Bool) : F Bool := bindF f fun b => if b then fun ρ => some (true, ρ) else g
def notF (f : F Bool) : F Bool := mapF f fun b => some (!b)
theorem dt_not {f : F Bool} (ha : DT X a f) : DT X (.UnaryOp .Not a pos) (notF f) := PT.imp (pt_not ha) fun σ H Q ⟨G, ρ, fps, b, ρ', R, e, k⟩ => by
  obtain ⟨d, e1, e2⟩ := mapF_some e
  cases e2
  exact ⟨G, ρ, fps, d, ρ', R, e1, fun H' G' fps' R' f' => k H' G' fps' R' f'⟩
abbrev DW (X : Cx) (e : Expr) (f : F Bool) : Prop := PW X e (tT X.K f)
theorem PW.imp {X : Cx} {e : Expr} {t t' : TT} (h : PW X e t) (k : ∀ σ H Q, t' σ H Q → t σ H Q) : PW X e t' := ⟨fun w pins s σ H Q I q => h.run w pins s σ H Q I (k _ _ _ q)⟩
theorem dw_and1 {f : F Bool} (ha : DT X a f) : DW X (.BoolOp .And [a] pos) f := pw_and1 ha
theorem dw_or1 {f : F Bool} (ha : DT X a f) : DW X (.BoolOp .Or [a] pos) f := pw_or1 ha
variable {rest : List Expr}
theorem dw_and {f g : F Bool} (ha : DT X a f) (hb : DW X (.BoolOp .And (b :: rest) pos) g) : DW X (.BoolOp .And (a :: b :: rest) pos) (andF f g) :=
  PW.imp (pw_and ha hb) fun σ H Q ⟨G, ρ, fps, c, ρ', R, e, k⟩ => by
    obtain ⟨d, ρ1, e1, e2⟩ := bindF_some e
    refine ⟨G, ρ, fps, d, ρ1, R, e1, fun H' G' fps' R' f' => ?_⟩
    cases d with
    | true =>
      rw [if_pos rfl]
      rw [if_pos rfl] at e2
      exact ⟨G', ρ1, fps', c, ρ', R', e2, fun H2 G2 fps2 R2 f2 => k H2 G2 fps2 R2 (f'.trans f2)⟩
    | false =>
      rw [if_neg Bool.false_ne_true]
      rw [if_neg Bool.false_ne_true] at e2
      cases e2
      exact k H' G' fps' R' f'
theorem dw_or {f g : F Bool} (ha : DT X a f) (hb : DW X (.BoolOp .Or (b :: rest) pos) g) : DW X (.BoolOp .Or (a :: b :: rest) pos) (orF f g) :=
  PW.imp (pw_or ha hb) fun σ H Q ⟨G, ρ, fps, c, ρ', R, e, k⟩ => by
    obtain ⟨d, ρ1, e1, e2⟩ := bindF_some e
    refine ⟨G, ρ, fps, d, ρ1, R, e1, fun H' G' fps' R' f' => ?_⟩
    cases d with
    | false =>
      rw [if_neg Bool.false_ne_true]
      rw [if_neg Bool.false_ne_true] at e2
      exact ⟨G', ρ1, fps', c, ρ', R', e2, fun H2 G2 fps2 R2 f2 => k H2 G2 fps2 R2 (f'.trans f2)⟩
    | true =>
      rw [if_pos rfl]
      rw [if_pos rfl] at e2
      cases e2
      exact k H' G' fps' R' f'
def iteF' {α : Type} (c : F Bool) (f g : F α) : F α := bindF c fun b => if b then f else g
theorem de_if {c : Expr} {fc : F Bool} {f g : F D} (hc : DT X c fc) (ha : DE X a f) (hb : DE X b g) : DE X (.IfExp c a b pos) (iteF' fc f g) :=
  PE.imp (pe_ifExp hc ha hb) fun σ H Q ⟨G, ρ, fps, d, ρ', R, e, k⟩ => by
    obtain ⟨d1, ρ1, e1, e2⟩ := bindF_some e
    refine ⟨G, ρ, fps, d1, ρ1, R, e1, fun H' G' fps' R' f' => ?_⟩
    cases d1 with
    | true =>
      rw [if_pos rfl] at e2 ⊢
      exact ⟨G', ρ1, fps', d, ρ', R', e2, fun v H2 G2 fps2 R2 f2 => k v H2 G2 fps2 R2 (f'.trans f2)⟩
    | false =>
      rw [if_neg Bool.false_ne_true] at e2 ⊢
      exact ⟨G', ρ1, fps', d, ρ', R', e2, fun v H2 G2 fps2 R2 f2 => k v H2 G2 fps2 R2 (f'.trans f2)⟩
/-! and, or, not as values: bools -/
def blF (f : F Bool) : F D := mapF f fun b => some (.bl b)
end
end T
namespace T
open PySem PySem.Spec PyProof.Rows L2

/-! ### arguments, displays -/
section
variable {X : Cx} {e : Expr} {es : List Expr} {pos : Pos}
def aNil : F (List D) := fun ρ => some ([], ρ)
def aCons (f : F D) (g : F (List D)) : F (List D) := map2F f g fun d ds => some (d :: ds)
theorem da_nil : DA X [] aNil := PA.imp pa_nil fun σ H Q ⟨G, ρ, fps, d', ρ', R, e, k⟩ => by
  cases e
  exact k [] H G fps R Fr.refl .nil
theorem da_cons {f : F D} {g : F (List D)} (ha : DE X e f) (hr : DA X es g) (hs : starEach (e :: es) X.env = (false, eval e X.env) :: starEach es X.env := by rfl) : DA X (e :: es) (aCons f g) :=
  PA.imp (pa_cons ha hr hs) fun σ H Q ⟨G, ρ, fps, ds, ρ', R, e, k⟩ => by
    obtain ⟨da, ρ1, db, e1, e2, e3⟩ := map2F_some e
    cases e3
    refine ⟨G, ρ, fps, da, ρ1, R, e1, fun x H1 G1 fps1 R1 f1 i1 => ?_⟩
    refine ⟨G1, ρ1, fps1, db, ρ', R1, e2, fun y H2 G2 fps2 R2 f2 i2 => ?_⟩
    exact k (x :: y) H2 G2 fps2 R2 (f1.trans f2) (.cons (f2.is i1) i2)
def gTup' (ds : List D) : Option D := if ds.length ≤ sizeLine then some (.tup ds) else none
theorem de_tup {x1} {f : F (List D)} (h : DA X es f) : DE X (.Tuple es x1 pos) (mapF f gTup') := PE.imp (pe_tup h) fun σ H Q ⟨G, ρ, fps, d, ρ', R, e, k⟩ => by
  obtain ⟨ds, e1, e2⟩ := mapF_some e
  unfold gTup' at e2
  split at e2
  · rename_i hz
    cases e2
    refine ⟨G, ρ, fps, ds, ρ', R, e1, fun vs H1 G1 fps1 R1 f1 i1 => ⟨by rw [i1.length]; exact hz, fun p hp => ?_⟩⟩
    obtain ⟨R2, f2⟩ := R1.newG (u := .tup vs) hp
    exact k _ _ _ fps1 R2 (f1.trans f2) (.tup (.inl (.inl upd_same)) (new_isL R1.le hp i1))
  · cases e2
theorem owL_fz {K : PySem.W.Frag} {G H : Hp} : ∀ {vs : List V} {ds : List D}, IsL K G vs ds → OwL K G H vs (ds.map .fz) []
  | _, _, .nil => .nil
  | _, _, .cons i r => .cons (fp := []) (fq := []) (.fz i) (owL_fz r) (fun _ h => nomatch h)
def gLst' (ds : List D) : Option O := if ds.length ≤ sizeLine then some (.lst none (ds.map .fz)) else none
theorem do_lst {f : F (List D)} (h : DA X es f) : DO X (.List es pos) (mapF f gLst') := PE.imp (pe_lst h) fun σ H Q ⟨G, ρ, fps, o, ρ', R, e, k⟩ => by
  obtain ⟨ds, e1, e2⟩ := mapF_some e
  unfold gLst' at e2
  split at e2
  · rename_i hz
    cases e2
    refine ⟨G, ρ, fps, ds, ρ', R, e1, fun vs H1 G1 fps1 R1 f1 i1 => ⟨by rw [i1.length]; exact hz, fun p hp => ?_⟩⟩
    obtain ⟨R2, f2, gp, up⟩ := R1.newO (u := .lst vs) hp
    refine k _ _ _ fps1 [p] R2 (f1.trans (f2.mono (fun _ z => z) fun a z => z.imp id fun q => by simpa using q)) (.lst upd_same gp (owL_fz i1) (fun h => nomatch h) (.inl rfl)) fun a ha => ?_
    have : a = p := by simpa using ha
    rw [this]; exact up
  · cases e2

/-! ### the promise of a def over data -/
def spP (K : PySem.W.Frag) (f : List D → Option O) : Sp := fun vs H Q _ => ∃ G ds o, Le G H ∧ IsL K G vs ds ∧ f ds = some o ∧
  ∀ v H' G' fv, Le G' H' → Ow K G' H' v o fv → Fr G H (fun _ => False) G' H' (· ∈ fv) → Q v H'
def callF (f : List D → Option O) (dd : List D) (g : F (List D)) : F O := mapF g fun ds => f (ds ++ dd)
theorem isL_app {K : PySem.W.Frag} {G : Hp} {vs ws : List V} {ds es : List D} (a : IsL K G vs ds) (b : IsL K G ws es) : IsL K G (vs ++ ws) (ds ++ es) := a.append b
theorem Rel.call {K : PySem.W.Frag} {G H G' H' : Hp} {σ : L2.St} {ρ : Env} {fps : Fps} {fv : List Addr} (R : Rel K G H σ ρ fps) (le : Le G' H') (fr : Fr G H (fun _ => False) G' H' (· ∈ fv)) :
    Rel K G' H' σ ρ fps ∧ Fr G H (U fps) G' H' (fun a => U fps a ∨ a ∈ fv) ∧ ∀ a ∈ fv, ¬ U fps a := by
  refine ⟨R.go fr.gg le (fun a ha => ?_) fun a ha => ?_, ⟨fr.gg, fun a u e _ => fr.keep a u e fun z => z, fr.live, fun a e => (fr.gnew a e).imp id fun z => .inr (z.elim (fun y => y.elim) id), fun a e => e.imp id fun z => (fr.fnew a z).elim (fun y => y.elim) id⟩, fun a ha hu => ?_⟩
  · cases q : G' a with
    | none => rfl
    | some u =>
      rcases fr.gnew a (by rw [q]; exact fun y => nomatch y) with z | z | z
      · exact absurd (R.out ha).2 z
      · exact z.elim
      · exact absurd z (R.out ha).1
  · cases q : H a with
    | none => exact absurd q (R.out ha).1
    | some u => exact fr.keep a u q fun z => z
  · exact (fr.fnew a ha).elim id fun z => (R.out hu).1 z
variable {k : Nat} {f : Addr} {fd : FuncData} {ps : List Str} {x : Str} {p : Pos} {ds : List Value} {dvs : List V} {dd : List D} {sp : List D → Option O}
theorem do_call (Fk : FnOk X.prog X.w X.K X.mg X.base CX0 k f fd ps (spP X.K sp)) (hr : Room k X.A) (hg : Gl X x) (hm : X.mg x = some (.ref f)) (hk : PySem.W.keepIn X.K (.ref f) = true) (hb : Binds X.K fd ps ds) (hd : Vals dvs ds)
    (hdd : ∀ G, IsL X.K G dvs dd) {g : F (List D)} (ha : DA X (e :: es) g) (hdb : (x == ("__debug__" : Str)) = false := by decide) (he : starEach (e :: es) X.env = (false, eval e X.env) :: starEach es X.env := by rfl)
    (hpl : (backTo pos (starEach es X.env)).any (·.1) = false := by rfl) : DO X (.Call (.Name x p) (e :: es) [] pos) (callF sp dd g) :=
  PE.imp (pe_call Fk hr hg hm hk hb hd pass0 ha hdb he hpl) fun σ H Q ⟨G, ρ, fps, o, ρ', R, e, k⟩ => by
    obtain ⟨da, e1, e2⟩ := mapF_some e
    refine ⟨G, ρ, fps, da, ρ', R, e1, fun vs H1 G1 fps1 R1 f1 i1 => ?_⟩
    refine ⟨G1, da ++ dd, o, R1.le, i1.append (hdd G1), e2, fun v H' G' fv le w fr => ?_⟩
    obtain ⟨R2, f2, dj⟩ := R1.call le fr
    exact k v H' G' fps1 fv R2 (f1.trans f2) w dj
theorem do_call0 (Fk : FnOk X.prog X.w X.K X.mg X.base CX0 k f fd ps (spP X.K sp)) (hr : Room k X.A) (hg : Gl X x) (hm : X.mg x = some (.ref f)) (hk : PySem.W.keepIn X.K (.ref f) = true) (hb : Binds X.K fd ps ds) (hd : Vals dvs ds)
    (hdd : ∀ G, IsL X.K G dvs dd) (hdb : (x == ("__debug__" : Str)) = false := by decide) : DO X (.Call (.Name x p) [] [] pos) (callF sp dd aNil) :=
  PE.imp (pe_call0 Fk hr hg hm hk hb hd pass0 hdb) fun σ H Q ⟨G, ρ, fps, o, ρ', R, e, k⟩ => by
    obtain ⟨da, e1, e2⟩ := mapF_some e
    cases e1
    refine ⟨G, dd, o, R.le, hdd G, e2, fun v H' G' fv le w fr => ?_⟩
    obtain ⟨R2, f2, dj⟩ := R.call le fr
    exact k v H' G' fps fv R2 f2 w dj
end

/-! ### statements -/
section
variable {X : Cx} {e : Expr} {pos pos' : Pos}
def oVar (i : Nat) : F O := fun ρ => match ρ[i]? with
  | some (some o) => some (o, ρ.set i none)
  | _ => none
/-- the slot's content goes out of it -/
theorem Rel.move {K : PySem.W.Frag} {G H : Hp} {σ : L2.St} {ρ : Env} {fps : Fps} (R : Rel K G H σ ρ fps) {i : Nat} {o : O} (h : ρ[i]? = some (some o)) :
    ∃ v fps', σ[i]? = some (some v) ∧ Rel K G H σ (ρ.set i none) fps' ∧ Ow K G H v o (fps i) ∧ (∀ a ∈ fps i, ¬ U fps' a) ∧ (∀ a, U fps' a → U fps a) := by
  obtain ⟨v, e, w⟩ := R.sl i o h
  have hi : i < ρ.length := (List.getElem?_eq_some_iff.mp h).1
  refine ⟨v, fun j => if j = i then [] else fps j, e, ⟨R.le, by simpa using R.len, fun j o' q => ?_, fun j q => ?_, fun j k a ha hb => ?_⟩, w, fun a ha ⟨j, z⟩ => ?_, fun a ⟨j, z⟩ => ?_⟩
  · by_cases hj : j = i
    · subst hj
      rw [List.getElem?_set_self hi] at q
      cases q
    · rw [List.getElem?_set_ne (Ne.symm hj)] at q
      obtain ⟨v', e', w'⟩ := R.sl j o' q
      exact ⟨v', e', by rw [if_neg hj]; exact w'⟩
  · by_cases hj : j = i
    · rw [if_pos hj]
    · rw [if_neg hj]
      refine R.em j fun o' e' => q o' ?_
      rw [List.getElem?_set_ne (Ne.symm hj)]
      exact e'
  · by_cases hj : j = i
    · rw [if_pos hj] at ha; cases ha
    · by_cases hk : k = i
      · rw [if_pos hk] at hb; cases hb
      · rw [if_neg hj] at ha
        rw [if_neg hk] at hb
        exact R.dj j k a ha hb
  · dsimp only at z
    by_cases hj : j = i
    · rw [if_pos hj] at z; cases z
    · rw [if_neg hj] at z
      exact hj (R.dj j i a z ha)
  · dsimp only at z
    by_cases hj : j = i
    · rw [if_pos hj] at z; cases z
    · rw [if_neg hj] at z; exact ⟨j, z⟩
theorem do_of_var {i : Nat} (h : PE X e (tVar i)) : DO X e (oVar i) := PE.imp h fun σ H Q ⟨G, ρ, fps, o, ρ', R, e, k⟩ => by
  unfold oVar at e
  split at e
  · rename_i o' q
    cases e
    obtain ⟨v, fps', e1, R', w, dj, sub⟩ := R.move q
    exact ⟨v, e1, k v H G fps' (fps i) R' ⟨Same.refl _, fun _ _ z _ => z, fun _ z => z, fun _ z => .inl z, fun a z => .inl (z.elim (sub a) fun y => ⟨i, y⟩)⟩ w dj⟩
  · cases e
theorem dvo (i : Nat) {x : Str} {pos : Pos} (hN : X.N[i]? = some x := by rfl) (hv : Vis X.env.scope x := by first | exact Or.inl rfl | exact Or.inr (Or.inl rfl) | exact Or.inr (Or.inr rfl)) (hd : (x == ("__debug__" : Str)) = false := by decide)
    (hcd : (x == ("__classdict__" : Str)) = false := by decide) : DO X (.Name x pos) (oVar i) := do_of_var (pe_var hN hv hd hcd)

def sSeq (f g : FS) : FS := fun ρ => match f ρ with
  | some (.nx ρ1) => g ρ1
  | o => o
def sNext : FS := fun ρ => some (.nx ρ)
theorem Post.fr {K : PySem.W.Frag} {Dn : Ends} {G H G' H' : Hp} {fps fps' : Fps} {o : Out} (h : Post K Dn G H fps o) (f : Fr G H (U fps) G' H' (U fps')) : Post K Dn G' H' fps' o := by
  cases o with
  | nx ρ => exact fun σ' H2 G2 fps2 R2 f2 => h σ' H2 G2 fps2 R2 (f.trans f2)
  | bk ρ => exact fun σ' H2 G2 fps2 R2 f2 => h σ' H2 G2 fps2 R2 (f.trans f2)
  | ct ρ => exact fun σ' H2 G2 fps2 R2 f2 => h σ' H2 G2 fps2 R2 (f.trans f2)
  | rt o ρ => exact fun v σ' H2 G2 fps2 fv R2 f2 w dj => h v σ' H2 G2 fps2 fv R2 (f.trans f2) w dj
theorem dss_nil : DSs X [] sNext := PSs.imp pss_nil fun Dn σ H ⟨G, ρ, fps, o, R, e, k⟩ => by
  cases e
  exact k σ H G fps R Fr.refl
theorem Post.nxw {K : PySem.W.Frag} {Dn : Ends} {G H : Hp} {fps : Fps} {o : Out} {P : L2.St → Hp → Prop} (h : Post K Dn G H fps o) (hn : ∀ ρ, o ≠ .nx ρ) : Post K { Dn with nx := P } G H fps o := by
  cases o with
  | nx ρ => exact absurd rfl (hn ρ)
  | bk ρ => exact h
  | ct ρ => exact h
  | rt o ρ => exact h
theorem dss_cons {s : Stmt} {r : List Stmt} {f g : FS} (h1 : DS X s f) (h2 : DSs X r g) : DSs X (s :: r) (sSeq f g) := PSs.imp (pss_cons h1 h2) fun Dn σ H ⟨G, ρ, fps, o, R, e, k⟩ => by
  unfold sSeq at e
  cases q : f ρ with
  | none => rw [q] at e; cases e
  | some o1 =>
    rw [q] at e
    cases o1 with
    | nx ρ1 => exact ⟨G, ρ, fps, .nx ρ1, R, q, fun σ' H' G' fps' R' f' => ⟨G', ρ1, fps', o, R', e, k.fr f'⟩⟩
    | bk ρ1 => cases e; exact ⟨G, ρ, fps, _, R, q, k.nxw fun _ z => nomatch z⟩
    | ct ρ1 => cases e; exact ⟨G, ρ, fps, _, R, q, k.nxw fun _ z => nomatch z⟩
    | rt o1 ρ1 => cases e; exact ⟨G, ρ, fps, _, R, q, k.nxw fun _ z => nomatch z⟩
theorem dss_one {s : Stmt} {f : FS} (h1 : DS X s f) : DSs X [s] f := PSs.imp (pss_one h1) fun Dn σ H h => h
def sRet (f : F O) : FS := fun ρ => match f ρ with
  | some (o, ρ1) => some (.rt o ρ1)
  | none => none
theorem ds_ret {f : F O} (he : DO X e f) : DS X (.Return (some e) pos) (sRet f) := PS.imp (ps_ret he) fun Dn σ H ⟨G, ρ, fps, o, R, e, k⟩ => by
  unfold sRet at e
  cases q : f ρ with
  | none => rw [q] at e; cases e
  | some p =>
    obtain ⟨o1, ρ1⟩ := p
    rw [q] at e
    cases e
    exact ⟨G, ρ, fps, o1, ρ1, R, q, fun v H' G' fps' fv R' f' w dj => k v σ H' G' fps' fv R' f' w dj⟩
def sExpr {α : Type} (f : F α) : FS := fun ρ => match f ρ with
  | some (_, ρ1) => some (.nx ρ1)
  | none => none
theorem ds_expr {f : F D} (he : DE X e f) (hs : swapsWith e none pos.line X.env = pure false := by rfl) : DS X (.Expr e pos) (sExpr f) := PS.imp (ps_expr he hs) fun Dn σ H ⟨G, ρ, fps, o, R, e, k⟩ => by
  unfold sExpr at e
  cases q : f ρ with
  | none => rw [q] at e; cases e
  | some p =>
    obtain ⟨o1, ρ1⟩ := p
    rw [q] at e
    cases e
    exact ⟨G, ρ, fps, o1, ρ1, R, q, fun v H' G' fps' R' f' i => k σ H' G' fps' R' f'⟩
def sIf (c : F Bool) (f g : FS) : FS := fun ρ => match c ρ with
  | some (true, ρ1) => f ρ1
  | some (false, ρ1) => g ρ1
  | none => none
theorem ds_if {c : Expr} {a b : List Stmt} {fc : F Bool} {f g : FS} (hc : DT X c fc) (ha : DSs X a f) (hb : DSs X b g) : DS X (.If c a b pos) (sIf fc f g) := PS.imp (ps_if hc ha hb) fun Dn σ H ⟨G, ρ, fps, o, R, e, k⟩ => by
  unfold sIf at e
  cases q : fc ρ with
  | none => rw [q] at e; cases e
  | some p =>
    obtain ⟨b1, ρ1⟩ := p
    rw [q] at e
    refine ⟨G, ρ, fps, b1, ρ1, R, q, fun H' G' fps' R' f' => ?_⟩
    cases b1 with
    | true => rw [if_pos rfl]; exact ⟨G', ρ1, fps', o, R', e, k.fr f'⟩
    | false => rw [if_neg Bool.false_ne_true]; exact ⟨G', ρ1, fps', o, R', e, k.fr f'⟩
def sNever : FS := fun _ => none
theorem ds_never {s : Stmt} : DS X s sNever := PS.imp ps_never fun Dn σ H ⟨G, ρ, fps, o, R, e, k⟩ => by cases e
theorem dss_never {s : List Stmt} : DSs X s sNever := PSs.imp pss_never fun Dn σ H ⟨G, ρ, fps, o, R, e, k⟩ => by cases e
theorem ds_pass : DS X (.Pass pos) sNext := PS.imp ps_pass fun Dn σ H ⟨G, ρ, fps, o, R, e, k⟩ => by
  cases e
  exact k σ H G fps R Fr.refl
def sCt : FS := fun ρ => some (.ct ρ)
def sBk : FS := fun ρ => some (.bk ρ)
theorem ds_continue : DS X (.Continue pos) sCt := PS.imp ps_continue fun Dn σ H ⟨G, ρ, fps, o, R, e, k⟩ => by
  cases e
  exact k σ H G fps R Fr.refl
theorem ds_break : DS X (.Break pos) sBk := PS.imp ps_break fun Dn σ H ⟨G, ρ, fps, o, R, e, k⟩ => by
  cases e
  exact k σ H G fps R Fr.refl

/-! targets; ws: the slots that may change -/
abbrev FG := O → Env → Option Env
def tG (K : PySem.W.Frag) (ws : List Nat) (g : FG) : TG := fun v σ H Q => ∃ G ρ fps o fv ρ', Rel K G H σ ρ fps ∧ Ow K G H v o fv ∧ (∀ a ∈ fv, ¬ U fps a) ∧ g o ρ = some ρ' ∧
  ∀ σ' H' G' fps', Rel K G' H' σ' ρ' fps' → Fr G H (fun a => U fps a ∨ a ∈ fv) G' H' (U fps') → (∀ j, j ∉ ws → σ'[j]? = σ[j]?) → σ'.length = σ.length → Q σ' H'
abbrev DG (X : Cx) (e : Expr) (ws : List Nat) (g : FG) : Prop := PG X e (tG X.K ws g)
theorem PG.imp {X : Cx} {e : Expr} {t t' : TG} (h : PG X e t) (k : ∀ v σ H Q, t' v σ H Q → t v σ H Q) : PG X e t' := ⟨fun pins s σ H v u Q I r q => h.run pins s σ H v u Q I r (k _ _ _ _ q)⟩
def gNm (i : Nat) : FG := fun o ρ => if i < ρ.length then some (ρ.set i (some o)) else none
theorem dg_name (i : Nat) {x : Str} (hN : X.N.Nodup) (hi : X.N[i]? = some x := by rfl) (hx : Loc X.env.scope x := by first | exact Or.inl rfl | exact Or.inr rfl) (hf : X.fn x = true ∨ X.env.scope.names.lookup x = some .local := by first | exact .inl rfl | exact .inr rfl | assumption) : DG X (.Name x pos) [i] (gNm i) :=
  PG.imp (pg_name hN hi hx hf) fun v σ H Q ⟨G, ρ, fps, o, fv, ρ', R, w, dj, e, k⟩ => by
    unfold gNm at e
    split at e
    · rename_i hl
      cases e
      obtain ⟨fps', R', sub⟩ := R.store w dj hl
      exact k _ H G fps' R' ⟨Same.refl _, fun _ _ z _ => z, fun _ z => z, fun _ z => .inl z, fun a z => .inl (sub a z)⟩ (fun j hj => List.getElem?_set_ne fun z => hj (by rw [z]; exact List.mem_singleton.mpr rfl)) (by simp)
    · cases e
abbrev FGs := List D → Env → Option Env
def tGs (K : PySem.W.Frag) (ws : List Nat) (g : FGs) : TGs := fun vs σ H Q => ∃ G ρ fps ds ρ', Rel K G H σ ρ fps ∧ IsL K G vs ds ∧ g ds ρ = some ρ' ∧
  ∀ σ' H' G' fps', Rel K G' H' σ' ρ' fps' → Fr G H (U fps) G' H' (U fps') → (∀ j, j ∉ ws → σ'[j]? = σ[j]?) → σ'.length = σ.length → Q σ' H'
abbrev DGs (X : Cx) (es : List Expr) (ws : List Nat) (g : FGs) : Prop := PGs X es (tGs X.K ws g)
theorem PGs.imp {X : Cx} {e : List Expr} {t t' : TGs} (h : PGs X e t) (k : ∀ v σ H Q, t' v σ H Q → t v σ H Q) : PGs X e t' := ⟨fun pins s σ H v u Q I r q => h.run pins s σ H v u Q I r (k _ _ _ _ q)⟩
def gsNil : FGs := fun ds ρ => match ds with
  | [] => some ρ
  | _ => none
def gsCons (g : FG) (gs : FGs) : FGs := fun ds ρ => match ds with
  | d :: ds => match g (.fz d) ρ with
    | some ρ1 => gs ds ρ1
    | none => none
  | [] => none
theorem dgs_nil : DGs X [] [] gsNil := PGs.imp pgs_nil fun vs σ H Q ⟨G, ρ, fps, ds, ρ', R, l, e, k⟩ => by
  cases l with
  | nil => cases e; exact ⟨rfl, k σ H G fps R Fr.refl (fun _ _ => rfl) rfl⟩
  | cons _ _ => cases e
theorem dgs_cons {e : Expr} {es : List Expr} {ws ws' : List Nat} {g : FG} {gs : FGs} (h1 : DG X e ws g) (h2 : DGs X es ws' gs)
    (hs : (assignEach (e :: es) X.env).map (·.2) = assign e X.env :: (assignEach es X.env).map (·.2) := by rfl) : DGs X (e :: es) (ws ++ ws') (gsCons g gs) := PGs.imp (pgs_cons h1 h2 hs) fun vs σ H Q ⟨G, ρ, fps, ds, ρ', R, l, e, k⟩ => by
  cases l with
  | nil => cases e
  | @cons v d vs ds i r =>
    simp only [gsCons] at e
    cases q : g (.fz d) ρ with
    | none => rw [q] at e; cases e
    | some ρ1 =>
      rw [q] at e
      refine ⟨v, vs, rfl, G, ρ, fps, .fz d, [], ρ1, R, .fz i, (fun _ z => nomatch z), q, fun σ' H' G' fps' R' f' u1 u2 => ?_⟩
      have f'' := f'.mono (E := U fps) (E' := U fps') (fun a z => z.elim id fun y => nomatch y) fun _ z => z
      exact ⟨G', ρ1, fps', ds, ρ', R', f''.isL r, e, fun σ2 H2 G2 fps2 R2 f2 w1 w2 => k σ2 H2 G2 fps2 R2 (f''.trans f2) (fun j hj => (w1 j fun z => hj (List.mem_append_right _ z)).trans (u1 j fun z => hj (List.mem_append_left _ z))) (w2.trans u2)⟩
def gTp (n : Nat) (gs : FGs) : FG := fun o ρ => match o with
  | .fz (.tup ds) => if ds.length = n then gs ds ρ else none
  | _ => none
theorem dg_tup {es : List Expr} {k : Nat} {ws : List Nat} {gs : FGs} {n : Nat} (hc : X.calm = true) (h : DGs X es ws gs)
    (hn : (assignEach es X.env).length = n := by rfl) (hst : (assignEach es X.env).findIdx? (·.1) = none := by rfl) : DG X (.Tuple es k pos) ws (gTp n gs) := PG.imp (pg_tup hc h hn hst) fun v σ H Q ⟨G, ρ, fps, o, fv, ρ', R, w, dj, e, kk⟩ => by
  unfold gTp at e
  split at e
  · rename_i ds
    split at e
    · rename_i hl
      obtain ⟨i, rfl⟩ := w.fz_inv
      obtain ⟨a, vs, rfl, sa, la⟩ := i.tup_inv
      refine ⟨a, vs, rfl, R.le.sqT sa, by rw [la.length]; exact hl, G, ρ, fps, ds, ρ', R, la, e, fun σ' H' G' fps' R' f' u1 u2 => kk σ' H' G' fps' R' (f'.mono (fun a z => .inl z) fun _ z => z) u1 u2⟩
    · cases e
  · cases e
def sAsg (f : F O) (g : FG) : FS := fun ρ => match f ρ with
  | some (o, ρ1) => match g o ρ1 with
    | some ρ2 => some (.nx ρ2)
    | none => none
  | none => none
theorem ds_asg {tg : Expr} {f : F O} {ws : List Nat} {g : FG} (he : DO X e f) (hg : DG X tg ws g) (hs : swapsWithSole [tg] e pos.line X.env = pure false := by rfl) (hw : swappedStores [tg] e X.env = pure none := by rfl)
    (h1 : (assignEach [tg] X.env).map (·.2) = [assign tg X.env] := by rfl) : DS X (.Assign [tg] e pos) (sAsg f g) := PS.imp (ps_asg he hg hs hw h1) fun Dn σ H ⟨G, ρ, fps, o, R, e, k⟩ => by
  unfold sAsg at e
  cases q : f ρ with
  | none => rw [q] at e; cases e
  | some p =>
    obtain ⟨o1, ρ1⟩ := p
    rw [q] at e
    cases q2 : g o1 ρ1 with
    | none => simp only [q2] at e; cases e
    | some ρ2 =>
      simp only [q2] at e
      cases e
      refine ⟨G, ρ, fps, o1, ρ1, R, q, fun v H' G' fps' fv R' f' w dj => ?_⟩
      exact ⟨G', ρ1, fps', o1, fv, ρ2, R', w, dj, q2, fun σ2 H2 G2 fps2 R2 f2 _ _ => k σ2 H2 G2 fps2 R2 (f'.trans f2)⟩
/-- a, b = e1, e2 -/
def sPar (i j : Nat) (f g : F D) : FS := fun ρ => match map2F f g (fun a b => some (a, b)) ρ with
  | some ((a, b), ρ1) => if i < ρ1.length ∧ j < ρ1.length then some (.nx ((ρ1.set i (some (.fz a))).set j (some (.fz b)))) else none
  | none => none
/-- name op= e over frozen data -/
def sAug (i : Nat) (f : F D) (g : D2) : FS := fun ρ => match ρ[i]? with
  | some (some (.fz a)) => match f ρ with
    | some (b, ρ1) => match g a b with
      | some d => if i < ρ1.length then some (.nx (ρ1.set i (some (.fz d)))) else none
      | none => none
    | none => none
  | _ => none
theorem ds_aug {i : Nat} {x : Str} {op : Operator} {f : F D} {r : R2} {g : D2} (ho : OpR X (inplaceOp op) r) (hg : Op2 X r g) (hN : X.N.Nodup) (he : DE X e f) (hi : X.N[i]? = some x := by rfl) (hx : Loc X.env.scope x := by first | exact Or.inl rfl | exact Or.inr rfl)
    (hf : X.fn x = true ∨ X.env.scope.names.lookup x = some .local := by first | exact .inl rfl | exact .inr rfl | assumption) : DS X (.AugAssign (.Name x pos') op e pos) (sAug i f g) :=
  PS.imp (ps_aug (ti := r) hN hi hx he ho hf) fun Dn σ H ⟨G, ρ, fps, o, R, e, k⟩ => by
    unfold sAug at e
    split at e
    · rename_i a q
      split at e
      · rename_i b ρ1 q1
        split at e
        · rename_i d q2
          split at e
          · rename_i hl
            cases e
            obtain ⟨v, e1, w⟩ := R.sl i _ q
            have ia := w.fz_inv.1
            refine ⟨v, e1, G, ρ, fps, b, ρ1, R, q1, fun u H' G' fps' R' f' ib => ?_⟩
            refine hg v u H' _ G' a b d R'.le (f'.is ia) ib q2 fun z G2 H2 gr iz => ?_
            obtain ⟨R2, f2⟩ := R'.grow gr
            obtain ⟨fps3, R3, sub⟩ := R2.store (Ow.fz (H := H2) iz) (fun _ y => nomatch y) hl
            exact k _ H2 G2 fps3 R3 ((f'.trans f2).trans ⟨Same.refl _, fun _ _ z _ => z, fun _ z => z, fun _ z => .inl z, fun a z => .inl ((sub a z).elim id fun y => nomatch y)⟩)
          · cases e
        · cases e
      · cases e
    · cases e
end

/-! ### a def keeps its promise -/
def start0 (n : Nat) (ds : List D) : Env := ds.map (fun d => some (.fz d)) ++ List.replicate (n - ds.length) none
theorem rel_start {K : PySem.W.Frag} {G H : Hp} {N : List Str} {vs : List V} {ds : List D} (le : Le G H) (l : IsL K G vs ds) : Rel K G H (L2.start N vs) (start0 N.length ds) (fun _ => []) where
  le := le
  len := by simp [L2.start, start0, l.length]
  sl := fun i o h => by
    unfold start0 at h
    unfold L2.start
    rw [List.getElem?_append] at h
    split at h
    · rename_i hl
      rw [List.length_map] at hl
      rw [List.getElem?_map] at h
      cases q : ds[i]? with
      | none => rw [q] at h; cases h
      | some d =>
        rw [q] at h
        cases h
        obtain ⟨v, e, is⟩ := l.get q
        refine ⟨v, ?_, .fz is⟩
        rw [List.getElem?_append_left (by rw [List.length_map, l.length]; exact hl), List.getElem?_map, e]
        rfl
    · rw [List.getElem?_replicate] at h
      split at h <;> cases h
  em := fun _ _ => rfl
  dj := fun _ _ _ h => nomatch h
section
variable {P : Program} {w : World} {K : PySem.W.Frag} {mg : Str → Option Value} {base : Heap} {x qual : Str} {params : Arguments} {body : List Stmt} {scope : Scope} {dvs : List V} {kws : List (Str × V)} {f : Addr} {fd : FuncData}
/-- what a body's end hands back -/
def ends (o : Option Out) : Option O := match o with
  | some (.rt o _) => some o
  | some (.nx _) => some (.fz .non)
  | _ => none
theorem fn_P {N ps : List Str} {k : Nat} {sp : List D → Option O} (Fn : FunD K x qual params body scope dvs kws f fd) (S : FnScope N ps scope) (g : FS) (hlen : ∀ ds o, sp ds = some o → ds.length = ps.length)
    (hb : ∀ (cdv : Value) (A : Around) (outer : List PySem.Env) (s : Shared) (H : Hp) (E : XK), Room k (A.deeper (envOfC qual scope s.heap.objs.size f cdv)) → DSs (cxOf CX0 P w K mg base N qual scope f cdv A outer s H E).nox body g)
    (hg : ∀ ds o, sp ds = some o → ends (g (start0 N.length ds)) = some o) : FnOk P w K mg base CX0 (k + 1) f fd ps (spP K sp) := by
  refine Fn.ok S (fun vs H Q E ⟨G, ds, o, le, l, e, _⟩ => l.length.trans (hlen ds o e)) fun cdv A outer s H vs Q E hr ⟨G, ds, o, le, l, e, q⟩ => ⟨_, (hb cdv A outer s H E hr).nox, ?_⟩
  have h := hg ds o e
  cases r : g (start0 N.length ds) with
  | none => rw [r] at h; cases h
  | some out =>
    rw [r] at h
    refine ⟨G, _, _, out, rel_start le l, r, ?_⟩
    have noU : ∀ a, U (fun _ : Nat => ([] : List Addr)) a → False := fun a ⟨_, z⟩ => nomatch z
    cases out with
    | nx ρ =>
      cases h
      exact fun σ' H' G' fps' R' f' => q .non H' G' [] R'.le (.fz .non) (f'.mono (fun a z => (noU a z).elim) fun a z => nomatch z)
    | rt o1 ρ =>
      cases h
      exact fun v σ' H' G' fps' fv R' f' w dj => q v H' G' fv R'.le w (f'.mono (fun a z => (noU a z).elim) fun a z => .inr z)
    | bk ρ => cases h
    | ct ρ => cases h
end
end T
namespace T
open PySem PySem.Spec PyProof.Rows L2

/-! ### while -/
def whileN (c : F Bool) (b : FS) : Nat → FS
  | 0, _ => none
  | n + 1, ρ => match c ρ with
    | some (true, ρ1) => match b ρ1 with
      | some (.nx ρ2) => whileN c b n ρ2
      | some (.ct ρ2) => whileN c b n ρ2
      | some (.bk ρ2) => some (.nx ρ2)
      | o => o
    | some (false, ρ1) => some (.nx ρ1)
    | none => none
def sWhile (c : F Bool) (b : FS) (n : Env → Nat) : FS := fun ρ => whileN c b (n ρ) ρ
section
variable {X : Cx} {e : Expr} {pos pos' : Pos}
theorem ds_while (n : Env → Nat) {c : Expr} {body : List Stmt} {fc : F Bool} {b : FS} (hp : PassesOwn (model X.prog X.w) X.A X.env X.xe) (hc : DT X c fc) (hb : DSs X body b) : DS X (.While c body [] pos) (sWhile fc b n) :=
  PS.imp (ps_while hp hc hb) fun Dn σ H ⟨G, ρ, fps, o, R, e, k⟩ => by
    refine ⟨fun m σ H => ∃ G ρ fps o, Rel X.K G H σ ρ fps ∧ whileN fc b m ρ = some o ∧ Post X.K Dn G H fps o, ⟨n ρ, G, ρ, fps, o, R, e, k⟩, ?_⟩
    rintro m σ H ⟨G, ρ, fps, o, R, e, k⟩
    cases m with
    | zero => cases e
    | succ m =>
      simp only [whileN] at e
      cases q : fc ρ with
      | none => rw [q] at e; cases e
      | some p =>
        obtain ⟨b1, ρ1⟩ := p
        rw [q] at e
        refine ⟨G, ρ, fps, b1, ρ1, R, q, fun H' G' fps' R' f' => ?_⟩
        cases b1 with
        | false =>
          rw [if_neg Bool.false_ne_true]
          cases e
          exact k σ H' G' fps' R' f'
        | true =>
          rw [if_pos rfl]
          dsimp only at e
          refine ⟨fun σ' H' => ∃ G ρ fps o, Rel X.K G H' σ' ρ fps ∧ whileN fc b m ρ = some o ∧ Post X.K Dn G H' fps o, fun σ' H' z => ⟨m, Nat.lt_succ_self m, z⟩, ?_⟩
          cases q2 : b ρ1 with
          | none => rw [q2] at e; cases e
          | some o1 =>
            rw [q2] at e
            refine ⟨G', ρ1, fps', o1, R', q2, ?_⟩
            cases o1 with
            | nx ρ2 => exact fun σ2 H2 G2 fps2 R2 f2 => ⟨G2, ρ2, fps2, o, R2, e, k.fr (f'.trans f2)⟩
            | ct ρ2 => exact fun σ2 H2 G2 fps2 R2 f2 => ⟨G2, ρ2, fps2, o, R2, e, k.fr (f'.trans f2)⟩
            | bk ρ2 =>
              cases e
              exact fun σ2 H2 G2 fps2 R2 f2 => k σ2 H2 G2 fps2 R2 (f'.trans f2)
            | rt o2 ρ2 =>
              cases e
              exact fun v σ2 H2 G2 fps2 fv R2 f2 w dj => k v σ2 H2 G2 fps2 fv R2 (f'.trans f2) w dj

/-! ### what is walked -/
/-- from G0 on the iterator J gives ds -/
structure DWalk (K : PySem.W.Frag) (G0 : Hp) (J : It) (ds : List D) : Prop where
  goes : ∀ i H, i < ds.length → Le G0 H → J.go i H
  stops : ∀ H, Le G0 H → J.stop ds.length H
  yields : ∀ i H x H' G, i < ds.length → Same G0 G → Le G H → J.yld i H x H' → ∃ G' d, ds[i]? = some d ∧ Grow G H G' H' ∧ Is K G' x d
def tI (K : PySem.W.Frag) (f : F (List D)) : TI := fun σ H R => ∃ G ρ fps ds ρ', Rel K G H σ ρ fps ∧ f ρ = some (ds, ρ') ∧
  ∀ J H' G' fps', Rel K G' H' σ ρ' fps' → Fr G H (U fps) G' H' (U fps') → DWalk K G' J ds → R J H'
abbrev DI (X : Cx) (tg it : Expr) (f : F (List D)) : Prop := PI X tg it (tI X.K f)
theorem PI.imp {X : Cx} {tg e : Expr} {t t' : TI} (h : PI X tg e t) (k : ∀ σ H R, t' σ H R → t σ H R) : PI X tg e t' := ⟨fun pins s σ H R I q => h.run pins s σ H R I (k _ _ _ q)⟩
theorem PI.or {X : Cx} {tg e : Expr} {t t' : TI} (h : PI X tg e t) (h' : PI X tg e t') : PI X tg e (fun σ H R => t σ H R ∨ t' σ H R) := ⟨fun pins s σ H R I q => q.elim (h.run pins s σ H R I) (h'.run pins s σ H R I)⟩
theorem dwalk_list {K : PySem.W.Frag} {G : Hp} {a : Addr} {vs : List V} {ds : List D} (s : SqL K G a vs) (l : IsL K G vs ds) : DWalk K G (Itl K a) ds where
  goes := fun i H hi le => walk_list.goes i H (by rw [l.length]; exact hi) (le.sqL s)
  stops := fun H le => by rw [← l.length]; exact walk_list.stops H (le.sqL s)
  yields := fun i H x H' G1 hi sg le y => by
    obtain ⟨rfl, e⟩ := walk_list.yields i H x H' (by rw [l.length]; exact hi) (((Le.of sg).trans le).sqL s) y
    obtain ⟨v, e1, i1⟩ := l.get (List.getElem?_eq_getElem hi)
    rw [e] at e1
    cases e1
    exact ⟨G1, _, List.getElem?_eq_getElem hi, .no, Is.le (.of sg) _ i1⟩
theorem dwalk_tup {K : PySem.W.Frag} {G : Hp} {a : Addr} {vs : List V} {ds : List D} (s : SqT K G a vs) (l : IsL K G vs ds) : DWalk K G (Itt K a) ds where
  goes := fun i H hi le => walk_tup.goes i H (by rw [l.length]; exact hi) (le.sqT s)
  stops := fun H le => by rw [← l.length]; exact walk_tup.stops H (le.sqT s)
  yields := fun i H x H' G1 hi sg le y => by
    obtain ⟨rfl, e⟩ := walk_tup.yields i H x H' (by rw [l.length]; exact hi) (((Le.of sg).trans le).sqT s) y
    obtain ⟨v, e1, i1⟩ := l.get (List.getElem?_eq_getElem hi)
    rw [e] at e1
    cases e1
    exact ⟨G1, _, List.getElem?_eq_getElem hi, .no, Is.le (.of sg) _ i1⟩
def rngL (lo : Int) (n : Nat) : List D := (List.range n).map fun i => .int (lo + (i : Nat))
theorem rngL_length (lo : Int) (n : Nat) : (rngL lo n).length = n := by simp [rngL]
theorem rngL_get {lo : Int} {n i : Nat} (h : i < n) : (rngL lo n)[i]? = some (.int (lo + i)) := by simp [rngL, h]
theorem dwalk_range {K : PySem.W.Frag} {G : Hp} {lo : Int} {n : Nat} : DWalk K G (Itr lo n) (rngL lo n) where
  goes := fun i H hi le => by rw [rngL_length] at hi; exact walk_range.goes i H hi trivial
  stops := fun H le => by rw [rngL_length]; exact walk_range.stops H trivial
  yields := fun i H x H' G1 hi sg le y => by
    rw [rngL_length] at hi
    obtain ⟨rfl, e⟩ := walk_range.yields i H x H' hi trivial y
    exact ⟨G1, _, rngL_get hi, .no, by rw [e]; exact .int _⟩
/-- the items of a list or a tuple -/
def seqD : D → Option (List D)
  | .lst xs => some xs
  | .scr xs => some xs
  | .tup xs => some xs
  | _ => none
theorem di_seq {tg : Expr} {f : F D} (he : DE X e f) : DI X tg e (mapF f seqD) := PI.imp (PI.or (pi_list he) (pi_tup he)) fun σ H R ⟨G, ρ, fps, ds, ρ', Rl, e, k⟩ => by
  obtain ⟨d, e1, e2⟩ := mapF_some e
  cases d <;> simp only [seqD, reduceCtorEq] at e2
  · cases e2
    refine .inr ⟨G, ρ, fps, _, ρ', Rl, e1, fun v H' G' fps' R' f' i => ?_⟩
    obtain ⟨a, vs, rfl, s, l⟩ := i.tup_inv
    exact ⟨a, rfl, ⟨vs, R'.le.sqT s⟩, k _ H' G' fps' R' f' (dwalk_tup s l)⟩
  · cases e2
    refine .inl ⟨G, ρ, fps, _, ρ', Rl, e1, fun v H' G' fps' R' f' i => ?_⟩
    obtain ⟨a, vs, rfl, s, l⟩ := i.lst_inv
    exact ⟨a, rfl, ⟨vs, .of (R'.le.lst s)⟩, k _ H' G' fps' R' f' (dwalk_list (.of s) l)⟩
  · cases e2
    refine .inl ⟨G, ρ, fps, _, ρ', Rl, e1, fun v H' G' fps' R' f' i => ?_⟩
    obtain ⟨a, vs, rfl, s, l⟩ := i.scr_inv
    exact ⟨a, rfl, ⟨vs, R'.le.sqL s⟩, k _ H' G' fps' R' f' (dwalk_list s l)⟩
def rng1 : List D → Option (List D)
  | [.int j] => if -(2 ^ 62) ≤ j ∧ j < 2 ^ 62 then some (rngL 0 j.toNat) else none
  | _ => none
def rng2 : List D → Option (List D)
  | [.int i, .int j] => if -(2 ^ 62) ≤ i ∧ i < 2 ^ 62 ∧ -(2 ^ 62) ≤ j ∧ j < 2 ^ 62 then some (rngL i (j - i).toNat) else none
  | _ => none
theorem isL_1 {K : PySem.W.Frag} {G : Hp} {vs : List V} {d : D} (h : IsL K G vs [d]) : ∃ v, vs = [v] ∧ Is K G v d := by
  cases h with
  | cons i r => cases r; exact ⟨_, rfl, i⟩
theorem isL_2 {K : PySem.W.Frag} {G : Hp} {vs : List V} {d d' : D} (h : IsL K G vs [d, d']) : ∃ v v', vs = [v, v'] ∧ Is K G v d ∧ Is K G v' d' := by
  cases h with
  | cons i r =>
    obtain ⟨v, rfl, i'⟩ := isL_1 r
    exact ⟨_, _, rfl, i, i'⟩
theorem isL_3 {K : PySem.W.Frag} {G : Hp} {vs : List V} {d d' d'' : D} (h : IsL K G vs [d, d', d'']) : ∃ v v' v'', vs = [v, v', v''] ∧ Is K G v d ∧ Is K G v' d' ∧ Is K G v'' d'' := by
  cases h with
  | cons i r =>
    obtain ⟨v, v', rfl, i', i''⟩ := isL_2 r
    exact ⟨_, _, _, rfl, i, i', i''⟩
variable {a b : Expr} {p : Pos}
theorem di_range1 {tg : Expr} {f : F (List D)} (hg : Gl X "range") (hm : X.mg "range" = none) (ha : DA X [a] f) (hs : starEach [a] X.env = [(false, eval a X.env)] := by rfl) : DI X tg (.Call (.Name "range" p) [a] [] pos) (mapF f rng1) :=
  PI.imp (pi_range1 hg hm ha hs) fun σ H R ⟨G, ρ, fps, ds, ρ', Rl, e, k⟩ => by
    obtain ⟨d, e1, e2⟩ := mapF_some e
    unfold rng1 at e2
    split at e2
    · split at e2
      · rename_i h
        cases e2
        refine ⟨G, ρ, fps, _, ρ', Rl, e1, fun v H' G' fps' R' f' i => ?_⟩
        obtain ⟨v, rfl, i2⟩ := isL_1 i
        exact ⟨_, by rw [i2.int_inv], h.1, h.2, k _ H' G' fps' R' f' dwalk_range⟩
      · cases e2
    · cases e2
theorem di_range2 {tg : Expr} {f : F (List D)} (hg : Gl X "range") (hm : X.mg "range" = none) (ha : DA X [a, b] f) (hs : starEach [a, b] X.env = [(false, eval a X.env), (false, eval b X.env)] := by rfl) (hs2 : starEach [b] X.env = [(false, eval b X.env)] := by rfl) :
    DI X tg (.Call (.Name "range" p) [a, b] [] pos) (mapF f rng2) :=
  PI.imp (pi_range2 hg hm ha hs hs2) fun σ H R ⟨G, ρ, fps, ds, ρ', Rl, e, k⟩ => by
    obtain ⟨d, e1, e2⟩ := mapF_some e
    unfold rng2 at e2
    split at e2
    · split at e2
      · rename_i h
        cases e2
        refine ⟨G, ρ, fps, _, ρ', Rl, e1, fun v H' G' fps' R' f' i => ?_⟩
        obtain ⟨v, v', rfl, i2, i3⟩ := isL_2 i
        exact ⟨_, _, by rw [i2.int_inv, i3.int_inv], h, k _ H' G' fps' R' f' dwalk_range⟩
      · cases e2
    · cases e2
/-- pairs of the two -/
def pairs : List D → List D → List D
  | x :: xs, y :: ys => .tup [x, y] :: pairs xs ys
  | _, _ => []
theorem pairs_length : ∀ xs ys : List D, (pairs xs ys).length = min xs.length ys.length
  | [], _ => by simp [pairs]
  | _ :: _, [] => by simp [pairs]
  | x :: xs, y :: ys => by simp [pairs, pairs_length xs ys]
theorem pairs_get : ∀ {xs ys : List D} {i : Nat} {x y : D}, xs[i]? = some x → ys[i]? = some y → (pairs xs ys)[i]? = some (.tup [x, y])
  | [], _, _, _, _, h, _ => by simp at h
  | _ :: _, [], _, _, _, _, h => by simp at h
  | a :: xs, b :: ys, 0, _, _, h, h' => by simp at h h'; subst h; subst h'; rfl
  | a :: xs, b :: ys, i + 1, _, _, h, h' => by
    simp only [pairs, List.getElem?_cons_succ] at h h' ⊢
    exact pairs_get h h'
theorem pair_new {K : PySem.W.Frag} {G H : Hp} {T : Addr} {x y : V} {dx dy : D} (le : Le G H) (hT : H T = none) (ix : Is K G x dx) (iy : Is K G y dy) : Is K (upd G T (.tup [x, y])) (.ref T) (.tup [dx, dy]) :=
  .tup (.inl (.inl upd_same)) (new_isL le hT (.cons ix (.cons iy .nil)))
theorem dwalk_zip {K : PySem.W.Frag} {G : Hp} {a b : Addr} {xs ys : List V} {ds es : List D} (s1 : SqL K G a xs) (l1 : IsL K G xs ds) (s2 : SqL K G b ys) (l2 : IsL K G ys es) : DWalk K G (Itz K a b) (pairs ds es) := by
  have hn : (pairs ds es).length = min xs.length ys.length := by rw [pairs_length, l1.length, l2.length]
  have w := walk_zip (K := K) (a := a) (b := b) (xs := xs) (ys := ys) hn
  refine ⟨fun i H hi le => w.goes i H hi ⟨le.sqL s1, le.sqL s2⟩, fun H le => w.stops H ⟨le.sqL s1, le.sqL s2⟩, fun i H x H' G1 hi sg le y => ?_⟩
  have le' := (Le.of sg).trans le
  obtain ⟨T, x1, y1, rfl, hT, rfl, ex, ey⟩ := w.yields i H x H' hi ⟨le'.sqL s1, le'.sqL s2⟩ y
  dsimp only at ex ey
  rw [hn] at hi
  have h1 : i < ds.length := by rw [← l1.length]; omega
  have h2 : i < es.length := by rw [← l2.length]; omega
  obtain ⟨v, e1, i1⟩ := l1.get (List.getElem?_eq_getElem h1)
  obtain ⟨u, e2, i2⟩ := l2.get (List.getElem?_eq_getElem h2)
  rw [ex] at e1; cases e1
  rw [ey] at e2; cases e2
  exact ⟨_, _, pairs_get (List.getElem?_eq_getElem h1) (List.getElem?_eq_getElem h2), .one T _ hT, pair_new le hT (Is.le (.of sg) _ i1) (Is.le (.of sg) _ i2)⟩
theorem dwalk_zipT {K : PySem.W.Frag} {G : Hp} {a b : Addr} {xs ys : List V} {ds es : List D} (s1 : SqT K G a xs) (l1 : IsL K G xs ds) (s2 : SqT K G b ys) (l2 : IsL K G ys es) : DWalk K G (RZ.ItzT K a b) (pairs ds es) := by
  have hn : (pairs ds es).length = min xs.length ys.length := by rw [pairs_length, l1.length, l2.length]
  refine ⟨fun i H hi le => ?_, fun H le => ?_, fun i H x H' G1 hi sg le y => ?_⟩
  · rw [hn] at hi
    have h1 : i < xs.length := by omega
    have h2 : i < ys.length := by omega
    exact ⟨xs, ys, xs[i], ys[i], le.sqT s1, le.sqT s2, by simp [h1], by simp [h2]⟩
  · rw [hn]
    exact ⟨xs, ys, le.sqT s1, le.sqT s2, by omega⟩
  · have le' := (Le.of sg).trans le
    obtain ⟨T, x1, y1, rfl, hT, rfl, ex, ey⟩ := y
    have ex := ex xs (le'.sqT s1)
    have ey := ey ys (le'.sqT s2)
    rw [hn] at hi
    have h1 : i < ds.length := by rw [← l1.length]; omega
    have h2 : i < es.length := by rw [← l2.length]; omega
    obtain ⟨v, e1, i1⟩ := l1.get (List.getElem?_eq_getElem h1)
    obtain ⟨u, e2, i2⟩ := l2.get (List.getElem?_eq_getElem h2)
    rw [ex] at e1; cases e1
    rw [ey] at e2; cases e2
    exact ⟨_, _, pairs_get (List.getElem?_eq_getElem h1) (List.getElem?_eq_getElem h2), .one T _ hT, pair_new le hT (Is.le (.of sg) _ i1) (Is.le (.of sg) _ i2)⟩
def zipD : List D → Option (List D)
  | [.lst xs, .lst ys] => some (pairs xs ys)
  | [.tup xs, .tup ys] => some (pairs xs ys)
  | _ => none
theorem di_zip {f : F (List D)} {tpos : Pos} {elts : List Expr} {kk : Nat} (hg : Gl X "zip") (hm : X.mg "zip" = none) (ha : DA X [a, b] f)
    (hs : starEach [a, b] X.env = (false, eval a X.env) :: starEach [b] X.env := by rfl) (hpl : (backTo pos (starEach [b] X.env)).any (·.1) = false := by rfl) :
    DI X (.Tuple elts kk tpos) (.Call (.Name "zip" p) [a, b] [] pos) (mapF f zipD) := PI.imp (RZ.pi_zipA hg hm ha hs hpl) fun σ H R ⟨G, ρ, fps, ds, ρ', Rl, e, k⟩ => by
  obtain ⟨d, e1, e2⟩ := mapF_some e
  unfold zipD at e2
  split at e2
  · cases e2
    refine ⟨G, ρ, fps, _, ρ', Rl, e1, fun v H' G' fps' R' f' i => ?_⟩
    obtain ⟨v, v', rfl, i2, i3⟩ := isL_2 i
    obtain ⟨a, xs, rfl, s1, l1⟩ := i2.lst_inv
    obtain ⟨b, ys, rfl, s2, l2⟩ := i3.lst_inv
    exact ⟨a, b, xs, ys, rfl, .inl ⟨.of (R'.le.lst s1), .of (R'.le.lst s2), k _ H' G' fps' R' f' (dwalk_zip (.of s1) l1 (.of s2) l2)⟩⟩
  · cases e2
    refine ⟨G, ρ, fps, _, ρ', Rl, e1, fun v H' G' fps' R' f' i => ?_⟩
    obtain ⟨v, v', rfl, i2, i3⟩ := isL_2 i
    obtain ⟨a, xs, rfl, s1, l1⟩ := i2.tup_inv
    obtain ⟨b, ys, rfl, s2, l2⟩ := i3.tup_inv
    exact ⟨a, b, xs, ys, rfl, .inr ⟨R'.le.sqT s1, R'.le.sqT s2, k _ H' G' fps' R' f' (dwalk_zipT s1 l1 s2 l2)⟩⟩
  · cases e2
theorem dwalk_enum {K : PySem.W.Frag} {G : Hp} {a : Addr} {xs : List V} {ds : List D} (s1 : SqL K G a xs) (l1 : IsL K G xs ds) : DWalk K G (Ite K a) (pairs (rngL 0 ds.length) ds) := by
  have hn : (pairs (rngL 0 ds.length) ds).length = xs.length := by rw [pairs_length, rngL_length, l1.length]; omega
  refine ⟨fun i H hi le => walk_enum.goes i H (by rw [← hn]; exact hi) (le.sqL s1), fun H le => by rw [hn]; exact walk_enum.stops H (le.sqL s1), fun i H x H' G1 hi sg le y => ?_⟩
  have le' := (Le.of sg).trans le
  rw [hn] at hi
  obtain ⟨T, x1, y1, rfl, hT, rfl, ex, ey⟩ := walk_enum.yields i H x H' hi (le'.sqL s1) y
  dsimp only at ex ey
  have h1 : i < ds.length := by rw [← l1.length]; omega
  obtain ⟨v, e1, i1⟩ := l1.get (List.getElem?_eq_getElem h1)
  rw [ey] at e1; cases e1
  cases ex
  refine ⟨_, _, pairs_get (rngL_get h1) (List.getElem?_eq_getElem h1), .one T _ hT, pair_new le hT ?_ (Is.le (.of sg) _ i1)⟩
  rw [Int.zero_add]
  exact .int _
def enumD : List D → Option (List D)
  | [.lst xs] => some (pairs (rngL 0 xs.length) xs)
  | [.scr xs] => some (pairs (rngL 0 xs.length) xs)
  | _ => none
theorem di_enum {f : F (List D)} {tpos : Pos} {elts : List Expr} {kk : Nat} (hg : Gl X "enumerate") (hm : X.mg "enumerate" = none) (ha : DA X [a] f) (hs : starEach [a] X.env = [(false, eval a X.env)] := by rfl) :
    DI X (.Tuple elts kk tpos) (.Call (.Name "enumerate" p) [a] [] pos) (mapF f enumD) := PI.imp (pi_enum hg hm ha hs) fun σ H R ⟨G, ρ, fps, ds, ρ', Rl, e, k⟩ => by
  obtain ⟨d, e1, e2⟩ := mapF_some e
  unfold enumD at e2
  split at e2
  · cases e2
    refine ⟨G, ρ, fps, _, ρ', Rl, e1, fun v H' G' fps' R' f' i => ?_⟩
    obtain ⟨v, rfl, i2⟩ := isL_1 i
    obtain ⟨a, xs, rfl, s1, l1⟩ := i2.lst_inv
    exact ⟨a, xs, rfl, .of (R'.le.lst s1), k _ H' G' fps' R' f' (dwalk_enum (.of s1) l1)⟩
  · cases e2
    refine ⟨G, ρ, fps, _, ρ', Rl, e1, fun v H' G' fps' R' f' i => ?_⟩
    obtain ⟨v, rfl, i2⟩ := isL_1 i
    obtain ⟨a, xs, rfl, s1, l1⟩ := i2.scr_inv
    exact ⟨a, xs, rfl, R'.le.sqL s1, k _ H' G' fps' R' f' (dwalk_enum s1 l1)⟩
  · cases e2

/-! ### for -/
def loop (g : FG) (b : FS) : List D → FS
  | [], ρ => some (.nx ρ)
  | d :: ds, ρ => match g (.fz d) ρ with
    | some ρ1 => match b ρ1 with
      | some (.nx ρ2) => loop g b ds ρ2
      | some (.ct ρ2) => loop g b ds ρ2
      | some (.bk ρ2) => some (.nx ρ2)
      | o => o
    | none => none
def sFor (f : F (List D)) (g : FG) (b : FS) : FS := fun ρ => match f ρ with
  | some (ds, ρ1) => loop g b ds ρ1
  | none => none
theorem drop_get {α : Type} {l : List α} {i : Nat} {x : α} (h : l[i]? = some x) : l.drop i = x :: l.drop (i + 1) := by
  obtain ⟨hi, e⟩ := List.getElem?_eq_some_iff.mp h
  rw [List.drop_eq_getElem_cons hi, e]
theorem ds_for {tg it : Expr} {body : List Stmt} {f : F (List D)} {ws : List Nat} {g : FG} {b : FS} (hp : PassesOwn (model X.prog X.w) X.A X.env X.xe) (hc : X.calm = true) (hi : DI X tg it f) (hg : DG X tg ws g) (hb : DSs X body b)
    (hs : ∀ x, foldedSetIterable it X.env x = pure x := by intro _; rfl) : DS X (.For tg it body [] pos) (sFor f g b) :=
  PS.imp (ps_for hp hc hi hg hb hs) fun Dn σ H ⟨G, ρ, fps, o, R, e, k⟩ => by
    unfold sFor at e
    cases q : f ρ with
    | none => rw [q] at e; cases e
    | some pr =>
      obtain ⟨ds, ρ1⟩ := pr
      rw [q] at e
      refine ⟨G, ρ, fps, ds, ρ1, R, q, fun J H1 G1 fps1 R1 f1 dw => ?_⟩
      refine ⟨fun i m σ H => m = ds.length - i ∧ i ≤ ds.length ∧ ∃ G ρ fps o, Rel X.K G H σ ρ fps ∧ loop g b (ds.drop i) ρ = some o ∧ Post X.K Dn G H fps o ∧ Same G1 G, ⟨ds.length, by simp, Nat.zero_le _, G1, ρ1, fps1, o, R1, e, k.fr f1, Same.refl _⟩, ?_⟩
      rintro i m σ2 H2 ⟨rfl, hi, G2, ρ2, fps2, o2, R2, e2, k2, sg⟩
      by_cases hlt : i < ds.length
      · refine .inr ⟨dw.goes i H2 hlt ((Le.of sg).trans R2.le), fun σ' H' => ∃ G ρ fps o, Rel X.K G H' σ' ρ fps ∧ loop g b (ds.drop (i + 1)) ρ = some o ∧ Post X.K Dn G H' fps o ∧ Same G1 G, fun σ' H' z => ⟨ds.length - (i + 1), by omega, rfl, hlt, z⟩, fun x H3 y => ?_⟩
        obtain ⟨G3, d, ed, gr, ix⟩ := dw.yields i H2 x H3 G2 hlt sg R2.le y
        obtain ⟨R3, f3⟩ := R2.grow gr
        rw [drop_get ed] at e2
        simp only [loop] at e2
        cases q3 : g (.fz d) ρ2 with
        | none => rw [q3] at e2; cases e2
        | some ρ3 =>
          rw [q3] at e2
          refine ⟨G3, ρ2, fps2, .fz d, [], ρ3, R3, .fz ix, fun _ z => (nomatch z), q3, fun σ4 H4 G4 fps4 R4 f4 _ _ => ?_⟩
          have f4' := f4.mono (E := U fps2) (E' := U fps4) (fun a z => z.elim id fun y => nomatch y) fun _ z => z
          have f5 := f3.trans f4'
          dsimp only at e2
          cases q4 : b ρ3 with
          | none => rw [q4] at e2; cases e2
          | some o4 =>
            rw [q4] at e2
            refine ⟨G4, ρ3, fps4, o4, R4, q4, ?_⟩
            cases o4 with
            | nx ρ5 => exact fun σ5 H5 G5 fps5 R5 f6 => ⟨G5, ρ5, fps5, o2, R5, e2, k2.fr (f5.trans f6), sg.trans (f5.trans f6).gg⟩
            | ct ρ5 => exact fun σ5 H5 G5 fps5 R5 f6 => ⟨G5, ρ5, fps5, o2, R5, e2, k2.fr (f5.trans f6), sg.trans (f5.trans f6).gg⟩
            | bk ρ5 =>
              cases e2
              exact fun σ5 H5 G5 fps5 R5 f6 => k2 σ5 H5 G5 fps5 R5 (f5.trans f6)
            | rt o5 ρ5 =>
              cases e2
              exact fun v σ5 H5 G5 fps5 fv R5 f6 w dj => k2 v σ5 H5 G5 fps5 fv R5 (f5.trans f6) w dj
      · have e' : i = ds.length := by omega
        subst e'
        refine .inl ⟨dw.stops H2 ((Le.of sg).trans R2.le), ?_⟩
        rw [List.drop_length] at e2
        cases e2
        exact k2 σ2 H2 G2 fps2 R2 Fr.refl

/-! ### comprehensions -/
def wipeE (ρ : Env) : List Nat → Env
  | [] => ρ
  | i :: is => wipeE (ρ.set i none) is
/-- behind it: the block's own names are as they were (what was owned is forgotten) -/
def backE (ρ0 : Env) : List Nat → Env → Env
  | [], ρ => ρ
  | i :: is, ρ => backE ρ0 is (match ρ0[i]? with
    | some (some (.fz d)) => ρ.set i (some (.fz d))
    | _ => ρ.set i none)
def comp (g : FG) (t : F Bool) (e : F D) (own : List Nat) : List D → List D → Env → Option (List D × Env)
  | [], acc, ρ => some (acc, ρ)
  | d :: ds, acc, ρ => match g (.fz d) ρ with
    | some ρ1 => match t ρ1 with
      | some (true, ρ2) => match e ρ2 with
        | some (y, ρ3) => if acc.length < sizeLine then comp g t e own ds (acc ++ [y]) (wipeE ρ3 own) else none
        | none => none
      | some (false, ρ2) => comp g t e own ds acc (wipeE ρ2 own)
      | none => none
    | none => none
def eComp (f : F (List D)) (g : FG) (t : F Bool) (e : F D) (own : List Nat) : F O := fun ρ => match f ρ with
  | some (ds, ρ1) => match comp g t e own ds [] (wipeE ρ1 own) with
    | some (ys, ρ2) => some (.lst none (ys.map .fz), backE ρ1 own ρ2)
    | none => none
  | none => none
theorem wipe_get (vs : List Nat) (σ : L2.St) (j : Nat) : (wipe σ vs)[j]? = if j ∈ vs then (if j < σ.length then some none else none) else σ[j]? := by
  induction vs with
  | nil => simp [wipe]
  | cons i is ih =>
    have e : wipe σ (i :: is) = (wipe σ is).set i none := rfl
    rw [e]
    by_cases h2 : j = i
    · subst h2
      rw [if_pos List.mem_cons_self]
      by_cases h3 : j < σ.length
      · rw [if_pos h3, List.getElem?_set_self (by rw [wipe_length]; exact h3)]
      · rw [if_neg h3, List.getElem?_eq_none]; simp [wipe_length]; omega
    · rw [List.getElem?_set_ne (Ne.symm h2), ih]
      by_cases h1 : j ∈ is
      · rw [if_pos h1, if_pos (List.mem_cons_of_mem _ h1)]
      · rw [if_neg h1, if_neg (by simp [h1, h2])]
theorem wipeE_get (vs : List Nat) : ∀ (σ : Env) (j : Nat), (wipeE σ vs)[j]? = if j ∈ vs then (if j < σ.length then some none else none) else σ[j]? := by
  induction vs with
  | nil => intro σ j; simp [wipeE]
  | cons i is ih =>
    intro σ j
    have e : wipeE σ (i :: is) = wipeE (σ.set i none) is := rfl
    rw [e, ih]
    by_cases h1 : j ∈ is
    · rw [if_pos h1, if_pos (List.mem_cons_of_mem _ h1)]; simp
    · rw [if_neg h1]
      by_cases h2 : j = i
      · subst h2
        rw [if_pos List.mem_cons_self]
        by_cases h3 : j < σ.length
        · rw [if_pos h3, List.getElem?_set_self h3]
        · rw [if_neg h3, List.getElem?_eq_none]; simp; omega
      · rw [if_neg (by simp [h1, h2]), List.getElem?_set_ne (Ne.symm h2)]
theorem wipeE_no {vs : List Nat} {ρ : Env} : ∀ j ∈ vs, ∀ o : O, (wipeE ρ vs)[j]? ≠ some (some o) := fun j hj o z => by
  rw [wipeE_get, if_pos hj] at z
  split at z <;> cases z
theorem wipeE_length (vs : List Nat) : ∀ σ : Env, (wipeE σ vs).length = σ.length := by
  induction vs with
  | nil => intro σ; rfl
  | cons i is ih => intro σ; show (wipeE (σ.set i none) is).length = _; rw [ih]; simp
theorem wipe_same {σ σ' : L2.St} {vs ws : List Nat} (hs : ∀ j ∈ ws, j ∈ vs) (h : ∀ j, j ∉ ws → σ'[j]? = σ[j]?) (hl : σ'.length = σ.length) : wipe σ' vs = wipe σ vs := by
  apply List.ext_getElem?
  intro j
  rw [wipe_get, wipe_get, hl]
  by_cases q : j ∈ vs
  · rw [if_pos q, if_pos q]
  · rw [if_neg q, if_neg q]; exact h j fun z => q (hs j z)
theorem wipe_idem {σ : L2.St} {vs : List Nat} : wipe (wipe σ vs) vs = wipe σ vs := by
  apply List.ext_getElem?
  intro j
  rw [wipe_get, wipe_get, wipe_length]
  by_cases q : j ∈ vs
  · rw [if_pos q, if_pos q]
  · rw [if_neg q, if_neg q]
/-- the own names are forgotten -/
theorem Rel.wipe {K : PySem.W.Frag} {G H : Hp} {σ : L2.St} {ρ : Env} {fps : Fps} (R : Rel K G H σ ρ fps) (vs : List Nat) : ∃ fps', Rel K G H (L2.wipe σ vs) (wipeE ρ vs) fps' ∧ ∀ a, U fps' a → U fps a := by
  refine ⟨fun j => if j ∈ vs then [] else fps j, ⟨R.le, by rw [wipeE_length, wipe_length, R.len], fun j o q => ?_, fun j q => ?_, fun j k a ha hb => ?_⟩, fun a ⟨j, z⟩ => ?_⟩
  · rw [wipeE_get] at q
    by_cases h : j ∈ vs
    · rw [if_pos h] at q; split at q <;> cases q
    · rw [if_neg h] at q
      obtain ⟨v, e, w⟩ := R.sl j o q
      exact ⟨v, by rw [wipe_get, if_neg h]; exact e, by rw [if_neg h]; exact w⟩
  · by_cases h : j ∈ vs
    · rw [if_pos h]
    · rw [if_neg h]
      exact R.em j fun o e => q o (by rw [wipeE_get, if_neg h]; exact e)
  · by_cases h : j ∈ vs
    · rw [if_pos h] at ha; cases ha
    · by_cases h' : k ∈ vs
      · rw [if_pos h'] at hb; cases hb
      · rw [if_neg h] at ha
        rw [if_neg h'] at hb
        exact R.dj j k a ha hb
  · dsimp only at z
    by_cases h : j ∈ vs
    · rw [if_pos h] at z; cases z
    · rw [if_neg h] at z; exact ⟨j, z⟩
/-- behind the block -/
theorem Rel.unwipe {K : PySem.W.Frag} {G H G' H' : Hp} {σ : L2.St} {ρ0 : Env} {fps0 : Fps} (R0 : Rel K G H σ ρ0 fps0) (sg : Same G G') : ∀ (vs : List Nat) {ρ : Env} {fps : Fps} {τ : L2.St}, Rel K G' H' τ ρ fps → (∀ j, j ∉ vs → τ[j]? = σ[j]?) → τ.length = σ.length → (∀ j ∈ vs, ∀ o, ρ[j]? ≠ some (some o)) →
    ∃ fps', Rel K G' H' σ (backE ρ0 vs ρ) fps' ∧ ∀ a, U fps' a → U fps a := by
  intro vs ρ fps τ R hτ hl hv
  -- a state between: the slots of vs told by σ
  have key : ∀ (vs : List Nat) (ρ : Env) (fps : Fps), Rel K G' H' σ ρ fps → ∃ fps', Rel K G' H' σ (backE ρ0 vs ρ) fps' ∧ ∀ a, U fps' a → U fps a := by
    intro vs
    induction vs with
    | nil => intro ρ fps R; exact ⟨fps, R, fun _ z => z⟩
    | cons i is ih =>
      intro ρ fps R
      simp only [backE]
      -- forget slot i first
      have hf : ∃ fps', Rel K G' H' σ (ρ.set i none) fps' ∧ ∀ a, U fps' a → U fps a := by
        refine ⟨fun j => if j = i then [] else fps j, ⟨R.le, by simpa using R.len, fun j o' q => ?_, fun j q => ?_, fun j k a ha hb => ?_⟩, fun a ⟨j, z⟩ => ?_⟩
        · by_cases hj : j = i
          · subst hj
            by_cases hi : j < ρ.length
            · rw [List.getElem?_set_self hi] at q; cases q
            · rw [List.getElem?_eq_none (by simp; omega)] at q; cases q
          · rw [List.getElem?_set_ne (Ne.symm hj)] at q
            obtain ⟨v', e', w'⟩ := R.sl j o' q
            exact ⟨v', e', by rw [if_neg hj]; exact w'⟩
        · by_cases hj : j = i
          · rw [if_pos hj]
          · rw [if_neg hj]
            refine R.em j fun o' e' => q o' ?_
            rw [List.getElem?_set_ne (Ne.symm hj)]
            exact e'
        · by_cases hj : j = i
          · rw [if_pos hj] at ha; cases ha
          · by_cases hk : k = i
            · rw [if_pos hk] at hb; cases hb
            · rw [if_neg hj] at ha
              rw [if_neg hk] at hb
              exact R.dj j k a ha hb
        · dsimp only at z
          by_cases hj : j = i
          · rw [if_pos hj] at z; cases z
          · rw [if_neg hj] at z; exact ⟨j, z⟩
      split
      · rename_i d q
        obtain ⟨v, e, w⟩ := R0.sl i _ q
        have iv : Is K G' v d := Is.le (.of sg) d w.fz_inv.1
        by_cases hi : i < ρ.length
        · obtain ⟨fps1, R1, s1⟩ := R.store (Ow.fz (H := H') iv) (fun _ y => nomatch y) hi
          have es : σ.set i (some v) = σ := by
            apply List.ext_getElem?
            intro j
            by_cases hj : j = i
            · subst hj
              rw [List.getElem?_set_self (List.getElem?_eq_some_iff.mp e).1, e]
            · rw [List.getElem?_set_ne (Ne.symm hj)]
          rw [es] at R1
          obtain ⟨fps2, R2, s2⟩ := ih _ _ R1
          exact ⟨fps2, R2, fun a z => (s1 a (s2 a z)).elim id fun y => nomatch y⟩
        · have es : ρ.set i (some (.fz d)) = ρ := List.set_eq_of_length_le (by omega)
          rw [es]
          exact ih _ _ R
      · obtain ⟨fps1, R1, s1⟩ := hf
        obtain ⟨fps2, R2, s2⟩ := ih _ _ R1
        exact ⟨fps2, R2, fun a z => s1 a (s2 a z)⟩
  refine key vs ρ fps ⟨R.le, R.len.trans hl, fun i o h => ?_, R.em, R.dj⟩
  obtain ⟨v, e, w⟩ := R.sl i o h
  refine ⟨v, ?_, w⟩
  rw [← hτ i fun z => hv i z o h]
  exact e
theorem Fr.addD {G H G' H' : Hp} {F F' : Addr → Prop} {D : Addr} (f : Fr G H F G' H' F') : Fr G H (fun a => F a ∨ a = D) G' H' (fun a => F' a ∨ a = D) :=
  ⟨f.gg, fun a u e n => f.keep a u e fun z => n (.inl z), f.live, fun a e => (f.gnew a e).imp id fun z => z.imp .inl id, fun a e => e.elim (fun z => (f.fnew a z).imp .inl id) fun z => .inl (.inr z)⟩
/-- a target, a test, an element within a comprehension's block -/
def DGb (X : Cx) (scope : Scope) (e : Expr) (ws : List Nat) (g : FG) : Prop := ∀ (s : Shared) (H : Hp) (C : Addr) (cl : List (Str × Addr)) (fp : List Addr), DG (X.blk s H scope (compEnvC scope cl C X.env) fp) e ws g
abbrev DTs (X : Cx) (es : List Expr) (f : F Bool) : Prop := PTs X es (tT X.K f)
def yesF : F Bool := fun ρ => some (true, ρ)
theorem PTs.imp {X : Cx} {e : List Expr} {t t' : TT} (h : PTs X e t) (k : ∀ σ H Q, t' σ H Q → t σ H Q) : PTs X e t' := ⟨fun pins s σ H Q I q => h.run pins s σ H Q I (k _ _ _ q)⟩
theorem dts_nil {X : Cx} : DTs X [] yesF := PTs.imp pts_nil fun σ H Q ⟨G, ρ, fps, b, ρ', R, e, k⟩ => by
  cases e
  exact k H G fps R Fr.refl
theorem dts_one {X : Cx} {c : Expr} {f : F Bool} (h : DT X c f) : DTs X [c] f := pts_one h
theorem lc_imp {X : Cx} {f : F (List D)} {g : FG} {t : F Bool} {el : F D} {ws vs : List Nat} (hws : ∀ j ∈ ws, j ∈ vs) :
    ∀ σ H Q, tO X.K (eComp f g t el vs) σ H Q → tLc (tI X.K f) (tG X.K ws g) (tT X.K t) (tE X.K el) vs σ H Q := fun σ H Q ⟨G, ρ, fps, o, ρ', R, e, k⟩ => by
  unfold eComp at e
  cases q : f ρ with
  | none => rw [q] at e; cases e
  | some pr =>
    obtain ⟨ds, ρ1⟩ := pr
    rw [q] at e
    dsimp only at e
    cases q0 : comp g t el vs ds [] (wipeE ρ1 vs) with
    | none => rw [q0] at e; cases e
    | some pr2 =>
      obtain ⟨ys, ρ2⟩ := pr2
      rw [q0] at e
      cases e
      refine ⟨G, ρ, fps, ds, ρ1, R, q, fun J H1 G1 fps1 R1 f1 dw Da hD => ?_⟩
      obtain ⟨RD, fD, gD, uD⟩ := R1.newO (u := .lst []) hD
      obtain ⟨fps2, R2, s2⟩ := RD.wipe vs
      -- the invariant
      refine ⟨fun i m H => m = ds.length - i ∧ i ≤ ds.length ∧ ∃ G ρ fps acc as, Rel X.K G H (wipe σ vs) ρ fps ∧ H Da = some (.lst acc) ∧ G Da = none ∧ ¬ U fps Da ∧ IsL X.K G acc as ∧ comp g t el vs (ds.drop i) as ρ = some (ys, ρ2) ∧
          (∀ j ∈ vs, ∀ o, ρ[j]? ≠ some (some o)) ∧ Fr G1 (upd H1 Da (.lst [])) (fun a => U fps1 a ∨ a = Da) G H (fun a => U fps a ∨ a = Da), ⟨ds.length, by simp, Nat.zero_le _, G1, wipeE ρ1 vs, fps2, [], [], R2, upd_same, gD, fun z => uD (s2 _ z), .nil, q0, wipeE_no, Fr.refl.mono (fun _ z => z) fun a z => z.imp (s2 a) id⟩, ?_⟩
      rintro i m H3 ⟨rfl, hi, G3, ρ3, fps3, acc, as, R3, hA, gA, uA, lA, c3, hv3, f3⟩
      by_cases hlt : i < ds.length
      · refine .inr ⟨dw.goes i H3 hlt ((Le.of f3.gg).trans R3.le), fun H => ∃ G ρ fps acc as, Rel X.K G H (wipe σ vs) ρ fps ∧ H Da = some (.lst acc) ∧ G Da = none ∧ ¬ U fps Da ∧ IsL X.K G acc as ∧ comp g t el vs (ds.drop (i + 1)) as ρ = some (ys, ρ2) ∧
          (∀ j ∈ vs, ∀ o, ρ[j]? ≠ some (some o)) ∧ Fr G1 (upd H1 Da (.lst [])) (fun a => U fps1 a ∨ a = Da) G H (fun a => U fps a ∨ a = Da), fun H' z => ⟨ds.length - (i + 1), by omega, rfl, hlt, z⟩, fun x H4 y => ?_⟩
        obtain ⟨G4, d, ed, gr, ix⟩ := dw.yields i H3 x H4 G3 hlt f3.gg R3.le y
        obtain ⟨R4, f4⟩ := R3.grow gr
        rw [drop_get ed] at c3
        simp only [comp] at c3
        cases q5 : g (.fz d) ρ3 with
        | none => rw [q5] at c3; cases c3
        | some ρ5 =>
          rw [q5] at c3
          refine ⟨G4, ρ3, fps3, .fz d, [], ρ5, R4, .fz ix, fun _ z => (nomatch z), q5, fun σ5 H5 G5 fps5 R5 f5 u5 l5 => ?_⟩
          have f5' := f5.mono (E := U fps3) (E' := U fps5) (fun a z => z.elim id fun y => nomatch y) fun _ z => z
          have ew : wipe σ5 vs = wipe σ vs := (wipe_same hws u5 l5).trans wipe_idem
          refine ⟨ew, ?_⟩
          -- what D is, further on
          have stay : ∀ {G' H' : Hp} {F' : Addr → Prop}, Fr G3 H3 (U fps3) G' H' F' → H' Da = some (.lst acc) ∧ G' Da = none ∧ ¬ F' Da := fun {G' H' F'} f => by
            refine ⟨f.keep Da _ hA uA, ?_, fun z => (f.fnew Da z).elim uA fun y => by rw [hA] at y; cases y⟩
            cases z : G' Da with
            | none => rfl
            | some w =>
              rcases f.gnew Da (by rw [z]; exact fun y => nomatch y) with y | y | y
              · exact absurd gA y
              · exact absurd y uA
              · rw [hA] at y; cases y
          dsimp only at c3
          cases q6 : t ρ5 with
          | none => rw [q6] at c3; cases c3
          | some pr6 =>
            obtain ⟨b6, ρ6⟩ := pr6
            rw [q6] at c3
            refine ⟨G5, ρ5, fps5, b6, ρ6, R5, q6, fun H6 G6 fps6 R6 f6 => ?_⟩
            have f36 := (f4.trans f5').trans f6
            cases b6 with
            | false =>
              refine iteF ?_
              dsimp only at c3
              obtain ⟨fps7, R7, s7⟩ := R6.wipe vs
              rw [ew] at R7
              obtain ⟨h1, h2, h3⟩ := stay f36
              exact ⟨G6, wipeE ρ6 vs, fps7, acc, as, R7, h1, h2, fun z => h3 (s7 _ z), f36.isL lA, c3, wipeE_no, (f3.trans f36.addD).mono (fun _ z => z) fun a z => z.imp (s7 a) id⟩
            | true =>
              refine iteT ?_
              dsimp only at c3
              cases q7 : el ρ6 with
              | none => rw [q7] at c3; cases c3
              | some pr7 =>
                obtain ⟨y7, ρ7⟩ := pr7
                rw [q7] at c3
                refine ⟨G6, ρ6, fps6, y7, ρ7, R6, q7, fun v7 H7 G7 fps7 R7 f7 i7 => ?_⟩
                have f37 := f36.trans f7
                obtain ⟨h1, h2, h3⟩ := stay f37
                dsimp only at c3
                split at c3
                · rename_i hz
                  refine ⟨acc, h1, by rw [lA.length]; exact hz, ?_⟩
                  -- the list grows
                  have np : ∀ a, U fps7 a → a ≠ Da := fun a ha z => h3 (z ▸ ha)
                  have le8 : Le G7 (upd H7 Da (.lst (acc ++ [v7]))) := fun a u z => by
                    rw [upd_ne (ne_of_none z h2)]
                    exact R7.le a u z
                  have R8 : Rel X.K G7 (upd H7 Da (.lst (acc ++ [v7]))) σ5 ρ7 fps7 := R7.go (Same.refl _) le8 (fun a ha => (R7.out ha).2) fun a ha => by rw [upd_ne (np a ha)]
                  have f8 : Fr G7 H7 (fun a => U fps7 a ∨ a = Da) G7 (upd H7 Da (.lst (acc ++ [v7]))) (fun a => U fps7 a ∨ a = Da) := ⟨Same.refl _, fun a u z n => by
                    rw [upd_ne fun w => n (.inr w)]; exact z, fun a z => by
                    by_cases w : a = Da
                    · rw [w, upd_same]; exact fun y => nomatch y
                    · rw [upd_ne w]; exact z, fun a z => .inl z, fun a z => .inl z⟩
                  obtain ⟨fps9, R9, s9⟩ := R8.wipe vs
                  rw [ew] at R9
                  exact ⟨G7, wipeE ρ7 vs, fps9, acc ++ [v7], as ++ [y7], R9, upd_same, h2, fun z => h3 (s9 _ z), (f37.isL lA).append (.cons i7 .nil), c3, wipeE_no, ((f3.trans f37.addD).trans f8).mono (fun _ z => z) fun a z => z.imp (s9 a) id⟩
                · cases c3
      · have e' : i = ds.length := by omega
        subst e'
        refine .inl ⟨dw.stops H3 ((Le.of f3.gg).trans R3.le), ?_⟩
        rw [List.drop_length] at c3
        cases c3
        obtain ⟨fps4, R4, s4⟩ := R1.unwipe f3.gg vs R3 (fun j hj => by rw [wipe_get, if_neg hj]) (wipe_length _ _) hv3
        have f13 := fD.trans f3
        have nD : ¬ U fps4 Da := fun z => uA (s4 _ z)
        refine k (.ref Da) H3 G3 fps4 [Da] R4 ((f1.trans (fD.trans f3)).mono (fun _ z => z) fun a z => z.imp (s4 a) fun y => by simpa using y) (.lst hA gA (owL_fz lA) (fun h => nomatch h) (.inl rfl)) fun a ha => ?_
        have : a = Da := by simpa using ha
        rw [this]; exact nD
theorem do_lc {elt tg iter : Expr} {ifs : List Expr} {scope : Scope} {own : List (Str × Nat)} {f : F (List D)} {g : FG} {t : F Bool} {el : F D} {ws : List Nat} (hc : X.calm = true) (hN : X.N.Nodup) (hi : DI X tg iter f) (ok : BlkOk X.N X.env.scope scope own)
    (hg : ∀ (s : Shared) (H : Hp) (C : Addr) (cl : List (Str × Addr)) (fp : List Addr), DG (X.blk s H scope (compEnvC scope cl C X.env) fp) tg ws g)
    (ht : ∀ (s : Shared) (H : Hp) (C : Addr) (cl : List (Str × Addr)) (fp : List Addr), DTs (X.blk s H scope (compEnvC scope cl C X.env) fp) ifs t)
    (he : ∀ (s : Shared) (H : Hp) (C : Addr) (cl : List (Str × Addr)) (fp : List Addr), DE (X.blk s H scope (compEnvC scope cl C X.env) fp) elt el)
    (hws : ∀ j ∈ ws, j ∈ own.map (·.2) := by decide) (hs : ∀ x, foldedSetIterable iter X.env x = pure x := by intro _; rfl) :
    DO X (.ListComp elt [⟨tg, iter, ifs, 0⟩] scope pos) (eComp f g t el (own.map (·.2))) := PE.imp (pe_lc hc hN hi ok hg ht he hs) (lc_imp hws)
theorem ds_setLc {i : Nat} {y : Str} {py spos : Pos} {elt tg iter : Expr} {ifs : List Expr} {scope : Scope} {own : List (Str × Nat)} {f : F (List D)} {g : FG} {t : F Bool} {el : F D} {ws : List Nat} (hc : X.calm = true) (hN : X.N.Nodup) (hy : X.N[i]? = some y) (hyl : X.env.scope.names.lookup y = some .local)
    (hsw : swapsWith (.ListComp elt [⟨tg, iter, ifs, 0⟩] scope pos) (some (.Name y py)) spos.line X.env = pure true) (hi : DI X tg iter f) (ok : BlkOk X.N X.env.scope scope own)
    (hg : ∀ (s : Shared) (H : Hp) (C : Addr) (cl : List (Str × Addr)) (fp : List Addr), DG (X.blk s H scope (compEnvC scope cl C X.env) fp) tg ws g)
    (ht : ∀ (s : Shared) (H : Hp) (C : Addr) (cl : List (Str × Addr)) (fp : List Addr), DTs (X.blk s H scope (compEnvC scope cl C X.env) fp) ifs t)
    (he : ∀ (s : Shared) (H : Hp) (C : Addr) (cl : List (Str × Addr)) (fp : List Addr), DE (X.blk s H scope (compEnvC scope cl C X.env) fp) elt el)
    (hws : ∀ j ∈ ws, j ∈ own.map (·.2) := by decide) (hs : ∀ x, foldedSetIterable iter X.env x = pure x := by intro _; rfl) :
    DS X (.Assign [.Name y py] (.ListComp elt [⟨tg, iter, ifs, 0⟩] scope pos) spos) (sAsg (eComp f g t el (own.map (·.2))) (gNm i)) :=
  PS.imp (ps_setLc hc hN hy hyl hsw hi ok hg ht he hs) fun Dn σ H ⟨G, ρ, fps, o, R, e, k⟩ => by
    unfold sAsg at e
    cases q : eComp f g t el (own.map (·.2)) ρ with
    | none => rw [q] at e; cases e
    | some p =>
      obtain ⟨o1, ρ1⟩ := p
      rw [q] at e
      cases q2 : gNm i o1 ρ1 with
      | none => simp only [q2] at e; cases e
      | some ρ2 =>
        simp only [q2] at e
        cases e
        refine lc_imp (X := X) hws σ H _ ⟨G, ρ, fps, o1, ρ1, R, q, fun v H' G' fps' fv R' f' w dj => ?_⟩
        unfold gNm at q2
        split at q2
        · rename_i hl
          cases q2
          obtain ⟨fps3, R3, sub⟩ := R'.store w dj hl
          exact k _ H' G' fps3 R3 (f'.trans ⟨Same.refl _, fun _ _ z _ => z, fun _ z => z, fun _ z => .inl z, fun a z => .inl (sub a z)⟩)
        · cases q2
end
end T
namespace T
open PySem PySem.Spec PyProof.Rows L2

theorem do_or {X : Cx} {e : Expr} {f f' : F O} (h : DO X e f) (h' : DO X e f') : DO X e (fun ρ => match f ρ with | some r => some r | none => f' ρ) := PE.imp (PE.or h h') fun σ H Q ⟨G, ρ, fps, o, ρ', R, e, k⟩ => by
  dsimp only at e
  split at e
  · rename_i r q
    cases e
    exact .inl ⟨G, ρ, fps, o, ρ', R, q, k⟩
  · exact .inr ⟨G, ρ, fps, o, ρ', R, e, k⟩
theorem de_or {X : Cx} {e : Expr} {f f' : F D} (h : DE X e f) (h' : DE X e f') : DE X e (fun ρ => match f ρ with | some r => some r | none => f' ρ) := PE.imp (PE.or h h') fun σ H Q ⟨G, ρ, fps, o, ρ', R, e, k⟩ => by
  dsimp only at e
  split at e
  · rename_i r q
    cases e
    exact .inl ⟨G, ρ, fps, o, ρ', R, q, k⟩
  · exact .inr ⟨G, ρ, fps, o, ρ', R, e, k⟩

/-! ### built-ins by values -/
abbrev DL := List D → Option D
def OpC (X : Cx) (r : List V → Hp → VK → Prop) (g : DL) : Prop := ∀ vs H Q G ds d, Le G H → IsL X.K G vs ds → g ds = some d → (∀ v G' H', Grow G H G' H' → Is X.K G' v d → Q v H') → r vs H Q
theorem OpC.or {X : Cx} {r r' : List V → Hp → VK → Prop} {g g' g2 : DL} (h : OpC X r g) (h' : OpC X r' g') (he : ∀ a d, g2 a = some d → g a = some d ∨ g' a = some d) : OpC X (fun x H Q => r x H Q ∨ r' x H Q) g2 :=
  fun x H Q G a d le ia e k => (he a d e).imp (fun z => h x H Q G a d le ia z k) fun z => h' x H Q G a d le ia z k
section
variable {X : Cx} {e a b : Expr} {es : List Expr} {pos p : Pos} {x : Str} {f : F (List D)}
theorem de_cb {r : List V → Hp → VK → Prop} {g : DL} (hr : ∀ {t : TA}, PA X es t → PE X e (tCB r t)) (hg : OpC X r g) (ha : DA X es f) : DE X e (mapF f g) := PE.imp (hr ha) fun σ H Q ⟨G, ρ, fps, d, ρ', R, e, k⟩ => by
  obtain ⟨ds, e1, e2⟩ := mapF_some e
  refine ⟨G, ρ, fps, ds, ρ', R, e1, fun vs H1 G1 fps1 R1 f1 i1 => ?_⟩
  refine hg vs H1 Q G1 ds d R1.le i1 e2 fun v G' H' gr i => ?_
  obtain ⟨R2, f2⟩ := R1.grow gr
  exact k v H' G' fps1 R2 (f1.trans f2) i
/-- one argument, two arguments, as they are written -/
abbrev A1 (X : Cx) (a : Expr) : Prop := starEach [a] X.env = (false, eval a X.env) :: starEach [] X.env
abbrev A2 (X : Cx) (a b : Expr) : Prop := starEach [a, b] X.env = (false, eval a X.env) :: starEach [b] X.env ∧ ∀ pos, (backTo pos (starEach [b] X.env)).any (·.1) = false
theorem bt_abs : bootBuiltins "abs" = some (.builtin "abs") := by decide +kernel
theorem bt_max : bootBuiltins "max" = some (.builtin "max") := by decide +kernel
theorem bt_min : bootBuiltins "min" = some (.builtin "min") := by decide +kernel
theorem bt_len : bootBuiltins "len" = some (.builtin "len") := by decide +kernel
theorem bt_sum : bootBuiltins "sum" = some (.builtin "sum") := by decide +kernel
theorem bt_divmod : bootBuiltins "divmod" = some (.builtin "divmod") := by decide +kernel
theorem bt_isinstance : bootBuiltins "isinstance" = some (.builtin "isinstance") := by decide +kernel
theorem bt_sorted : bootBuiltins "sorted" = some (.builtin "sorted") := by decide +kernel
theorem bt_all : bootBuiltins "all" = some (.builtin "all") := by decide +kernel
theorem bt_any : bootBuiltins "any" = some (.builtin "any") := by decide +kernel
theorem bt_int : bootBuiltins "int" = some (.type "int") := by decide +kernel
theorem bt_str : bootBuiltins "str" = some (.type "str") := by decide +kernel
theorem bt_list : bootBuiltins "list" = some (.type "list") := by decide +kernel
theorem bt_tuple : bootBuiltins "tuple" = some (.type "tuple") := by decide +kernel
theorem bt_dict : bootBuiltins "dict" = some (.type "dict") := by decide +kernel
theorem bt_bool : bootBuiltins "bool" = some (.type "bool") := by decide +kernel

def absD : DL := fun ds => match ds with
  | [.int i] => some (.int (if i < 0 then -i else i))
  | _ => none
theorem de_abs (hg : Gl X "abs") (hm : X.mg "abs" = none) (ha : DA X [a] f) (hs : A1 X a := by rfl) : DE X (.Call (.Name "abs" p) [a] [] pos) (mapF f absD) := de_cb (fun ha => pe_callB call_abs hg hm bt_abs ha (he := hs) (hpl := rfl)) (fun vs H Q G ds d le i e k => by
  unfold absD at e
  split at e
  · cases e
    obtain ⟨v, rfl, i2⟩ := isL_1 i
    rw [i2.int_inv]
    exact ⟨_, rfl, k _ G H .no (.int _)⟩
  · cases e) ha
def max2D : DL := fun ds => match ds with
  | [.int i, .int j] => some (.int (if j > i then j else i))
  | _ => none
theorem de_max2 (hc : X.calm = true) (hg : Gl X "max") (hm : X.mg "max" = none) (ha : DA X [a, b] f) (hs : A2 X a b := by exact ⟨rfl, fun _ => rfl⟩) : DE X (.Call (.Name "max" p) [a, b] [] pos) (mapF f max2D) := de_cb (fun ha => pe_callB (call_max2 hc) hg hm bt_max ha (he := hs.1) (hpl := hs.2 _)) (fun vs H Q G ds d le i e k => by
  unfold max2D at e
  split at e
  · cases e
    obtain ⟨v, u, rfl, i2, i3⟩ := isL_2 i
    rw [i2.int_inv, i3.int_inv]
    exact ⟨_, _, rfl, k _ G H .no (.int _)⟩
  · cases e) ha
def min2D : DL := fun ds => match ds with
  | [.int i, .int j] => some (.int (if j < i then j else i))
  | _ => none
theorem de_min2 (hc : X.calm = true) (hg : Gl X "min") (hm : X.mg "min" = none) (ha : DA X [a, b] f) (hs : A2 X a b := by exact ⟨rfl, fun _ => rfl⟩) : DE X (.Call (.Name "min" p) [a, b] [] pos) (mapF f min2D) := de_cb (fun ha => pe_callB (call_min2 hc) hg hm bt_min ha (he := hs.1) (hpl := hs.2 _)) (fun vs H Q G ds d le i e k => by
  unfold min2D at e
  split at e
  · cases e
    obtain ⟨v, u, rfl, i2, i3⟩ := isL_2 i
    rw [i2.int_inv, i3.int_inv]
    exact ⟨_, _, rfl, k _ G H .no (.int _)⟩
  · cases e) ha
def intD : DL := fun ds => match ds with
  | [.int i] => some (.int i)
  | [.bl b] => some (.int (if b then 1 else 0))
  | _ => none
theorem de_int1 (hg : Gl X "int") (hm : X.mg "int" = none) (ha : DA X [a] f) (hs : A1 X a := by rfl) : DE X (.Call (.Name "int" p) [a] [] pos) (mapF f intD) := de_cb (fun ha => pe_callTy call_int1 hg hm bt_int ha (he := hs) (hpl := rfl)) (fun vs H Q G ds d le i e k => by
  unfold intD at e
  split at e
  · cases e
    obtain ⟨v, rfl, i2⟩ := isL_1 i
    rw [i2.int_inv]
    exact .inl ⟨_, rfl, k _ G H .no (.int _)⟩
  · cases e
    obtain ⟨v, rfl, i2⟩ := isL_1 i
    rw [i2.bl_inv]
    exact .inr ⟨_, rfl, k _ G H .no (.int _)⟩
  · cases e) ha
/-- len of a list, a tuple, a text, a dict -/
def lenD : DL := fun ds => match ds with
  | [.lst xs] => some (.int xs.length)
  | [.scr xs] => some (.int xs.length)
  | [.tup xs] => some (.int xs.length)
  | [.str z] => if z.length ≤ sizeLine then some (.int z.length) else none
  | _ => none
theorem de_len (hg : Gl X "len") (hm : X.mg "len" = none) (ha : DA X [a] f) (hs : A1 X a := by rfl) : DE X (.Call (.Name "len" p) [a] [] pos) (mapF f lenD) := de_cb (fun ha => pe_callB (call_len_seq.or call_len_str) hg hm bt_len ha (he := hs) (hpl := rfl)) (fun vs H Q G ds d le i e k => by
  unfold lenD at e
  split at e
  · cases e
    obtain ⟨v, rfl, i2⟩ := isL_1 i
    obtain ⟨a, vs, rfl, s, l⟩ := i2.lst_inv
    exact .inl ⟨a, vs, rfl, .inl (.of (le.lst s)), by rw [l.length]; exact k _ G H .no (.int _)⟩
  · cases e
    obtain ⟨v, rfl, i2⟩ := isL_1 i
    obtain ⟨a, vs, rfl, s, l⟩ := i2.scr_inv
    exact .inl ⟨a, vs, rfl, .inl (le.sqL s), by rw [l.length]; exact k _ G H .no (.int _)⟩
  · cases e
    obtain ⟨v, rfl, i2⟩ := isL_1 i
    obtain ⟨a, vs, rfl, s, l⟩ := i2.tup_inv
    exact .inl ⟨a, vs, rfl, .inr (le.sqT s), by rw [l.length]; exact k _ G H .no (.int _)⟩
  · split at e
    · rename_i hz
      cases e
      obtain ⟨v, rfl, i2⟩ := isL_1 i
      rw [i2.str_inv]
      exact .inr ⟨_, rfl, hz, k _ G H .no (.int _)⟩
    · cases e
  · cases e) ha
/-- a new list -/
theorem oc_newL {r : List V → Hp → VK → Prop} {G H : Hp} {Q : VK} {vs : List V} {ds : List D} (le : Le G H) (l : IsL X.K G vs ds) (k : ∀ v G' H', Grow G H G' H' → Is X.K G' v (.lst ds) → Q v H') : ∀ p, H p = none → Q (.ref p) (upd H p (.lst vs)) :=
  fun p hp => k _ _ _ (.one p _ hp) (.lst upd_same (new_isL le hp l))
def listD : DL := fun ds => match ds with
  | [.lst xs] => some (.lst xs)
  | [.scr xs] => some (.lst xs)
  | [.tup xs] => some (.lst xs)
  | _ => none
theorem de_list (hg : Gl X "list") (hm : X.mg "list" = none) (ha : DA X [a] f) (hs : A1 X a := by rfl) : DE X (.Call (.Name "list" p) [a] [] pos) (mapF f listD) := de_cb (fun ha => pe_callTy call_list_of hg hm bt_list ha (he := hs) (hpl := rfl)) (fun vs H Q G ds d le i e k => by
  unfold listD at e
  split at e
  · cases e
    obtain ⟨v, rfl, i2⟩ := isL_1 i
    obtain ⟨a, vs, rfl, s, l⟩ := i2.lst_inv
    exact ⟨a, vs, rfl, .inl (.of (le.lst s)), oc_newL (r := fun _ _ _ => True) le l k⟩
  · cases e
    obtain ⟨v, rfl, i2⟩ := isL_1 i
    obtain ⟨a, vs, rfl, s, l⟩ := i2.scr_inv
    exact ⟨a, vs, rfl, .inl (le.sqL s), oc_newL (r := fun _ _ _ => True) le l k⟩
  · cases e
    obtain ⟨v, rfl, i2⟩ := isL_1 i
    obtain ⟨a, vs, rfl, s, l⟩ := i2.tup_inv
    exact ⟨a, vs, rfl, .inr (le.sqT s), oc_newL (r := fun _ _ _ => True) le l k⟩
  · cases e) ha
def tupleD : DL := fun ds => match ds with
  | [.lst xs] => some (.tup xs)
  | [.tup xs] => some (.tup xs)
  | _ => none
theorem de_tuple (hg : Gl X "tuple") (hm : X.mg "tuple" = none) (ha : DA X [a] f) (hs : A1 X a := by rfl) : DE X (.Call (.Name "tuple" p) [a] [] pos) (mapF f tupleD) := de_cb (fun ha => pe_callTy call_tuple_of hg hm bt_tuple ha (he := hs) (hpl := rfl)) (fun vs H Q G ds d le i e k => by
  unfold tupleD at e
  split at e
  · cases e
    obtain ⟨v, rfl, i2⟩ := isL_1 i
    obtain ⟨a, vs, rfl, s, l⟩ := i2.lst_inv
    exact ⟨a, vs, rfl, .inl ⟨.of (le.lst s), fun p hp => k _ _ _ (.one p _ hp) (.tup (.inl (.inl upd_same)) (new_isL le hp l))⟩⟩
  · cases e
    obtain ⟨v, rfl, i2⟩ := isL_1 i
    obtain ⟨a, vs, rfl, s, l⟩ := i2.tup_inv
    exact ⟨a, vs, rfl, .inr ⟨le.sqT s, k _ G H .no (.tup s l)⟩⟩
  · cases e) ha
/-- isinstance(x, list) -/
def isListD : D1
  | .lst _ => some (.bl true)
  | .tup _ => some (.bl false)
  | .non => some (.bl false)
  | .int _ => some (.bl false)
  | .bl _ => some (.bl false)
  | _ => none

/-! ### o[i] -/
def keyD : D → Option Key
  | .int i => some (.inl i)
  | .str x => some (.inr x)
  | _ => none
theorem key_is {K : PySem.W.Frag} {G : Hp} {v : V} {d : D} {k : Key} (i : Is K G v d) (e : keyD d = some k) : v = kV k := by
  cases d <;> simp only [keyD, reduceCtorEq, Option.some.injEq] at e
  · subst e; exact i.int_inv
  · subst e; exact i.str_inv
def lookK {α : Type} (kvs : List (Key × α)) (k : Key) : Option α := (kvs.find? fun kv => decide (kv.1 = k)).map (·.2)
theorem isK_look {K : PySem.W.Frag} {G : Hp} (k : Key) : ∀ {kvs : List (Key × V)} {es : List (Key × D)}, IsK K G kvs es → (valV kvs k = none ∧ lookK es k = none) ∨ ∃ v d, valV kvs k = some v ∧ lookK es k = some d ∧ Is K G v d
  | _, _, .nil => .inl ⟨rfl, rfl⟩
  | _, _, .cons (k := k') i r => by
    by_cases h : k' = k
    · subst h
      exact .inr ⟨_, _, by simp [valV], by simp [lookK], i⟩
    · rcases isK_look k r with ⟨h1, h2⟩ | ⟨v, d, h1, h2, h3⟩
      · exact .inl ⟨by rw [valV_neg h]; exact h1, by simp only [lookK, List.find?_cons, decide_eq_false h]; exact h2⟩
      · exact .inr ⟨v, d, by rw [valV_neg h]; exact h1, by simp only [lookK, List.find?_cons, decide_eq_false h]; exact h2, h3⟩
def ixD : D2 := fun a b => match a, b with
  | .lst xs, .int i => atI xs i
  | .scr xs, .int i => atI xs i
  | .tup xs, .int i => atI xs i
  | .str z, .int i => if z.length ≤ sizeLine then (atI z.cps.toList i).map fun c => .str ⟨#[c]⟩ else none
  | .dct kvs, k => (keyD k).bind fun k => lookK kvs k
  | _, _ => none
theorem isL_at {K : PySem.W.Frag} {G : Hp} {vs : List V} {ds : List D} {i : Int} {d : D} (l : IsL K G vs ds) (e : atI ds i = some d) : ∃ v, atI vs i = some v ∧ Is K G v d := by
  unfold atI at e ⊢
  rw [l.length]
  cases h : ixN ds.length i with
  | none => rw [h] at e; cases e
  | some j =>
    rw [h] at e
    obtain ⟨v, e1, i1⟩ := l.get (show ds[j]? = some d from e)
    exact ⟨v, e1, i1⟩
theorem Rd.get {H : Hp} {a : Addr} {kvs : List (Key × V)} (h : Rd H a (.dK kvs)) (k : Key) : DGet H a (kV k) (valV kvs k) := .inl ⟨kvs, k, h, rfl, rfl⟩
def ixS : D2 := fun a b => match a, b with
  | .lst xs, .int i => atI xs i
  | .scr xs, .int i => atI xs i
  | .tup xs, .int i => atI xs i
  | .str z, .int i => if z.length ≤ sizeLine then (atI z.cps.toList i).map fun c => .str ⟨#[c]⟩ else none
  | _, _ => none
def ixK : D2 := fun a b => match a, b with
  | .dct kvs, k => (keyD k).bind fun k => lookK kvs k
  | _, _ => none
theorem ixD_or {a b d : D} (h : ixD a b = some d) : ixS a b = some d ∨ ixK a b = some d := by
  unfold ixD at h
  split at h
  · exact .inl h
  · exact .inl h
  · exact .inl h
  · exact .inl h
  · exact .inr h
  · cases h
theorem o2_ixS : Op2 X (rIx X.K) ixS := fun x y H Q G a b d le ia ib e k => by
  unfold ixS at e
  split at e
  · obtain ⟨a, vs, rfl, s, l⟩ := ia.lst_inv
    obtain ⟨v, e1, i1⟩ := isL_at l e
    exact .inl ⟨a, vs, _, v, rfl, ib.int_inv, .of (le.lst s), e1, k v G H .no i1⟩
  · obtain ⟨a, vs, rfl, s, l⟩ := ia.scr_inv
    obtain ⟨v, e1, i1⟩ := isL_at l e
    exact .inl ⟨a, vs, _, v, rfl, ib.int_inv, le.sqL s, e1, k v G H .no i1⟩
  · obtain ⟨a, vs, rfl, s, l⟩ := ia.tup_inv
    obtain ⟨v, e1, i1⟩ := isL_at l e
    exact .inr (.inl ⟨a, vs, _, v, rfl, ib.int_inv, le.sqT s, e1, k v G H .no i1⟩)
  · split at e
    · rename_i hz
      rw [Option.map_eq_some_iff] at e
      obtain ⟨c, e, rfl⟩ := e
      exact .inr (.inr ⟨_, _, c, ia.str_inv, ib.int_inv, hz, e, k _ G H .no (.str _)⟩)
    · cases e
  · cases e
theorem o2_ixK : Op2 X (fun x y H Q => ∃ a v, x = .ref a ∧ DGet H a y (some v) ∧ Q v H) ixK := fun x y H Q G a b d le ia ib e k => by
  unfold ixK at e
  split at e
  · obtain ⟨a, vs, rfl, s, l⟩ := ia.dct_inv
    rw [Option.bind_eq_some_iff] at e
    obtain ⟨kk, e1, e2⟩ := e
    rcases isK_look kk l with ⟨_, h⟩ | ⟨v, d', h1, h2, h3⟩
    · rw [h] at e2; cases e2
    · rw [h2] at e2
      cases e2
      refine ⟨a, v, rfl, ?_, k v G H .no h3⟩
      rw [key_is ib e1, ← h1]
      exact Rd.get (le.rd s) kk
  · cases e
variable {g h : F D}
theorem tE_or {X : Cx} {e : Expr} {f f' f2 : F D} (h : DE X e f) (h' : DE X e f') (he : ∀ ρ r, f2 ρ = some r → f ρ = some r ∨ f' ρ = some r) : DE X e f2 := PE.imp (PE.or h h') fun σ H Q ⟨G, ρ, fps, o, ρ', R, e, k⟩ =>
  (he _ _ e).imp (fun q => ⟨G, ρ, fps, o, ρ', R, q, k⟩) fun q => ⟨G, ρ, fps, o, ρ', R, q, k⟩
theorem map2F_or {α β γ : Type} {f : F α} {f' : F β} {g g1 g2 : α → β → Option γ} (h : ∀ a b c, g a b = some c → g1 a b = some c ∨ g2 a b = some c) (ρ : Env) (r : γ × Env) (e : map2F f f' g ρ = some r) : map2F f f' g1 ρ = some r ∨ map2F f f' g2 ρ = some r := by
  obtain ⟨c, ρ'⟩ := r
  obtain ⟨a, ρ1, b, h1, h2, h3⟩ := map2F_some e
  refine (h _ _ _ h3).imp (fun q => ?_) fun q => ?_ <;> simp [map2F, bindF, mapF, h1, h2, q]
theorem de_ix (hu : X.A.units + 1 < cLine) (ha : DE X a g) (hb : DE X b h) (hs : PlainIx b) : DE X (.Subscript a b pos) (map2F g h ixD) :=
  tE_or (de_2 (fun _ _ x y => pe_ix ix_seq x y hs) o2_ixS ha hb) (de_2 (r := fun x y H Q => ∃ a v, x = .ref a ∧ DGet H a y (some v) ∧ Q v H) (fun _ _ x y => pe_dget hu x y hs) o2_ixK ha hb) (map2F_or fun _ _ _ => ixD_or)
end
end T
namespace T
open PySem PySem.Spec PyProof.Rows L2

/-! ### fields -/
structure ClsOk (K : PySem.W.Frag) (C : Nat) : Prop where
  cl : Cls K (cA K C)
  na : ∀ f ∈ clsFields C, NoAttr K (cA K C) f
  nd : (clsFields C).Nodup
theorem zip_look {fs : List Str} {f : Str} : ∀ {j : Nat} {vs : List V}, fs.Nodup → fs[j]? = some f → (fs.zip vs).lookup f = vs[j]? := by
  induction fs with
  | nil => intro j vs _ h; simp at h
  | cons g r ih =>
    intro j vs nd h
    cases vs with
    | nil => simp
    | cons v vs =>
      obtain ⟨h1, h2⟩ := List.nodup_cons.mp nd
      cases j with
      | zero => simp at h; subst h; simp
      | succ j =>
        have hr : r[j]? = some f := by simpa using h
        have hne : ¬ f = g := fun e => h1 (e ▸ List.mem_of_getElem? hr)
        rw [List.zip_cons_cons, List.lookup_cons, beq_eq_false_iff_ne.mpr hne]
        simpa using ih h2 hr
/-- the field f by classes: its place -/
abbrev FX := Nat → Option Nat
def FxOk (K : PySem.W.Frag) (f : Str) (fx : FX) : Prop := ∀ C j, fx C = some j → ClsOk K C ∧ (clsFields C)[j]? = some f
def fldD (fx : FX) : D1
  | .ins C xs => (fx C).bind fun j => xs[j]?
  | _ => none
def eFld (fx : FX) (g : F D) : F D := mapF g (fldD fx)
section
variable {X : Cx} {e a b : Expr} {es : List Expr} {pos pos' p : Pos} {x f : Str}
theorem de_fld {fx : FX} {g : F D} (hf : FxOk X.K f fx) (he : DE X e g) (hb : attributeBase e f X.env (eval e X.env) = eval e X.env := by rfl) : DE X (.Attribute e f pos) (eFld fx g) :=
  PE.imp (pe_fld he hb) fun σ H Q ⟨G, ρ, fps, d, ρ', R, e, k⟩ => by
    obtain ⟨d0, e1, e2⟩ := mapF_some e
    refine ⟨G, ρ, fps, d0, ρ', R, e1, fun v H1 G1 fps1 R1 f1 i1 => ?_⟩
    cases d0 <;> simp only [fldD, reduceCtorEq] at e2
    rename_i C xs
    rw [Option.bind_eq_some_iff] at e2
    obtain ⟨j, h1, h2⟩ := e2
    obtain ⟨ok, hj⟩ := hf C j h1
    obtain ⟨a, dx, vs, rfl, s, l⟩ := i1.ins_inv
    obtain ⟨u, h3, h4⟩ := l.get h2
    exact ⟨a, _, dx, _, u, rfl, R1.le.ins s, ok.cl, ok.na f (List.mem_of_getElem? hj), (zip_look ok.nd hj).trans h3, k u H1 G1 fps1 R1 f1 h4⟩
/-- x.f of a slot, without freezing it -/
def eFldV (fx : FX) (i : Nat) : F D := fun ρ => match ρ[i]? with
  | some (some (.fz d)) => (fldD fx d).map (·, ρ)
  | some (some (.ins _ C os)) => match (fx C).bind fun j => os[j]? with
    | some (.fz d) => some (d, ρ)
    | _ => none
  | _ => none
theorem OwL.get {K : PySem.W.Frag} {G H : Hp} : ∀ {vs : List V} {os : List O} {fp : List Addr} {j : Nat} {o : O}, OwL K G H vs os fp → os[j]? = some o → ∃ v fq, vs[j]? = some v ∧ Ow K G H v o fq ∧ ∀ a ∈ fq, a ∈ fp
  | _, _, _, _, _, .nil, h => by simp at h
  | _, _, _, 0, _, .cons w r d, h => by simp at h; subst h; exact ⟨_, _, rfl, w, fun a z => List.mem_append_left _ z⟩
  | _, _, _, j + 1, _, .cons w r d, h => by
    obtain ⟨v, fq, h1, h2, h3⟩ := OwL.get r (j := j) (by simpa using h)
    exact ⟨v, fq, by simpa using h1, h2, fun a z => List.mem_append_right _ (h3 a z)⟩
theorem OwL.length {K : PySem.W.Frag} {G H : Hp} : ∀ {vs : List V} {os : List O} {fp : List Addr}, OwL K G H vs os fp → vs.length = os.length
  | _, _, _, .nil => rfl
  | _, _, _, .cons w r d => congrArg Nat.succ (OwL.length r)
theorem Ow.ins_inv {K : PySem.W.Frag} {G H : Hp} {v : V} {t : Option Addr} {C : Nat} {os : List O} {fp : List Addr} (w : Ow K G H v (.ins t C os) fp) : ∃ a dx vs fq, v = .ref a ∧ fp = a :: fq ∧ H a = some (.ins (cA K C) dx ((clsFields C).zip vs)) ∧ G a = none ∧ OwL K G H vs os fq ∧ a ∉ fq ∧ tagOk t a := by
  cases w with
  | ins e g r n h => exact ⟨_, _, _, _, rfl, rfl, e, g, r, n, h⟩
theorem Ow.lst_inv {K : PySem.W.Frag} {G H : Hp} {v : V} {t : Option Addr} {os : List O} {fp : List Addr} (w : Ow K G H v (.lst t os) fp) : ∃ a vs fq, v = .ref a ∧ fp = a :: fq ∧ H a = some (.lst vs) ∧ G a = none ∧ OwL K G H vs os fq ∧ a ∉ fq ∧ tagOk t a := by
  cases w with
  | lst e g r n h => exact ⟨_, _, _, rfl, rfl, e, g, r, n, h⟩
theorem Ow.dct_inv {K : PySem.W.Frag} {G H : Hp} {v : V} {t : Option Addr} {os : List (Key × O)} {fp : List Addr} (w : Ow K G H v (.dct t os) fp) : ∃ a vs fq, v = .ref a ∧ fp = a :: fq ∧ H a = some (.dK vs) ∧ G a = none ∧ OwK K G H vs os fq ∧ a ∉ fq ∧ tagOk t a := by
  cases w with
  | dct e g r n h => exact ⟨_, _, _, rfl, rfl, e, g, r, n, h⟩
theorem de_fldV {fx : FX} (i : Nat) (hf : FxOk X.K f fx) (he : PE X e (tVar i)) (hb : attributeBase e f X.env (eval e X.env) = eval e X.env := by rfl) : DE X (.Attribute e f pos) (eFldV fx i) :=
  PE.imp (pe_fld he hb) fun σ H Q ⟨G, ρ, fps, d, ρ', R, e, k⟩ => by
    unfold eFldV at e
    split at e
    · rename_i d0 q
      rw [Option.map_eq_some_iff] at e
      obtain ⟨d1, e2, e3⟩ := e
      cases e3
      obtain ⟨v, e1, w⟩ := R.sl i _ q
      have i1 := w.fz_inv.1
      cases d0 <;> simp only [fldD, reduceCtorEq] at e2
      rename_i C xs
      rw [Option.bind_eq_some_iff] at e2
      obtain ⟨j, h1, h2⟩ := e2
      obtain ⟨ok, hj⟩ := hf C j h1
      obtain ⟨a, dx, vs, rfl, s, l⟩ := i1.ins_inv
      obtain ⟨u, h3, h4⟩ := l.get h2
      exact ⟨.ref a, e1, a, _, dx, _, u, rfl, R.le.ins s, ok.cl, ok.na f (List.mem_of_getElem? hj), (zip_look ok.nd hj).trans h3, k u H G fps R Fr.refl h4⟩
    · rename_i t C os q
      split at e
      · rename_i d1 h2
        cases e
        rw [Option.bind_eq_some_iff] at h2
        obtain ⟨j, h1, h2⟩ := h2
        obtain ⟨ok, hj⟩ := hf C j h1
        obtain ⟨v, e1, w⟩ := R.sl i _ q
        obtain ⟨a, dx, vs, fq, rfl, _, s, _, l, _, _⟩ := w.ins_inv
        obtain ⟨u, _, h3, h4, _⟩ := l.get h2
        exact ⟨.ref a, e1, a, _, dx, _, u, rfl, s, ok.cl, ok.na f (List.mem_of_getElem? hj), (zip_look ok.nd hj).trans h3, k u H G fps R Fr.refl h4.fz_inv.1⟩
      · cases e
    · cases e

/-! ### a slot's owned object is written -/
theorem OwL.set {K : PySem.W.Frag} {G H : Hp} {v : V} {o : O} {fv : List Addr} (w : Ow K G H v o fv) : ∀ {vs : List V} {os : List O} {fp : List Addr} (j : Nat), OwL K G H vs os fp → j < os.length → (∀ a ∈ fv, a ∉ fp) →
    ∃ fq, OwL K G H (vs.set j v) (os.set j o) fq ∧ ∀ a ∈ fq, a ∈ fp ∨ a ∈ fv
  | _, _, _, _, .nil, h, _ => by simp at h
  | _, _, _, 0, .cons (fp := fp) (fq := fq) x r d, _, h => ⟨fv ++ fq, .cons w r fun a z y => h a z (List.mem_append_right _ y), fun a z => (List.mem_append.mp z).elim .inr fun y => .inl (List.mem_append_right _ y)⟩
  | _, _, _, j + 1, .cons (fp := fp) (fq := fq) x r d, hj, h => by
    obtain ⟨fr, r', s⟩ := OwL.set w j r (by simpa using hj) fun a z y => h a z (List.mem_append_right _ y)
    refine ⟨fp ++ fr, .cons x r' fun a z y => ?_, fun a z => ?_⟩
    · rcases s a y with q | q
      · exact d a z q
      · exact h a q (List.mem_append_left _ z)
    · rcases List.mem_append.mp z with q | q
      · exact .inl (List.mem_append_left _ q)
      · exact (s a q).imp (fun y => List.mem_append_right _ y) id
theorem OwL.app {K : PySem.W.Frag} {G H : Hp} : ∀ {vs ws : List V} {os ps : List O} {fp fq : List Addr}, OwL K G H vs os fp → OwL K G H ws ps fq → (∀ a ∈ fp, a ∉ fq) → OwL K G H (vs ++ ws) (os ++ ps) (fp ++ fq)
  | _, _, _, _, _, _, .nil, s, _ => s
  | _, _, _, _, _, _, .cons (fp := f1) (fq := f2) x r d, s, h => by
    rw [List.append_assoc]
    exact .cons x (OwL.app r s fun a z => h a (List.mem_append_right _ z)) fun a z y => (List.mem_append.mp y).elim (d a z) (h a (List.mem_append_left _ z))
/-- the object at a (slot i's own) becomes u; what was beside it may go -/
theorem Rel.put {K : PySem.W.Frag} {G H : Hp} {σ : L2.St} {ρ : Env} {fps : Fps} (R : Rel K G H σ ρ fps) {i : Nat} {a : Addr} {o : O} {u : HO} {fq : List Addr} (hs : σ[i]? = some (some (.ref a))) (ha : a ∈ fps i) (hi : i < ρ.length)
    (w : Ow K G (upd H a u) (.ref a) o fq) (hq : ∀ b ∈ fq, b ∈ fps i ∨ ¬ U fps b) :
    ∃ fps', Rel K G (upd H a u) σ (ρ.set i (some o)) fps' ∧ ∀ b, U fps' b → U fps b ∨ b ∈ fq := by
  have ga : G a = none := (R.out ⟨i, ha⟩).2
  have le' : Le G (upd H a u) := fun b z e => by
    rw [upd_ne (ne_of_none e ga)]
    exact R.le b z e
  refine ⟨fun j => if j = i then fq else fps j, ⟨le', by simpa using R.len, fun j o' q => ?_, fun j q => ?_, fun j k b hb hc => ?_⟩, fun b ⟨j, z⟩ => ?_⟩
  · by_cases hj : j = i
    · subst hj
      rw [List.getElem?_set_self hi] at q
      cases q
      exact ⟨_, hs, by rw [if_pos rfl]; exact w⟩
    · rw [List.getElem?_set_ne (Ne.symm hj)] at q
      obtain ⟨v', e', w'⟩ := R.sl j o' q
      refine ⟨v', e', ?_⟩
      rw [if_neg hj]
      exact Ow.keep (Le.refl _) o' w' (fun b hb => (Ow.live o' w' b hb).2) fun b hb => upd_ne fun z => hj (R.dj j i b hb (z ▸ ha))
  · by_cases hj : j = i
    · subst hj
      exact absurd (List.getElem?_set_self hi) (q o)
    · rw [if_neg hj]
      refine R.em j fun o' e' => q o' ?_
      rw [List.getElem?_set_ne (Ne.symm hj)]
      exact e'
  · by_cases hj : j = i
    · by_cases hk : k = i
      · rw [hj, hk]
      · rw [if_pos hj] at hb
        rw [if_neg hk] at hc
        rcases hq b hb with z | z
        · exact absurd (R.dj k i b hc z) hk
        · exact absurd ⟨k, hc⟩ z
    · rw [if_neg hj] at hb
      by_cases hk : k = i
      · rw [if_pos hk] at hc
        rcases hq b hc with z | z
        · exact absurd (R.dj j i b hb z) hj
        · exact absurd ⟨j, hb⟩ z
      · rw [if_neg hk] at hc
        exact R.dj j k b hb hc
  · dsimp only at z
    by_cases hj : j = i
    · rw [if_pos hj] at z; exact .inr z
    · rw [if_neg hj] at z; exact .inl ⟨j, z⟩
theorem fr_put {G H : Hp} {F F' : Addr → Prop} {a : Addr} {u : HO} (ha : F a) (hl : ∀ b, F' b → F b ∨ H b = none) : Fr G H F G (upd H a u) F' :=
  ⟨Same.refl _, fun b z e n => by rw [upd_ne fun y => n (by rw [y]; exact ha)]; exact e, fun b e => by
    by_cases h : b = a
    · rw [h, upd_same]; exact fun y => nomatch y
    · rw [upd_ne h]; exact e, fun b e => .inl e, hl⟩

/-! x.append(e) -/
def eAppend (i : Nat) (g : F O) : F D := fun ρ => match ρ[i]? with
  | some (some (.lst _ _)) => match g ρ with
    | some (o, ρ1) => match ρ1[i]? with
      | some (some (.lst t os)) => if os.length < sizeLine then some (.non, ρ1.set i (some (.lst t (os ++ [o])))) else none
      | _ => none
    | none => none
  | _ => none
theorem de_append (i : Nat) {g : F O} {apos cpos : Pos} (he : PE X e (tVar i)) (ha : DO X a g) (hbase : attributeBase e "append" X.env (eval e X.env) = eval e X.env := by rfl)
    (hfew : ((backTo cpos (starEach [a] X.env)).all (fun x => !x.1) && (backToKw cpos (keywordEach [] X.env)).all (fun x => x.1.isSome)
      && decide (([a] : List Expr).length + ([] : List Keyword).length + (if ([] : List Keyword).isEmpty then 0 else 1) < 30)) = true := by rfl)
    (hline : (apos.endLine == cpos.line) = true := by rfl) (hs : starEach [a] X.env = (false, eval a X.env) :: starEach [] X.env := by rfl) : DE X (.Call (.Attribute e "append" apos) [a] [] cpos) (eAppend i g) :=
  PE.imp (pe_bm PySem.F.plainAttrs_list PySem.F.slot_list_append PySem.F.type_list_append mt_append he (pa_cons ha pa_nil hs) hbase hfew hline hs rfl) fun σ H Q ⟨G, ρ, fps, d, ρ', R, e, k⟩ => by
    unfold eAppend at e
    split at e
    · rename_i t0 os0 q0
      obtain ⟨v, hv, w0⟩ := R.sl i _ q0
      obtain ⟨a, vs0, fq0, rfl, _, s0, _⟩ := w0.lst_inv
      split at e
      · rename_i o ρ1 q
        split at e
        · rename_i t os q1
          split at e
          · rename_i hz
            cases e
            refine ⟨.ref a, hv, .inl ⟨rfl, _, .inl (.inl s0)⟩, G, ρ, fps, o, ρ1, R, q, fun y H1 G1 fps1 fv R1 f1 wy dj => ?_⟩
            obtain ⟨v1, hv1, w1⟩ := R1.sl i _ q1
            rw [hv] at hv1
            cases hv1
            obtain ⟨a', vs, fq, ea, ef, s1, g1, l1, n1, t1⟩ := w1.lst_inv
            cases ea
            have hi : i < ρ1.length := (List.getElem?_eq_some_iff.mp q1).1
            have ha : a ∈ fps1 i := by rw [ef]; exact List.mem_cons_self
            have hfq : ∀ b ∈ fq, b ∈ fps1 i := fun b hb => by rw [ef]; exact List.mem_cons_of_mem _ hb
            have hfa : ∀ b ∈ fv, b ≠ a := fun b hb z => dj b hb ⟨i, z ▸ ha⟩
            have lw : OwL X.K G1 (upd H1 a (.lst (vs ++ [y]))) (vs ++ [y]) (os ++ [o]) (fq ++ (fv ++ [])) :=
              OwL.app (OwL.keep (Le.refl _) os l1 (fun b hb => (OwL.live os l1 b hb).2) fun b hb => upd_ne fun z => n1 (z ▸ hb))
                (.cons (Ow.keep (Le.refl _) o wy (fun b hb => (Ow.live o wy b hb).2) fun b hb => upd_ne (hfa b hb)) .nil fun _ _ z => nomatch z)
                fun b hb z => dj b (by simpa using z) ⟨i, hfq b hb⟩
            have w2 : Ow X.K G1 (upd H1 a (.lst (vs ++ [y]))) (.ref a) (.lst t (os ++ [o])) (a :: (fq ++ (fv ++ []))) :=
              .lst upd_same g1 lw (fun z => (List.mem_append.mp z).elim n1 fun z => hfa a (by simpa using z) rfl) t1
            have sub : ∀ b ∈ a :: (fq ++ (fv ++ [])), b ∈ fps1 i ∨ b ∈ fv := fun b hb => by
              rcases List.mem_cons.mp hb with z | z
              · exact .inl (z ▸ ha)
              · exact (List.mem_append.mp z).imp (hfq b) fun z => by simpa using z
            obtain ⟨fps2, R2, s2⟩ := R1.put hv ha hi w2 fun b hb => (sub b hb).imp id (dj b)
            refine ⟨a, vs, y, rfl, rfl, s1, by rw [l1.length]; exact hz, k .non _ G1 fps2 R2 (f1.trans (fr_put (.inl ⟨i, ha⟩) fun b hb => .inl ?_)) .non⟩
            exact (s2 b hb).elim .inl fun z => (sub b z).imp (fun y => ⟨i, y⟩) id
          · cases e
        · cases e
      · cases e
    · cases e
/-- x.clear() -/
def eClear (i : Nat) : F D := fun ρ => match ρ[i]? with
  | some (some (.lst t _)) => some (.non, ρ.set i (some (.lst t [])))
  | _ => none
theorem de_clear (i : Nat) {apos cpos : Pos} (he : PE X e (tVar i)) (hbase : attributeBase e "clear" X.env (eval e X.env) = eval e X.env := by rfl) (hline : (apos.endLine == cpos.line) = true := by rfl) :
    DE X (.Call (.Attribute e "clear" apos) [] [] cpos) (eClear i) :=
  PE.imp (pe_bm0 PySem.F.plainAttrs_list PySem.F.slot_list_clear PySem.F.type_list_clear mt_clear he hbase hline) fun σ H Q ⟨G, ρ, fps, d, ρ', R, e, k⟩ => by
    unfold eClear at e
    split at e
    · rename_i t os q
      cases e
      obtain ⟨v, hv, w0⟩ := R.sl i _ q
      obtain ⟨a, vs, fq, rfl, ef, s1, g1, l1, n1, t1⟩ := w0.lst_inv
      have hi : i < ρ.length := (List.getElem?_eq_some_iff.mp q).1
      have ha : a ∈ fps i := by rw [ef]; exact List.mem_cons_self
      obtain ⟨fps2, R2, s2⟩ := R.put (u := .lst []) (o := .lst t []) (fq := [a]) hv ha hi (.lst upd_same g1 .nil (fun z => nomatch z) t1) fun b hb => .inl (by
        have : b = a := by simpa using hb
        rw [this]; exact ha)
      refine ⟨.ref a, hv, .inl ⟨rfl, _, .inl (.inl s1)⟩, a, vs, rfl, rfl, s1, k .non _ G fps2 R2 (fr_put ⟨i, ha⟩ fun b hb => .inl ?_) .non⟩
      exact (s2 b hb).elim id fun z => ⟨i, by
        have : b = a := by simpa using z
        rw [this]; exact ha⟩
    · cases e

/-! self.f = e: a field is stored into a slot's own instance -/
theorem zip_app {fs : List Str} {f : Str} (nd : fs.Nodup) : ∀ {vs : List V} {v : V}, fs[vs.length]? = some f → putF f v (fs.zip vs) = fs.zip (vs ++ [v]) := by
  induction fs with
  | nil => intro vs v h; simp at h
  | cons g r ih =>
    intro vs v h
    obtain ⟨h1, h2⟩ := List.nodup_cons.mp nd
    cases vs with
    | nil =>
      simp at h
      subst h
      cases r <;> rfl
    | cons w ws =>
      have hr : r[ws.length]? = some f := by simpa using h
      have hne : ¬ g = f := fun e => h1 (e ▸ List.mem_of_getElem? hr)
      simp only [List.zip_cons_cons, List.cons_append, putF]
      rw [if_neg hne, ih h2 hr]
theorem zip_set {fs : List Str} {f : Str} (nd : fs.Nodup) : ∀ {j : Nat} {vs : List V} {v : V}, fs[j]? = some f → j < vs.length → putF f v (fs.zip vs) = fs.zip (vs.set j v) := by
  induction fs with
  | nil => intro j vs v h; simp at h
  | cons g r ih =>
    intro j vs v h hj
    obtain ⟨h1, h2⟩ := List.nodup_cons.mp nd
    cases vs with
    | nil => simp at hj
    | cons w ws =>
      cases j with
      | zero =>
        simp at h
        subst h
        simp [putF]
      | succ j =>
        have hr : r[j]? = some f := by simpa using h
        have hne : ¬ g = f := fun e => h1 (e ▸ List.mem_of_getElem? hr)
        simp only [List.zip_cons_cons, List.set_cons_succ, putF]
        rw [if_neg hne, ih h2 hr (by simpa using hj)]
def sFldSet (fx : FX) (i : Nat) (g : F O) : FS := fun ρ => match g ρ with
  | some (o, ρ1) => match ρ1[i]? with
    | some (some (.ins t C os)) => match fx C with
      | some j => if j < os.length then some (.nx (ρ1.set i (some (.ins t C (os.set j o))))) else if j = os.length then some (.nx (ρ1.set i (some (.ins t C (os ++ [o]))))) else none
      | none => none
    | _ => none
  | none => none
theorem ds_fld {fx : FX} (i : Nat) {g : F O} (hf : FxOk X.K f fx) (he : PE X e (tVar i)) (ha : DO X a g) (hsm : ∀ C, (clsFields C).length < 1000) (hs : swapsWith a (some (.Attribute e f pos')) pos.line X.env = pure false := by rfl) :
    DS X (.Assign [.Attribute e f pos'] a pos) (sFldSet fx i g) := PS.imp (ps_fld he ha hs) fun Dn σ H ⟨G, ρ, fps, o, R, e, k⟩ => by
  unfold sFldSet at e
  split at e
  · rename_i o1 ρ1 q
    split at e
    · rename_i t C os q1
      split at e
      · rename_i j hj
        refine ⟨G, ρ, fps, o1, ρ1, R, q, fun y H1 G1 fps1 fv R1 f1 wy dj => ?_⟩
        obtain ⟨v, hv, w1⟩ := R1.sl i _ q1
        obtain ⟨a, dx, vs, fq, rfl, ef, s1, g1, l1, n1, t1⟩ := w1.ins_inv
        obtain ⟨ok, hfj⟩ := hf C j hj
        have hi : i < ρ1.length := (List.getElem?_eq_some_iff.mp q1).1
        have ha : a ∈ fps1 i := by rw [ef]; exact List.mem_cons_self
        have hfq : ∀ b ∈ fq, b ∈ fps1 i := fun b hb => by rw [ef]; exact List.mem_cons_of_mem _ hb
        have hfa : ∀ b ∈ fv, b ≠ a := fun b hb z => dj b hb ⟨i, z ▸ ha⟩
        have lk : ∀ u, OwL X.K G1 (upd H1 a u) vs os fq := fun u => OwL.keep (Le.refl _) os l1 (fun b hb => (OwL.live os l1 b hb).2) fun b hb => upd_ne fun z => n1 (z ▸ hb)
        have wk : ∀ u, Ow X.K G1 (upd H1 a u) y o1 fv := fun u => Ow.keep (Le.refl _) o1 wy (fun b hb => (Ow.live o1 wy b hb).2) fun b hb => upd_ne (hfa b hb)
        have fin : ∀ (ws : List V) (ps : List O) (fr : List Addr), putF f y ((clsFields C).zip vs) = (clsFields C).zip ws → OwL X.K G1 (upd H1 a (.ins (cA X.K C) dx ((clsFields C).zip ws))) ws ps fr → (∀ b ∈ fr, b ∈ fq ∨ b ∈ fv) →
            Post X.K Dn G H fps (.nx (ρ1.set i (some (.ins t C ps)))) → tVar i σ H1 fun x H2 => ∃ a C dx fs, x = .ref a ∧ H2 a = some (.ins C dx fs) ∧ Cls X.K C ∧ NoAttr X.K C f ∧ fs.length < 1000 ∧ Dn.nx σ (upd H2 a (.ins C dx (putF f y fs))) := fun ws ps fr e1 lw hfr kk => by
          have w2 : Ow X.K G1 (upd H1 a (.ins (cA X.K C) dx ((clsFields C).zip ws))) (.ref a) (.ins t C ps) (a :: fr) := .ins upd_same g1 lw (fun z => (hfr a z).elim n1 fun z => hfa a z rfl) t1
          have sub : ∀ b ∈ a :: fr, b ∈ fps1 i ∨ b ∈ fv := fun b hb => by
            rcases List.mem_cons.mp hb with z | z
            · exact .inl (z ▸ ha)
            · exact (hfr b z).imp (hfq b) id
          obtain ⟨fps2, R2, s2⟩ := R1.put hv ha hi w2 fun b hb => (sub b hb).imp id (dj b)
          refine ⟨.ref a, hv, a, _, dx, _, rfl, s1, ok.cl, ok.na f (List.mem_of_getElem? hfj), ?_, ?_⟩
          · refine Nat.lt_of_le_of_lt ?_ (hsm C)
            rw [List.length_zip]; exact Nat.min_le_left _ _
          · rw [e1]
            refine kk σ _ G1 fps2 R2 (f1.trans (fr_put (.inl ⟨i, ha⟩) fun b hb => .inl ?_))
            exact (s2 b hb).elim .inl fun z => (sub b z).imp (fun y => ⟨i, y⟩) id
        split at e
        · rename_i hlt
          cases e
          obtain ⟨fr, lw, hfr⟩ := OwL.set (wk (.ins (cA X.K C) dx ((clsFields C).zip (vs.set j y)))) j (lk _) hlt fun b hb z => dj b hb ⟨i, hfq b z⟩
          exact fin (vs.set j y) (os.set j o1) fr (zip_set ok.nd hfj (by rw [l1.length]; exact hlt)) lw hfr k
        · split at e
          · rename_i _ heq
            cases e
            have lw := OwL.app (lk (.ins (cA X.K C) dx ((clsFields C).zip (vs ++ [y])))) (.cons (wk _) .nil fun _ _ z => nomatch z) fun b hb z => dj b (by simpa using z) ⟨i, hfq b hb⟩
            exact fin (vs ++ [y]) (os ++ [o1]) _ (zip_app ok.nd (by rw [l1.length, ← heq]; exact hfj)) lw (fun b hb => (List.mem_append.mp hb).imp id fun z => by simpa using z) k
          · cases e
      · cases e
    · cases e
  · cases e
end
end T
namespace T
open PySem PySem.Spec PyProof.Rows L2

/-! ### methods that change their own instance, __init__ among them -/
/-- os: the fields ahead, ds: the other arguments; handed back: the value, the fields behind -/
abbrev FM := List O → List D → Option (O × List O)
def spM (K : PySem.W.Frag) (C : Nat) (fm : FM) : Sp := fun vs H Q _ => ∃ G x ws os ds fp r os', vs = .ref x :: ws ∧ Le G H ∧ Ow K G H (.ref x) (.ins none C os) fp ∧ IsL K G ws ds ∧ fm os ds = some (r, os') ∧
  ∀ v H' G' fp' fv, Le G' H' → Ow K G' H' (.ref x) (.ins none C os') fp' → Ow K G' H' v r fv → (∀ a ∈ fv, a ∉ fp') → Fr G H (· ∈ fp) G' H' (fun a => a ∈ fp' ∨ a ∈ fv) → Q v H'
theorem Ow.tag {K : PySem.W.Frag} {G H : Hp} {v : V} {t : Option Addr} {C : Nat} {os : List O} {fp : List Addr} (w : Ow K G H v (.ins t C os) fp) : ∃ a, v = .ref a ∧ Ow K G H v (.ins (some a) C os) fp ∧ Ow K G H v (.ins none C os) fp := by
  obtain ⟨a, dx, vs, fq, rfl, rfl, e, g, r, n, _⟩ := w.ins_inv
  exact ⟨a, rfl, .ins e g r n (.inr rfl), .ins e g r n (.inl rfl)⟩
theorem rel_startM {K : PySem.W.Frag} {G H : Hp} {N : List Str} {x : Addr} {C : Nat} {os : List O} {fp : List Addr} {vs : List V} {ds : List D} (le : Le G H) (w : Ow K G H (.ref x) (.ins (some x) C os) fp) (l : IsL K G vs ds) :
    Rel K G H (L2.start N (.ref x :: vs)) (some (.ins (some x) C os) :: start0 (N.length - 1) ds) (fun i => if i = 0 then fp else []) := by
  have R := rel_start (N := N.tail) le l
  have hl : N.tail.length = N.length - 1 := by simp
  rw [hl] at R
  have es : L2.start N (.ref x :: vs) = some (.ref x) :: L2.start N.tail vs := by
    unfold L2.start
    simp only [List.map_cons, List.length_cons, List.cons_append, List.length_tail]
    congr 3
    omega
  rw [es]
  refine ⟨le, by simpa using R.len, fun i o h => ?_, fun i h => ?_, fun i j a ha hb => ?_⟩
  · cases i with
    | zero =>
      simp only [List.getElem?_cons_zero, Option.some.injEq] at h
      subst h
      exact ⟨_, rfl, w⟩
    | succ i =>
      obtain ⟨v, e, q⟩ := R.sl i o (by simpa using h)
      exact ⟨v, by simpa using e, q⟩
  · cases i with
    | zero => exact absurd rfl (h _)
    | succ i => rfl
  · cases i with
    | zero =>
      cases j with
      | zero => rfl
      | succ j => cases hb
    | succ i => cases ha
section
variable {P : Program} {w : World} {K : PySem.W.Frag} {mg : Str → Option Value} {base : Heap} {x qual : Str} {params : Arguments} {body : List Stmt} {scope : Scope} {dvs : List V} {kws : List (Str × V)} {f : Addr} {fd : FuncData}
/-- the value and the slots at a body's end -/
def endsE (o : Option Out) : Option (O × Env) := match o with
  | some (.rt o ρ) => some (o, ρ)
  | some (.nx ρ) => some (.fz .non, ρ)
  | _ => none
theorem fn_M {N ps : List Str} {k C : Nat} {fm : FM} (Fn : FunD K x qual params body scope dvs kws f fd) (S : FnScope N ps scope) (g : FS) (hlen : ∀ os ds r, fm os ds = some r → ds.length + 1 = ps.length)
    (hb : ∀ (cdv : Value) (A : Around) (outer : List PySem.Env) (s : Shared) (H : Hp) (E : XK), Room k (A.deeper (envOfC qual scope s.heap.objs.size f cdv)) → DSs (cxOf CX0 P w K mg base N qual scope f cdv A outer s H E).nox body g)
    (hg : ∀ x os ds r os', fm os ds = some (r, os') → ∃ ρ', endsE (g (some (.ins (some x) C os) :: start0 (N.length - 1) ds)) = some (r, ρ') ∧ ρ'[0]? = some (some (.ins (some x) C os'))) : FnOk P w K mg base CX0 (k + 1) f fd ps (spM K C fm) := by
  refine Fn.ok S (fun vs H Q E ⟨G, x, ws, os, ds, fp, r, os', e, le, w, l, e1, _⟩ => ?_) fun cdv A outer s H vs Q E hr ⟨G, x, ws, os, ds, fp, r, os', ev, le, w, l, e1, q⟩ => ⟨_, (hb cdv A outer s H E hr).nox, ?_⟩
  · rw [e, List.length_cons, l.length]
    exact hlen _ _ _ e1
  · subst ev
    obtain ⟨ρ', h1, h2⟩ := hg x os ds r os' e1
    obtain ⟨a, ea, w1, _⟩ := w.tag
    cases ea
    cases z : g (some (.ins (some x) C os) :: start0 (N.length - 1) ds) with
    | none => rw [z] at h1; cases h1
    | some out =>
      rw [z] at h1
      refine ⟨G, _, _, out, rel_startM le w1 l, z, ?_⟩
      have U0 : ∀ a, U (fun i : Nat => if i = 0 then fp else []) a → a ∈ fp := fun a ⟨i, h⟩ => by
        dsimp only at h
        split at h
        · exact h
        · cases h
      have fin : ∀ (v : V) σ' H' G' fps' fv, Rel K G' H' σ' ρ' fps' → Fr G H (U fun i : Nat => if i = 0 then fp else []) G' H' (fun a => U fps' a ∨ a ∈ fv) → Ow K G' H' v r fv → (∀ a ∈ fv, ¬ U fps' a) → Q v H' := fun v σ' H' G' fps' fv R' f' wr dj => by
        obtain ⟨u, e2, w2⟩ := R'.sl 0 _ h2
        obtain ⟨b, eb, _, w3⟩ := w2.tag
        obtain ⟨b', _, _, _, eb', _, _, _, _, _, tg⟩ := w2.ins_inv
        have : b' = x := by
          rcases tg with z | z
          · cases z
          · exact (Option.some.inj z).symm
        subst this
        rw [eb'] at w3
        exact q v H' G' (fps' 0) fv R'.le w3 wr (fun a ha hb => dj a ha ⟨0, hb⟩) (f'.mono U0 fun a z => z.imp (fun y => ⟨0, y⟩) id)
      cases out with
      | nx ρ =>
        cases h1
        exact fun σ' H' G' fps' R' f' => fin .non σ' H' G' fps' [] R' (f'.mono (fun _ z => z) fun a z => z.elim id fun y => nomatch y) (.fz .non) fun _ z => nomatch z
      | rt o1 ρ =>
        cases h1
        exact fun v σ' H' G' fps' fv R' f' w' dj => fin v σ' H' G' fps' fv R' f' w' dj
      | bk ρ => cases h1
      | ct ρ => cases h1
end
section
variable {X : Cx} {k C : Nat} {f : Addr} {fd : FuncData} {ps : List Str} {fm : FM} {dvs : List V} {dd : List D} {ds : List Value} {x m : Str} {p pos apos : Pos} {e o : Expr} {es : List Expr}
def makeF (C : Nat) (fm : FM) (dd : List D) (g : F (List D)) : F O := mapF g fun ds => match fm [] (ds ++ dd) with
  | some (.fz .non, os) => some (.ins none C os)
  | _ => none
/-- behind a method's end, the caller's state -/
theorem Rel.meth {K : PySem.W.Frag} {G H G' H' : Hp} {σ : L2.St} {ρ : Env} {fps : Fps} {fp : List Addr} {F' : Addr → Prop} (R : Rel K G H σ ρ fps) (le : Le G' H') (fr : Fr G H (· ∈ fp) G' H' F') (hd : ∀ a ∈ fp, ¬ U fps a) :
    Rel K G' H' σ ρ fps ∧ ∀ a, F' a → ¬ U fps a := by
  refine ⟨R.go fr.gg le (fun a ha => ?_) fun a ha => ?_, fun a ha hu => ?_⟩
  · cases q : G' a with
    | none => rfl
    | some u =>
      rcases fr.gnew a (by rw [q]; exact fun y => nomatch y) with z | z | z
      · exact absurd (R.out ha).2 z
      · exact absurd ha (hd a z)
      · exact absurd z (R.out ha).1
  · cases q : H a with
    | none => exact absurd q (R.out ha).1
    | some u => exact fr.keep a u q fun z => hd a z ha
  · rcases fr.fnew a ha with z | z
    · exact hd a z hu
    · exact (R.out hu).1 z
theorem make_imp {t : TA} {g : F (List D)} (ht : ∀ σ H Q, tA X.K g σ H Q → t σ H Q) (hdd : ∀ G, IsL X.K G dvs dd) : ∀ σ H Q, tO X.K (makeF C fm dd g) σ H Q → tMake (cA X.K C) (spM X.K C fm) dvs E0 t σ H Q := fun σ H Q ⟨G, ρ, fps, o, ρ', R, e, k⟩ => by
  obtain ⟨da, e1, e2⟩ := mapF_some e

  split at e2
  · rename_i os q
    cases e2
    refine ht _ _ _ ⟨G, ρ, fps, da, ρ', R, e1, fun vs H1 G1 fps1 R1 f1 i1 => fun x dx hx hdx ne => ?_⟩
    obtain ⟨R2, f2, _, u2⟩ := R1.newO (u := .own x) hdx
    have hx2 : upd H1 dx (.own x) x = none := by rw [upd_ne ne.symm]; exact hx
    obtain ⟨R3, f3, g3, u3⟩ := R2.newO (u := .ins (cA X.K C) dx []) hx2
    have wx : Ow X.K G1 (upd (upd H1 dx (.own x)) x (.ins (cA X.K C) dx [])) (.ref x) (.ins none C []) [x] :=
      .ins (vs := []) (by rw [upd_same, List.zip_nil_right]) g3 .nil (fun z => nomatch z) (.inl rfl)
    refine ⟨G1, x, vs ++ dvs, [], da ++ dd, [x], .fz .non, os, rfl, R3.le, wx, i1.append (hdd G1), q, fun v H' G' fp' fv le wo wr dj fr => ?_⟩
    obtain ⟨hv, rfl⟩ := wr.fz_inv
    obtain ⟨R4, nd⟩ := R3.meth le fr fun a ha => by
      have : a = x := by simpa using ha
      rw [this]; exact u3
    refine ⟨hv.non_inv, k (.ref x) H' G' fps1 fp' R4 ⟨((f1.gg.trans f2.gg).trans f3.gg).trans fr.gg, fun a u e n => ?_, fun a e => fr.live a (f3.live a (f2.live a (f1.live a e))), fun a e => ?_, fun a e => ?_⟩ wo fun a ha => nd a (.inl ha)⟩
    · have ne1 : a ≠ dx := fun z => by
        have := f1.keep a u e n
        rw [z, hdx] at this; cases this
      have ne2 : a ≠ x := fun z => by
        have := f1.keep a u e n
        rw [z, hx] at this; cases this
      exact fr.keep a u (by rw [upd_ne ne2, upd_ne ne1]; exact f1.keep a u e n) fun z => ne2 (by simpa using z)
    · rcases fr.gnew a e with z | z | z
      · exact f1.gnew a z
      · have : a = x := by simpa using z
        subst this
        refine .inr (.inr ?_)
        cases y : H a with
        | none => rfl
        | some w => exact absurd hx (f1.live a (by rw [y]; exact fun y => nomatch y))
      · refine .inr (.inr ?_)
        cases y : H a with
        | none => rfl
        | some w => exact absurd z (f3.live a (f2.live a (f1.live a (by rw [y]; exact fun y => nomatch y))))
    · rcases e with z | z
      · exact f1.fnew a z
      · rcases fr.fnew a (.inl z) with y | y
        · have : a = x := by simpa using y
          subst this
          refine .inr ?_
          cases y : H a with
          | none => rfl
          | some w => exact absurd hx (f1.live a (by rw [y]; exact fun y => nomatch y))
        · refine .inr ?_
          cases y2 : H a with
          | none => rfl
          | some w => exact absurd y (f3.live a (f2.live a (f1.live a (by rw [y2]; exact fun y => nomatch y))))
  · cases e2
theorem do_make (M : Mk X.K (cA X.K C) f) (Fk : FnOk X.prog X.w X.K X.mg X.base CX0 k f fd ps (spM X.K C fm)) (hr : Room (k + 1) X.A) (hg : Gl X x) (hm : X.mg x = some (.ref (cA X.K C))) (hb : Binds X.K fd ps ds) (hd : Vals dvs ds)
    (hdd : ∀ G, IsL X.K G dvs dd) {g : F (List D)} (ha : DA X (e :: es) g) (hdb : (x == ("__debug__" : Str)) = false := by decide) (he : starEach (e :: es) X.env = (false, eval e X.env) :: starEach es X.env := by rfl)
    (hpl : (backTo pos (starEach es X.env)).any (·.1) = false := by rfl) : DO X (.Call (.Name x p) (e :: es) [] pos) (makeF C fm dd g) :=
  PE.imp (pe_make M Fk hr hg hm hb hd pass0 ha hdb he hpl) (make_imp (fun _ _ _ z => z) hdd)
/-! o.m(..) of frozen instances: the instance goes in as data -/
def methF (C : Nat) (sp : List D → Option O) (dd : List D) (g : F D) (ga : F (List D)) : F O := bindF g fun d => match d with
  | .ins C' xs => if C' = C then mapF ga fun ds => sp (.ins C' xs :: (ds ++ dd)) else fun _ => none
  | _ => fun _ => none
theorem look_none {fs : List Str} {m : Str} (h : m ∉ fs) : ∀ vs : List V, (fs.zip vs).lookup m = none := by
  induction fs with
  | nil => intro vs; simp
  | cons g r ih =>
    intro vs
    cases vs with
    | nil => simp
    | cons v vs =>
      have hne : ¬ m = g := fun e => h (e ▸ List.mem_cons_self)
      rw [List.zip_cons_cons, List.lookup_cons, beq_eq_false_iff_ne.mpr hne]
      exact ih (fun z => h (List.mem_cons_of_mem _ z)) vs
variable {sp : List D → Option O}
theorem meth_imp {t : TA} {ga : F (List D)} {g : F D} (ht : ∀ σ H Q, tA X.K ga σ H Q → t σ H Q) (hdd : ∀ G, IsL X.K G dvs dd) (hn : m ∉ clsFields C) :
    ∀ σ H Q, tO X.K (methF C sp dd g ga) σ H Q → tMeth (cA X.K C) m (spP X.K sp) dvs E0 (tE X.K g) t σ H Q := fun σ H Q ⟨G, ρ, fps, o, ρ', R, e, k⟩ => by
  obtain ⟨d, ρ1, e1, e2⟩ := bindF_some e
  refine ⟨G, ρ, fps, d, ρ1, R, e1, fun v H1 G1 fps1 R1 f1 i1 => ?_⟩

  split at e2
  · rename_i C' xs
    split at e2
    · rename_i hC
      subst hC
      obtain ⟨da, e3, e4⟩ := mapF_some e2
      obtain ⟨a, dx, vs, rfl, s, l⟩ := i1.ins_inv
      refine ⟨a, dx, _, rfl, R1.le.ins s, look_none hn vs, ht _ _ _ ⟨G1, ρ1, fps1, da, ρ', R1, e3, fun ws H2 G2 fps2 R2 f2 i2 => ?_⟩⟩
      refine ⟨G2, .ins C' xs :: (da ++ dd), o, R2.le, .cons (f2.is i1) (i2.append (hdd G2)), e4, fun v' H' G' fv le w fr => ?_⟩
      obtain ⟨R3, f3, dj⟩ := R2.call le fr
      exact k v' H' G' fps2 fv R3 ((f1.trans f2).trans f3) w dj
    · cases e2
  · cases e2
theorem do_meth {pl : Sem Bool} (c : Cls X.K (cA X.K C)) (hm : Meth X.K (cA X.K C) m f) (Fk : FnOk X.prog X.w X.K X.mg X.base CX0 k f fd ps (spP X.K sp)) (hr : Room k X.A) (hb : Binds X.K fd ps ds) (hd : Vals dvs ds) (hdd : ∀ G, IsL X.K G dvs dd) (hn : m ∉ clsFields C)
    {g : F D} {ga : F (List D)} (he : DE X o g) (ha : DA X (e :: es) ga)
    (hst : starEach (e :: es) X.env = (false, eval e X.env) :: starEach es X.env := by rfl) (hpl : (backTo pos (starEach es X.env)).any (·.1) = false := by rfl)
    (ht : eval (.Call (.Attribute o m apos) (e :: es) [] pos) X.env = (do
      let ov ← eval o X.env
      standAt apos.atName
      let (f, first) ← holding [ov] (getMethod ov m pl)
      callWith pos f first (backTo pos (starEach (e :: es) X.env)) (backToKw pos (keywordEach [] X.env))) := by rfl) :
    DO X (.Call (.Attribute o m apos) (e :: es) [] pos) (methF C sp dd g ga) :=
  PE.imp (pe_meth he c hm Fk hr hb hd pass0 ha hst hpl ht) (meth_imp (fun _ _ _ z => z) hdd hn)
theorem do_meth0 {pl : Sem Bool} (c : Cls X.K (cA X.K C)) (hm : Meth X.K (cA X.K C) m f) (Fk : FnOk X.prog X.w X.K X.mg X.base CX0 k f fd ps (spP X.K sp)) (hr : Room k X.A) (hb : Binds X.K fd ps ds) (hd : Vals dvs ds) (hdd : ∀ G, IsL X.K G dvs dd) (hn : m ∉ clsFields C)
    {g : F D} (he : DE X o g)
    (ht : eval (.Call (.Attribute o m apos) [] [] pos) X.env = (do
      let ov ← eval o X.env
      standAt apos.atName
      let (f, first) ← holding [ov] (getMethod ov m pl)
      callWith pos f first (backTo pos (starEach [] X.env)) (backToKw pos (keywordEach [] X.env))) := by rfl) :
    DO X (.Call (.Attribute o m apos) [] [] pos) (methF C sp dd g aNil) :=
  PE.imp (pe_meth0 he c hm Fk hr hb hd pass0 ht) (meth_imp (t := tNil) (fun σ H Q ⟨G, ρ, fps, d, ρ', R, e, k⟩ => by
    cases e
    exact k [] H G fps R Fr.refl .nil) hdd hn)
end
end T
namespace T
open PySem PySem.Spec PyProof.Rows L2

/-! ### slices -/
def cutA {α : Type} (xs : List α) (lo hi : Option Int) : List α := (xs.drop (HT.sIx xs.length 0 lo)).take (HT.sIx xs.length xs.length hi - HT.sIx xs.length 0 lo)
theorem isL_cut {K : PySem.W.Frag} {G : Hp} {vs : List V} {ds : List D} (l : IsL K G vs ds) (lo hi : Option Int) : IsL K G (cutV vs lo hi) (cutA ds lo hi) := by
  unfold cutV cutA
  rw [l.length]
  exact (l.drop _).take _
abbrev FP := F (Option Int)
def pNo : FP := fun ρ => some (none, ρ)
def pSome (f : F D) : FP := mapF f fun d => match d with
  | .int i => some (some i)
  | _ => none
def tP (K : PySem.W.Frag) (f : FP) : TO := fun σ H Q => ∃ G ρ fps o ρ', Rel K G H σ ρ fps ∧ f ρ = some (o, ρ') ∧ ∀ H' G' fps', Rel K G' H' σ ρ' fps' → Fr G H (U fps) G' H' (U fps') → Q o H'
abbrev DP (X : Cx) (e : Option Expr) (f : FP) : Prop := PO X e (tP X.K f)
theorem PO.imp {X : Cx} {e : Option Expr} {t t' : TO} (h : PO X e t) (k : ∀ σ H Q, t' σ H Q → t σ H Q) : PO X e t' := ⟨fun pins s σ H Q I q => h.run pins s σ H Q I (k _ _ _ q)⟩
section
variable {X : Cx} {e a b c : Expr} {es : List Expr} {pos pos' p p2 : Pos} {lo hi : Option Expr}
theorem dp_none : DP X none pNo := PO.imp po_none fun σ H Q ⟨G, ρ, fps, o, ρ', R, e, k⟩ => by
  cases e
  exact k H G fps R Fr.refl
theorem dp_some {f : F D} (h : DE X e f) : DP X (some e) (pSome f) := PO.imp (po_some h) fun σ H Q ⟨G, ρ, fps, o, ρ', R, e, k⟩ => by
  obtain ⟨d, e1, e2⟩ := mapF_some e
  refine ⟨G, ρ, fps, d, ρ', R, e1, fun v H1 G1 fps1 R1 f1 i1 => ?_⟩
  split at e2
  · cases e2
    exact ⟨_, i1.int_inv, k H1 G1 fps1 R1 f1⟩
  · cases e2
def cutD (d : D) (lo hi : Option Int) : Option D := match d with
  | .lst xs => some (.lst (cutA xs lo hi))
  | .scr xs => some (.lst (cutA xs lo hi))
  | .tup xs => some (.tup (cutA xs lo hi))
  | .str z => if z.length ≤ sizeLine then some (.str (cutS z lo hi)) else none
  | _ => none
def eCut (f : F D) (l h : FP) : F D := bindF f fun d => bindF l fun i => mapF h fun j => cutD d i j
theorem cut_all {α : Type} {xs : List α} {lo hi : Option Int} (h : HT.sIx xs.length 0 lo = 0 ∧ HT.sIx xs.length xs.length hi = xs.length) : cutA xs lo hi = xs := by
  unfold cutA
  rw [h.1, h.2]
  simp
theorem de_cut {f : F D} {l h : FP} (he : DE X e f) (hl : DP X lo l) (hh : DP X hi h) : DE X (.Subscript e (.Slice lo hi none p2) pos) (eCut f l h) :=
  PE.imp (pe_slice ((sl_list (X := X)).or (sl_tupA.or sl_str)) he hl hh) fun σ H Q ⟨G, ρ, fps, d, ρ', R, e, k⟩ => by
    obtain ⟨d0, ρ1, e1, e2⟩ := bindF_some e
    obtain ⟨i, ρ2, e3, e4⟩ := bindF_some e2
    obtain ⟨j, e5, e6⟩ := mapF_some e4
    refine ⟨G, ρ, fps, d0, ρ1, R, e1, fun v H1 G1 fps1 R1 f1 i1 => ⟨G1, ρ1, fps1, i, ρ2, R1, e3, fun H2 G2 fps2 R2 f2 => ⟨G2, ρ2, fps2, j, ρ', R2, e5, fun H3 G3 fps3 R3 f3 => ?_⟩⟩⟩
    have i3 := f3.is (f2.is i1)
    have f4 := (f1.trans f2).trans f3
    cases d0 <;> simp only [cutD, reduceCtorEq] at e6
    · split at e6
      · rename_i hz
        cases e6
        exact .inr (.inr ⟨_, i3.str_inv, hz, k _ H3 G3 fps3 R3 f4 (.str _)⟩)
      · cases e6
    · cases e6
      obtain ⟨a, vs, rfl, s, l⟩ := i3.tup_inv
      refine .inr (.inl ⟨a, vs, rfl, R3.le.sqT s, fun hw => ?_, fun _ q hq => ?_⟩)
      · rw [l.length] at hw
        exact k _ H3 G3 fps3 R3 f4 (by rw [cut_all hw]; exact .tup s l)
      · obtain ⟨R4, f5⟩ := R3.newG (u := .tup (cutV vs i j)) hq
        exact k _ _ _ fps3 R4 (f4.trans f5) (.tup (.inl (.inl upd_same)) (new_isL R3.le hq (isL_cut l i j)))
    · cases e6
      obtain ⟨a, vs, rfl, s, l⟩ := i3.lst_inv
      refine .inl ⟨a, vs, rfl, .of (R3.le.lst s), fun q hq => ?_⟩
      obtain ⟨R4, f5⟩ := R3.newG (u := .lst (cutV vs i j)) hq
      exact k _ _ _ fps3 R4 (f4.trans f5) (.lst upd_same (new_isL R3.le hq (isL_cut l i j)))
    · cases e6
      obtain ⟨a, vs, rfl, s, l⟩ := i3.scr_inv
      refine .inl ⟨a, vs, rfl, R3.le.sqL s, fun q hq => ?_⟩
      obtain ⟨R4, f5⟩ := R3.newG (u := .lst (cutV vs i j)) hq
      exact k _ _ _ fps3 R4 (f4.trans f5) (.lst upd_same (new_isL R3.le hq (isL_cut l i j)))

/-! ### a, b = e1, e2 -/
def sPar2 (i j : Nat) (f : F (List D)) : FS := fun ρ => match f ρ with
  | some ([a, b], ρ1) => if i < ρ1.length ∧ j < ρ1.length then some (.nx ((ρ1.set i (some (.fz a))).set j (some (.fz b)))) else none
  | _ => none
theorem ds_par {i j : Nat} {x y : Str} {px py pt : Pos} {kt k2 pt2} {f : F (List D)} (hc : X.calm = true) (hN : X.N.Nodup) (ha : DA X [a, b] f) (hi : X.N[i]? = some x := by rfl) (hj : X.N[j]? = some y := by rfl) (hij : i ≠ j := by decide)
    (hx : X.env.scope.names.lookup x = some .local := by rfl) (hy : X.env.scope.names.lookup y = some .local := by rfl)
    (hw : swappedStores [.Tuple [.Name x px, .Name y py] kt pt] (.Tuple [a, b] k2 pt2) X.env = pure (some [x, y]) := by rfl)
    (hs : swapsWithSole [.Tuple [.Name x px, .Name y py] kt pt] (.Tuple [a, b] k2 pt2) pos.line X.env = pure false := by rfl) :
    DS X (.Assign [.Tuple [.Name x px, .Name y py] kt pt] (.Tuple [a, b] k2 pt2) pos) (sPar2 i j f) := PS.imp (ps_par hc hN hi hj hij hx hy ha hw hs) fun Dn σ H ⟨G, ρ, fps, o, R, e, k⟩ => by
  unfold sPar2 at e
  split at e
  · rename_i d d' ρ1 q
    split at e
    · rename_i hl
      cases e
      refine ⟨G, ρ, fps, _, ρ1, R, q, fun vs H1 G1 fps1 R1 f1 i1 => ?_⟩
      obtain ⟨v, v', rfl, i2, i3⟩ := isL_2 i1
      obtain ⟨fps2, R2, s2⟩ := R1.store (Ow.fz (H := H1) i2) (fun _ y => nomatch y) hl.1
      obtain ⟨fps3, R3, s3⟩ := R2.store (i := j) (Ow.fz (H := H1) i3) (fun _ y => nomatch y) (by simpa using hl.2)
      refine ⟨v, v', rfl, k _ H1 G1 fps3 R3 (f1.trans ⟨Same.refl _, fun _ _ z _ => z, fun _ z => z, fun _ z => .inl z, fun a z => .inl ?_⟩)⟩
      exact (s3 a z).elim (fun y => (s2 a y).elim id fun y => nomatch y) fun y => nomatch y
    · cases e
  · cases e

/-! ### sum, divmod, order, least -/
def intsOf : List D → Option (List Int)
  | [] => some []
  | .int i :: r => (intsOf r).map (i :: ·)
  | _ => none
theorem intsOf_eq : ∀ {ds : List D} {ns : List Int}, intsOf ds = some ns → ds = ns.map D.int
  | [], ns, h => by simp [intsOf] at h; subst h; rfl
  | d :: r, ns, h => by
    cases d <;> simp only [intsOf, reduceCtorEq, Option.map_eq_some_iff] at h
    obtain ⟨ms, h1, rfl⟩ := h
    rw [intsOf_eq h1]; rfl
theorem intsOf_map (ns : List Int) : intsOf (ns.map D.int) = some ns := by
  induction ns with
  | nil => rfl
  | cons n r ih => simp [intsOf, ih]
def rSumT (K : PySem.W.Frag) : List V → Hp → VK → Prop := fun vs H Q => ∃ (a : Addr) (ns : List Int), vs = [V.ref a] ∧ SqT K H a (ns.map V.int) ∧ Q (.int ns.sum) H
theorem cr_sumT (hc : X.calm = true) : CallR X (.builtin "sum") (rSumT X.K) := by
  intro pins s σ H xs us Q I r h
  obtain ⟨a, ns, rfl, hs, q⟩ := h
  obtain ⟨u, rfl, rx⟩ := vals1 r
  cases rx
  obtain ⟨its, rv, ht, hz⟩ := I.tuple hs
  have hi := rv.ints
  obtain ⟨ys, e⟩ := hi.allInts.items
  have hn : numsOf (intItems ys).toList = ns := by rw [← e]; exact hi.numsOf
  rw [nums_intItems] at hn
  rw [e] at ht
  refine PySem.W.ktm_sumG (I.ok.hd hc) ht fun h' tk t' hk => ?_
  rw [preSum_eq, List.take_of_length_le (by simp), hn]
  exact ⟨.int _, H, I.kept (t' := tk) hk, ⟨_, rfl⟩, q⟩
def sumD : DL := fun ds => match ds with
  | [.tup xs] => (intsOf xs).map fun ns => .int ns.sum
  | [.lst xs] => (intsOf xs).map fun ns => .int ns.sum
  | _ => none
theorem de_sum {f : F (List D)} (hc : X.calm = true) (hg : Gl X "sum") (hm : X.mg "sum" = none) (ha : DA X [a] f) (hs : A1 X a := by rfl) : DE X (.Call (.Name "sum" p) [a] [] pos) (mapF f sumD) := de_cb (fun ha => pe_callB ((cr_sumT hc).or (cr_sum hc)) hg hm bt_sum ha (he := hs) (hpl := rfl)) (fun vs H Q G ds d le i e k => by
  unfold sumD at e
  split at e
  · rw [Option.map_eq_some_iff] at e
    obtain ⟨ns, h1, rfl⟩ := e
    obtain ⟨v, rfl, i2⟩ := isL_1 i
    obtain ⟨a, vs, rfl, s, l⟩ := i2.tup_inv
    rw [intsOf_eq h1] at l
    rw [l.ints] at s
    exact .inl ⟨a, ns, rfl, le.sqT s, k _ G H .no (.int _)⟩
  · rw [Option.map_eq_some_iff] at e
    obtain ⟨ns, h1, rfl⟩ := e
    obtain ⟨v, rfl, i2⟩ := isL_1 i
    obtain ⟨a, vs, rfl, s, l⟩ := i2.lst_inv
    rw [intsOf_eq h1] at l
    rw [l.ints] at s
    exact .inr ⟨a, ns, rfl, .of (le.lst s), k _ G H .no (.int _)⟩
  · cases e) ha
def divmodD : DL := fun ds => match ds with
  | [.int i, .int j] => if 0 < j ∧ Builtin.Int.intBits i ≤ 4000 then some (.tup [.int (i / j), .int (i % j)]) else none
  | _ => none
theorem de_divmod {f : F (List D)} (hg : Gl X "divmod") (hm : X.mg "divmod" = none) (ha : DA X [a, b] f) (hs : A2 X a b := by exact ⟨rfl, fun _ => rfl⟩) : DE X (.Call (.Name "divmod" p) [a, b] [] pos) (mapF f divmodD) := de_cb (fun ha => pe_callB call_divmodW hg hm bt_divmod ha (he := hs.1) (hpl := hs.2 _)) (fun vs H Q G ds d le i e k => by
  unfold divmodD at e
  split at e
  · split at e
    · rename_i h
      cases e
      obtain ⟨v, u, rfl, i2, i3⟩ := isL_2 i
      rw [i2.int_inv, i3.int_inv]
      refine ⟨_, _, rfl, divp_ok h.1 (by omega), fun q hq => k _ _ _ (.one q _ hq) (.tup (.inl (.inl upd_same)) (.cons (.int _) (.cons (.int _) .nil)))⟩
    · cases e
  · cases e) ha
def notNone : PyData → Bool
  | .none => false
  | _ => true
theorem notNone_ne {p : PyData} (h : notNone p = true) : p ≠ .none := fun e => by rw [e] at h; cases h
def okLt (p q : PyData) : Bool := PySem.W.alike p q && (notNone p && (decide (p.depth ≤ 64)))
theorem okLt_ok {p q : PyData} (h : okLt p q = true) : PySem.W.alike p q = true ∧ p ≠ .none ∧ p.depth ≤ 64 := by
  unfold okLt at h
  simp only [Bool.and_eq_true] at h
  exact ⟨h.1, notNone_ne h.2.1, of_decide_eq_true h.2.2⟩
def rOrd (K : PySem.W.Frag) (r : PyData → PyData → Bool) : R2 := fun x y H Q => ∃ d e, Dp K H x d ∧ Dp K H y e ∧ okLt d e = true ∧ Q (.bl (r d e)) H
def ordD (r : PyData → PyData → Bool) : D2 := fun a b => match toP a, toP b with
  | some p, some q => if okLt p q = true then some (.bl (r p q)) else none
  | _, _ => none
theorem o2_ord (r : PyData → PyData → Bool) : Op2 X (rOrd X.K r) (ordD r) := fun x y H Q G a b d le ia ib e k => by
  unfold ordD at e
  split at e
  · rename_i p q hp hq
    split at e
    · rename_i h
      cases e
      exact ⟨p, q, toP_dp le a ia hp, toP_dp le b ib hq, h, k _ G H .no (.bl _)⟩
    · cases e
  · cases e
theorem room_lt {A : Around} {p q : PyData} (hu : A.units + 64 < cLine) (h : p.depth ≤ 64) : A.units + min p.depth q.depth < cLine := by
  have := Nat.min_le_left p.depth q.depth
  omega
theorem op_ltD (hu : X.A.units + 64 < cLine) : OpR X (compareOp .Lt) (rOrd X.K fun p q => PySem.W.dataLt p q) := by
  intro pins s σ H x y v u Q I rx ry h
  obtain ⟨d, e, hd, he, ok, q⟩ := h
  obtain ⟨as, r1⟩ := Dp.reads I d x v hd rx
  obtain ⟨bs, r2⟩ := Dp.reads I e y u he ry
  obtain ⟨h1, h2, h3⟩ := okLt_ok ok
  exact PySem.W.lt_data r1 r2 h1 h2 (room_lt hu h3) ⟨.bl _, H, I, rfl, q⟩
theorem op_gtD (hu : X.A.units + 64 < cLine) : OpR X (compareOp .Gt) (rOrd X.K fun p q => PySem.W.dataLt q p) := by
  intro pins s σ H x y v u Q I rx ry h
  obtain ⟨d, e, hd, he, ok, q⟩ := h
  obtain ⟨as, r1⟩ := Dp.reads I d x v hd rx
  obtain ⟨bs, r2⟩ := Dp.reads I e y u he ry
  obtain ⟨h1, h2, h3⟩ := okLt_ok ok
  exact PySem.W.gt_data r1 r2 h1 h2 (room_lt hu h3) ⟨.bl _, H, I, rfl, q⟩
theorem op_leD (hu : X.A.units + 64 < cLine) : OpR X (compareOp .LtE) (rOrd X.K fun p q => !PySem.W.dataLt q p) := by
  intro pins s σ H x y v u Q I rx ry h
  obtain ⟨d, e, hd, he, ok, q⟩ := h
  obtain ⟨as, r1⟩ := Dp.reads I d x v hd rx
  obtain ⟨bs, r2⟩ := Dp.reads I e y u he ry
  obtain ⟨h1, h2, h3⟩ := okLt_ok ok
  exact PySem.W.le_data r1 r2 h1 h2 (room_lt hu h3) ⟨.bl _, H, I, rfl, q⟩
theorem op_geD (hu : X.A.units + 64 < cLine) : OpR X (compareOp .GtE) (rOrd X.K fun p q => !PySem.W.dataLt p q) := by
  intro pins s σ H x y v u Q I rx ry h
  obtain ⟨d, e, hd, he, ok, q⟩ := h
  obtain ⟨as, r1⟩ := Dp.reads I d x v hd rx
  obtain ⟨bs, r2⟩ := Dp.reads I e y u he ry
  obtain ⟨h1, h2, h3⟩ := okLt_ok ok
  exact PySem.W.ge_data r1 r2 h1 h2 (room_lt hu h3) ⟨.bl _, H, I, rfl, q⟩
/-- of ints plainly, of other data by dataLt -/
def ltD : D2 := fun a b => match a, b with
  | .int i, .int j => some (.bl (decide (i < j)))
  | _, _ => ordD (fun p q => PySem.W.dataLt p q) a b
def gtD : D2 := fun a b => match a, b with
  | .int i, .int j => some (.bl (decide (j < i)))
  | _, _ => ordD (fun p q => PySem.W.dataLt q p) a b
def leD : D2 := fun a b => match a, b with
  | .int i, .int j => some (.bl (decide (i ≤ j)))
  | _, _ => ordD (fun p q => !PySem.W.dataLt q p) a b
def geD : D2 := fun a b => match a, b with
  | .int i, .int j => some (.bl (decide (j ≤ i)))
  | _, _ => ordD (fun p q => !PySem.W.dataLt p q) a b
theorem ord_or (r : Int → Int → Bool) (g : D2) (h : D2) (hh : ∀ a b, h a b = match a, b with
  | .int i, .int j => some (.bl (r i j))
  | _, _ => g a b) (a b d : D) (e : h a b = some d) : cmpI r a b = some d ∨ g a b = some d := by
  rw [hh] at e
  split at e
  · exact .inl e
  · exact .inr e
variable {f f' f2 : F D}
abbrev rLtU (X : Cx) : R2 := fun x y H Q => rI0 (fun i j => .bl (decide (i < j))) x y H Q ∨ rOrd X.K (fun p q => PySem.W.dataLt p q) x y H Q
abbrev rGtU (X : Cx) : R2 := fun x y H Q => rI0 (fun i j => .bl (decide (j < i))) x y H Q ∨ rOrd X.K (fun p q => PySem.W.dataLt q p) x y H Q
abbrev rLeU (X : Cx) : R2 := fun x y H Q => rI0 (fun i j => .bl (decide (i ≤ j))) x y H Q ∨ rOrd X.K (fun p q => !PySem.W.dataLt q p) x y H Q
abbrev rGeU (X : Cx) : R2 := fun x y H Q => rI0 (fun i j => .bl (decide (j ≤ i))) x y H Q ∨ rOrd X.K (fun p q => !PySem.W.dataLt p q) x y H Q
theorem op_ltU (hu : X.A.units + 64 < cLine) : OpR X (compareOp .Lt) (rLtU X) := op_lt.or (op_ltD hu)
theorem op_gtU (hu : X.A.units + 64 < cLine) : OpR X (compareOp .Gt) (rGtU X) := op_gt.or (op_gtD hu)
theorem op_leU (hu : X.A.units + 64 < cLine) : OpR X (compareOp .LtE) (rLeU X) := op_le.or (op_leD hu)
theorem op_geU (hu : X.A.units + 64 < cLine) : OpR X (compareOp .GtE) (rGeU X) := op_ge.or (op_geD hu)
theorem o2_ltU : Op2 X (rLtU X) ltD := Op2.or (o2_cmpI fun i j => decide (i < j)) (o2_ord _) (ord_or _ _ ltD fun a b => by unfold ltD; split <;> rfl)
theorem o2_gtU : Op2 X (rGtU X) gtD := Op2.or (o2_cmpI fun i j => decide (j < i)) (o2_ord _) (ord_or _ _ gtD fun a b => by unfold gtD; split <;> rfl)
theorem o2_leU : Op2 X (rLeU X) leD := Op2.or (o2_cmpI fun i j => decide (i ≤ j)) (o2_ord _) (ord_or _ _ leD fun a b => by unfold leD; split <;> rfl)
theorem o2_geU : Op2 X (rGeU X) geD := Op2.or (o2_cmpI fun i j => decide (j ≤ i)) (o2_ord _) (ord_or _ _ geD fun a b => by unfold geD; split <;> rfl)
theorem de_lt (hu : X.A.units + 64 < cLine) (ha : DE X a f) (hb : DE X b f') : DE X (.Compare a [.Lt] [b] pos) (map2F f f' ltD) := de_2 (fun _ _ x y => pe_cmpR (op_ltU hu) x y (nomark _)) o2_ltU ha hb
theorem de_gt (hu : X.A.units + 64 < cLine) (ha : DE X a f) (hb : DE X b f') : DE X (.Compare a [.Gt] [b] pos) (map2F f f' gtD) := de_2 (fun _ _ x y => pe_cmpR (op_gtU hu) x y (nomark _)) o2_gtU ha hb
theorem de_le (hu : X.A.units + 64 < cLine) (ha : DE X a f) (hb : DE X b f') : DE X (.Compare a [.LtE] [b] pos) (map2F f f' leD) := de_2 (fun _ _ x y => pe_cmpR (op_leU hu) x y (nomark _)) o2_leU ha hb
theorem de_ge (hu : X.A.units + 64 < cLine) (ha : DE X a f) (hb : DE X b f') : DE X (.Compare a [.GtE] [b] pos) (map2F f f' geD) := de_2 (fun _ _ x y => pe_cmpR (op_geU hu) x y (nomark _)) o2_geU ha hb
/-! tests by comparison -/
theorem dt_2 {op : CmpOp} {r : R2} {g : D2} (ho : OpR X (compareOp op) r) (hg : Op2 X r g) (ha : DE X a f) (hb : DE X b f') (hm : behindInMarks op b = false) : DT X (.Compare a [op] [b] pos) (mapF (map2F f f' g) unB) :=
  PT.imp (pt_cmpR ho ha hb hm) fun σ H Q ⟨G, ρ, fps, c, ρ', R, e, k⟩ => by
    obtain ⟨d, e0, e4⟩ := mapF_some e
    obtain ⟨da, ρ1, db, e1, e2, e3⟩ := map2F_some e0
    refine ⟨G, ρ, fps, da, ρ1, R, e1, fun x H1 G1 fps1 R1 f1 i1 => ⟨G1, ρ1, fps1, db, ρ', R1, e2, fun y H2 G2 fps2 R2 f2 i2 => ?_⟩⟩
    refine hg x y H2 _ G2 da db d R2.le (f2.is i1) i2 e3 fun v G3 H3 gr i3 => ?_
    obtain ⟨R3, f3⟩ := R2.grow gr
    cases d <;> simp only [unB, reduceCtorEq] at e4
    cases e4
    exact ⟨_, i3.bl_inv, k H3 G3 fps2 R3 ((f1.trans f2).trans f3)⟩
theorem dt_lt (hu : X.A.units + 64 < cLine) (ha : DE X a f) (hb : DE X b f') : DT X (.Compare a [.Lt] [b] pos) (mapF (map2F f f' ltD) unB) := dt_2 (op_ltU hu) o2_ltU ha hb (nomark _)
theorem dt_gt (hu : X.A.units + 64 < cLine) (ha : DE X a f) (hb : DE X b f') : DT X (.Compare a [.Gt] [b] pos) (mapF (map2F f f' gtD) unB) := dt_2 (op_gtU hu) o2_gtU ha hb (nomark _)
theorem dt_le (hu : X.A.units + 64 < cLine) (ha : DE X a f) (hb : DE X b f') : DT X (.Compare a [.LtE] [b] pos) (mapF (map2F f f' leD) unB) := dt_2 (op_leU hu) o2_leU ha hb (nomark _)
theorem dt_ge (hu : X.A.units + 64 < cLine) (ha : DE X a f) (hb : DE X b f') : DT X (.Compare a [.GtE] [b] pos) (mapF (map2F f f' geD) unB) := dt_2 (op_geU hu) o2_geU ha hb (nomark _)
theorem dt_eq (hu : X.A.units + 64 < cLine) (ha : DE X a f) (hb : DE X b f') : DT X (.Compare a [.Eq] [b] pos) (mapF (map2F f f' eqD) unB) := dt_2 (op_eqD hu) o2_eq ha hb (nomark _)
theorem dt_ne (hu : X.A.units + 64 < cLine) (ha : DE X a f) (hb : DE X b f') : DT X (.Compare a [.NotEq] [b] pos) (mapF (map2F f f' neD) unB) := dt_2 (op_neD hu) o2_ne ha hb (nomark _)
theorem dt_isN {j pos'} (ha : DE X a f) : DT X (.Compare a [.Is] [.Constant .none j pos'] pos) (mapF (mapF f isN) unB) :=
  dt_cmp (pc_isN ha) fun σ H Q ⟨G, ρ, fps, d, ρ', R, e, k⟩ => by
    obtain ⟨d0, e1, e2⟩ := mapF_some e
    refine ⟨G, ρ, fps, d0, ρ', R, e1, fun v H1 G1 fps1 R1 f1 i1 => ?_⟩
    have : d = .bl (decide (v = .non)) := by
      have h := i1.nn
      cases d0 <;> simp only [isN, Option.some.injEq] at e2 <;> subst e2 <;> simp_all
    subst this
    exact k _ H1 G1 fps1 R1 f1 (.bl _)
theorem dt_notN {j pos'} (ha : DE X a f) : DT X (.Compare a [.IsNot] [.Constant .none j pos'] pos) (mapF (mapF f notN) unB) :=
  dt_cmp (pc_notN ha) fun σ H Q ⟨G, ρ, fps, d, ρ', R, e, k⟩ => by
    obtain ⟨d0, e1, e2⟩ := mapF_some e
    refine ⟨G, ρ, fps, d0, ρ', R, e1, fun v H1 G1 fps1 R1 f1 i1 => ?_⟩
    have : d = .bl (!decide (v = .non)) := by
      have h := i1.nn
      cases d0 <;> simp only [notN, Option.some.injEq] at e2 <;> subst e2 <;> simp_all
    subst this
    exact k _ H1 G1 fps1 R1 f1 (.bl _)
/-! values of and, or, not over bools -/
theorem de_one {op} (ha : DE X a f) : DE X (.BoolOp op [a] pos) f := pe_one ha
def eAnd (f g : F D) : F D := bindF f fun d => match d with
  | .bl true => g
  | .bl false => eC (.bl false)
  | _ => fun _ => none
def eOr (f g : F D) : F D := bindF f fun d => match d with
  | .bl true => eC (.bl true)
  | .bl false => g
  | _ => fun _ => none
theorem de_and {rest : List Expr} (ha : DE X a f) (hb : DE X (.BoolOp .And (b :: rest) pos) f') : DE X (.BoolOp .And (a :: b :: rest) pos) (eAnd f f') := PE.imp (pe_and ha hb) fun σ H Q ⟨G, ρ, fps, d, ρ', R, e, k⟩ => by
  obtain ⟨d1, ρ1, e1, e2⟩ := bindF_some e
  refine ⟨G, ρ, fps, d1, ρ1, R, e1, fun v H1 G1 fps1 R1 f1 i1 => ?_⟩
  split at e2
  · exact ⟨true, i1.bl_inv, iteT ⟨G1, ρ1, fps1, d, ρ', R1, e2, fun v H2 G2 fps2 R2 f2 => k v H2 G2 fps2 R2 (f1.trans f2)⟩⟩
  · cases e2
    exact ⟨false, i1.bl_inv, iteF (k _ H1 G1 fps1 R1 f1 (.bl false))⟩
  · cases e2
theorem de_or' {rest : List Expr} (ha : DE X a f) (hb : DE X (.BoolOp .Or (b :: rest) pos) f') : DE X (.BoolOp .Or (a :: b :: rest) pos) (eOr f f') := PE.imp (pe_or ha hb) fun σ H Q ⟨G, ρ, fps, d, ρ', R, e, k⟩ => by
  obtain ⟨d1, ρ1, e1, e2⟩ := bindF_some e
  refine ⟨G, ρ, fps, d1, ρ1, R, e1, fun v H1 G1 fps1 R1 f1 i1 => ?_⟩
  split at e2
  · cases e2
    exact ⟨true, i1.bl_inv, iteT (k _ H1 G1 fps1 R1 f1 (.bl true))⟩
  · exact ⟨false, i1.bl_inv, iteF ⟨G1, ρ1, fps1, d, ρ', R1, e2, fun v H2 G2 fps2 R2 f2 => k v H2 G2 fps2 R2 (f1.trans f2)⟩⟩
  · cases e2
def notD : D1
  | .bl b => some (.bl (!b))
  | _ => none
theorem de_not (ha : DE X a f) : DE X (.UnaryOp .Not a pos) (mapF f notD) := de_1 (r := fun x H Q => ∃ c, x = .bl c ∧ Q (.bl (!c)) H) (fun _ h => pe_not h) (fun x H Q G a d le ia e k => by
  cases a <;> simp only [notD, reduceCtorEq] at e
  cases e
  exact ⟨_, ia.bl_inv, k _ G H .no (.bl _)⟩) ha
/-! chains -/
def eChain (f f' f2 : F D) (g g' : D2) : F D := bindF f fun a => bindF f' fun b => match g a b with
  | some (.bl true) => mapF f2 (g' b)
  | some (.bl false) => eC (.bl false)
  | _ => fun _ => none
end
end T
namespace T
open PySem PySem.Spec PyProof.Rows L2

/-! ### dicts -/
def putA {α : Type} (kvs : List (Key × α)) (k : Key) (v : α) : List (Key × α) :=
  if (kvs.any fun kv => decide (kv.1 = k)) = true then kvs.map (fun kv => if kv.1 = k then (kv.1, v) else kv) else kvs ++ [(k, v)]
section
variable {K : PySem.W.Frag} {G H : Hp}
theorem OwK.length : ∀ {vs : List (Key × V)} {os : List (Key × O)} {fp : List Addr}, OwK K G H vs os fp → vs.length = os.length
  | _, _, _, .nil => rfl
  | _, _, _, .cons w r d => congrArg Nat.succ (OwK.length r)
theorem OwK.any (k : Key) : ∀ {vs : List (Key × V)} {os : List (Key × O)} {fp : List Addr}, OwK K G H vs os fp → (vs.any fun kv => decide (kv.1 = k)) = os.any fun kv => decide (kv.1 = k)
  | _, _, _, .nil => rfl
  | _, _, _, .cons w r d => by simp only [List.any_cons, OwK.any k r]
theorem OwK.look (k : Key) : ∀ {kvs : List (Key × V)} {es : List (Key × O)} {fp : List Addr}, OwK K G H kvs es fp → (valV kvs k = none ∧ lookK es k = none) ∨ ∃ v o fq, valV kvs k = some v ∧ lookK es k = some o ∧ Ow K G H v o fq
  | _, _, _, .nil => .inl ⟨rfl, rfl⟩
  | _, _, _, .cons (k := k') w r _ => by
    by_cases h : k' = k
    · subst h
      exact .inr ⟨_, _, _, by simp [valV], by simp [lookK], w⟩
    · rcases OwK.look k r with ⟨h1, h2⟩ | ⟨v, d, fq, h1, h2, h3⟩
      · exact .inl ⟨by rw [valV_neg h]; exact h1, by simp only [lookK, List.find?_cons, decide_eq_false h]; exact h2⟩
      · exact .inr ⟨v, d, fq, by rw [valV_neg h]; exact h1, by simp only [lookK, List.find?_cons, decide_eq_false h]; exact h2, h3⟩
theorem OwK.app : ∀ {vs ws : List (Key × V)} {os ps : List (Key × O)} {fp fq : List Addr}, OwK K G H vs os fp → OwK K G H ws ps fq → (∀ a ∈ fp, a ∉ fq) → OwK K G H (vs ++ ws) (os ++ ps) (fp ++ fq)
  | _, _, _, _, _, _, .nil, s, _ => s
  | _, _, _, _, _, _, .cons (fp := f1) (fq := f2) x r d, s, h => by
    rw [List.append_assoc]
    exact .cons x (OwK.app r s fun a z => h a (List.mem_append_right _ z)) fun a z y => (List.mem_append.mp y).elim (d a z) (h a (List.mem_append_left _ z))
/-- every value is another one, or the new one where the key is k (once at most) -/
theorem OwK.mapn {k : Key} {v : V} {o : O} : ∀ {vs : List (Key × V)} {os : List (Key × O)} {fp : List Addr}, OwK K G H vs os fp → (vs.any fun kv => decide (kv.1 = k)) = false →
    vs.map (fun kv => if kv.1 = k then (kv.1, v) else kv) = vs ∧ os.map (fun kv => if kv.1 = k then (kv.1, o) else kv) = os
  | _, _, _, .nil, _ => ⟨rfl, rfl⟩
  | _, _, _, .cons (k := k') w r _, h => by
    simp only [List.any_cons, Bool.or_eq_false_iff, decide_eq_false_iff_not] at h
    obtain ⟨a, b⟩ := OwK.mapn (k := k) (v := v) (o := o) r h.2
    simp only [List.map_cons, if_neg h.1, a, b, and_self]
theorem OwK.put {k : Key} {v : V} {o : O} {fv : List Addr} (w : Ow K G H v o fv) : ∀ {vs : List (Key × V)} {os : List (Key × O)} {fp : List Addr}, OwK K G H vs os fp → (vs.map (·.1)).Nodup → (vs.any fun kv => decide (kv.1 = k)) = true → (∀ a ∈ fv, a ∉ fp) →
    ∃ fq, OwK K G H (vs.map fun kv => if kv.1 = k then (kv.1, v) else kv) (os.map fun kv => if kv.1 = k then (kv.1, o) else kv) fq ∧ ∀ a ∈ fq, a ∈ fp ∨ a ∈ fv
  | _, _, _, .nil, _, h, _ => by simp at h
  | _, _, _, .cons (k := k') (vs := vs) (fp := f1) (fq := f2) x r d, nd, h, dj => by
    rw [List.map_cons, List.nodup_cons] at nd
    by_cases e : k' = k
    · subst e
      have hn : (vs.any fun kv => decide (kv.1 = k')) = false := by
        rw [List.any_eq_false]
        intro p hp
        simp only [decide_eq_true_eq]
        exact fun z => nd.1 (by
          have := List.mem_map_of_mem (f := fun (x : Key × V) => x.1) hp
          rw [← z]; exact this)
      obtain ⟨a, b⟩ := OwK.mapn (k := k') (v := v) (o := o) r hn
      simp only [List.map_cons, if_pos, a, b]
      exact ⟨fv ++ f2, .cons w r fun a z y => dj a z (List.mem_append_right _ y), fun a z => (List.mem_append.mp z).elim .inr fun y => .inl (List.mem_append_right _ y)⟩
    · simp only [List.any_cons, decide_eq_false e, Bool.false_or] at h
      obtain ⟨fr, r', s⟩ := OwK.put w r nd.2 h fun a z y => dj a z (List.mem_append_right _ y)
      simp only [List.map_cons, if_neg e]
      refine ⟨f1 ++ fr, .cons x r' fun a z y => ?_, fun a z => ?_⟩
      · rcases s a y with q | q
        · exact d a z q
        · exact dj a q (List.mem_append_left _ z)
      · rcases List.mem_append.mp z with q | q
        · exact .inl (List.mem_append_left _ q)
        · exact (s a q).imp (fun y => List.mem_append_right _ y) id
theorem OwK.keys : ∀ {vs : List (Key × V)} {os : List (Key × O)} {fp : List Addr}, OwK K G H vs os fp → vs.map (·.1) = os.map (·.1)
  | _, _, _, .nil => rfl
  | _, _, _, .cons w r d => by simp only [List.map_cons, OwK.keys r]
end
section
variable {X : Cx} {e a b c : Expr} {es : List Expr} {pos pos' p p2 : Pos} {lo hi : Option Expr}
def eDict0 : F O := fun ρ => some (.dct none [], ρ)
theorem do_dict0 : DO X (.Dict [] [] pos) eDict0 := PE.imp pe_dnewK fun σ H Q ⟨G, ρ, fps, o, ρ', R, e, k⟩ => by
  cases e
  intro p hp
  obtain ⟨R2, f2, gp, up⟩ := R.newO (u := .dK []) hp
  refine k _ _ _ fps [p] R2 (f2.mono (fun _ z => z) fun a z => z.imp id fun q => by simpa using q) (.dct upd_same gp .nil (fun h => nomatch h) (.inl rfl)) fun a ha => ?_
  have : a = p := by simpa using ha
  rw [this]; exact up
/-- d[k] = v, d in slot i -/
def sDPut' (i : Nat) (gk : F D) (gv : F O) : FS := fun ρ => match gv ρ with
  | some (o, ρ1) => match ρ1[i]? with
    | some (some (.dct _ _)) => match gk ρ1 with
      | some (kd, ρ2) => match keyD kd, ρ2[i]? with
        | some k, some (some (.dct t kvs)) => if kvs.length < sizeLine ∧ (kvs.map (·.1)).Nodup then some (.nx (ρ2.set i (some (.dct t (putA kvs k o))))) else none
        | _, _ => none
      | none => none
    | _ => none
  | none => none
theorem ds_dput (i : Nat) {gk : F D} {gv : F O} (hu : X.A.units + 1 < cLine) (hd : PE X e (tVar i)) (hk : DE X b gk) (hv : DO X a gv) (hs : swapsWith a (some (.Subscript e b pos')) pos.line X.env = pure false := by rfl) :
    DS X (.Assign [.Subscript e b pos'] a pos) (sDPut' i gk gv) := PS.imp (ps_dput hu hd hk hv hs) fun Dn σ H ⟨G, ρ, fps, o, R, e, k⟩ => by
  unfold sDPut' at e
  split at e
  · rename_i o1 ρ1 q
    split at e
    · rename_i t0 kvs0 q0
      split at e
      · rename_i kd ρ2 q2
        split at e
        · rename_i kk t kvs hkd q3
          split at e
          · rename_i hz
            cases e
            refine ⟨G, ρ, fps, o1, ρ1, R, q, fun y H1 G1 fps1 fv R1 f1 wy dj => ?_⟩
            obtain ⟨v0, hv0, w0⟩ := R1.sl i _ q0
            obtain ⟨a, _, _, rfl, _⟩ := w0.dct_inv
            refine ⟨.ref a, hv0, G1, ρ1, fps1, kd, ρ2, R1, q2, fun z H2 G2 fps2 R2 f2 i2 => ?_⟩
            obtain ⟨v1, hv1, w1⟩ := R2.sl i _ q3
            rw [hv0] at hv1
            cases hv1
            obtain ⟨a', vs, fq, ea, ef, s1, g1, l1, n1, t1⟩ := w1.dct_inv
            cases ea
            have wy2 : Ow X.K G2 H2 y o1 fv := f2.ow wy dj
            have dj2 : ∀ b ∈ fv, ¬ U fps2 b := fun b hb z => (f2.fnew b z).elim (dj b hb) (Ow.live o1 wy b hb).1
            have hi : i < ρ2.length := (List.getElem?_eq_some_iff.mp q3).1
            have ha : a ∈ fps2 i := by rw [ef]; exact List.mem_cons_self
            have hfq : ∀ b ∈ fq, b ∈ fps2 i := fun b hb => by rw [ef]; exact List.mem_cons_of_mem _ hb
            have hfa : ∀ b ∈ fv, b ≠ a := fun b hb z => dj2 b hb ⟨i, z ▸ ha⟩
            have lk : ∀ u, OwK X.K G2 (upd H2 a u) vs kvs fq := fun u => OwK.keep (Le.refl _) kvs l1 (fun b hb => (OwK.live kvs l1 b hb).2) fun b hb => upd_ne fun z => n1 (z ▸ hb)
            have wk : ∀ u, Ow X.K G2 (upd H2 a u) y o1 fv := fun u => Ow.keep (Le.refl _) o1 wy2 (fun b hb => (Ow.live o1 wy2 b hb).2) fun b hb => upd_ne (hfa b hb)
            have lw : ∃ fr, OwK X.K G2 (upd H2 a (.dK (putK vs kk y))) (putK vs kk y) (putA kvs kk o1) fr ∧ ∀ b ∈ fr, b ∈ fq ∨ b ∈ fv := by
              unfold putK putA
              rw [← OwK.any kk l1]
              by_cases h : (vs.any fun kv => decide (kv.1 = kk)) = true
              · rw [if_pos h, if_pos h]
                exact OwK.put (wk _) (lk _) (by rw [OwK.keys l1]; exact hz.2) h fun b hb z => dj2 b hb ⟨i, hfq b z⟩
              · rw [if_neg h, if_neg h]
                exact ⟨_, OwK.app (lk _) (.cons (wk _) .nil fun _ _ z => nomatch z) fun b hb z => dj2 b (by simpa using z) ⟨i, hfq b hb⟩, fun b hb => (List.mem_append.mp hb).imp id fun z => by simpa using z⟩
            obtain ⟨fr, lw, hfr⟩ := lw
            have w2 : Ow X.K G2 (upd H2 a (.dK (putK vs kk y))) (.ref a) (.dct t (putA kvs kk o1)) (a :: fr) := .dct upd_same g1 lw (fun z => (hfr a z).elim n1 fun z => hfa a z rfl) t1
            have sub : ∀ b ∈ a :: fr, b ∈ fps2 i ∨ b ∈ fv := fun b hb => by
              rcases List.mem_cons.mp hb with z | z
              · exact .inl (z ▸ ha)
              · exact (hfr b z).imp (hfq b) id
            obtain ⟨fps3, R3, s3⟩ := R2.put hv0 ha hi w2 fun b hb => (sub b hb).imp id (dj2 b)
            rw [key_is i2 hkd]
            refine ⟨a, _, rfl, DPut.k s1 (by rw [OwK.length l1]; exact hz.1), k σ _ G2 fps3 R3 ((f1.trans (Fr.mono (F' := fun b => U fps2 b ∨ b ∈ fv) ⟨f2.gg, fun b u e n => f2.keep b u e fun z => n (.inl z), f2.live, fun b e => (f2.gnew b e).imp id fun z => z.imp .inl id, fun b e => e.elim (fun z => (f2.fnew b z).imp .inl id) fun z => .inl (.inr z)⟩ (fun _ z => z) fun _ z => z)).trans (fr_put (.inl ⟨i, ha⟩) fun b hb => .inl ?_))⟩
            exact (s3 b hb).elim .inl fun z => (sub b z).imp (fun y => ⟨i, y⟩) id
          · cases e
        · cases e
      · cases e
    · cases e
  · cases e
/-- what is in a slot's dict, frozen or owned -/
def lookO (o : O) (k : Key) : Option (Option D) := match o with
  | .fz (.dct kvs) => some (lookK kvs k)
  | .dct _ kvs => match lookK kvs k with
    | some (.fz d) => some (some d)
    | none => some none
    | _ => none
  | _ => none
theorem look_get {K : PySem.W.Frag} {G H : Hp} {v : V} {o : O} {fp : List Addr} {k : Key} {r : Option D} (le : Le G H) (w : Ow K G H v o fp) (h : lookO o k = some r) :
    ∃ a ov, v = .ref a ∧ DGet H a (kV k) ov ∧ IsD H a ∧ ((ov = none ∧ r = none) ∨ ∃ u d, ov = some u ∧ r = some d ∧ Is K G u d) := by
  unfold lookO at h
  split at h
  · cases h
    obtain ⟨a, vs, rfl, s, l⟩ := w.fz_inv.1.dct_inv
    refine ⟨a, valV vs k, rfl, Rd.get (le.rd s) k, .inl ⟨_, le.rd s⟩, ?_⟩
    rcases isK_look k l with ⟨h1, h2⟩ | ⟨u, d, h1, h2, h3⟩
    · exact .inl ⟨h1, h2⟩
    · exact .inr ⟨u, d, h1, h2, h3⟩
  · obtain ⟨a, vs, fq, rfl, _, s, _, l, _, _⟩ := w.dct_inv
    refine ⟨a, valV vs k, rfl, DGet.k s, .inl ⟨_, .inl s⟩, ?_⟩
    rcases OwK.look k l with ⟨h1, h2⟩ | ⟨u, o, fq, h1, h2, h3⟩
    · rw [h2] at h
      cases h
      exact .inl ⟨h1, rfl⟩
    · rw [h2] at h
      cases o with
      | fz d =>
        cases h
        exact .inr ⟨u, d, h1, rfl, h3.fz_inv.1⟩
      | _ => cases h
  · cases h
/-- k in d, d in slot i -/
def eInV (i : Nat) (neg : Bool) (g : F D) : F D := fun ρ => match g ρ with
  | some (kd, ρ1) => match keyD kd, ρ1[i]? with
    | some k, some (some o) => (lookO o k).map fun r => (.bl (if neg then !r.isSome else r.isSome), ρ1)
    | _, _ => none
  | none => none
theorem inV_imp {i : Nat} {neg : Bool} {g : F D} : ∀ σ H Q, tE X.K (eInV i neg g) σ H Q → (if neg then tDNotIn (tE X.K g) (tVar i) σ H Q else tDIn (tE X.K g) (tVar i) σ H Q) := fun σ H Q ⟨G, ρ, fps, d, ρ', R, e, k⟩ => by
  unfold eInV at e
  split at e
  · rename_i kd ρ1 q
    split at e
    · rename_i kk o hk q1
      rw [Option.map_eq_some_iff] at e
      obtain ⟨r, h1, h2⟩ := e
      cases h2
      have key : ∀ (R2 : VK), (∀ v H1, R2 v H1 ↔ True) → True := fun _ _ => trivial
      have fin : ∀ (v : V) H1 G1 fps1, Rel X.K G1 H1 σ ρ' fps1 → Fr G H (U fps) G1 H1 (U fps1) → Is X.K G1 v kd → ∃ x, σ[i]? = some (some x) ∧ ∃ a ov, x = .ref a ∧ DGet H1 a v ov ∧ ov.isSome = r.isSome := fun v H1 G1 fps1 R1 f1 i1 => by
        obtain ⟨x, hx, w⟩ := R1.sl i _ q1
        obtain ⟨a, ov, rfl, hg, _, hr⟩ := look_get R1.le w h1
        refine ⟨_, hx, a, ov, rfl, by rw [key_is i1 hk]; exact hg, ?_⟩
        rcases hr with ⟨rfl, rfl⟩ | ⟨u, d, rfl, rfl, _⟩ <;> rfl
      cases neg with
      | true =>
        refine iteT ⟨G, ρ, fps, kd, ρ', R, q, fun v H1 G1 fps1 R1 f1 i1 => ?_⟩
        obtain ⟨x, hx, a, ov, rfl, hg, hr⟩ := fin v H1 G1 fps1 R1 f1 i1
        exact ⟨_, hx, a, ov, rfl, hg, by rw [hr]; exact k _ H1 G1 fps1 R1 f1 (.bl _)⟩
      | false =>
        refine iteF ⟨G, ρ, fps, kd, ρ', R, q, fun v H1 G1 fps1 R1 f1 i1 => ?_⟩
        obtain ⟨x, hx, a, ov, rfl, hg, hr⟩ := fin v H1 G1 fps1 R1 f1 i1
        exact ⟨_, hx, a, ov, rfl, hg, by rw [hr]; exact k _ H1 G1 fps1 R1 f1 (.bl _)⟩
    · cases e
  · cases e
theorem de_inV (i : Nat) {g : F D} (hu : X.A.units + 1 < cLine) (ha : DE X a g) (hd : PE X e (tVar i)) (hb : behindInMarks .In e = false := by rfl) : DE X (.Compare a [.In] [e] pos) (eInV i false g) := PE.imp (pe_cmp (pc_din hu ha hd) hb) fun σ H Q h => by
  have := inV_imp (X := X) (i := i) (neg := false) (g := g) σ H Q h
  rw [if_neg Bool.false_ne_true] at this
  exact this
theorem de_ninV (i : Nat) {g : F D} (hu : X.A.units + 1 < cLine) (ha : DE X a g) (hd : PE X e (tVar i)) (hb : behindInMarks .NotIn e = false := by rfl) : DE X (.Compare a [.NotIn] [e] pos) (eInV i true g) := PE.imp (pe_cmp (pc_dnotin hu ha hd) hb) fun σ H Q h => by
  have := inV_imp (X := X) (i := i) (neg := true) (g := g) σ H Q h
  rw [if_pos rfl] at this
  exact this
theorem dt_inV (i : Nat) {g : F D} (hu : X.A.units + 1 < cLine) (ha : DE X a g) (hd : PE X e (tVar i)) (hb : behindInMarks .In e = false := by rfl) : DT X (.Compare a [.In] [e] pos) (mapF (eInV i false g) unB) := dt_cmp (pc_din hu ha hd) (fun σ H Q h => by
  have := inV_imp (X := X) (i := i) (neg := false) (g := g) σ H Q h
  rw [if_neg Bool.false_ne_true] at this
  exact this) hb
theorem dt_ninV (i : Nat) {g : F D} (hu : X.A.units + 1 < cLine) (ha : DE X a g) (hd : PE X e (tVar i)) (hb : behindInMarks .NotIn e = false := by rfl) : DT X (.Compare a [.NotIn] [e] pos) (mapF (eInV i true g) unB) := dt_cmp (pc_dnotin hu ha hd) (fun σ H Q h => by
  have := inV_imp (X := X) (i := i) (neg := true) (g := g) σ H Q h
  rw [if_pos rfl] at this
  exact this) hb
/-- x[e], x in slot i: its item is frozen, x isn't touched -/
def ixO (o : O) (d : D) : Option D := match o with
  | .fz a => ixD a d
  | .lst _ os => match d with
    | .int i => match atI os i with
      | some (.fz x) => some x
      | _ => none
    | _ => none
  | .dct t kvs => (keyD d).bind fun k => (lookO (.dct t kvs) k).bind id
  | _ => none
def eIxV (i : Nat) (g : F D) : F D := fun ρ => match ρ[i]? with
  | some (some _) => match g ρ with
    | some (kd, ρ1) => match ρ1[i]? with
      | some (some o) => (ixO o kd).map (·, ρ1)
      | _ => none
    | none => none
  | _ => none
theorem OwL.at {K : PySem.W.Frag} {G H : Hp} {vs : List V} {os : List O} {fp : List Addr} {i : Int} {o : O} (l : OwL K G H vs os fp) (e : atI os i = some o) : ∃ v fq, atI vs i = some v ∧ Ow K G H v o fq := by
  unfold atI at e ⊢
  rw [l.length]
  cases h : ixN os.length i with
  | none => rw [h] at e; cases e
  | some j =>
    rw [h] at e
    obtain ⟨v, fq, e1, w, _⟩ := l.get (show os[j]? = some o from e)
    exact ⟨v, fq, e1, w⟩
theorem de_ixV (i : Nat) {g : F D} (hu : X.A.units + 1 < cLine) (he : PE X e (tVar i)) (hb : DE X b g) (hs : PlainIx b) : DE X (.Subscript e b pos) (eIxV i g) := PE.imp (PE.or (pe_ix ix_seq he hb hs) (pe_dget hu he hb hs)) fun σ H Q ⟨G, ρ, fps, d, ρ', R, e, k⟩ => by
  unfold eIxV at e
  split at e
  · rename_i o0 q0
    obtain ⟨v0, hv0, w0⟩ := R.sl i _ q0
    split at e
    · rename_i kd ρ1 q
      split at e
      · rename_i o q1
        rw [Option.map_eq_some_iff] at e
        obtain ⟨d', h1, h2⟩ := e
        cases h2
        have same : ∀ {H1 G1 fps1}, Rel X.K G1 H1 σ ρ' fps1 → ∃ fq, Ow X.K G1 H1 v0 o fq := fun {H1 G1 fps1} R1 => by
          obtain ⟨v1, hv1, w1⟩ := R1.sl i _ q1
          rw [hv0] at hv1
          cases hv1
          exact ⟨_, w1⟩
        cases o with
        | fz a =>
          rcases ixD_or (show ixD a kd = some d from h1) with h | h
          · refine .inl ⟨v0, hv0, G, ρ, fps, kd, ρ', R, q, fun y H1 G1 fps1 R1 f1 i1 => ?_⟩
            obtain ⟨fq, w1⟩ := same R1
            refine o2_ixS v0 y H1 Q G1 a kd d R1.le w1.fz_inv.1 i1 h fun v G' H' gr i => ?_
            obtain ⟨R3, f3⟩ := R1.grow gr
            exact k v H' G' fps1 R3 (f1.trans f3) i
          · refine .inr ⟨v0, hv0, G, ρ, fps, kd, ρ', R, q, fun y H1 G1 fps1 R1 f1 i1 => ?_⟩
            obtain ⟨fq, w1⟩ := same R1
            refine o2_ixK (X := X) v0 y H1 Q G1 a kd d R1.le w1.fz_inv.1 i1 h fun v G' H' gr i => ?_
            obtain ⟨R3, f3⟩ := R1.grow gr
            exact k v H' G' fps1 R3 (f1.trans f3) i
        | lst t os =>
          simp only [ixO] at h1
          split at h1
          · rename_i j
            split at h1
            · rename_i x hx
              cases h1
              refine .inl ⟨v0, hv0, G, ρ, fps, _, ρ', R, q, fun y H1 G1 fps1 R1 f1 i1 => ?_⟩
              obtain ⟨fq, w1⟩ := same R1
              obtain ⟨a, vs, fr, rfl, _, s, _, l, _, _⟩ := w1.lst_inv
              obtain ⟨u, fq2, h3, h4⟩ := l.at hx
              exact .inl ⟨a, vs, _, u, rfl, i1.int_inv, .of s, h3, k u H1 G1 fps1 R1 f1 h4.fz_inv.1⟩
            · cases h1
          · cases h1
        | dct t kvs =>
          simp only [ixO, Option.bind_eq_some_iff] at h1
          obtain ⟨kk, hk, r, h2, h3⟩ := h1
          cases h3
          refine .inr ⟨v0, hv0, G, ρ, fps, _, ρ', R, q, fun y H1 G1 fps1 R1 f1 i1 => ?_⟩
          obtain ⟨fq, w1⟩ := same R1
          obtain ⟨a, ov, rfl, hg, _, hr⟩ := look_get R1.le w1 h2
          rcases hr with ⟨_, z⟩ | ⟨u, d1, rfl, z, i2⟩
          · cases z
          · cases z
            exact ⟨a, u, rfl, by rw [key_is i1 hk]; exact hg, k u H1 G1 fps1 R1 f1 i2⟩
        | ins t C os => cases h1
        | tup t os => cases h1
      · cases e
    · cases e
  · cases e
/-- len(x), x in slot i -/
def lenO : O → Option D
  | .fz d => lenD [d]
  | .lst _ os => some (.int os.length)
  | _ => none
/-- isinstance(x, list) -/
def isListL : DL := fun ds => match ds with
  | [d, .ty "list"] => isListD d
  | _ => none
theorem de_isList {f : F D} {p3 : Pos} (hg : Gl X "isinstance") (hm : X.mg "isinstance" = none) (hgl : Gl X "list") (hml : X.mg "list" = none) (ha : DE X a f) (hs : A2 X a (.Name "list" p3) := by exact ⟨rfl, fun _ => rfl⟩)
    (hs' : A1 X (.Name "list" p3) := by rfl) : DE X (.Call (.Name "isinstance" p) [a, .Name "list" p3] [] pos) (mapF f isListD) := by
  have hl : DE X (.Name "list" p3) (eC (.ty "list")) := de_of_c (pe_bltn hgl hml bt_list (v := .ty "list") rfl) fun _ => .ty _
  refine PE.imp (de_cb (g := isListL) (fun ha => pe_callB call_isi hg hm bt_isinstance ha (he := hs.1) (hpl := hs.2 _)) (fun vs H Q G ds d le i e k => ?_) (da_cons ha (da_cons hl da_nil hs') hs.1)) fun σ H Q ⟨G, ρ, fps, d, ρ', R, e, k⟩ => ?_
  · unfold isListL at e
    split at e
    · rename_i d0
      obtain ⟨v, u, rfl, i2, i3⟩ := isL_2 i
      rw [i3.ty_inv]
      cases d0 <;> simp only [isListD, reduceCtorEq, Option.some.injEq] at e <;> subst e
      · rw [i2.non_inv]; exact ⟨_, _, _, _, _, rfl, .ty _, .base .non, kit_ty (by decide +kernel), k _ G H .no (.bl _)⟩
      · rw [i2.bl_inv]; exact ⟨_, _, _, _, _, rfl, .ty _, .base (.bl _), kit_ty (by decide +kernel), k _ G H .no (.bl _)⟩
      · rw [i2.int_inv]; exact ⟨_, _, _, _, _, rfl, .ty _, .base (.int _), kit_ty (by decide +kernel), k _ G H .no (.bl _)⟩
      · obtain ⟨a, vs, rfl, s, l⟩ := i2.tup_inv
        have s' := le.sqT s
        have ty : TyX X.K H (.ref a) (.type "tuple") := by
          rcases s' with (z | ⟨o, z⟩) | ⟨o, its, n, z, z2, _⟩
          · exact .base (.tup z)
          · exact .fTuple z
          · exact .kTuple z z2
        exact ⟨_, _, _, _, _, rfl, .ty _, ty, kit_ty (by decide +kernel), k _ G H .no (.bl _)⟩
      · obtain ⟨a, vs, rfl, s, l⟩ := i2.lst_inv
        exact ⟨_, _, _, _, _, rfl, .ty _, .base (.lst (le.lst s)), kit_ty (by decide +kernel), k _ G H .no (.bl _)⟩
    · cases e
  · obtain ⟨d0, e1, e2⟩ := mapF_some e
    exact ⟨G, ρ, fps, d, ρ', R, by simp [mapF, bindF, aCons, map2F, e1, eC, aNil, isListL, e2], k⟩
end
end T
/-! list(zip(t, u)) of two tuples -/
namespace T
open PySem PySem.Spec PyProof.Rows L2

section
variable {prog : Program} {w : World} {A : Around} {E : Value → Shared → Prop} {s : Shared}
theorem zth_item {z TI TO T i1 i2 l1 l2 : Addr} {f : Bool} {oT : Obj} {k1 k2 : Nat} {xs ys : Array Value} {x y : Value} {Q : Value → Shared → Prop} (D : ZipApart z TI TO i1 i2 l1 l2)
    (hz : IsZipHeld s.heap z TI TO T f) (hT : s.heap.get? T = some oT) (hTI : IsPair s.heap TI (.ref i1) (.ref i2))
    (h1 : s.heap.IsTupleIter i1 l1 k1) (h2 : s.heap.IsTupleIter i2 l2 k2) (hl1 : s.heap.IsTuple l1 xs) (hl2 : s.heap.IsTuple l2 ys) (hx : xs[k1]? = some x) (hy : ys[k2]? = some y)
    (hQ : ∀ h', IsZipHeld h' z TI TO T true → h'.IsTupleIter i1 l1 (k1 + 1) → h'.IsTupleIter i2 l2 (k2 + 1) → IsPair h' s.heap.objs.size x y → h'.objs.size = s.heap.objs.size + 1 →
      (∀ c o, c ≠ z → c ≠ i1 → c ≠ i2 → s.heap.get? c = some o → h'.get? c = some o) → Q (.ref s.heap.objs.size) { s with heap := h' }) :
    wpAny (model prog w) A (Builtin.«zip.__next__» ⟨[.ref z], []⟩) (fun fin s' => ∃ v, fin = .done (.ret v) ∧ Q v s') E s := by
  show wpAny _ _ (field (.ref z) 2 >>= _) _ _ _
  refine wpAny_bind (wpAny_field hz rfl (x := .bool false) rfl ?_)
  show wpAny _ _ (field (.ref z) 3 >>= _) _ _ _
  refine wpAny_bind (wpAny_field hz rfl (x := .ref TI) rfl ?_)
  refine wpAny_bind (wpAny_seqItems hTI rfl ?_)
  show wpAny _ _ (Builtin.SmallTypes.ownedTupleIsFree (.ref z) >>= _) _ _ _
  refine wpAny_bind (wpAny_tupleHeld_zip hz hT fun h₁ hz₁ hs₁ => ?_)
  simp only [Bool.false_eq_true, if_false]
  refine wpAny_bind ?_
  rw [← Array.forIn_toList]
  simp only [List.forIn_cons, List.forIn_nil]
  refine wpAny_bind (wpAny_bind (wpAny_holding ?_))
  show wpAny _ _ (Builtin.SmallTypes.nextOf (.ref i1) >>= _) _ _ _
  refine wpAny_bind (RZ.nextOf_tuple_item (s := { s with heap := h₁ }) (h1.extBut hs₁.extBut D.i1z) (hl1.extBut hs₁.extBut D.l1z) hx fun h₂ h1₂ hs₂ => wpAny_pure ?_)
  refine wpAny_pure ?_
  refine wpAny_bind (wpAny_bind (wpAny_holding ?_))
  show wpAny _ _ (Builtin.SmallTypes.nextOf (.ref i2) >>= _) _ _ _
  refine wpAny_bind (RZ.nextOf_tuple_item (s := { s with heap := h₂ }) ((h2.extBut hs₁.extBut D.i2z).extBut hs₂.extBut D.i12.symm) ((hl2.extBut hs₁.extBut D.l2z).extBut hs₂.extBut D.l2i1) hy fun h₃ h2₃ hs₃ => wpAny_pure ?_)
  refine wpAny_pure (wpAny_pure ?_)
  show wpAny _ _ (newTuple [x, y] >>= _) _ _ _
  refine wpAny_bind (wpAny_newTuple ?_)
  have hsz : h₃.objs.size = s.heap.objs.size := by rw [hs₃.1, hs₂.1, hs₁.1]
  have hz₃ : IsZipHeld h₃ z TI TO T true := hs₃.extBut _ _ D.i2z.symm (hs₂.extBut _ _ D.i1z.symm hz₁)
  have hk : ∀ c o, c ≠ z → c ≠ i1 → c ≠ i2 → s.heap.get? c = some o → h₃.get? c = some o := fun c o c1 c2 c3 e => hs₃.extBut _ _ c3 (hs₂.extBut _ _ c2 (hs₁.extBut _ _ c1 e))
  have h1₃ : h₃.IsTupleIter i1 l1 (k1 + 1) := h1₂.extBut hs₃.extBut D.i12
  refine wpAny_pure ⟨_, rfl, ?_⟩
  show Q (.ref h₃.objs.size) _
  have hp : IsPair (h₃.push { cls := .type "tuple", data := .seq #[x, y] }) h₃.objs.size x y := Heap.get?_push_size _ rfl
  have hz4 : (h₃.push { cls := .type "tuple", data := .seq #[x, y] }).objs.size = h₃.objs.size + 1 := Heap.size_push ..
  rw [hsz] at hp hz4 ⊢
  exact hQ _ (Heap.get?_push_of_some _ hz₃) (h1₃.at fun o e => Heap.get?_push_of_some _ e) (h2₃.at fun o e => Heap.get?_push_of_some _ e) hp hz4 fun c o c1 c2 c3 e => Heap.get?_push_of_some _ (hk c o c1 c2 c3 e)
theorem zth_end {z TI TO T i1 i2 l1 l2 : Addr} {f : Bool} {oT : Obj} {k1 k2 : Nat} {xs ys : Array Value} {Q : Fin → Shared → Prop} (hh : A.handled = none) (D : ZipApart z TI TO i1 i2 l1 l2)
    (hz : IsZipHeld s.heap z TI TO T f) (hT : s.heap.get? T = some oT) (hTI : IsPair s.heap TI (.ref i1) (.ref i2))
    (h1 : s.heap.IsTupleIter i1 l1 k1) (h2 : s.heap.IsTupleIter i2 l2 k2) (hl1 : s.heap.IsTuple l1 xs) (hl2 : s.heap.IsTuple l2 ys) (hend : xs[k1]? = none ∨ ys[k2]? = none)
    (hE : ∀ h' e, (∀ c o, c ≠ z → c ≠ i1 → c ≠ i2 → s.heap.get? c = some o → h'.get? c = some o) → (∃ o, h'.get? e = some o ∧ o.cls = .type "StopIteration") → E (.ref e) { s with heap := h' }) :
    wpAny (model prog w) A (Builtin.«zip.__next__» ⟨[.ref z], []⟩) Q E s := by
  show wpAny _ _ (field (.ref z) 2 >>= _) _ _ _
  refine wpAny_bind (wpAny_field hz rfl (x := .bool false) rfl ?_)
  show wpAny _ _ (field (.ref z) 3 >>= _) _ _ _
  refine wpAny_bind (wpAny_field hz rfl (x := .ref TI) rfl ?_)
  refine wpAny_bind (wpAny_seqItems hTI rfl ?_)
  show wpAny _ _ (Builtin.SmallTypes.ownedTupleIsFree (.ref z) >>= _) _ _ _
  refine wpAny_bind (wpAny_tupleHeld_zip hz hT fun h₁ hz₁ hs₁ => ?_)
  simp only [Bool.false_eq_true, if_false]
  refine wpAny_bind ?_
  rw [← Array.forIn_toList]
  simp only [List.forIn_cons, List.forIn_nil]
  refine wpAny_bind (wpAny_bind (wpAny_holding ?_))
  show wpAny _ _ (Builtin.SmallTypes.nextOf (.ref i1) >>= _) _ _ _
  cases hx : xs[k1]? with
  | none =>
    refine wpAny_bind (RZ.nextOf_tuple_end (s := { s with heap := h₁ }) hh (h1.extBut hs₁.extBut D.i1z) (hl1.extBut hs₁.extBut D.l1z) hx fun h₂ e hs₂ he => ?_)
    exact hE h₂ e (fun c o c1 c2 _ x => hs₂ _ _ c2 (hs₁.extBut _ _ c1 x)) he
  | some x =>
    have hy : ys[k2]? = none := by rcases hend with h | h; rw [hx] at h; cases h; exact h
    refine wpAny_bind (RZ.nextOf_tuple_item (s := { s with heap := h₁ }) (h1.extBut hs₁.extBut D.i1z) (hl1.extBut hs₁.extBut D.l1z) hx fun h₂ h1₂ hs₂ => wpAny_pure ?_)
    refine wpAny_pure ?_
    refine wpAny_bind (wpAny_bind (wpAny_holding ?_))
    show wpAny _ _ (Builtin.SmallTypes.nextOf (.ref i2) >>= _) _ _ _
    refine wpAny_bind (RZ.nextOf_tuple_end (s := { s with heap := h₂ }) hh ((h2.extBut hs₁.extBut D.i2z).extBut hs₂.extBut D.i12.symm) ((hl2.extBut hs₁.extBut D.l2z).extBut hs₂.extBut D.l2i1) hy fun h₃ e hs₃ he => ?_)
    exact hE h₃ e (fun c o c1 c2 c3 x => hs₃ _ _ c3 (hs₂.extBut _ _ c2 (hs₁.extBut _ _ c1 x))) he
structure ZtS (h : Heap) (z TI TO i1 i2 l1 l2 S : Addr) (xs ys : Array Value) (i : Nat) : Prop where
  hTI : IsPair h TI (.ref i1) (.ref i2)
  h1 : h.IsTupleIter i1 l1 i
  h2 : h.IsTupleIter i2 l2 i
  t1 : h.IsTuple l1 xs
  t2 : h.IsTuple l2 ys
  st : (IsZip h z TI TO .none ∧ ∃ a b, IsPair h TO a b) ∨ ∃ T f oT, IsZipHeld h z TI TO T f ∧ h.get? T = some oT ∧ T ≠ z ∧ T ≠ i1 ∧ T ≠ i2 ∧ T ≠ S
structure ZtA (z TI TO i1 i2 l1 l2 S : Addr) : Prop where
  D : ZipApart z TI TO i1 i2 l1 l2
  z : z < S
  TI : TI < S
  TO : TO < S
  i1 : i1 < S
  i2 : i2 < S
  l1 : l1 < S
  l2 : l2 < S
theorem ZtS.keep {h h' : Heap} {z TI TO i1 i2 l1 l2 S : Addr} {xs ys : Array Value} {i : Nat} (a : ZtA z TI TO i1 i2 l1 l2 S) (x : ZtS h z TI TO i1 i2 l1 l2 S xs ys i) (hk : ∀ b o, b ≠ S → h.get? b = some o → h'.get? b = some o) : ZtS h' z TI TO i1 i2 l1 l2 S xs ys i where
  hTI := hk _ _ (Nat.ne_of_lt a.TI) x.hTI
  h1 := x.h1.at fun o e => hk _ o (Nat.ne_of_lt a.i1) e
  h2 := x.h2.at fun o e => hk _ o (Nat.ne_of_lt a.i2) e
  t1 := x.t1.at fun o e => hk _ o (Nat.ne_of_lt a.l1) e
  t2 := x.t2.at fun o e => hk _ o (Nat.ne_of_lt a.l2) e
  st := by
    rcases x.st with ⟨hz, p, q, hTO⟩ | ⟨T, f, oT, hz, hT, r1, r2, r3, r4⟩
    · exact .inl ⟨hk _ _ (Nat.ne_of_lt a.z) hz, p, q, hk _ _ (Nat.ne_of_lt a.TO) hTO⟩
    · exact .inr ⟨T, f, oT, hk _ _ (Nat.ne_of_lt a.z) hz, hk _ _ r4 hT, r1, r2, r3, r4⟩
theorem zt_item {z TI TO i1 i2 l1 l2 S : Addr} {xs ys : Array Value} {i : Nat} {x y : Value} {Q : Option Value → Shared → Prop} (a : ZtA z TI TO i1 i2 l1 l2 S) (st : ZtS s.heap z TI TO i1 i2 l1 l2 S xs ys i) (hS : S < s.heap.objs.size) (ex : xs[i]? = some x) (ey : ys[i]? = some y)
    (hQ : ∀ h', ZtS h' z TI TO i1 i2 l1 l2 S xs ys (i + 1) → IsPair h' s.heap.objs.size x y → (∀ c o, c ≠ z → c ≠ TO → c ≠ i1 → c ≠ i2 → s.heap.get? c = some o → h'.get? c = some o) → Q (some (.ref s.heap.objs.size)) { s with heap := h' }) :
    wpAny (model prog w) A (pyNext (.ref z)) Q E s := by
  obtain ⟨hTI, h1, h2, hl1, hl2, hz⟩ := st
  have D := a.D
  have lt : ∀ {c o}, s.heap.get? c = some o → s.heap.objs.size ≠ c := fun e => Nat.ne_of_gt (Heap.lt_size e)
  have n1 : s.heap.objs.size ≠ i1 := let ⟨_, e, _⟩ := h1; lt e
  have n2 : s.heap.objs.size ≠ i2 := let ⟨_, e, _⟩ := h2; lt e
  rcases hz with ⟨hz, p, q, hTO⟩ | ⟨T, f, oT, hz, hT, r1, r2, r3, r4⟩
  · refine RZ.pyNext_zipT_item D hz hTI hTO h1 h2 hl1 hl2 ex ey fun h' a1 a2 a3 a4 a5 a6 hk => ?_
    exact hQ h' ⟨hk _ _ D.TIz D.TITO D.TIi1 D.TIi2 hTI, a3, a4, hl1.at fun o e => hk _ o D.l1z D.l1TO D.l1i1 D.l1i2 e, hl2.at fun o e => hk _ o D.l2z D.l2TO D.l2i1 D.l2i2 e,
      .inr ⟨s.heap.objs.size, false, _, a1, a5, lt hz, n1, n2, Nat.ne_of_gt hS⟩⟩ a5 hk
  · have hTy : s.TypeIs (.ref z) "zip" := ⟨_, hz, rfl⟩
    unfold pyNext
    refine wpAny_bind (wpAny_attempt (wpAny_callSpecial?_slot (name := Str.ofString "__next__") hTy F.slot_zip_next
      (wpAny_call_entry F.slot_zip_next hTy F.entry_zip_next
        (zth_item D hz hT hTI h1 h2 hl1 hl2 ex ey fun h' a1 a3 a4 a5 a6 hk => wpAny_pure ?_) (F.args_zip_next_1 _))))
    exact hQ h' ⟨hk _ _ D.TIz D.TIi1 D.TIi2 hTI, a3, a4, hl1.at fun o e => hk _ o D.l1z D.l1i1 D.l1i2 e, hl2.at fun o e => hk _ o D.l2z D.l2i1 D.l2i2 e,
      .inr ⟨T, true, oT, a1, hk _ _ r1 r2 r3 hT, r1, r2, r3, r4⟩⟩ a5 fun c o c1 c2 c3 c4 e => hk c o c1 c3 c4 e
theorem zt_end {z TI TO i1 i2 l1 l2 S : Addr} {xs ys : Array Value} {i : Nat} {Q : Option Value → Shared → Prop} (hh : A.handled = none) (a : ZtA z TI TO i1 i2 l1 l2 S) (st : ZtS s.heap z TI TO i1 i2 l1 l2 S xs ys i) (hend : xs[i]? = none ∨ ys[i]? = none)
    (hQ : ∀ h', (∀ c o, c ≠ z → c ≠ TO → c ≠ i1 → c ≠ i2 → s.heap.get? c = some o → h'.get? c = some o) → Q none { s with heap := h' }) :
    wpAny (model prog w) A (pyNext (.ref z)) Q E s := by
  obtain ⟨hTI, h1, h2, hl1, hl2, hz⟩ := st
  rcases hz with ⟨hz, p, q, hTO⟩ | ⟨T, f, oT, hz, hT, r1, r2, r3, r4⟩
  · exact RZ.pyNext_zipT_end hh a.D hz hTI hTO h1 h2 hl1 hl2 hend fun h' hk => hQ h' hk
  · have hTy : s.TypeIs (.ref z) "zip" := ⟨_, hz, rfl⟩
    unfold pyNext
    refine wpAny_bind (wpAny_attempt (wpAny_callSpecial?_slot (name := Str.ofString "__next__") hTy F.slot_zip_next
      (wpAny_call_entry F.slot_zip_next hTy F.entry_zip_next (zth_end hh a.D hz hT hTI h1 h2 hl1 hl2 hend fun h' e hk he => ?_) (F.args_zip_next_1 _))))
    obtain ⟨o, ho, hc⟩ := he
    refine wpAny_bind (wpAny_isInstance (T := "StopIteration") (b := true) ⟨o, ho, hc⟩ isSubtype_stop ?_)
    exact wpAny_pure (hQ _ fun c o c1 c2 c3 c4 e => hk c o c1 c3 c4 e)
end

structure ZtG (xs ys : Array Value) (lo : Addr) (h : Heap) (as : List Addr) : Prop where
  rise : as.Pairwise (· < ·)
  above : ∀ a ∈ as, lo < a
  prs : ∀ (j : Nat) (a : Addr), as[j]? = some a → ∃ x y, xs[j]? = some x ∧ ys[j]? = some y ∧ IsPair h a x y
theorem ZtG.there {xs ys : Array Value} {lo : Addr} {h : Heap} {as : List Addr} (g : ZtG xs ys lo h as) {a : Addr} (ha : a ∈ as) : a < h.objs.size := by
  obtain ⟨j, hj⟩ := List.mem_iff_getElem?.mp ha
  obtain ⟨_, _, _, _, e⟩ := g.prs j a hj
  exact Heap.lt_size e
theorem zip_no_len : typeLookup (.type "zip") "__len__" = pure none := by rw [typeLookup_type, builtinLookup_eq_fast]; kernel_rfl
theorem zip_no_hint : typeLookup (.type "zip") "__length_hint__" = pure none := by rw [typeLookup_type, builtinLookup_eq_fast]; kernel_rfl
section
variable {prog : Program} {w : World} {A : Around} {s : Shared} {R : Result → Shared → Prop} {xs ys : Array Value}
theorem zt_loop {z TI TO i1 i2 l1 l2 S : Addr} (hh : A.handled = none) (a : ZtA z TI TO i1 i2 l1 l2 S) (hn : min xs.size ys.size ≤ sizeLine) (res : Value) {h₁ : Heap}
    (hR : ∀ h' acc c as, (∀ b o, b ≠ S → b ≠ z → b ≠ TO → b ≠ i1 → b ≠ i2 → h₁.get? b = some o → h'.get? b = some o) → h'.get? S = some { cls := .type "list", dict := none, data := .seq acc c, slots := #[] } → as.length = min xs.size ys.size → ZtG xs ys S h' as →
      acc.toList = as.map Value.ref → R (.ok (.ret res)) { s with heap := h' }) :
    ∀ (k i : Nat) (h : Heap) (c : Nat) (acc : Array Value) (as : List Addr), min xs.size ys.size - i = k → i ≤ min xs.size ys.size → ZtS h z TI TO i1 i2 l1 l2 S xs ys i → (∀ b o, b ≠ S → b ≠ z → b ≠ TO → b ≠ i1 → b ≠ i2 → h₁.get? b = some o → h.get? b = some o) →
      h.get? S = some { cls := .type "list", dict := none, data := .seq acc c, slots := #[] } → acc.toList = as.map Value.ref → as.length = i → ZtG xs ys S h as →
      codeAny (model prog w) A (.builtin "list.extend.loop" ⟨[.ref S, .ref z, res], []⟩) R { s with heap := h } := by
  intro k
  induction k with
  | zero =>
    intro i h c acc as hk hi hst hkeep hS hacc hal hG
    have hin : i = min xs.size ys.size := by omega
    refine codeAny_builtin PySem.F.entry_extend_loop ?_
    rw [Around.under_plainId PySem.F.plain_extend_loop _]
    show wpAny _ A.in1 (pyNext (.ref z) >>= _) _ _ _
    refine wpAny_bind (zt_end (s := { s with heap := h }) (A := A.in1) hh a hst ?_ fun h' he => ?_)
    · rcases Nat.le_total xs.size ys.size with q | q
      · exact .inl (Array.getElem?_eq_none (by omega))
      · exact .inr (Array.getElem?_eq_none (by omega))
    · refine wpAny_pure (hR h' acc c as (fun b o h1 h2 h3 h4 h5 e => he b o h2 h3 h4 h5 (hkeep b o h1 h2 h3 h4 h5 e)) (he S _ (Nat.ne_of_gt a.z) (Nat.ne_of_gt a.TO) (Nat.ne_of_gt a.i1) (Nat.ne_of_gt a.i2) hS) (by omega) ⟨hG.rise, hG.above, fun j b hj => ?_⟩ hacc)
      obtain ⟨x, y, e1, e2, e3⟩ := hG.prs j b hj
      have hb := hG.above b (List.mem_of_getElem? hj)
      have gt : ∀ {c}, c < S → b ≠ c := fun q => Nat.ne_of_gt (Nat.lt_trans q hb)
      exact ⟨x, y, e1, e2, he b _ (gt a.z) (gt a.TO) (gt a.i1) (gt a.i2) e3⟩
  | succ k ih =>
    intro i h c acc as hk hi hst hkeep hS hacc hal hG
    have hlt : i < min xs.size ys.size := by omega
    have hix : i < xs.size := by omega
    have hiy : i < ys.size := by omega
    have hsz : acc.size = i := by rw [← Array.length_toList, hacc, List.length_map, hal]
    refine codeAny_builtin PySem.F.entry_extend_loop ?_
    rw [Around.under_plainId PySem.F.plain_extend_loop _]
    show wpAny _ A.in1 (pyNext (.ref z) >>= _) _ _ _
    refine wpAny_bind (zt_item (s := { s with heap := h }) a hst (Heap.lt_size hS) (Array.getElem?_eq_getElem hix) (Array.getElem?_eq_getElem hiy) fun h' hst' ht hkp => ?_)
    dsimp only at ht hkp ⊢
    have hS' := hkp S _ (Nat.ne_of_gt a.z) (Nat.ne_of_gt a.TO) (Nat.ne_of_gt a.i1) (Nat.ne_of_gt a.i2) hS
    have up : ∀ b o, b ≠ S → h'.get? b = some o → (h'.update S (Obj.mapSeq (·.push (Value.ref h.objs.size)))).get? b = some o := fun b o hb e => (Heap.get?_update_other _ _ (Ne.symm hb)).trans e
    have hSl : S < h.objs.size := Heap.lt_size hS
    show wpAny _ A.in1 (updateSeq S (·.push (Value.ref h.objs.size)) >>= _) _ _ _
    refine wpAny_bind ?_
    refine wpAny_updateSeq hS' rfl (wpAny_pure ⟨plainId_quiet PySem.F.plain_extend_loop _, ih (i + 1) _ _ (acc.push (Value.ref h.objs.size)) (as ++ [h.objs.size]) (by omega) hlt (hst'.keep a up)
      (fun b o h1 h2 h3 h4 h5 e => up b o h1 (hkp b o h2 h3 h4 h5 (hkeep b o h1 h2 h3 h4 h5 e))) (Heap.get?_update_self _ hS' rfl) (by rw [Array.toList_push, hacc, List.map_append]; rfl) (by rw [List.length_append, hal]; rfl) ⟨?_, ?_, ?_⟩⟩) (by rw [hsz]; omega) (by show (acc.push (Value.ref h.objs.size)).size ≤ sizeLine + 1; rw [Array.size_push, hsz]; omega)
    · refine List.pairwise_append.mpr ⟨hG.rise, List.pairwise_singleton _ _, fun a ha b hb => ?_⟩
      rw [List.mem_singleton.mp hb]
      exact hG.there ha
    · intro b hb
      rcases List.mem_append.mp hb with hb | hb
      · exact hG.above b hb
      · rw [List.mem_singleton.mp hb]; exact hSl
    · intro j b hj
      rcases Nat.lt_trichotomy j as.length with h1 | h1 | h1
      · rw [List.getElem?_append_left h1] at hj
        obtain ⟨x, y, e1, e2, e3⟩ := hG.prs j b hj
        have hb := hG.above b (List.mem_of_getElem? hj)
        have gt : ∀ {c}, c < S → b ≠ c := fun q => Nat.ne_of_gt (Nat.lt_trans q hb)
        exact ⟨x, y, e1, e2, up b _ (Nat.ne_of_gt hb) (hkp b _ (gt a.z) (gt a.TO) (gt a.i1) (gt a.i2) e3)⟩
      · subst h1
        have hb : h.objs.size = b := by simpa using hj
        subst hb
        subst hal
        exact ⟨_, _, Array.getElem?_eq_getElem hix, Array.getElem?_eq_getElem hiy, up _ _ (Nat.ne_of_gt hSl) ht⟩
      · have hnone : (as ++ [h.objs.size])[j]? = none := List.getElem?_eq_none (by rw [List.length_append, List.length_singleton]; omega)
        rw [hnone] at hj; cases hj

variable {E : Value → Shared → Prop}
theorem zt_init {z TI TO i1 i2 l1 l2 S : Addr} (hh : A.handled = none) (a : ZtA z TI TO i1 i2 l1 l2 S) (hn : min xs.size ys.size ≤ sizeLine) (st : ZtS s.heap z TI TO i1 i2 l1 l2 S xs ys 0) (hz : IsZip s.heap z TI TO .none)
    (hS : s.heap.get? S = some { cls := .type "list", data := .seq #[] })
    (hR : ∀ h' acc c as, (∀ b o, b ≠ S → b ≠ z → b ≠ TO → b ≠ i1 → b ≠ i2 → s.heap.get? b = some o → h'.get? b = some o) → h'.get? S = some { cls := .type "list", dict := none, data := .seq acc c, slots := #[] } → as.length = min xs.size ys.size → ZtG xs ys S h' as →
      acc.toList = as.map Value.ref → R (.ok (.ret .none)) { s with heap := h' }) :
    wpAny (model prog w) A.in1 (Builtin.«list.__init__» ⟨[.ref S, .ref z], []⟩)
      (fun fin s' => match fin with | .done f => R (.ok f) s' | .again c' => c'.quiet = true ∧ codeAny (model prog w) A c' R s') (fun e s' => R (.error e) s') s := by
  show wpAny _ A.in1 (do let old ← Builtin.List.listItems (.ref S); Builtin.List.listUpdate (.ref S) (fun _ => #[]); letGo old.toList.reverse; Builtin.List.listExtendWith (.ref S) (.ref z) .none) _ _ s
  refine wpAny_bind ?_
  unfold Builtin.List.listItems
  refine wpAny_bind (wpAny_seqItems hS rfl (wpAny_pure ?_))
  show wpAny _ A.in1 (updateSeq S (fun _ => #[]) >>= fun _ => letGo (#[] : Array Value).toList.reverse >>= fun _ => Builtin.List.listExtendWith (.ref S) (.ref z) .none) _ _ s
  refine wpAny_bind (wpAny_updateSeq hS rfl ?_)
  have hS₂ := Heap.get?_update_self (Obj.mapSeq (fun _ => (#[] : Array Value))) hS rfl
  have oth : ∀ b o, b ≠ S → s.heap.get? b = some o → (s.heap.update S (Obj.mapSeq (fun _ => (#[] : Array Value)))).get? b = some o :=
    fun b o hb e => (Heap.get?_update_other _ _ (Ne.symm hb)).trans e
  refine wpAny_bind (wpAny_letGo ?_)
  have st2 := st.keep a oth
  have hz2 : IsZip (s.heap.update S (Obj.mapSeq (fun _ => (#[] : Array Value)))) z TI TO .none := oth _ _ (Nat.ne_of_lt a.z) hz
  have hT2 : ({ s with heap := s.heap.update S (Obj.mapSeq (fun _ => (#[] : Array Value))) } : Shared).TypeIs (.ref z) "zip" := ⟨_, hz2, rfl⟩
  unfold Builtin.List.listExtendWith
  refine wpAny_bind (wpAny_typeOf hT2 ?_)
  have h1 : Builtin.List.listSameRef (.ref S) (.ref z) = false := by simp [Builtin.List.listSameRef, Nat.ne_of_gt a.z]
  have h2 : (Value.type "zip" == Value.type "list") = false := by decide
  have h3 : (Value.type "zip" == Value.type "tuple") = false := by decide
  simp only [h1, h2, h3, Bool.or_false, Bool.false_eq_true, if_false]
  refine wpAny_bind (wpAny_pyIter_zip hz2 ?_)
  refine wpAny_bind (wpAny_holding ?_)
  unfold Builtin.List.listLengthHint
  refine wpAny_bind (wpAny_specialOf hT2 zip_no_len ?_)
  show wpAny _ A.in1 (specialOf (Value.ref z) (Str.ofString "__length_hint__") >>= _) _ _ _
  refine wpAny_bind (wpAny_specialOf hT2 zip_no_hint ?_)
  refine wpAny_pure ?_
  show wpAny _ A.in1 (rule "list.extend.makes-room" >>= fun _ => Builtin.List.listTouch (.ref S) >>= fun _ =>
    again (.builtin "list.extend.loop" ⟨[.ref S, .ref z, .none], []⟩)) _ _ _
  refine wpAny_bind (wpAny_rule ?_)
  refine wpAny_bind ?_
  show wpAny _ A.in1 (updateSeq S (·.push .none) >>= fun _ => updateSeq S (·.pop)) _ _ _
  refine wpAny_bind (wpAny_updateSeq hS₂ rfl ?_)
  have hS₃ := Heap.get?_update_self (Obj.mapSeq (·.push Value.none)) hS₂ rfl
  refine wpAny_updateSeq (hz := by seq_fits) hS₃ rfl ?_
  have hS₄ := Heap.get?_update_self (Obj.mapSeq (·.pop)) hS₃ rfl
  have oth2 : ∀ b o, b ≠ S → s.heap.get? b = some o → (((s.heap.update S (Obj.mapSeq (fun _ => (#[] : Array Value)))).update S (Obj.mapSeq (·.push Value.none))).update S (Obj.mapSeq (·.pop))).get? b = some o :=
    fun b o hb e => (Heap.get?_update_other _ _ (Ne.symm hb)).trans ((Heap.get?_update_other _ _ (Ne.symm hb)).trans (oth b o hb e))
  exact wpAny_pure ⟨plainId_quiet F.plain_extend_loop _, zt_loop (s := s) (h₁ := s.heap) hh a hn .none hR _ 0 _ _ #[] [] rfl (Nat.zero_le _) (st.keep a oth2) (fun b o h1 _ _ _ _ e => oth2 b o h1 e) hS₄ rfl rfl ⟨List.Pairwise.nil, (fun _ ha => nomatch ha), (fun j a hj => by simp at hj)⟩⟩
theorem zt_call {z TI TO i1 i2 l1 l2 : Addr} {Q : Value → Shared → Prop} (hh : A.handled = none) (a : ZtA z TI TO i1 i2 l1 l2 s.heap.objs.size) (hn : min xs.size ys.size ≤ sizeLine) (st : ZtS s.heap z TI TO i1 i2 l1 l2 s.heap.objs.size xs ys 0) (hz : IsZip s.heap z TI TO .none)
    (hQ : ∀ h' acc c as, (∀ b o, b ≠ z → b ≠ TO → b ≠ i1 → b ≠ i2 → s.heap.get? b = some o → h'.get? b = some o) → h'.get? s.heap.objs.size = some { cls := .type "list", dict := none, data := .seq acc c, slots := #[] } → as.length = min xs.size ys.size → ZtG xs ys s.heap.objs.size h' as →
      acc.toList = as.map Value.ref → Q (.ref s.heap.objs.size) { s with heap := h' }) :
    wpAny (model prog w) A (call (.type "list") [.ref z]) Q E s := by
  refine callType_codes (Q₁ := fun obj s₁ => obj = .ref s.heap.objs.size ∧ s₁ = { s with heap := s.heap.push { cls := .type "list", data := .seq #[] } }) PySem.F.called_list (PySem.F.typeCall_list_1 _) PySem.F.entry_list_init
    (code_list_new _ ⟨rfl, rfl⟩) fun obj s₁ h₁ => ?_
  obtain ⟨rfl, rfl⟩ := h₁
  have hS : (s.heap.push { cls := .type "list", data := .seq #[] }).get? s.heap.objs.size = some { cls := .type "list", data := .seq #[] } := Heap.get?_push_size _ rfl
  have up : ∀ b o, s.heap.get? b = some o → (s.heap.push { cls := .type "list", data := .seq #[] }).get? b = some o := fun b o e => Heap.get?_push_of_some _ e
  refine ⟨⟨_, hS, rfl⟩, PySem.F.args_list_init_2 _ _, zt_init (A := A.in1) (s := { s with heap := s.heap.push { cls := .type "list", data := .seq #[] } }) hh a hn (st.keep a fun b o _ e => up b o e) (up _ _ hz) hS (fun h' acc c as hk hS' hl hG hacc => ?_)⟩
  exact ⟨rfl, hQ h' acc c as (fun b o h2 h3 h4 h5 e => hk b o (Nat.ne_of_lt (Heap.lt_size e)) h2 h3 h4 h5 (up b o e)) hS' hl hG hacc⟩
end

/-! ### tracked -/
def putZ : Hp → List Addr → List (V × V) → Hp
  | H, a :: as, p :: kvs => putZ (upd H a (.tup [p.1, p.2])) as kvs
  | H, _, _ => H
theorem putZ_off {b : Addr} : ∀ (as : List Addr) (kvs : List (V × V)) (H : Hp), b ∉ as → putZ H as kvs b = H b
  | [], _, _, _ => rfl
  | _ :: _, [], _, _ => rfl
  | a :: as, p :: kvs, H, h => by
    show putZ (upd H a (.tup [p.1, p.2])) as kvs b = H b
    rw [putZ_off as kvs _ (fun z => h (List.mem_cons_of_mem _ z)), upd_ne (fun z => h (by rw [z]; exact List.mem_cons_self))]
theorem putZ_at : ∀ (as : List Addr) (kvs : List (V × V)) (H : Hp), as.length = kvs.length → as.Nodup → Paired (fun (t : Addr) (p : V × V) => putZ H as kvs t = some (.tup [p.1, p.2])) as kvs
  | [], [], _, _, _ => .nil
  | [], _ :: _, _, h, _ => by cases h
  | _ :: _, [], _, h, _ => by cases h
  | a :: as, p :: kvs, H, h, hn => by
    have hn' := List.nodup_cons.mp hn
    have ih := putZ_at as kvs (upd H a (.tup [p.1, p.2])) (Nat.succ.inj h) hn'.2
    refine .cons ?_ ih
    show putZ (upd H a (.tup [p.1, p.2])) as kvs a = some (.tup [p.1, p.2])
    rw [putZ_off as kvs _ hn'.1, upd_same]
section
variable {X : Cx}
theorem zt_laid {pins : List (Addr × Obj)} {σ : L2.St} {H : Hp} {s : Shared} {h' : Heap} {xs ys : List V} {us ws : List Value} {acc : Array Value} {c : Nat} {as : List Addr} {S : Addr} (I : Inv X pins σ H s) (hS0 : s.heap.objs.size ≤ S) (hz : min xs.length ys.length ≤ sizeLine) (rx : Vals xs us) (ry : Vals ys ws)
    (hk : ∀ b o, s.heap.get? b = some o → h'.get? b = some o) (hS : h'.get? S = some { cls := .type "list", dict := none, data := .seq acc c, slots := #[] }) (hl : as.length = min us.toArray.size ws.toArray.size) (hG : ZtG us.toArray ws.toArray S h' as) (hacc : acc.toList = as.map Value.ref) :
    ∃ H' : Hp, (∀ b o, H b = some o → H' b = some o) ∧ (∀ b, b ∉ as → b ≠ S → H' b = H b) ∧ H S = none ∧ (∀ t ∈ as, H t = none) ∧ S ∉ as ∧ H' S = some (.lst (as.map V.ref)) ∧ Paired (fun (t : Addr) (q : V × V) => H' t = some (.tup [q.1, q.2])) as (xs.zip ys) ∧ Inv X pins σ H' { s with heap := h' } := by
  have l1 := rx.length
  have l2 := ry.length
  have hl' : as.length = (xs.zip ys).length := by rw [List.length_zip, hl]; simp only [List.size_toArray]; omega
  have hSn : S ∉ as := fun z => Nat.lt_irrefl _ (hG.above _ z)
  have nd : as.Nodup := List.Pairwise.imp (fun {a b} (h : a < b) => Nat.ne_of_lt h) hG.rise
  have new : ∀ t ∈ as, H t = none := fun t ht => I.hok.fresh (Nat.le_of_lt (Nat.lt_of_le_of_lt hS0 (hG.above t ht)))
  have newS : H S = none := I.hok.fresh hS0
  have atP := putZ_at as (xs.zip ys) (upd H S (.lst (as.map V.ref))) hl' nd
  have off : ∀ b, b ∉ as → b ≠ S → putZ (upd H S (.lst (as.map V.ref))) as (xs.zip ys) b = H b := fun b h1 h2 => by rw [putZ_off as _ _ h1, upd_ne h2]
  have low : ∀ b o, s.heap.get? b = some o → b ∉ as ∧ b ≠ S := fun b o e => ⟨fun z => absurd (Heap.lt_size e) (Nat.not_lt.mpr (Nat.le_of_lt (Nat.lt_of_le_of_lt hS0 (hG.above b z)))), Nat.ne_of_lt (Nat.lt_of_lt_of_le (Heap.lt_size e) hS0)⟩
  have kp : ∀ b u, H b = some u → (putZ (upd H S (.lst (as.map V.ref))) as (xs.zip ys)) b = some u := fun b u e => by
    rw [off b (fun z => by rw [new b z] at e; cases e) (fun z => by rw [z, newS] at e; cases e)]
    exact e
  have eS : putZ (upd H S (.lst (as.map V.ref))) as (xs.zip ys) S = some (.lst (as.map V.ref)) := by rw [putZ_off as _ _ hSn, upd_same]
  refine ⟨putZ (upd H S (.lst (as.map V.ref))) as (xs.zip ys), kp, off, newS, new, hSn, eS, atP, ?_⟩
  refine I.call' (ch := []) rfl ⟨fun b o q _ _ _ => hk b o q, fun b o q _ _ _ => ⟨o.slots, hk b o q⟩, fun b o q n _ => ?_, fun b o q _ => ⟨o, hk b o q⟩, fun b xs q => kp b _ q, fun b o u q => kp b _ q, fun b ps q => ⟨#[], by rw [kp b _ q]; simp⟩⟩ (fun b u q => ?_) I.bare fun b z => by simp at z
  · obtain ⟨z1, z2⟩ := low b o q
    rw [off b z1 z2]
    exact n
  · by_cases hb : b ∈ as
    · obtain ⟨j, pk, e1, e2, e3⟩ := LiI.paired_ix atP hb
      rw [e3] at q
      cases q
      obtain ⟨u, v, f1, f2, f3⟩ := hG.prs j b e1
      obtain ⟨g1, g2⟩ : xs[j]? = some pk.1 ∧ ys[j]? = some pk.2 := by
        rw [List.getElem?_zip_eq_some] at e2
        exact e2
      obtain ⟨u', hu', ru⟩ := rx.get g1
      obtain ⟨v', hv', rv⟩ := ry.get g2
      rw [List.getElem?_toArray, hu'] at f1
      rw [List.getElem?_toArray, hv'] at f2
      cases f1
      cases f2
      exact ⟨by show 2 ≤ sizeLine; decide, [u, v], .cons ru (.cons rv .nil), ⟨_, f3, rfl, _, rfl⟩⟩
    · by_cases hb2 : b = S
      · rw [hb2] at q ⊢
        rw [eS] at q
        cases q
        refine ⟨by rw [List.length_map, hl', List.length_zip]; omega, acc.toList, c, by rw [hacc]; exact LiI.vals_refs as, ?_⟩
        rw [Array.toArray_toList]
        exact hS
      · rw [off b hb hb2] at q
        exact (I.hok b u q).stay (fun d v _ y => hk d v y) (fun d y => kp d _ y) fun d xs y => kp d _ y
def rLz (K : PySem.W.Frag) : List V → Hp → VK → Prop := fun vs H Q => ∃ a b xs ys, vs = [.ref a, .ref b] ∧ SqT K H a xs ∧ SqT K H b ys ∧ min xs.length ys.length ≤ sizeLine ∧
  ∀ (H' : Hp) (p : Addr) (ts : List Addr), (∀ b o, H b = some o → H' b = some o) → (∀ b, b ∉ ts → b ≠ p → H' b = H b) → H p = none → (∀ t ∈ ts, H t = none) → p ∉ ts → H' p = some (.lst (ts.map V.ref)) → Paired (fun (t : Addr) (q : V × V) => H' t = some (.tup [q.1, q.2])) ts (xs.zip ys) → Q (.ref p) H'
theorem pe_listZip {e e2 : Expr} {ta : TA} {p pz pos cpos : Pos} (hc : X.calm = true) (hg : Gl X "list") (hm : X.mg "list" = none) (hg2 : Gl X "zip") (hm2 : X.mg "zip" = none) (ha : PA X [e, e2] ta)
    (hs : starEach [e, e2] X.env = (false, eval e X.env) :: starEach [e2] X.env := by rfl) (hpl : (backTo cpos (starEach [e2] X.env)).any (·.1) = false := by rfl)
    (hs1 : starEach [.Call (.Name "zip" pz) [e, e2] [] cpos] X.env = (false, eval (.Call (.Name "zip" pz) [e, e2] [] cpos) X.env) :: starEach [] X.env := by rfl) :
    PE X (.Call (.Name "list" p) [.Call (.Name "zip" pz) [e, e2] [] cpos] [] pos) (fun σ H Q => ta σ H fun vs H1 => rLz X.K vs H1 Q) := by
  refine ⟨fun pins s σ H Q I hq => ?_⟩
  refine wpAny_Call_Name_kw (ld_blt I hg hm PyProof.Rows.boot_list ?_)
  refine PyProof.Rows.callWith_type1 ?_ hs1 rfl
  rw [hs1]
  show wpAny _ _ (spliced ((false, eval (.Call (.Name "zip" pz) [e, e2] [] cpos) X.env) :: backTo pos (starEach [] X.env))) _ _ s
  refine Calls.spliced_cons ?_
  refine Call_ (ld_blt I hg2 hm2 PyProof.Rows.boot_zip (PyProof.Rows.callWith_type1 (thn (ha.run cpos pins s σ H _ I hq) fun us s1 ⟨vs, H1, I1, r1, q1⟩ => ?_) hs hpl))
  obtain ⟨a, b, xs, ys, ex, hqx, hqy, hsz0, q⟩ := q1
  subst ex
  cases r1 with
  | cons r rr =>
    cases rr with
    | cons r' rr =>
      cases rr
      cases r
      cases r'
      obtain ⟨its, rv, p1, _⟩ := I1.tuple hqx
      obtain ⟨its2, rv2, p2, _⟩ := I1.tuple hqy
      obtain ⟨o1, ho1, _⟩ := id p1
      obtain ⟨o2, ho2, _⟩ := id p2
      have hl1 := rv.length
      have hl2 := rv2.length
      refine RZ.call_zipT (show s1.heap.IsTuple a its.toArray from p1) (show s1.heap.IsTuple b its2.toArray from p2) fun h' hz hTI hTO h1 h2 hsz hk => ?_
      have la := Heap.lt_size ho1
      have lb := Heap.lt_size ho2
      have hz5 : ({ s1 with heap := h' } : Shared).heap.objs.size = s1.heap.objs.size + 5 := hsz
      have apart : ZtA (s1.heap.objs.size + 4) (s1.heap.objs.size + 2) (s1.heap.objs.size + 3) s1.heap.objs.size (s1.heap.objs.size + 1) a b ({ s1 with heap := h' } : Shared).heap.objs.size := by
        rw [hz5]
        exact ⟨PySem.W.ktu_apart s1.heap.objs.size a b la lb, Nat.add_lt_add_left (by decide) _, Nat.add_lt_add_left (by decide) _, Nat.add_lt_add_left (by decide) _, Nat.lt_add_of_pos_right (by decide), Nat.add_lt_add_left (by decide) _, Nat.lt_of_lt_of_le la (Nat.le_add_right _ _), Nat.lt_of_lt_of_le lb (Nat.le_add_right _ _)⟩
      have st : ZtS h' (s1.heap.objs.size + 4) (s1.heap.objs.size + 2) (s1.heap.objs.size + 3) s1.heap.objs.size (s1.heap.objs.size + 1) a b ({ s1 with heap := h' } : Shared).heap.objs.size its.toArray its2.toArray 0 :=
        ⟨hTI, h1, h2, Heap.IsTuple.at p1 fun o e => hk _ o e, Heap.IsTuple.at p2 fun o e => hk _ o e, .inl ⟨hz, _, _, hTO⟩⟩
      refine Calls.spliced_nil ?_
      refine zt_call (s := { s1 with heap := h' }) (I1.ok.hd hc) apart (by simp only [List.size_toArray]; omega) st hz fun h2' acc c as hk2 hS hl hG hacc => ?_
      obtain ⟨H', k1, k2, k3, k4, k5, k6, k7, J⟩ := zt_laid I1 (show s1.heap.objs.size ≤ h'.objs.size by rw [hsz]; exact Nat.le_add_right _ _) hsz0 rv rv2 (fun b o e => hk2 b o (Nat.ne_of_lt (Nat.lt_of_lt_of_le (Heap.lt_size e) (Nat.le_add_right _ 4))) (Nat.ne_of_lt (Nat.lt_of_lt_of_le (Heap.lt_size e) (Nat.le_add_right _ 3))) (Nat.ne_of_lt (Heap.lt_size e)) (Nat.ne_of_lt (Nat.lt_of_lt_of_le (Heap.lt_size e) (Nat.le_add_right _ 1))) (hk b o e)) hS hl hG hacc
      exact ⟨.ref _, H', J, rfl, q H' _ as k1 k2 k3 k4 k5 k6 k7⟩
end

theorem paired_mem {α β : Type} {F F' : α → β → Prop} : ∀ {l₁ : List α} {l₂ : List β}, Paired F l₁ l₂ → (∀ a b, a ∈ l₁ → F a b → F' a b) → Paired F' l₁ l₂
  | _, _, .nil, _ => .nil
  | _, _, .cons h t, hm => .cons (hm _ _ List.mem_cons_self h) (paired_mem t fun a b ha => hm a b (List.mem_cons_of_mem _ ha))
/-! ### over data -/
theorem zip_isL {K : PySem.W.Frag} {G H : Hp} : ∀ {ts : List Addr} {xs ys : List V} {ds es : List D}, IsL K G xs ds → IsL K G ys es → Paired (fun (t : Addr) (q : V × V) => H t = some (.tup [q.1, q.2])) ts (xs.zip ys) → Le G H → IsL K H (ts.map V.ref) (pairs ds es)
  | _, _, _, _, _, .nil, l2, p, _ => by
    cases p
    unfold pairs
    exact .nil
  | _, _, _, _, _, .cons i l1, .nil, p, _ => by
    cases p
    unfold pairs
    exact .nil
  | _, _, _, _, _, .cons i l1, .cons j l2, p, le => by
    cases p with
    | cons h t => exact .cons (.tup (.inl (.inl h)) (.cons (Is.le le _ i) (.cons (Is.le le _ j) .nil))) (zip_isL l1 l2 t le)
def lzD : List D → Option O
  | [.tup ds, .tup es] => if min ds.length es.length ≤ sizeLine then some (.lst none ((pairs ds es).map .fz)) else none
  | _ => none
section
variable {X : Cx}
theorem do_listZip {e e2 : Expr} {f : F (List D)} {p pz pos cpos : Pos} (hc : X.calm = true) (hg : Gl X "list") (hm : X.mg "list" = none) (hg2 : Gl X "zip") (hm2 : X.mg "zip" = none) (ha : DA X [e, e2] f)
    (hs : starEach [e, e2] X.env = (false, eval e X.env) :: starEach [e2] X.env := by rfl) (hpl : (backTo cpos (starEach [e2] X.env)).any (·.1) = false := by rfl)
    (hs1 : starEach [.Call (.Name "zip" pz) [e, e2] [] cpos] X.env = (false, eval (.Call (.Name "zip" pz) [e, e2] [] cpos) X.env) :: starEach [] X.env := by rfl) :
    DO X (.Call (.Name "list" p) [.Call (.Name "zip" pz) [e, e2] [] cpos] [] pos) (mapF f lzD) := PE.imp (pe_listZip hc hg hm hg2 hm2 ha hs hpl hs1) fun σ H Q ⟨G, ρ, fps, o, ρ', R, e, k⟩ => by
  obtain ⟨ds, e1, e2⟩ := mapF_some e
  refine ⟨G, ρ, fps, ds, ρ', R, e1, fun vs H1 G1 fps1 R1 f1 i1 => ?_⟩
  unfold lzD at e2
  split at e2
  · split at e2
    · rename_i d1 d2 hz
      cases e2
      obtain ⟨v, v', rfl, i1, i2⟩ := isL_2 i1
      obtain ⟨a, xs, rfl, sa, la⟩ := i1.tup_inv
      obtain ⟨b, ys, rfl, sb, lb⟩ := i2.tup_inv
      have n1 := la.length
      have n2 := lb.length
      refine ⟨a, b, xs, ys, rfl, R1.le.sqT sa, R1.le.sqT sb, by omega, fun H' p ts k1 k2 k3 k4 k5 k6 k7 => ?_⟩
      have none_of : ∀ a, H1 a = none → G1 a = none := fun a q => by
        cases z : G1 a with
        | none => rfl
        | some u => exact absurd q (R1.le.some (by rw [z]; exact fun y => nomatch y))
      have sm : Same G1 (ice G1 H' ts) := ice_same fun a ha => none_of a (k4 a ha)
      have le2 : Le (ice G1 H' ts) H' := fun a u q => by
        by_cases ha : a ∈ ts
        · rw [ice_in ha] at q; exact .inl q
        · rw [ice_out ha] at q
          rcases R1.le a u q with z | ⟨z1, o, z⟩
          · exact .inl (k1 a _ z)
          · exact .inr ⟨z1, o, k1 a _ z⟩
      have outU : ∀ a, U fps1 a → a ∉ ts ∧ a ≠ p := fun a ha => ⟨fun z => (R1.out ha).1 (k4 a z), fun z => (R1.out ha).1 (by rw [z]; exact k3)⟩
      have R2 : Rel X.K (ice G1 H' ts) H' σ ρ' fps1 := R1.go sm le2 (fun a ha => by rw [ice_out (outU a ha).1]; exact (R1.out ha).2) fun a ha => k2 a (outU a ha).1 (outU a ha).2
      refine k _ H' _ fps1 [p] R2 (f1.trans ⟨sm, fun a u q _ => k1 a u q, fun a q => ?_, fun a q => ?_, fun a q => ?_⟩) (.lst k6 (by rw [ice_out k5]; exact none_of p k3) (owL_fz ?_) (fun h => nomatch h) (.inl rfl)) fun a ha => ?_
      · cases z : H1 a with
        | none => exact absurd z q
        | some u => rw [k1 a u z]; exact fun y => nomatch y
      · by_cases ha : a ∈ ts
        · exact .inr (.inr (k4 a ha))
        · rw [ice_out ha] at q; exact .inl q
      · rcases q with q | q
        · exact .inl q
        · have : a = p := by simpa using q
          rw [this]; exact .inr k3
      · have le0 : Le G1 H' := le2.trans (Le.refl _) |> fun _ => (Le.of sm).trans le2
        have := zip_isL (H := ice G1 H' ts) la lb (paired_mem k7 fun t q ht hq => by rw [ice_in ht]; exact hq) (Le.of sm)
        exact this
      · have : a = p := by simpa using ha
        rw [this]
        exact fun z => (R1.out z).1 k3
    · cases e2
  · cases e2
end
end T
/-! looking at owned things without freezing them; owned pairs; min of a list -/
namespace T
open PySem PySem.Spec PyProof.Rows L2

/-! ### a look -/
def iceO (o : Option O) : Option O := o.map fun o => .fz (frz o)
def iceE (ρ : Env) : Env := ρ.map iceO
theorem iceE_get (ρ : Env) (i : Nat) : (iceE ρ)[i]? = (ρ[i]?).map iceO := List.getElem?_map ..
open Classical in
theorem Rel.ice {K : PySem.W.Frag} {G H : Hp} {σ : L2.St} {ρ : Env} {fps : Fps} (R : Rel K G H σ ρ fps) :
    ∃ G1, Rel K G1 H σ (iceE ρ) (fun _ => []) ∧ Same G G1 := by
  let G1 : Hp := fun a => if U fps a then H a else G a
  have gin : ∀ {a}, U fps a → G1 a = H a := fun h => if_pos h
  have gout : ∀ {a}, ¬ U fps a → G1 a = G a := fun h => if_neg h
  have sm : Same G G1 := fun a u e => by
    by_cases q : U fps a
    · rw [(R.out q).2] at e; cases e
    · rw [gout q]; exact e
  refine ⟨G1, ⟨fun a u e => ?_, by simpa [iceE] using R.len, fun i o q => ?_, fun _ _ => rfl, fun _ _ _ h => nomatch h⟩, sm⟩
  · by_cases q : U fps a
    · rw [gin q] at e; exact .inl e
    · rw [gout q] at e; exact R.le a u e
  · rw [iceE_get] at q
    cases h : ρ[i]? with
    | none => rw [h] at q; cases q
    | some p =>
      cases p with
      | none => rw [h] at q; cases q
      | some o1 =>
        rw [h] at q
        cases q
        obtain ⟨v, e, w⟩ := R.sl i o1 h
        exact ⟨v, e, .fz (Ow.freeze (.of sm) o1 w fun a ha => gin ⟨i, ha⟩)⟩
/-- what was owned ahead of a look is owned behind it -/
theorem Rel.looked {K : PySem.W.Frag} {G G1 H G' H' : Hp} {σ : L2.St} {ρ : Env} {fps fps' : Fps} (R : Rel K G H σ ρ fps) (f : Fr G1 H (U fun _ => []) G' H' (U fps')) : Rel K G H' σ ρ fps ∧ Fr G H (U fps) G H' (U fps) := by
  have up : ∀ a u, H a = some u → H' a = some u := fun a u e => f.keep a u e fun ⟨_, z⟩ => nomatch z
  refine ⟨R.go (Same.refl _) (fun a u e => ?_) (fun a ha => (R.out ha).2) fun a ha => ?_, ⟨Same.refl _, fun a u e _ => up a u e, f.live, fun a e => .inl e, fun a e => .inl e⟩⟩
  · rcases R.le a u e with z | ⟨z1, o, z⟩
    · exact .inl (up a _ z)
    · exact .inr ⟨z1, o, up a _ z⟩
  · cases q : H a with
    | none => exact absurd q (R.out ha).1
    | some u => exact up a u q
theorem IsL.at2 {K : PySem.W.Frag} {G : Hp} : ∀ {vs : List V} {ds : List D} {i : Nat} {v : V}, IsL K G vs ds → vs[i]? = some v → ∃ d, ds[i]? = some d ∧ Is K G v d
  | _, _, _, _, .nil, h => by cases h
  | _, _, 0, _, .cons a b, h => by cases h; exact ⟨_, rfl, a⟩
  | _, _, i + 1, _, .cons a b, h => IsL.at2 (i := i) b h
theorem vals_at2 : ∀ {xs : List V} {us : List Value} {i : Nat} {u : Value}, Vals xs us → us[i]? = some u → ∃ x, xs[i]? = some x ∧ RelV x u
  | _, _, _, _, .nil, h => by cases h
  | _, _, 0, _, .cons a b, h => by cases h; exact ⟨_, rfl, a⟩
  | _, _, i + 1, _, .cons a b, h => vals_at2 (i := i) b h
section
variable {X : Cx}
def peekT (f : F Bool) : F Bool := fun ρ => (f (iceE ρ)).map fun p => (p.1, ρ)
theorem dt_peek {e : Expr} {f : F Bool} (h : DT X e f) : DT X e (peekT f) := PT.imp h fun σ H Q ⟨G, ρ, fps, b, ρ', R, e, k⟩ => by
  unfold peekT at e
  rw [Option.map_eq_some_iff] at e
  obtain ⟨⟨b2, ρ1⟩, e1, e2⟩ := e
  dsimp only at e2
  injection e2 with h1 h2
  subst h1 h2
  obtain ⟨G1, R1, sm⟩ := R.ice
  refine ⟨G1, _, _, b2, ρ1, R1, e1, fun H' G' fps' R' f' => ?_⟩
  obtain ⟨R2, f2⟩ := R.looked f'
  exact k H' G fps R2 f2
/-- bare data hold no object -/
def bareD : D → Bool
  | .non | .bl _ | .int _ | .str _ | .ty _ | .adr _ => true
  | _ => false
theorem Is.bare {K : PySem.W.Frag} {G G' : Hp} {v : V} {d : D} (h : bareD d = true) (i : Is K G v d) : Is K G' v d := by
  cases i with
  | non => exact .non
  | bl b => exact .bl b
  | int b => exact .int b
  | str b => exact .str b
  | ty b => exact .ty b
  | adr b => exact .adr b
  | tup _ _ => cases h
  | lst _ _ => cases h
  | scr _ _ => cases h
  | dct _ _ => cases h
  | ins _ _ => cases h
def peekE (f : F D) : F D := fun ρ => match f (iceE ρ) with
  | some (d, _) => if bareD d = true then some (d, ρ) else none
  | none => none
theorem de_peek {e : Expr} {f : F D} (h : DE X e f) : DE X e (peekE f) := PE.imp h fun σ H Q ⟨G, ρ, fps, d, ρ', R, e, k⟩ => by
  unfold peekE at e
  split at e
  · rename_i d1 ρ1 e1
    split at e
    · rename_i hb
      injection e with e
      injection e with h1 h2
      subst h1 h2
      obtain ⟨G1, R1, sm⟩ := R.ice
      refine ⟨G1, _, _, d1, ρ1, R1, e1, fun v H' G' fps' R' f' i => ?_⟩
      obtain ⟨R2, f2⟩ := R.looked f'
      exact k v H' G fps R2 f2 (i.bare hb)
    · cases e
  · cases e


/-! ### (e1, e2), e2 owned -/
variable {e e2 : Expr} {pos : Pos}
def mkPair (f : F D) (g : F O) : F O := bindF f fun d => mapF g fun o => some (.tup none [.fz d, o])
theorem do_pair {x1} {f : F D} {g : F O} (ha : DE X e f) (hb : DO X e2 g) (hs : starEach [e, e2] X.env = (false, eval e X.env) :: starEach [e2] X.env := by rfl) (hs2 : starEach [e2] X.env = (false, eval e2 X.env) :: starEach [] X.env := by rfl) :
    DO X (.Tuple [e, e2] x1 pos) (mkPair f g) := PE.imp (pe_tup (pa_cons ha (pa_cons hb pa_nil hs2) hs)) fun σ H Q ⟨G, ρ, fps, o, ρ', R, e, k⟩ => by
  obtain ⟨d, ρ1, e1, e2⟩ := bindF_some e
  obtain ⟨o2, e4, e5⟩ := mapF_some e2
  injection e5 with e5
  subst e5
  refine ⟨G, ρ, fps, d, ρ1, R, e1, fun v H1 G1 fps1 R1 f1 i1 => ⟨G1, ρ1, fps1, o2, ρ', R1, e4, fun u H2 G2 fps2 fv R2 f2 w dj => ⟨by show 2 ≤ sizeLine; decide, fun p hp => ?_⟩⟩⟩
  have i2 := f2.is i1
  have hpn : p ∉ fv := fun z => (Ow.live o2 w p z).1 hp
  have hpU : ¬ U fps2 p := fun z => (R2.out z).1 hp
  have hpG : G2 p = none := by
    cases z : G2 p with
    | none => rfl
    | some u => exact absurd hp (R2.le.some (by rw [z]; exact fun y => nomatch y))
  have w3 : Ow X.K G2 (upd H2 p (.tup [v, u])) u o2 fv := Ow.keep (Le.refl _) o2 w (fun a ha => (Ow.live o2 w a ha).2) fun a ha => by rw [upd_ne fun z : a = p => hpn (z ▸ ha)]
  have R3 : Rel X.K G2 (upd H2 p (.tup [v, u])) σ ρ' fps2 := (R2.newO hp).1
  refine k _ _ G2 fps2 (p :: fv) R3 ((f1.trans f2).trans ⟨Same.refl _, fun a u e _ => by rw [upd_ne (ne_of_none e hp)]; exact e, fun a e => ?_, fun a e => .inl e, fun a e => ?_⟩) (.tup upd_same hpG (.cons (fp := []) (.fz i2) (by simpa using OwL.cons w3 .nil fun _ _ z => nomatch z) fun _ z => nomatch z) (by simpa using hpn) (.inl rfl)) fun a ha => ?_
  · by_cases z : a = p
    · rw [z, upd_same]; exact fun y => nomatch y
    · rw [upd_ne z]; exact e
  · rcases e with e | e
    · exact .inl (.inl e)
    · rcases List.mem_cons.mp e with e | e
      · exact .inr (by rw [e]; exact hp)
      · exact .inl (.inr e)
  · rcases List.mem_cons.mp ha with e | e
    · rw [e]; exact hpU
    · exact dj a e
/-- x[j] of an owned tuple that nobody asks for any more -/
def eTake (i j : Nat) : F O := fun ρ => match ρ[i]? with
  | some (some (.tup _ os)) => (os[j]?).map (·, ρ.set i none)
  | _ => none
theorem do_take (i j : Nat) {c : Expr} (ha : PE X e (tVar i)) (hc : PE X c (tC (.int j))) (hs : PlainIx c) : DO X (.Subscript e c pos) (eTake i j) := PE.imp (pe_ix ix_seq ha hc hs) fun σ H Q ⟨G, ρ, fps, o, ρ', R, e, k⟩ => by
  unfold eTake at e
  split at e
  · rename_i t os q
    rw [Option.map_eq_some_iff] at e
    obtain ⟨o1, h1, h2⟩ := e
    cases h2
    obtain ⟨v, fps', e1, R', w, dj, sub⟩ := R.move q
    refine ⟨v, e1, ?_⟩
    generalize hfp : fps i = fp at w dj
    cases w with
    | tup hH hG l n tg =>
      rename_i a vs fq
      obtain ⟨u, fr, h3, h4, h5⟩ := l.get h1
      have hj : j < vs.length := (List.getElem?_eq_some_iff.mp h3).1
      refine .inr (.inl ⟨a, vs, j, u, rfl, rfl, .inl (.inl hH), ?_, k u H G fps' fr R' ⟨Same.refl _, fun _ _ z _ => z, fun _ z => z, fun _ z => .inl z, fun b z => .inl (z.elim (sub b) fun y => ⟨i, by rw [hfp]; exact List.mem_cons_of_mem _ (h5 b y)⟩)⟩ h4 fun b hb => dj b (List.mem_cons_of_mem _ (h5 b hb))⟩)
      unfold atI ixN
      simp [hj]
      exact (List.getElem?_eq_some_iff.mp h3).2
  · cases e

/-! ### min of a list -/
mutual
def fromP : PyData → Option D
  | .none => some .non
  | .bool b => some (.bl b)
  | .int i => some (.int i)
  | .str x => some (.str x)
  | .tuple xs => (fromPs xs).map .tup
  | .list xs => (fromPs xs).map .lst
  | .dict _ => none
def fromPs : List PyData → Option (List D)
  | [] => some []
  | d :: ds => match fromP d, fromPs ds with
    | some p, some ps => some (p :: ps)
    | _, _ => none
end
mutual
theorem fromP_to : ∀ (d : D) {p : PyData}, toP d = some p → fromP p = some d
  | .non, _, e => by cases e; rfl
  | .bl _, _, e => by cases e; rfl
  | .int _, _, e => by cases e; rfl
  | .str _, _, e => by cases e; rfl
  | .tup ds, _, e => by
    simp only [toP, Option.map_eq_some_iff] at e
    obtain ⟨ps, e, rfl⟩ := e
    simp [fromP, fromPs_to ds e]
  | .lst ds, _, e => by
    simp only [toP, Option.map_eq_some_iff] at e
    obtain ⟨ps, e, rfl⟩ := e
    simp [fromP, fromPs_to ds e]
  | .scr _, _, e => by simp [toP] at e
  | .ty _, _, e => by simp [toP] at e
  | .adr _, _, e => by simp [toP] at e
  | .dct _, _, e => by simp [toP] at e
  | .ins _ _, _, e => by simp [toP] at e
theorem fromPs_to : ∀ (ds : List D) {ps : List PyData}, toPs ds = some ps → fromPs ps = some ds
  | [], _, e => by cases e; rfl
  | d :: ds, _, e => by
    simp only [toPs] at e
    cases h : toP d with
    | none => rw [h] at e; cases e
    | some p =>
      cases h2 : toPs ds with
      | none => rw [h, h2] at e; cases e
      | some ps =>
        rw [h, h2] at e
        cases e
        simp [fromPs, fromP_to d h, fromPs_to ds h2]
end
theorem toPs_at : ∀ {ds : List D} {ps : List PyData} {i : Nat} {d : D}, toPs ds = some ps → ds[i]? = some d → ∃ p, ps[i]? = some p ∧ toP d = some p
  | [], _, _, _, _, h => by cases h
  | d :: ds, _, i, x, e, h => by
    simp only [toPs] at e
    cases h1 : toP d with
    | none => rw [h1] at e; cases e
    | some p =>
      cases h2 : toPs ds with
      | none => rw [h1, h2] at e; cases e
      | some ps =>
        rw [h1, h2] at e
        cases e
        cases i with
        | zero => cases h; exact ⟨p, rfl, h1⟩
        | succ i => exact toPs_at (i := i) h2 h
def alikeL (xs : List PyData) : Prop := PySem.W.AlikeAll xs ∧ PyData.depthAll xs ≤ 64
open Classical in
noncomputable def minL : DL := fun ds => match ds with
  | [.lst ds] => match toPs ds with
    | some (x :: xs) => if alikeL (x :: xs) then fromP (PySem.W.minD x xs) else none
    | _ => none
  | _ => none
def rMinP (K : PySem.W.Frag) : List V → Hp → VK → Prop := fun vs H Q => ∃ (a : Addr) (xs : List V) (x : PyData) (ps : List PyData), vs = [V.ref a] ∧ SqL K H a xs ∧ DpAll K H xs (x :: ps) ∧ alikeL (x :: ps) ∧
  ∀ (i : Nat) (v : V) (d : PyData), xs[i]? = some v → (x :: ps)[i]? = some d → Dp K H v d → d = PySem.W.minD x ps → Q v H
theorem minD_mem (x : PyData) : ∀ xs : List PyData, PySem.W.minD x xs ∈ x :: xs := fun xs => by
  unfold PySem.W.minD
  induction xs generalizing x with
  | nil => simp
  | cons y ys ih =>
    rw [List.foldl_cons]
    split
    · exact List.mem_cons_of_mem _ (ih y)
    · rcases List.mem_cons.mp (ih x) with h | h
      · rw [h]; simp
      · exact List.mem_cons_of_mem _ (List.mem_cons_of_mem _ h)
theorem dpAll_at {K : PySem.W.Frag} {H : Hp} : ∀ {vs : List V} {ps : List PyData} {i : Nat} {v : V}, DpAll K H vs ps → vs[i]? = some v → ∃ p, ps[i]? = some p ∧ Dp K H v p
  | _, _, _, _, .nil, h => by cases h
  | _, _, 0, _, .cons a b, h => by cases h; exact ⟨_, rfl, a⟩
  | _, _, i + 1, _, .cons a b, h => dpAll_at (i := i) b h
theorem call_minP (hc : X.calm = true) (hu : X.A.units + 70 < cLine) : CallR X (.builtin "min") (rMinP X.K) := by
  intro pins s σ H vs us Q I r h
  obtain ⟨a, xs, x, ps, rfl, hs, hd, hal, q⟩ := h
  obtain ⟨its, rv, hl, _⟩ := I.list hs
  obtain ⟨as, hr⟩ := Dp.readsAll I _ _ _ hd rv
  rw [Vals.ref1 r]
  refine PySem.W.min_list_data (I.ok.hd hc) hl.isList (by simpa using hr) hal.1 (by have := hal.2; omega) fun i v h' tk bs hv hrd hk => ?_
  have hi : its[i]? = some v := by simpa using hv
  obtain ⟨u, hu1, ru⟩ : ∃ u, xs[i]? = some u ∧ RelV u v := vals_at2 rv hi
  obtain ⟨d, hd1, hd2⟩ := dpAll_at hd hu1
  obtain ⟨bs2, hr2⟩ := Dp.reads I d u v hd2 ru
  have e : d = PySem.W.minD x ps := PySem.W.alike_unique d _ v bs2 bs (hal.1.1 d (List.mem_of_getElem? hd1) _ (minD_mem x ps)) (PyProof.Rows.Reads.keeps hk hr2) hrd
  exact ⟨u, H, I.kept hk, ru, q i u d hu1 hd1 hd2 e⟩
theorem de_minL {a : Expr} {f : F (List D)} {p : Pos} (hc : X.calm = true) (hu : X.A.units + 70 < cLine) (hg : Gl X "min") (hm : X.mg "min" = none) (ha : DA X [a] f) (hs : A1 X a := by rfl) : DE X (.Call (.Name "min" p) [a] [] pos) (mapF f minL) := de_cb (fun ha => pe_callB (call_minP hc hu) hg hm bt_min ha (he := hs) (hpl := rfl)) (fun vs H Q G ds d le i e k => by
  unfold minL at e
  split at e
  · rename_i ds
    split at e
    · rename_i x xs hp
      split at e
      · rename_i hal
        obtain ⟨v, rfl, i2⟩ := isL_1 i
        obtain ⟨a, vs, rfl, s, l⟩ := i2.lst_inv
        refine ⟨a, vs, x, xs, rfl, .of (le.lst s), toPs_dp le _ l hp, hal, fun j u p hj hp1 _ hpe => ?_⟩
        obtain ⟨dj, hdj, ij⟩ := l.at2 hj
        obtain ⟨p2, h1, h2⟩ := toPs_at hp hdj
        rw [h1] at hp1
        cases hp1
        have : fromP p = some dj := fromP_to _ h2
        rw [← hpe, this] at e
        cases e
        exact k u G H .no ij
      · cases e
    · cases e
  · cases e) ha
end
end T
/-! calls in bundles; the readings applied; loops by invariants -/
namespace T
open PySem PySem.Spec PyProof.Rows L2

/-! ### bundles -/
section
variable (P : Program) (w : World) (K : PySem.W.Frag) (mg : Str → Option Value) (base : Heap)
/-- the name x is a def that keeps sp, dd its defaults' data behind the given arguments -/
def Cal (x : Str) (k : Nat) (sp : List D → Option O) (dd : List D) : Prop :=
  ∃ (f : Addr) (fd : FuncData) (ps : List Str) (ds : List Value) (dvs : List V), FnOk P w K mg base CX0 k f fd ps (spP K sp) ∧ mg x = some (.ref f) ∧ PySem.W.keepIn K (.ref f) = true ∧ Binds K fd ps ds ∧ Vals dvs ds ∧ ∀ G, IsL K G dvs dd
def Mak (x : Str) (C : Nat) (k : Nat) (fm : FM) (dd : List D) : Prop :=
  ∃ (f : Addr) (fd : FuncData) (ps : List Str) (ds : List Value) (dvs : List V) (j : Nat), j + 1 ≤ k ∧ Mk K (cA K C) f ∧ FnOk P w K mg base CX0 j f fd ps (spM K C fm) ∧ mg x = some (.ref (cA K C)) ∧ Binds K fd ps ds ∧ Vals dvs ds ∧ ∀ G, IsL K G dvs dd
def Met (C : Nat) (m : Str) (k : Nat) (sp : List D → Option O) (dd : List D) : Prop :=
  ∃ (f : Addr) (fd : FuncData) (ps : List Str) (ds : List Value) (dvs : List V), Cls K (cA K C) ∧ Meth K (cA K C) m f ∧ FnOk P w K mg base CX0 k f fd ps (spP K sp) ∧ Binds K fd ps ds ∧ Vals dvs ds ∧ (∀ G, IsL K G dvs dd) ∧ m ∉ clsFields C
end
section
variable {P : Program} {w : World} {K : PySem.W.Frag} {mg : Str → Option Value} {base : Heap} {x m : Str} {C j k : Nat} {sp : List D → Option O} {fm : FM} {dd : List D}
theorem Cal.mono (c : Cal P w K mg base x j sp dd) (h : j ≤ k) : Cal P w K mg base x k sp dd := by
  obtain ⟨f, fd, ps, ds, dvs, h1, h2⟩ := c
  exact ⟨f, fd, ps, ds, dvs, h1.mono h, h2⟩
theorem Mak.mono (c : Mak P w K mg base x C j fm dd) (h : j ≤ k) : Mak P w K mg base x C k fm dd := by
  obtain ⟨f, fd, ps, ds, dvs, i, h1, h2⟩ := c
  exact ⟨f, fd, ps, ds, dvs, i, Nat.le_trans h1 h, h2⟩
theorem Met.mono (c : Met P w K mg base C m j sp dd) (h : j ≤ k) : Met P w K mg base C m k sp dd := by
  obtain ⟨f, fd, ps, ds, dvs, h1, h2, h3, h4⟩ := c
  exact ⟨f, fd, ps, ds, dvs, h1, h2, h3.mono h, h4⟩
end
section
variable {X : Cx} {e a b o : Expr} {es : List Expr} {pos pos' p apos : Pos} {x m : Str} {C k : Nat} {sp : List D → Option O} {fm : FM} {dd : List D} {g : F (List D)}
theorem do_c (c : Cal X.prog X.w X.K X.mg X.base x k sp dd) (hr : Room k X.A) (ha : DA X (e :: es) g) (hg : Gl X x := by rfl) (hdb : (x == ("__debug__" : Str)) = false := by decide) (he : starEach (e :: es) X.env = (false, eval e X.env) :: starEach es X.env := by rfl)
    (hpl : (backTo pos (starEach es X.env)).any (·.1) = false := by rfl) : DO X (.Call (.Name x p) (e :: es) [] pos) (callF sp dd g) := by
  obtain ⟨f, fd, ps, ds, dvs, h1, h2, h3, h4, h5, h6⟩ := c
  exact do_call h1 hr hg h2 h3 h4 h5 h6 ha hdb he hpl
theorem do_c0 (c : Cal X.prog X.w X.K X.mg X.base x k sp dd) (hr : Room k X.A) (hg : Gl X x := by rfl) (hdb : (x == ("__debug__" : Str)) = false := by decide) : DO X (.Call (.Name x p) [] [] pos) (callF sp dd aNil) := by
  obtain ⟨f, fd, ps, ds, dvs, h1, h2, h3, h4, h5, h6⟩ := c
  exact do_call0 h1 hr hg h2 h3 h4 h5 h6 hdb
theorem do_mk (c : Mak X.prog X.w X.K X.mg X.base x C k fm dd) (hr : Room k X.A) (ha : DA X (e :: es) g) (hg : Gl X x := by rfl) (hdb : (x == ("__debug__" : Str)) = false := by decide) (he : starEach (e :: es) X.env = (false, eval e X.env) :: starEach es X.env := by rfl)
    (hpl : (backTo pos (starEach es X.env)).any (·.1) = false := by rfl) : DO X (.Call (.Name x p) (e :: es) [] pos) (makeF C fm dd g) := by
  obtain ⟨f, fd, ps, ds, dvs, j, h0, h1, h2, h3, h4, h5, h6⟩ := c
  exact do_make h1 h2 (hr.mono h0) hg h3 h4 h5 h6 ha hdb he hpl
theorem do_m {pl : Sem Bool} (c : Met X.prog X.w X.K X.mg X.base C m k sp dd) (hr : Room k X.A) {g : F D} {ga : F (List D)} (he : DE X o g) (ha : DA X (e :: es) ga)
    (hst : starEach (e :: es) X.env = (false, eval e X.env) :: starEach es X.env := by rfl) (hpl : (backTo pos (starEach es X.env)).any (·.1) = false := by rfl)
    (ht : eval (.Call (.Attribute o m apos) (e :: es) [] pos) X.env = (do
      let ov ← eval o X.env
      standAt apos.atName
      let (f, first) ← holding [ov] (getMethod ov m pl)
      callWith pos f first (backTo pos (starEach (e :: es) X.env)) (backToKw pos (keywordEach [] X.env))) := by rfl) :
    DO X (.Call (.Attribute o m apos) (e :: es) [] pos) (methF C sp dd g ga) := by
  obtain ⟨f, fd, ps, ds, dvs, h1, h2, h3, h4, h5, h6, h7⟩ := c
  exact do_meth h1 h2 h3 hr h4 h5 h6 h7 he ha hst hpl ht
theorem do_m0 {pl : Sem Bool} (c : Met X.prog X.w X.K X.mg X.base C m k sp dd) (hr : Room k X.A) {g : F D} (he : DE X o g)
    (ht : eval (.Call (.Attribute o m apos) [] [] pos) X.env = (do
      let ov ← eval o X.env
      standAt apos.atName
      let (f, first) ← holding [ov] (getMethod ov m pl)
      callWith pos f first (backTo pos (starEach [] X.env)) (backToKw pos (keywordEach [] X.env))) := by rfl) :
    DO X (.Call (.Attribute o m apos) [] [] pos) (methF C sp dd g aNil) := by
  obtain ⟨f, fd, ps, ds, dvs, h1, h2, h3, h4, h5, h6, h7⟩ := c
  exact do_meth0 h1 h2 h3 hr h4 h5 h6 h7 he ht
theorem dw_dt {f : F Bool} (h : DW X e f) : DT X e f := h.pt
/-! a, b, c = e1, e2, e3 -/
def sPar3 (i j l : Nat) (f : F (List D)) : FS := fun ρ => match f ρ with
  | some ([a, b, c], ρ1) => if i < ρ1.length ∧ j < ρ1.length ∧ l < ρ1.length then some (.nx (((ρ1.set i (some (.fz a))).set j (some (.fz b))).set l (some (.fz c)))) else none
  | _ => none
theorem ds_par3 {i j l : Nat} {x y z : Str} {a b c : Expr} {px py pz pt : Pos} {kt k2 pt2} {f : F (List D)} (hc : X.calm = true) (hN : X.N.Nodup) (ha : DA X [a, b, c] f) (hi : X.N[i]? = some x := by rfl) (hj : X.N[j]? = some y := by rfl) (hl : X.N[l]? = some z := by rfl)
    (hij : i ≠ j := by decide) (hil : i ≠ l := by decide) (hjl : j ≠ l := by decide)
    (hx : X.env.scope.names.lookup x = some .local := by rfl) (hy : X.env.scope.names.lookup y = some .local := by rfl) (hz : X.env.scope.names.lookup z = some .local := by rfl)
    (hw : swappedStores [.Tuple [.Name x px, .Name y py, .Name z pz] kt pt] (.Tuple [a, b, c] k2 pt2) X.env = pure (some [x, y, z]) := by rfl)
    (hs : swapsWithSole [.Tuple [.Name x px, .Name y py, .Name z pz] kt pt] (.Tuple [a, b, c] k2 pt2) pos.line X.env = pure false := by rfl) :
    DS X (.Assign [.Tuple [.Name x px, .Name y py, .Name z pz] kt pt] (.Tuple [a, b, c] k2 pt2) pos) (sPar3 i j l f) := PS.imp (ps_par3 hc hN hi hj hl hij hil hjl hx hy hz ha hw hs) fun Dn σ H ⟨G, ρ, fps, o, R, e, k⟩ => by
  unfold sPar3 at e
  split at e
  · rename_i d1 d2 d3 ρ1 q
    split at e
    · rename_i hl
      cases e
      refine ⟨G, ρ, fps, _, ρ1, R, q, fun vs H1 G1 fps1 R1 f1 i1 => ?_⟩
      obtain ⟨v1, v2, v3, rfl, i2, i3, i4⟩ := isL_3 i1
      obtain ⟨fps2, R2, s2⟩ := R1.store (Ow.fz (H := H1) i2) (fun _ y => nomatch y) hl.1
      obtain ⟨fps3, R3, s3⟩ := R2.store (i := j) (Ow.fz (H := H1) i3) (fun _ y => nomatch y) (by simpa using hl.2.1)
      obtain ⟨fps4, R4, s4⟩ := R3.store (i := l) (Ow.fz (H := H1) i4) (fun _ y => nomatch y) (by simpa using hl.2.2)
      refine ⟨v1, v2, v3, rfl, k _ H1 G1 fps4 R4 (f1.trans ⟨Same.refl _, fun _ _ z _ => z, fun _ z => z, fun _ z => .inl z, fun a z => .inl ?_⟩)⟩
      exact (s4 a z).elim (fun y => (s3 a y).elim (fun y => (s2 a y).elim id fun y => nomatch y) fun y => nomatch y) fun y => nomatch y
    · cases e
  · cases e
/-! op= of ints -/
theorem iop_mulX : OpR X (inplaceOp .Mult) (rI CMulX fun i j => .int (i * j)) := opI fun _ _ _ _ _ _ _ hc q => imul_int q hc.ok
theorem ds_iadd {i : Nat} {f : F D} (hN : X.N.Nodup) (he : DE X e f) (hi : X.N[i]? = some x := by rfl) (hx : Loc X.env.scope x := by first | exact Or.inl rfl | exact Or.inr rfl)
    (hf : X.fn x = true ∨ X.env.scope.names.lookup x = some .local := by first | exact .inl rfl | exact .inr rfl | assumption) : DS X (.AugAssign (.Name x pos') .Add e pos) (sAug i f gAddI) := ds_aug iop_add o2_addI hN he hi hx hf
theorem ds_isub {i : Nat} {f : F D} (hN : X.N.Nodup) (he : DE X e f) (hi : X.N[i]? = some x := by rfl) (hx : Loc X.env.scope x := by first | exact Or.inl rfl | exact Or.inr rfl)
    (hf : X.fn x = true ∨ X.env.scope.names.lookup x = some .local := by first | exact .inl rfl | exact .inr rfl | assumption) : DS X (.AugAssign (.Name x pos') .Sub e pos) (sAug i f subD) := ds_aug iop_sub o2_subI hN he hi hx hf
theorem ds_imul {i : Nat} {f : F D} (hN : X.N.Nodup) (he : DE X e f) (hi : X.N[i]? = some x := by rfl) (hx : Loc X.env.scope x := by first | exact Or.inl rfl | exact Or.inr rfl)
    (hf : X.fn x = true ∨ X.env.scope.names.lookup x = some .local := by first | exact .inl rfl | exact .inr rfl | assumption) : DS X (.AugAssign (.Name x pos') .Mult e pos) (sAug i f gMulI) := ds_aug iop_mulX o2_mulI hN he hi hx hf
end

/-- what a body's reading hands back, as a promise -/
def spOf (n m : Nat) (g : FS) : List D → Option O := fun ds => if ds.length = n then ends (g (start0 m ds)) else none
section
variable {P : Program} {w : World} {K : PySem.W.Frag} {mg : Str → Option Value} {base : Heap} {x qual : Str} {params : Arguments} {body : List Stmt} {scope : Scope} {dvs : List V} {kws : List (Str × V)} {f : Addr} {fd : FuncData}
theorem fn_P2 {N ps : List Str} {k n m : Nat} (Fn : FunD K x qual params body scope dvs kws f fd) (S : FnScope N ps scope) (g : FS) (hn : ps.length = n) (hm : N.length = m)
    (hb : ∀ (cdv : Value) (A : Around) (outer : List PySem.Env) (s : Shared) (H : Hp) (E : XK), Room k (A.deeper (envOfC qual scope s.heap.objs.size f cdv)) → DSs (cxOf CX0 P w K mg base N qual scope f cdv A outer s H E).nox body g) :
    FnOk P w K mg base CX0 (k + 1) f fd ps (spP K (spOf n m g)) := by
  subst hn hm
  refine fn_P Fn S g (fun ds o e => ?_) hb fun ds o e => ?_
  · unfold spOf at e
    split at e
    · assumption
    · cases e
  · unfold spOf at e
    split at e
    · exact e
    · cases e
theorem fn_none {ps : List Str} {k : Nat} : FnOk P w K mg base CX0 k f fd ps (spP K fun _ => none) :=
  ⟨fun vs H Q E ⟨G, ds, o, _, _, e, _⟩ => (nomatch e), fun A outer s H args us vs Q E hr e0 bt hv ⟨G, ds, o, _, _, e, _⟩ => nomatch e⟩
end
theorem blk_ok {N : List Str} {sc scope : Scope} {own : List (Str × Nat)} (kind : scope.kind = .function) (uniq : ∀ y ∈ scope.names, scope.names.lookup y.1 = some y.2) (ix : ∀ p ∈ own, N[p.2]? = some p.1)
    (free : ∀ y ∈ scope.names, y.2 = .free → sc.names.lookup y.1 = some .cell ∨ sc.names.lookup y.1 = some .free) (ow : ∀ y ∈ scope.names, y.2 = .local ∨ y.2 = .cell → y.1 ∈ own.map (·.1) ∨ y.1 ∉ N) : BlkOk N sc scope own := ⟨kind, uniq, ix, free, ow⟩
/-- turns of a while loop by the size of a slot's int -/
def intAt (i : Nat) : Env → Nat := fun ρ => match ρ[i]? with
  | some (some (.fz (.int n))) => n.natAbs + 1
  | _ => 0
theorem fields_few (C : Nat) : (clsFields C).length < 1000 := by
  by_cases h : C < 19
  · have q : ∀ C, C < 19 → (clsFields C).length < 1000 := by decide
    exact q C h
  · have e : clsTab[C]? = none := List.getElem?_eq_none (by show clsTab.length ≤ C; simp only [clsTab, List.length_cons, List.length_nil]; omega)
    unfold clsFields
    rw [List.getD_eq_getElem?_getD, e]
    decide
/-! ### the readings applied -/
section
variable {α β γ : Type} {ρ ρ' : Env} {i j : Nat}
@[simp] theorem bindF_ap {f : F α} {g : α → F β} : bindF f g ρ = match f ρ with
  | some (a, ρ1) => g a ρ1
  | none => none := rfl
@[simp] theorem mapF_ap {f : F α} {g : α → Option β} : mapF f g ρ = match f ρ with
  | some (a, ρ1) => match g a with
    | some b => some (b, ρ1)
    | none => none
  | none => none := rfl
@[simp] theorem map2F_ap {f : F α} {f' : F β} {g : α → β → Option γ} : map2F f f' g ρ = match f ρ with
  | some (a, ρ1) => match f' ρ1 with
    | some (b, ρ2) => match g a b with
      | some c => some (c, ρ2)
      | none => none
    | none => none
  | none => none := by
  unfold map2F
  rw [bindF_ap]
  cases f ρ with
  | none => rfl
  | some p => dsimp only; rw [mapF_ap]
@[simp] theorem eVar_ap : eVar i ρ = match ρ[i]? with
  | some (some (.fz d)) => some (d, ρ)
  | some (some o) => some (frz o, ρ.set i (some (.fz (frz o))))
  | _ => none := rfl
@[simp] theorem oVar_ap : oVar i ρ = match ρ[i]? with
  | some (some o) => some (o, ρ.set i none)
  | _ => none := rfl
@[simp] theorem eC_ap {d : D} : eC d ρ = some (d, ρ) := rfl
@[simp] theorem fzF_ap {f : F D} : fzF f ρ = match f ρ with
  | some (d, ρ1) => some (.fz d, ρ1)
  | none => none := by
  unfold fzF
  rw [mapF_ap]
  cases f ρ <;> rfl
@[simp] theorem frF_ap {f : F O} : frF f ρ = match f ρ with
  | some (o, ρ1) => some (frz o, ρ1)
  | none => none := by
  unfold frF
  rw [mapF_ap]
  cases f ρ <;> rfl
@[simp] theorem aNil_ap : aNil ρ = some ([], ρ) := rfl
@[simp] theorem aCons_ap {f : F D} {g : F (List D)} : aCons f g ρ = match f ρ with
  | some (d, ρ1) => match g ρ1 with
    | some (ds, ρ2) => some (d :: ds, ρ2)
    | none => none
  | none => none := by
  unfold aCons
  rw [map2F_ap]
  cases f ρ with
  | none => rfl
  | some p => dsimp only; cases g p.2 <;> rfl
@[simp] theorem callF_ap {sp : List D → Option O} {dd : List D} {g : F (List D)} : callF sp dd g ρ = match g ρ with
  | some (ds, ρ1) => match sp (ds ++ dd) with
    | some o => some (o, ρ1)
    | none => none
  | none => none := by
  unfold callF
  rw [mapF_ap]
  cases g ρ with
  | none => rfl
  | some p => dsimp only; cases sp (p.1 ++ dd) <;> rfl
def mkO (C : Nat) (fm : FM) (ds : List D) : Option O := match fm [] ds with
  | some (.fz .non, os) => some (.ins none C os)
  | _ => none
@[simp] theorem makeF_ap {C : Nat} {fm : FM} {dd : List D} {g : F (List D)} : makeF C fm dd g ρ = match g ρ with
  | some (ds, ρ1) => match mkO C fm (ds ++ dd) with
    | some o => some (o, ρ1)
    | none => none
  | none => none := by
  show mapF g (fun ds => mkO C fm (ds ++ dd)) ρ = _
  rw [mapF_ap]
  cases g ρ with
  | none => rfl
  | some p => dsimp only; cases mkO C fm (p.1 ++ dd) <;> rfl
@[simp] theorem methF_ap {C : Nat} {sp : List D → Option O} {dd : List D} {g : F D} {ga : F (List D)} : methF C sp dd g ga ρ = match g ρ with
  | some (.ins C' xs, ρ1) => if C' = C then (match ga ρ1 with
    | some (ds, ρ2) => match sp (.ins C' xs :: (ds ++ dd)) with
      | some o => some (o, ρ2)
      | none => none
    | none => none) else none
  | _ => none := by
  unfold methF
  rw [bindF_ap]
  cases g ρ with
  | none => rfl
  | some p =>
    obtain ⟨d, ρ1⟩ := p
    cases d
    case ins C' xs =>
      dsimp only
      by_cases h : C' = C
      · rw [if_pos h, if_pos h, mapF_ap]
        cases ga ρ1 with
        | none => rfl
        | some q => dsimp only; cases sp (.ins C' xs :: (q.1 ++ dd)) <;> rfl
      · rw [if_neg h, if_neg h]
    all_goals rfl
@[simp] theorem andF_ap {f g : F Bool} : andF f g ρ = match f ρ with
  | some (true, ρ1) => g ρ1
  | some (false, ρ1) => some (false, ρ1)
  | none => none := by
  unfold andF
  rw [bindF_ap]
  cases f ρ with
  | none => rfl
  | some p =>
    obtain ⟨b, ρ1⟩ := p
    cases b <;> rfl
@[simp] theorem orF_ap {f g : F Bool} : orF f g ρ = match f ρ with
  | some (true, ρ1) => some (true, ρ1)
  | some (false, ρ1) => g ρ1
  | none => none := by
  unfold orF
  rw [bindF_ap]
  cases f ρ with
  | none => rfl
  | some p =>
    obtain ⟨b, ρ1⟩ := p
    cases b <;> rfl
@[simp] theorem notF_ap {f : F Bool} : notF f ρ = match f ρ with
  | some (b, ρ1) => some (!b, ρ1)
  | none => none := by
  unfold notF
  rw [mapF_ap]
  cases f ρ <;> rfl
@[simp] theorem iteF_ap {c : F Bool} {f g : F α} : iteF' c f g ρ = match c ρ with
  | some (true, ρ1) => f ρ1
  | some (false, ρ1) => g ρ1
  | none => none := by
  unfold iteF'
  rw [bindF_ap]
  cases c ρ with
  | none => rfl
  | some p =>
    obtain ⟨b, ρ1⟩ := p
    cases b <;> rfl
@[simp] theorem peekT_ap {f : F Bool} : peekT f ρ = match f (iceE ρ) with
  | some (b, _) => some (b, ρ)
  | none => none := by
  unfold peekT
  cases f (iceE ρ) <;> rfl
@[simp] theorem peekE_ap {f : F D} : peekE f ρ = match f (iceE ρ) with
  | some (d, _) => if bareD d = true then some (d, ρ) else none
  | none => none := rfl
@[simp] theorem eFld_ap {fx : FX} {g : F D} : eFld fx g ρ = match g ρ with
  | some (d, ρ1) => match fldD fx d with
    | some b => some (b, ρ1)
    | none => none
  | none => none := by
  unfold eFld
  rw [mapF_ap]
  cases g ρ with
  | none => rfl
  | some p => dsimp only; cases fldD fx p.1 <;> rfl
@[simp] theorem eTake_ap : eTake i j ρ = match ρ[i]? with
  | some (some (.tup _ os)) => (os[j]?).map (·, ρ.set i none)
  | _ => none := rfl
@[simp] theorem mkPair_ap {f : F D} {g : F O} : mkPair f g ρ = match f ρ with
  | some (d, ρ1) => match g ρ1 with
    | some (o, ρ2) => some (.tup none [.fz d, o], ρ2)
    | none => none
  | none => none := by
  unfold mkPair
  rw [bindF_ap]
  cases f ρ with
  | none => rfl
  | some p => dsimp only; rw [mapF_ap]; cases g p.2 <;> rfl
@[simp] theorem eAppend_ap {g : F O} : eAppend i g ρ = match ρ[i]? with
  | some (some (.lst _ _)) => match g ρ with
    | some (o, ρ1) => match ρ1[i]? with
      | some (some (.lst t os)) => if os.length < sizeLine then some (.non, ρ1.set i (some (.lst t (os ++ [o])))) else none
      | _ => none
    | none => none
  | _ => none := rfl
@[simp] theorem sSeq_ap {f g : FS} : sSeq f g ρ = match f ρ with
  | some (.nx ρ1) => g ρ1
  | o => o := rfl
@[simp] theorem sNext_ap : sNext ρ = some (.nx ρ) := rfl
@[simp] theorem sCt_ap : sCt ρ = some (.ct ρ) := rfl
@[simp] theorem sBk_ap : sBk ρ = some (.bk ρ) := rfl
@[simp] theorem sNever_ap : sNever ρ = none := rfl
@[simp] theorem sRet_ap {f : F O} : sRet f ρ = match f ρ with
  | some (o, ρ1) => some (.rt o ρ1)
  | none => none := rfl
@[simp] theorem sExpr_ap {f : F α} : sExpr f ρ = match f ρ with
  | some (_, ρ1) => some (.nx ρ1)
  | none => none := rfl
@[simp] theorem sIf_ap {c : F Bool} {f g : FS} : sIf c f g ρ = match c ρ with
  | some (true, ρ1) => f ρ1
  | some (false, ρ1) => g ρ1
  | none => none := rfl
@[simp] theorem gNm_ap {o : O} : gNm i o ρ = if i < ρ.length then some (ρ.set i (some o)) else none := rfl
@[simp] theorem gsNil_ap : gsNil [] ρ = some ρ := rfl
@[simp] theorem gsCons_ap {g : FG} {gs : FGs} {d : D} {ds : List D} : gsCons g gs (d :: ds) ρ = match g (.fz d) ρ with
  | some ρ1 => gs ds ρ1
  | none => none := rfl
@[simp] theorem gTp_ap {n : Nat} {gs : FGs} {ds : List D} : gTp n gs (.fz (.tup ds)) ρ = if ds.length = n then gs ds ρ else none := rfl
@[simp] theorem sAsg_ap {f : F O} {g : FG} : sAsg f g ρ = match f ρ with
  | some (o, ρ1) => match g o ρ1 with
    | some ρ2 => some (.nx ρ2)
    | none => none
  | none => none := rfl
@[simp] theorem sPar2_ap {f : F (List D)} : sPar2 i j f ρ = match f ρ with
  | some ([a, b], ρ1) => if i < ρ1.length ∧ j < ρ1.length then some (.nx ((ρ1.set i (some (.fz a))).set j (some (.fz b)))) else none
  | _ => none := rfl
@[simp] theorem sPar3_ap {l : Nat} {f : F (List D)} : sPar3 i j l f ρ = match f ρ with
  | some ([a, b, c], ρ1) => if i < ρ1.length ∧ j < ρ1.length ∧ l < ρ1.length then some (.nx (((ρ1.set i (some (.fz a))).set j (some (.fz b))).set l (some (.fz c)))) else none
  | _ => none := rfl
@[simp] theorem sAug_ap {f : F D} {g : D2} : sAug i f g ρ = match ρ[i]? with
  | some (some (.fz a)) => match f ρ with
    | some (b, ρ1) => match g a b with
      | some d => if i < ρ1.length then some (.nx (ρ1.set i (some (.fz d)))) else none
      | none => none
    | none => none
  | _ => none := rfl
@[simp] theorem sFor_ap {f : F (List D)} {g : FG} {b : FS} : sFor f g b ρ = match f ρ with
  | some (ds, ρ1) => loop g b ds ρ1
  | none => none := rfl
@[simp] theorem sWhile_ap {c : F Bool} {b : FS} {n : Env → Nat} : sWhile c b n ρ = whileN c b (n ρ) ρ := rfl
@[simp] theorem sFldSet_ap {fx : FX} {g : F O} : sFldSet fx i g ρ = match g ρ with
  | some (o, ρ1) => match ρ1[i]? with
    | some (some (.ins t C os)) => match fx C with
      | some j => if j < os.length then some (.nx (ρ1.set i (some (.ins t C (os.set j o))))) else if j = os.length then some (.nx (ρ1.set i (some (.ins t C (os ++ [o]))))) else none
      | none => none
    | _ => none
  | none => none := rfl
@[simp] theorem unB_bl {b : Bool} : unB (.bl b) = some b := rfl
@[simp] theorem addD_int {a b : Int} : addD (.int a) (.int b) = some (.int (a + b)) := rfl
@[simp] theorem subD_int {a b : Int} : subD (.int a) (.int b) = some (.int (a - b)) := rfl
@[simp] theorem mulU_int {a b : Int} : mulU (.int a) (.int b) = if szM a b then some (.int (a * b)) else none := rfl
@[simp] theorem gMulI_int {a b : Int} : gMulI (.int a) (.int b) = if szM a b then some (.int (a * b)) else none := rfl
@[simp] theorem gAddI_int {a b : Int} : gAddI (.int a) (.int b) = some (.int (a + b)) := rfl
@[simp] theorem divD_int {a b : Int} : divD (.int a) (.int b) = if b ≠ 0 ∧ b.natAbs.log2 < 9000 then some (.int (a.fdiv b)) else none := rfl
@[simp] theorem modD_int {a b : Int} : modD (.int a) (.int b) = if b ≠ 0 then some (.int (a.fmod b)) else none := rfl
@[simp] theorem powD_int {a b : Int} : powD (.int a) (.int b) = if 0 ≤ b ∧ b ≤ 1000000 ∧ a.natAbs < 2 ^ 64 then some (.int (a ^ b.toNat)) else none := rfl
@[simp] theorem negD_int {a : Int} : negD (.int a) = some (.int (-a)) := rfl
@[simp] theorem ltD_int {a b : Int} : ltD (.int a) (.int b) = some (.bl (decide (a < b))) := rfl
@[simp] theorem gtD_int {a b : Int} : gtD (.int a) (.int b) = some (.bl (decide (b < a))) := rfl
@[simp] theorem leD_int {a b : Int} : leD (.int a) (.int b) = some (.bl (decide (a ≤ b))) := rfl
@[simp] theorem geD_int {a b : Int} : geD (.int a) (.int b) = some (.bl (decide (b ≤ a))) := rfl
theorem eqv_int (a b : Int) : PyData.eqv (.int a) (.int b) = decide (a = b) := by
  unfold PyData.eqv
  by_cases h : a = b <;> simp [h]
@[simp] theorem eqD_int {a b : Int} : eqD (.int a) (.int b) = some (.bl (decide (a = b))) := by
  unfold eqD
  simp [toP, eqv_int, SeqAt.shaped, PyData.canLay0, PyData.depth]
@[simp] theorem neD_int {a b : Int} : neD (.int a) (.int b) = some (.bl (!decide (a = b))) := by
  unfold neD
  simp [toP, eqv_int, SeqAt.shaped, PyData.canLay0, PyData.depth]
@[simp] theorem absD_int {a : Int} : absD [.int a] = some (.int (if a < 0 then -a else a)) := rfl
end
end T
/-! loops by invariants, dict readings applied, the order of rows of ints -/
namespace T
open PySem PySem.Spec PyProof.Rows L2

theorem loop_rel {g : FG} {b : FS} (I : List D → Env → Prop) (Q : Option Out → Prop) (hn : ∀ ρ, I [] ρ → Q (some (.nx ρ)))
    (hc : ∀ d ds ρ, I (d :: ds) ρ → (∃ ρ1 ρ2, g (.fz d) ρ = some ρ1 ∧ (b ρ1 = some (.nx ρ2) ∨ b ρ1 = some (.ct ρ2)) ∧ I ds ρ2) ∨ ∃ ρ1 o ρ2, g (.fz d) ρ = some ρ1 ∧ b ρ1 = some (.rt o ρ2) ∧ Q (some (.rt o ρ2))) :
    ∀ ds ρ, I ds ρ → Q (loop g b ds ρ)
  | [], ρ, h => hn ρ h
  | d :: ds, ρ, h => by
    rcases hc d ds ρ h with ⟨ρ1, ρ2, h1, h2, h3⟩ | ⟨ρ1, o, ρ2, h1, h2, h3⟩
    · have ih := loop_rel I Q hn hc ds ρ2 h3
      rcases h2 with h2 | h2 <;> (simp only [loop, h1, h2]; exact ih)
    · simp only [loop, h1, h2]; exact h3
/-- a loop that goes on to its end -/
theorem loop_all {g : FG} {b : FS} (I : List D → Env → Prop)
    (hc : ∀ d ds ρ, I (d :: ds) ρ → ∃ ρ1 ρ2, g (.fz d) ρ = some ρ1 ∧ (b ρ1 = some (.nx ρ2) ∨ b ρ1 = some (.ct ρ2)) ∧ I ds ρ2) {ds : List D} {ρ : Env} (h : I ds ρ) : ∃ ρ', loop g b ds ρ = some (.nx ρ') ∧ I [] ρ' :=
  loop_rel (g := g) (b := b) I (fun r => ∃ ρ', r = some (.nx ρ') ∧ I [] ρ') (fun ρ h => ⟨ρ, rfl, h⟩) (fun d ds ρ h => .inl (hc d ds ρ h)) ds ρ h
@[simp] theorem iceE_nil : iceE [] = [] := rfl
@[simp] theorem iceE_cons {o : Option O} {ρ : Env} : iceE (o :: ρ) = iceO o :: iceE ρ := rfl
@[simp] theorem iceO_none : iceO none = none := rfl
@[simp] theorem iceO_fz {d : D} : iceO (some (.fz d)) = some (.fz d) := rfl
@[simp] theorem iceO_lst {t} {xs : List O} : iceO (some (.lst t xs)) = some (.fz (.lst (frzL xs))) := rfl
@[simp] theorem iceO_tup {t} {xs : List O} : iceO (some (.tup t xs)) = some (.fz (.tup (frzL xs))) := rfl
@[simp] theorem iceO_dct {t} {xs : List (Key × O)} : iceO (some (.dct t xs)) = some (.fz (.dct (frzK xs))) := rfl
@[simp] theorem iceO_ins {t C} {xs : List O} : iceO (some (.ins t C xs)) = some (.fz (.ins C (frzL xs))) := rfl
@[simp] theorem frzL_fz : ∀ ds : List D, frzL (ds.map .fz) = ds
  | [] => rfl
  | d :: ds => by rw [List.map_cons]; unfold frzL; rw [frzL_fz ds]; rfl
theorem frzL_map {α : Type} (f : α → D) (xs : List α) : frzL (xs.map fun x => O.fz (f x)) = xs.map f := by
  have := frzL_fz (xs.map f)
  rwa [List.map_map] at this
section
variable {ρ : Env} {i : Nat}
@[simp] theorem eInV_ap {neg : Bool} {g : F D} : eInV i neg g ρ = match g ρ with
  | some (kd, ρ1) => match keyD kd, ρ1[i]? with
    | some k, some (some o) => (lookO o k).map fun r => (.bl (if neg then !r.isSome else r.isSome), ρ1)
    | _, _ => none
  | none => none := rfl
@[simp] theorem eIxV_ap {g : F D} : eIxV i g ρ = match ρ[i]? with
  | some (some _) => match g ρ with
    | some (kd, ρ1) => match ρ1[i]? with
      | some (some o) => (ixO o kd).map (·, ρ1)
      | _ => none
    | none => none
  | _ => none := rfl
@[simp] theorem sDPut_ap {gk : F D} {gv : F O} : sDPut' i gk gv ρ = match gv ρ with
  | some (o, ρ1) => match ρ1[i]? with
    | some (some (.dct _ _)) => match gk ρ1 with
      | some (kd, ρ2) => match keyD kd, ρ2[i]? with
        | some k, some (some (.dct t kvs)) => if kvs.length < sizeLine ∧ (kvs.map (·.1)).Nodup then some (.nx (ρ2.set i (some (.dct t (putA kvs k o))))) else none
        | _, _ => none
      | none => none
    | _ => none
  | none => none := rfl
@[simp] theorem eDict0_ap : eDict0 ρ = some (.dct none [], ρ) := rfl
@[simp] theorem keyD_int {n : Int} : keyD (.int n) = some (.inl n) := rfl
@[simp] theorem keyD_str {n : Str} : keyD (.str n) = some (.inr n) := rfl
@[simp] theorem eComp_ap {f : F (List D)} {g : FG} {t : F Bool} {e : F D} {own : List Nat} : eComp f g t e own ρ = match f ρ with
  | some (ds, ρ1) => match comp g t e own ds [] (wipeE ρ1 own) with
    | some (ys, ρ2) => some (.lst none (ys.map .fz), backE ρ1 own ρ2)
    | none => none
  | none => none := rfl
@[simp] theorem yesF_ap : yesF ρ = some (true, ρ) := rfl
@[simp] theorem eCut_ap {f : F D} {l h : FP} : eCut f l h ρ = (bindF f fun d => bindF l fun i => mapF h fun j => cutD d i j) ρ := rfl
@[simp] theorem pNo_ap : pNo ρ = some (none, ρ) := rfl
@[simp] theorem pSome_ap {f : F D} : pSome f ρ = (mapF f fun d => match d with
  | .int i => some (some i)
  | _ => none) ρ := rfl
end
/-! ### dicts as lookups -/
theorem lookK_nil {α : Type} {k : Key} : lookK ([] : List (Key × α)) k = none := rfl
theorem lookK_cons {α : Type} {k k' : Key} {v : α} {r : List (Key × α)} : lookK ((k', v) :: r) k = if k' = k then some v else lookK r k := by
  unfold lookK
  rw [List.find?_cons]
  by_cases h : k' = k <;> simp [h]
theorem lookK_any {α : Type} {k : Key} : ∀ kvs : List (Key × α), (kvs.any fun kv => decide (kv.1 = k)) = (lookK kvs k).isSome
  | [] => rfl
  | (k', v) :: r => by
    rw [List.any_cons, lookK_cons, lookK_any r]
    by_cases h : k' = k <;> simp [h]
theorem lookK_map {α : Type} {k k' : Key} {v : α} : ∀ kvs : List (Key × α), lookK (kvs.map fun kv => if kv.1 = k then (kv.1, v) else kv) k' = if k' = k then (lookK kvs k).map (fun _ => v) else lookK kvs k'
  | [] => by simp [lookK_nil]
  | (q, u) :: r => by
    rw [List.map_cons]
    by_cases h : q = k
    · subst h
      simp only [if_true]
      rw [lookK_cons, lookK_map r]
      by_cases h2 : k' = q
      · subst h2; simp [lookK_cons]
      · simp [h2, lookK_cons, Ne.symm h2]
    · simp only [h, if_false]
      rw [lookK_cons, lookK_map r, lookK_cons, lookK_cons]
      by_cases h2 : k' = k
      · subst h2; simp [h]
      · simp [h2]
theorem lookK_app {α : Type} {k k' : Key} {v : α} : ∀ kvs : List (Key × α), lookK (kvs ++ [(k, v)]) k' = match lookK kvs k' with
    | some u => some u
    | none => if k = k' then some v else none
  | [] => by rw [List.nil_append, lookK_cons]; simp [lookK_nil]
  | (q, u) :: r => by
    rw [List.cons_append, lookK_cons, lookK_app r, lookK_cons]
    by_cases h : q = k' <;> simp [h]
theorem look_put {α : Type} {kvs : List (Key × α)} {k k' : Key} {v : α} : lookK (putA kvs k v) k' = if k' = k then some v else lookK kvs k' := by
  unfold putA
  rw [lookK_any]
  cases h : lookK kvs k with
  | none =>
    simp only [Option.isSome_none, Bool.false_eq_true, if_false, lookK_app]
    by_cases h2 : k' = k
    · subst h2; simp [h]
    · simp only [h2, if_false, Ne.symm h2]
      cases lookK kvs k' <;> rfl
  | some u =>
    simp only [Option.isSome_some, if_true, lookK_map, h]
    by_cases h2 : k' = k <;> simp [h2]
theorem put_keys {α : Type} {kvs : List (Key × α)} {k : Key} {v : α} (nd : (kvs.map (·.1)).Nodup) : ((putA kvs k v).map (·.1)).Nodup ∧ (putA kvs k v).length ≤ kvs.length + 1 := by
  unfold putA
  split
  · constructor
    · have e : (kvs.map fun kv => if kv.1 = k then (kv.1, v) else kv).map (·.1) = kvs.map (·.1) := by
        rw [List.map_map]
        apply List.map_congr_left
        intro p _
        dsimp only [Function.comp]
        split <;> rfl
      rw [e]; exact nd
    · rw [List.length_map]; omega
  · rename_i h
    constructor
    · rw [List.map_append, List.nodup_append]
      refine ⟨nd, by simp, ?_⟩
      intro a ha b hb
      simp at hb
      subst hb
      intro e
      subst e
      apply h
      obtain ⟨p, hp, e⟩ := List.mem_map.mp ha
      rw [List.any_eq_true]
      exact ⟨p, hp, by simp [e]⟩
    · simp
/-! ### rows of ints -/
def lex : List Int → List Int → Bool
  | [], [] => false
  | [], _ :: _ => true
  | _ :: _, [] => false
  | x :: r, y :: t => decide (x < y) || (!decide (y < x) && lex r t)
theorem lex_eq : ∀ a b : List Int, PyProof.Rows.lexLt PyProof.Rows.itemOrd (a.map Sum.inl) (b.map Sum.inl) = lex a b
  | [], [] => rfl
  | [], _ :: _ => rfl
  | _ :: _, [] => rfl
  | x :: r, y :: t => by
    show (decide (x < y) || (!decide (y < x) && PyProof.Rows.lexLt PyProof.Rows.itemOrd (r.map Sum.inl) (t.map Sum.inl))) = _
    rw [lex_eq r t]
    rfl
theorem lex_irr : ∀ a : List Int, lex a a = false
  | [] => rfl
  | x :: r => by simp [lex, lex_irr r]
theorem lex_cons_self (x : Int) (a b : List Int) : lex (x :: a) (x :: b) = lex a b := by simp [lex]
theorem lex_cons_iff {x y : Int} {a b : List Int} : lex (x :: a) (y :: b) = true ↔ x < y ∨ (x = y ∧ lex a b = true) := by
  simp only [lex, Bool.or_eq_true, decide_eq_true_eq, Bool.and_eq_true, Bool.not_eq_true', decide_eq_false_iff_not]
  constructor
  · rintro (h | ⟨h1, h2⟩)
    · exact .inl h
    · by_cases h : x < y
      · exact .inl h
      · exact .inr ⟨by omega, h2⟩
  · rintro (h | ⟨h1, h2⟩)
    · exact .inl h
    · exact .inr ⟨by omega, h2⟩
theorem lex_trans : ∀ {a b c : List Int}, lex a b = true → lex b c = true → lex a c = true
  | [], [], _, h, _ => by cases h
  | [], _ :: _, [], _, h => by cases h
  | [], _ :: _, _ :: _, _, _ => rfl
  | _ :: _, [], _, h, _ => by cases h
  | _ :: _, _ :: _, [], _, h => by cases h
  | x :: a, y :: b, z :: c, h1, h2 => by
    rw [lex_cons_iff] at h1 h2 ⊢
    rcases h1 with h1 | ⟨h1, h3⟩ <;> rcases h2 with h2 | ⟨h2, h4⟩
    · exact .inl (by omega)
    · exact .inl (by omega)
    · exact .inl (by omega)
    · exact .inr ⟨by omega, lex_trans h3 h4⟩
theorem lex_tri : ∀ {a b : List Int}, lex a b = false → lex b a = false → a = b
  | [], [], _, _ => rfl
  | [], _ :: _, h, _ => by cases h
  | _ :: _, [], _, h => by cases h
  | x :: a, y :: b, h1, h2 => by
    have n1 : ¬ (x < y ∨ (x = y ∧ lex a b = true)) := fun z => by rw [lex_cons_iff.mpr z] at h1; cases h1
    have n2 : ¬ (y < x ∨ (y = x ∧ lex b a = true)) := fun z => by rw [lex_cons_iff.mpr z] at h2; cases h2
    have e : x = y := by omega
    subst e
    have h3 : lex a b = false := by cases h : lex a b with
      | false => rfl
      | true => exact absurd (.inr ⟨rfl, h⟩) n1
    have h4 : lex b a = false := by cases h : lex b a with
      | false => rfl
      | true => exact absurd (.inr ⟨rfl, h⟩) n2
    rw [lex_tri h3 h4]
/-- the least of some rows, by a key -/
def IsMin {α : Type} (k : α → List Int) (S : α → Prop) (r : α) : Prop := S r ∧ ∀ y, S y → lex (k y) (k r) = false
theorem le_trans_lex {a b c : List Int} (h1 : lex b a = false) (h2 : lex c b = false) : lex c a = false := by
  cases h : lex c a with
  | false => rfl
  | true =>
    exfalso
    cases h3 : lex a b with
    | false => rw [lex_tri h3 h1] at h; rw [h] at h2; cases h2
    | true => rw [lex_trans h h3] at h2; cases h2
theorem IsMin.unique {α : Type} {k : α → List Int} {S : α → Prop} (inj : ∀ x y, S x → S y → k x = k y → x = y) {r r' : α} (a : IsMin k S r) (b : IsMin k S r') : r = r' := inj _ _ a.1 b.1 (lex_tri (b.2 _ a.1) (a.2 _ b.1))
/-- the least so far, one more looked at -/
theorem IsMin.step {α : Type} {k : α → List Int} {S S' : α → Prop} {r y : α} (a : IsMin k S r) (hy : S' y) (hs : ∀ x, S' x ↔ S x ∨ x = y) : IsMin k S' (if lex (k y) (k r) = true then y else r) := by
  split
  · rename_i h
    refine ⟨hy, fun x hx => ?_⟩
    rcases (hs x).mp hx with q | q
    · cases h2 : lex (k x) (k y) with
      | false => rfl
      | true => have := a.2 x q; rw [lex_trans h2 h] at this; cases this
    · rw [q]; exact lex_irr _
  · rename_i h
    refine ⟨(hs r).mpr (.inl a.1), fun x hx => ?_⟩
    rcases (hs x).mp hx with q | q
    · exact a.2 x q
    · rw [q]; simpa using h
end T
/-! equality and order of plain data -/
namespace T
open PySem PySem.Spec PyProof.Rows L2
mutual
/-- numbers, texts, None, tuples and lists of these, nested n deep at most -/
def pn (n : Nat) : D → Bool
  | .non => true
  | .int _ => true
  | .str x => (PyData.str x).canLay0
  | .tup xs => decide (0 < n) && pnL (n - 1) xs
  | .lst xs => decide (0 < n) && pnL (n - 1) xs
  | _ => false
def pnL (n : Nat) : List D → Bool
  | [] => true
  | d :: ds => pn n d && pnL n ds
end
mutual
theorem pn_to : ∀ (d : D) {n : Nat}, pn n d = true → ∃ p, toP d = some p ∧ p.canLay0 = true ∧ p.depth ≤ n
  | .non, _, _ => ⟨_, rfl, rfl, Nat.zero_le _⟩
  | .int _, _, _ => ⟨_, rfl, rfl, Nat.zero_le _⟩
  | .str _, _, h => ⟨_, rfl, h, Nat.zero_le _⟩
  | .tup xs, n, h => by
    simp only [pn, Bool.and_eq_true, decide_eq_true_eq] at h
    obtain ⟨ps, e1, e2, e3⟩ := pnL_to xs h.2
    refine ⟨.tuple ps, by simp [toP, e1], by simpa [PyData.canLay0] using e2, ?_⟩
    simp only [PyData.depth]; omega
  | .lst xs, n, h => by
    simp only [pn, Bool.and_eq_true, decide_eq_true_eq] at h
    obtain ⟨ps, e1, e2, e3⟩ := pnL_to xs h.2
    refine ⟨.list ps, by simp [toP, e1], by simpa [PyData.canLay0] using e2, ?_⟩
    simp only [PyData.depth]; omega
  | .bl _, _, h => by simp [pn] at h
  | .ty _, _, h => by simp [pn] at h
  | .adr _, _, h => by simp [pn] at h
  | .scr _, _, h => by simp [pn] at h
  | .dct _, _, h => by simp [pn] at h
  | .ins _ _, _, h => by simp [pn] at h
theorem pnL_to : ∀ (ds : List D) {n : Nat}, pnL n ds = true → ∃ ps, toPs ds = some ps ∧ PyData.canLayAll0 ps = true ∧ PyData.depthAll ps ≤ n
  | [], _, _ => ⟨[], rfl, rfl, Nat.zero_le _⟩
  | d :: ds, n, h => by
    simp only [pnL, Bool.and_eq_true] at h
    obtain ⟨p, e1, e2, e3⟩ := pn_to d h.1
    obtain ⟨ps, f1, f2, f3⟩ := pnL_to ds h.2
    refine ⟨p :: ps, by simp [toPs, e1, f1], by simp [PyData.canLayAll0, e2, f2], ?_⟩
    simp only [PyData.depthAll]; omega
end
mutual
theorem eqv_pn : ∀ (a b : D) {n m : Nat} {p q : PyData}, pn n a = true → pn m b = true → toP a = some p → toP b = some q → (PyData.eqv p q = true ↔ a = b)
  | .non, b, n, m, p, q, ha, hb, e1, e2 => by
    cases e1
    cases b <;> simp only [toP, Option.map_eq_some_iff, Option.some.injEq, reduceCtorEq] at e2
    · subst e2; simp [PyData.eqv]
    · simp [pn] at hb
    · subst e2; simp [PyData.eqv]
    · subst e2; simp [PyData.eqv]
    · obtain ⟨_, _, rfl⟩ := e2; simp [PyData.eqv]
    · obtain ⟨_, _, rfl⟩ := e2; simp [PyData.eqv]
  | .int i, b, n, m, p, q, ha, hb, e1, e2 => by
    cases e1
    cases b <;> simp only [toP, Option.map_eq_some_iff, Option.some.injEq, reduceCtorEq] at e2
    · subst e2; simp [PyData.eqv]
    · simp [pn] at hb
    · subst e2; simp [PyData.eqv]
    · subst e2; simp [PyData.eqv]
    · obtain ⟨_, _, rfl⟩ := e2; simp [PyData.eqv]
    · obtain ⟨_, _, rfl⟩ := e2; simp [PyData.eqv]
  | .str x, b, n, m, p, q, ha, hb, e1, e2 => by
    cases e1
    cases b <;> simp only [toP, Option.map_eq_some_iff, Option.some.injEq, reduceCtorEq] at e2
    · subst e2; simp [PyData.eqv]
    · simp [pn] at hb
    · subst e2; simp [PyData.eqv]
    · subst e2; simp [PyData.eqv]
    · obtain ⟨_, _, rfl⟩ := e2; simp [PyData.eqv]
    · obtain ⟨_, _, rfl⟩ := e2; simp [PyData.eqv]
  | .tup xs, b, n, m, p, q, ha, hb, e1, e2 => by
    simp only [toP, Option.map_eq_some_iff] at e1
    obtain ⟨ps, e1, rfl⟩ := e1
    simp only [pn, Bool.and_eq_true] at ha
    cases b <;> simp only [toP, Option.map_eq_some_iff, Option.some.injEq, reduceCtorEq] at e2
    · subst e2; simp [PyData.eqv]
    · simp [pn] at hb
    · subst e2; simp [PyData.eqv]
    · subst e2; simp [PyData.eqv]
    · obtain ⟨qs, e2, rfl⟩ := e2
      simp only [pn, Bool.and_eq_true] at hb
      have := eqvL_pn xs _ ha.2 hb.2 e1 e2
      simpa [PyData.eqv] using this
    · obtain ⟨_, _, rfl⟩ := e2; simp [PyData.eqv]
  | .lst xs, b, n, m, p, q, ha, hb, e1, e2 => by
    simp only [toP, Option.map_eq_some_iff] at e1
    obtain ⟨ps, e1, rfl⟩ := e1
    simp only [pn, Bool.and_eq_true] at ha
    cases b <;> simp only [toP, Option.map_eq_some_iff, Option.some.injEq, reduceCtorEq] at e2
    · subst e2; simp [PyData.eqv]
    · simp [pn] at hb
    · subst e2; simp [PyData.eqv]
    · subst e2; simp [PyData.eqv]
    · obtain ⟨_, _, rfl⟩ := e2; simp [PyData.eqv]
    · obtain ⟨qs, e2, rfl⟩ := e2
      simp only [pn, Bool.and_eq_true] at hb
      have := eqvL_pn xs _ ha.2 hb.2 e1 e2
      simpa [PyData.eqv] using this
  | .bl _, _, _, _, _, _, h, _, _, _ => by simp [pn] at h
  | .ty _, _, _, _, _, _, h, _, _, _ => by simp [pn] at h
  | .adr _, _, _, _, _, _, h, _, _, _ => by simp [pn] at h
  | .scr _, _, _, _, _, _, h, _, _, _ => by simp [pn] at h
  | .dct _, _, _, _, _, _, h, _, _, _ => by simp [pn] at h
  | .ins _ _, _, _, _, _, _, h, _, _, _ => by simp [pn] at h
theorem eqvL_pn : ∀ (a b : List D) {n m : Nat} {p q : List PyData}, pnL n a = true → pnL m b = true → toPs a = some p → toPs b = some q → (PyData.eqvAll p q = true ↔ a = b)
  | [], [], _, _, _, _, _, _, e1, e2 => by cases e1; cases e2; simp [PyData.eqvAll]
  | [], d :: ds, _, m, _, _, _, hb, e1, e2 => by
    cases e1
    simp only [pnL, Bool.and_eq_true] at hb
    obtain ⟨p, f1, _⟩ := pn_to d hb.1
    obtain ⟨ps, f2, _⟩ := pnL_to ds hb.2
    simp only [toPs, f1, f2] at e2
    cases e2
    simp [PyData.eqvAll]
  | d :: ds, [], n, _, _, _, ha, _, e1, e2 => by
    cases e2
    simp only [pnL, Bool.and_eq_true] at ha
    obtain ⟨p, f1, _⟩ := pn_to d ha.1
    obtain ⟨ps, f2, _⟩ := pnL_to ds ha.2
    simp only [toPs, f1, f2] at e1
    cases e1
    simp [PyData.eqvAll]
  | d :: ds, d' :: ds', n, m, _, _, ha, hb, e1, e2 => by
    simp only [pnL, Bool.and_eq_true] at ha hb
    obtain ⟨p, f1, _⟩ := pn_to d ha.1
    obtain ⟨ps, f2, _⟩ := pnL_to ds ha.2
    obtain ⟨p', g1, _⟩ := pn_to d' hb.1
    obtain ⟨ps', g2, _⟩ := pnL_to ds' hb.2
    simp only [toPs, f1, f2] at e1
    simp only [toPs, g1, g2] at e2
    cases e1
    cases e2
    have h1 := eqv_pn d d' ha.1 hb.1 f1 g1
    have h2 := eqvL_pn ds ds' ha.2 hb.2 f2 g2
    simp [PyData.eqvAll, h1, h2]
end
theorem eqD_pn {a b : D} (ha : pn 64 a = true) (hb : pn 64 b = true) : ∃ r, eqD a b = some (.bl r) ∧ (r = true ↔ a = b) := by
  obtain ⟨p, e1, e2, e3⟩ := pn_to a ha
  obtain ⟨q, f1, f2, f3⟩ := pn_to b hb
  refine ⟨PyData.eqv p q, ?_, eqv_pn a b ha hb e1 f1⟩
  unfold eqD
  simp [e1, f1, SeqAt.shaped, e2, e3, f2, f3]
theorem neD_pn {a b : D} (ha : pn 64 a = true) (hb : pn 64 b = true) : ∃ r, neD a b = some (.bl r) ∧ (r = false ↔ a = b) := by
  obtain ⟨p, e1, e2, e3⟩ := pn_to a ha
  obtain ⟨q, f1, f2, f3⟩ := pn_to b hb
  have h := eqv_pn a b ha hb e1 f1
  refine ⟨!PyData.eqv p q, ?_, by simpa using h⟩
  unfold neD
  simp [e1, f1, SeqAt.shaped, e2, e3, f2, f3]
theorem eqD_same {a : D} (ha : pn 64 a = true) : eqD a a = some (.bl true) := by
  obtain ⟨r, h1, h2⟩ := eqD_pn ha ha
  rw [h1, h2.mpr rfl]
theorem eqD_diff {a b : D} (ha : pn 64 a = true) (hb : pn 64 b = true) (h : a ≠ b) : eqD a b = some (.bl false) := by
  obtain ⟨r, h1, h2⟩ := eqD_pn ha hb
  cases r with
  | false => exact h1
  | true => exact absurd (h2.mp rfl) h
theorem neD_same {a : D} (ha : pn 64 a = true) : neD a a = some (.bl false) := by
  obtain ⟨r, h1, h2⟩ := neD_pn ha ha
  rw [h1, h2.mpr rfl]
theorem neD_diff {a b : D} (ha : pn 64 a = true) (hb : pn 64 b = true) (h : a ≠ b) : neD a b = some (.bl true) := by
  obtain ⟨r, h1, h2⟩ := neD_pn ha hb
  cases r with
  | true => exact h1
  | false => exact absurd (h2.mp rfl) h
theorem pnL_ints (n : Nat) : ∀ g : List Int, pnL n (g.map .int) = true
  | [] => rfl
  | x :: g => by rw [List.map_cons]; simp [pnL, pn, pnL_ints n g]
theorem toPs_ints : ∀ g : List Int, toPs (g.map .int) = some (g.map .int)
  | [] => rfl
  | x :: g => by rw [List.map_cons]; simp [toPs, toP, toPs_ints g]
end T
namespace Hd
open PySem PySem.Spec PyProof.Rows L2
def top (i : Nat) : Stmt := PySem.Challenge.pw_toothyard_k61_fewest_pairs.main.body.getD i (.Pass ⟨0, 0, 0, 0⟩)
abbrev s1 : Stmt := (top 5)
def d1 : He.DefD := ⟨("common", none), "common", "common", defArgs s1, defBody s1, defScope s1, [], []⟩
abbrev s2 : Stmt := (inClass (top 6) 0)
def d2 : He.DefD := ⟨("Ratio", some "__init__"), "__init__", "Ratio.__init__", defArgs s2, defBody s2, defScope s2, [.int 1], []⟩
abbrev s5 : Stmt := (inClass (top 6) 3)
def d5 : He.DefD := ⟨("Ratio", some "times"), "times", "Ratio.times", defArgs s5, defBody s5, defScope s5, [], []⟩
abbrev s9 : Stmt := (inClass (top 6) 7)
def d9 : He.DefD := ⟨("Ratio", some "floor"), "floor", "Ratio.floor", defArgs s9, defBody s9, defScope s9, [], []⟩
abbrev s10 : Stmt := (inClass (top 6) 8)
def d10 : He.DefD := ⟨("Ratio", some "rest"), "rest", "Ratio.rest", defArgs s10, defBody s10, defScope s10, [], []⟩
abbrev s11 : Stmt := (inClass (top 6) 9)
def d11 : He.DefD := ⟨("Ratio", some "told"), "told", "Ratio.told", defArgs s11, defBody s11, defScope s11, [], []⟩
abbrev s13 : Stmt := (top 8)
def d13 : He.DefD := ⟨("ratio_of", none), "ratio_of", "ratio_of", defArgs s13, defBody s13, defScope s13, [], []⟩
abbrev s14 : Stmt := (top 9)
def d14 : He.DefD := ⟨("groups_of", none), "groups_of", "groups_of", defArgs s14, defBody s14, defScope s14, [], []⟩
abbrev s15 : Stmt := (top 10)
def d15 : He.DefD := ⟨("product_of", none), "product_of", "product_of", defArgs s15, defBody s15, defScope s15, [], []⟩
abbrev s16 : Stmt := (top 11)
def d16 : He.DefD := ⟨("best_by_products", none), "best_by_products", "best_by_products", defArgs s16, defBody s16, defScope s16, [], []⟩
abbrev s17 : Stmt := (top 12)
def d17 : He.DefD := ⟨("paired", none), "paired", "paired", defArgs s17, defBody s17, defScope s17, [], []⟩
abbrev s18 : Stmt := (top 13)
def d18 : He.DefD := ⟨("best_of", none), "best_of", "best_of", defArgs s18, defBody s18, defScope s18, [], []⟩
abbrev s19 : Stmt := (top 14)
def d19 : He.DefD := ⟨("fewest", none), "fewest", "fewest", defArgs s19, defBody s19, defScope s19, [], []⟩
abbrev s20 : Stmt := (top 16)
def d20 : He.DefD := ⟨("_law_mix", none), "_law_mix", "_law_mix", defArgs s20, defBody s20, defScope s20, [], []⟩
abbrev s21 : Stmt := (top 17)
def d21 : He.DefD := ⟨("_law_groups", none), "_law_groups", "_law_groups", defArgs s21, defBody s21, defScope s21, [], []⟩
abbrev s22 : Stmt := (top 18)
def d22 : He.DefD := ⟨("_law_product", none), "_law_product", "_law_product", defArgs s22, defBody s22, defScope s22, [], []⟩
abbrev s23 : Stmt := (top 19)
def d23 : He.DefD := ⟨("_law_best", none), "_law_best", "_law_best", defArgs s23, defBody s23, defScope s23, [], []⟩
abbrev s24 : Stmt := (top 20)
def d24 : He.DefD := ⟨("_law_ratio", none), "_law_ratio", "_law_ratio", defArgs s24, defBody s24, defScope s24, [], []⟩
abbrev s25 : Stmt := (top 21)
def d25 : He.DefD := ⟨("law", none), "law", "law", defArgs s25, defBody s25, defScope s25, [], []⟩
def fn : List He.DefD := [d1, d2, d5, d9, d10, d11, d13, d14, d15, d16, d17, d18, d19, d20, d21, d22, d23, d24, d25]
def fa : List He.Fa := [.glo "WorkError", .glo "NoRatio", .glo "common", .glo "Ratio", .cls "Ratio", .mkr "Ratio", .noat "Ratio" "top", .noat "Ratio" "bottom", .meth "Ratio" "times", .meth "Ratio" "floor", .meth "Ratio" "rest", .meth "Ratio" "told", .glo "ratio_of", .glo "groups_of", .glo "product_of", .glo "best_by_products", .glo "paired", .glo "best_of", .glo "fewest", .glo "_law_mix", .glo "_law_groups", .glo "_law_product", .glo "_law_best", .glo "_law_ratio", .glo "law", .free "ValueError", .free "abs", .free "divmod", .free "enumerate", .free "int", .free "isinstance", .free "len", .free "list", .free "min", .free "range", .free "sum", .free "zip"]
abbrev R : PySem.W.OpenRow := PySem.W.OpenLaw.row PySem.Challenge.rw_toothyard_k61_fewest_pairs
abbrev hk : PySem.W.Hook := He.hookD 5 fa fn
def ob (s : PySem.W.SharedT) : He.AlD := He.obsDG 5 fa fn (HandSHeadRun.getT s)
theorem ob_eq (s : PySem.W.SharedT) : ob s = hk.obs s.abs := He.obsDG_eq (HandSHeadRun.getT_eq s)
def nms : List Str := (["_wall", "__name__", "WorkError", "NoRatio", "common", "Ratio", "ratio_of", "groups_of", "product_of", "best_by_products", "paired", "best_of", "fewest", "_law_mix", "_law_groups", "_law_product", "_law_best", "_law_ratio"] : List Str)
end Hd
namespace Hd
open PySem PySem.Spec PyProof.Rows L2
theorem run (w : World) : HandSHeadRun.RunEq R (PySem.W.view R.prog [21]) hk ob 2000 nms w := by
  intro os
  kernel_rfl
end Hd
namespace T
open PySem PySem.Spec PyProof.Rows L2 Hd
def fx_top : FX := fun C => match C with
  | 0 => some 0
  | _ => none
theorem fxok_top {K : PySem.W.Frag} (h0 : ClsOk K 0) : FxOk K "top" fx_top := fun C j h => by
  unfold fx_top at h
  split at h
  · cases h; exact ⟨h0, rfl⟩
  · cases h
def fx_bottom : FX := fun C => match C with
  | 0 => some 1
  | _ => none
theorem fxok_bottom {K : PySem.W.Frag} (h0 : ClsOk K 0) : FxOk K "bottom" fx_bottom := fun C j h => by
  unfold fx_bottom at h
  split at h
  · cases h; exact ⟨h0, rfl⟩
  · cases h
abbrev N_common : List Str := ["one", "other"]
theorem sc_common : FnScope N_common ["one", "other"] (defScope s1) := ⟨rfl, rfl, rfl, by decide +kernel, rfl, by decide +kernel, by decide +kernel⟩
def b1_common  : FS :=
  (sPar2 0 1 (aCons (eVar 1) (aCons (map2F (eVar 0) (eVar 1) modD) aNil)))
def t2_common  : F Bool :=
  (mapF (map2F (eVar 1) (eC (.int 0)) gtD) unB)
def r_common  : FS :=
  (sSeq (sAsg (fzF (mapF (aCons (eVar 0) aNil) absD)) (gNm 0))
  (sSeq (sAsg (fzF (mapF (aCons (eVar 1) aNil) absD)) (gNm 1))
  (sSeq (sWhile (t2_common ) (b1_common ) (intAt 1))
  (sRet (oVar 0)))))
theorem b_common {P : Program} {w : World} {K : PySem.W.Frag} {mg : Str → Option Value} {base : Heap} {f : Addr}  {k : Nat}
    (g_abs : mg "abs" = none)
    (cdv : Value) (A : Around) (outer : List PySem.Env) (s : Shared) (H : Hp) (E : XK) (hr : Room k (A.deeper (envOfC "common" (defScope s1) s.heap.objs.size f cdv))) :
    DSs (cxOf CX0 P w K mg base N_common "common" (defScope s1) f cdv A outer s H E).nox (defBody s1) (r_common ) := by
  have nd : (N_common).Nodup := sc_common.nd
  have h64 := hr.units
  have h1 : (A.deeper (envOfC "common" (defScope s1) s.heap.objs.size f cdv)).units + 1 < cLine := by omega
  have h70 : (A.deeper (envOfC "common" (defScope s1) s.heap.objs.size f cdv)).units + 70 < cLine := by have := hr.un; omega
  exact (dss_cons (ds_asg (do_of (de_abs rfl g_abs (da_cons (dv 0) da_nil))) (dg_name 0 nd))
    (dss_cons (ds_asg (do_of (de_abs rfl g_abs (da_cons (dv 1) da_nil))) (dg_name 1 nd))
    (dss_cons (ds_while (intAt 1) PassesOwn.never (dt_gt h64 (dv 1) de_int) (dss_one (ds_par rfl nd (da_cons (dv 1) (da_cons (de_mod (dv 0) (dv 1)) da_nil)))))
    (dss_one (ds_ret (dvo 0))))))
abbrev N_Ratio_init : List Str := ["self", "top", "bottom", "both"]
theorem sc_Ratio_init : FnScope N_Ratio_init ["self", "top", "bottom"] (defScope s2) := ⟨rfl, rfl, rfl, by decide +kernel, rfl, by decide +kernel, by decide +kernel⟩
def r_Ratio_init (sp_common : List D → Option O) : FS :=
  (sSeq (sIf (mapF (map2F (eVar 2) (eC (.int 0)) eqD) unB) sNever sNext)
  (sSeq (sAsg (callF sp_common [] (aCons (eVar 1) (aCons (eVar 2) aNil))) (gNm 3))
  (sSeq (sIf (mapF (map2F (eVar 2) (eC (.int 0)) ltD) unB) (sAsg (fzF (mapF (eVar 3) negD)) (gNm 3)) sNext)
  (sSeq (sFldSet fx_top 0 (fzF (map2F (eVar 1) (eVar 3) divD)))
  (sFldSet fx_bottom 0 (fzF (map2F (eVar 2) (eVar 3) divD)))))))
theorem b_Ratio_init {P : Program} {w : World} {K : PySem.W.Frag} {mg : Str → Option Value} {base : Heap} {f : Addr} {sp_common : List D → Option O} {k : Nat}
    (fh_bottom : FxOk K "bottom" fx_bottom)
    (fh_top : FxOk K "top" fx_top)
    (c_common : Cal P w K mg base "common" k sp_common [])
    (cdv : Value) (A : Around) (outer : List PySem.Env) (s : Shared) (H : Hp) (E : XK) (hr : Room k (A.deeper (envOfC "Ratio.__init__" (defScope s2) s.heap.objs.size f cdv))) :
    DSs (cxOf CX0 P w K mg base N_Ratio_init "Ratio.__init__" (defScope s2) f cdv A outer s H E).nox (defBody s2) (r_Ratio_init sp_common) := by
  have nd : (N_Ratio_init).Nodup := sc_Ratio_init.nd
  have h64 := hr.units
  have h1 : (A.deeper (envOfC "Ratio.__init__" (defScope s2) s.heap.objs.size f cdv)).units + 1 < cLine := by omega
  have h70 : (A.deeper (envOfC "Ratio.__init__" (defScope s2) s.heap.objs.size f cdv)).units + 70 < cLine := by have := hr.un; omega
  exact (dss_cons (ds_if (dt_eq h64 (dv 2) de_int) (dss_one ds_never) dss_nil)
    (dss_cons (ds_asg (do_c c_common hr (da_cons (dv 1) (da_cons (dv 2) da_nil))) (dg_name 3 nd))
    (dss_cons (ds_if (dt_lt h64 (dv 2) de_int) (dss_one (ds_asg (do_of (de_neg (dv 3))) (dg_name 3 nd))) dss_nil)
    (dss_cons (ds_fld 0 fh_top (pv 0) (do_of (de_div (dv 1) (dv 3))) fields_few)
    (dss_one (ds_fld 0 fh_bottom (pv 0) (do_of (de_div (dv 2) (dv 3))) fields_few))))))
abbrev N_Ratio_times : List Str := ["self", "other"]
theorem sc_Ratio_times : FnScope N_Ratio_times ["self", "other"] (defScope s5) := ⟨rfl, rfl, rfl, by decide +kernel, rfl, by decide +kernel, by decide +kernel⟩
def r_Ratio_times (fm_Ratio : FM) : FS :=
  (sRet (makeF 0 fm_Ratio [] (aCons (map2F (eFld fx_top (eVar 0)) (eFld fx_top (eVar 1)) mulU) (aCons (map2F (eFld fx_bottom (eVar 0)) (eFld fx_bottom (eVar 1)) mulU) aNil))))
theorem b_Ratio_times {P : Program} {w : World} {K : PySem.W.Frag} {mg : Str → Option Value} {base : Heap} {f : Addr} {fm_Ratio : FM} {k : Nat}
    (k_Ratio : Mak P w K mg base "Ratio" 0 k fm_Ratio [])
    (fh_bottom : FxOk K "bottom" fx_bottom)
    (fh_top : FxOk K "top" fx_top)
    (cdv : Value) (A : Around) (outer : List PySem.Env) (s : Shared) (H : Hp) (E : XK) (hr : Room k (A.deeper (envOfC "Ratio.times" (defScope s5) s.heap.objs.size f cdv))) :
    DSs (cxOf CX0 P w K mg base N_Ratio_times "Ratio.times" (defScope s5) f cdv A outer s H E).nox (defBody s5) (r_Ratio_times fm_Ratio) := by
  have nd : (N_Ratio_times).Nodup := sc_Ratio_times.nd
  have h64 := hr.units
  have h1 : (A.deeper (envOfC "Ratio.times" (defScope s5) s.heap.objs.size f cdv)).units + 1 < cLine := by omega
  have h70 : (A.deeper (envOfC "Ratio.times" (defScope s5) s.heap.objs.size f cdv)).units + 70 < cLine := by have := hr.un; omega
  exact (dss_one (ds_ret (do_mk k_Ratio hr (da_cons (de_mul (de_fld fh_top (dv 0)) (de_fld fh_top (dv 1))) (da_cons (de_mul (de_fld fh_bottom (dv 0)) (de_fld fh_bottom (dv 1))) da_nil)))))
abbrev N_Ratio_floor : List Str := ["self"]
theorem sc_Ratio_floor : FnScope N_Ratio_floor ["self"] (defScope s9) := ⟨rfl, rfl, rfl, by decide +kernel, rfl, by decide +kernel, by decide +kernel⟩
def r_Ratio_floor  : FS :=
  (sRet (fzF (map2F (eFld fx_top (eVar 0)) (eFld fx_bottom (eVar 0)) divD)))
theorem b_Ratio_floor {P : Program} {w : World} {K : PySem.W.Frag} {mg : Str → Option Value} {base : Heap} {f : Addr}  {k : Nat}
    (fh_top : FxOk K "top" fx_top)
    (fh_bottom : FxOk K "bottom" fx_bottom)
    (cdv : Value) (A : Around) (outer : List PySem.Env) (s : Shared) (H : Hp) (E : XK) (hr : Room k (A.deeper (envOfC "Ratio.floor" (defScope s9) s.heap.objs.size f cdv))) :
    DSs (cxOf CX0 P w K mg base N_Ratio_floor "Ratio.floor" (defScope s9) f cdv A outer s H E).nox (defBody s9) (r_Ratio_floor ) := by
  have nd : (N_Ratio_floor).Nodup := sc_Ratio_floor.nd
  have h64 := hr.units
  have h1 : (A.deeper (envOfC "Ratio.floor" (defScope s9) s.heap.objs.size f cdv)).units + 1 < cLine := by omega
  have h70 : (A.deeper (envOfC "Ratio.floor" (defScope s9) s.heap.objs.size f cdv)).units + 70 < cLine := by have := hr.un; omega
  exact (dss_one (ds_ret (do_of (de_div (de_fld fh_top (dv 0)) (de_fld fh_bottom (dv 0))))))
abbrev N_Ratio_rest : List Str := ["self"]
theorem sc_Ratio_rest : FnScope N_Ratio_rest ["self"] (defScope s10) := ⟨rfl, rfl, rfl, by decide +kernel, rfl, by decide +kernel, by decide +kernel⟩
def r_Ratio_rest (fm_Ratio : FM) : FS :=
  (sRet (makeF 0 fm_Ratio [] (aCons (map2F (eFld fx_top (eVar 0)) (eFld fx_bottom (eVar 0)) modD) (aCons (eFld fx_bottom (eVar 0)) aNil))))
theorem b_Ratio_rest {P : Program} {w : World} {K : PySem.W.Frag} {mg : Str → Option Value} {base : Heap} {f : Addr} {fm_Ratio : FM} {k : Nat}
    (k_Ratio : Mak P w K mg base "Ratio" 0 k fm_Ratio [])
    (fh_bottom : FxOk K "bottom" fx_bottom)
    (fh_top : FxOk K "top" fx_top)
    (cdv : Value) (A : Around) (outer : List PySem.Env) (s : Shared) (H : Hp) (E : XK) (hr : Room k (A.deeper (envOfC "Ratio.rest" (defScope s10) s.heap.objs.size f cdv))) :
    DSs (cxOf CX0 P w K mg base N_Ratio_rest "Ratio.rest" (defScope s10) f cdv A outer s H E).nox (defBody s10) (r_Ratio_rest fm_Ratio) := by
  have nd : (N_Ratio_rest).Nodup := sc_Ratio_rest.nd
  have h64 := hr.units
  have h1 : (A.deeper (envOfC "Ratio.rest" (defScope s10) s.heap.objs.size f cdv)).units + 1 < cLine := by omega
  have h70 : (A.deeper (envOfC "Ratio.rest" (defScope s10) s.heap.objs.size f cdv)).units + 70 < cLine := by have := hr.un; omega
  exact (dss_one (ds_ret (do_mk k_Ratio hr (da_cons (de_mod (de_fld fh_top (dv 0)) (de_fld fh_bottom (dv 0))) (da_cons (de_fld fh_bottom (dv 0)) da_nil)))))
abbrev N_Ratio_told : List Str := ["self"]
theorem sc_Ratio_told : FnScope N_Ratio_told ["self"] (defScope s11) := ⟨rfl, rfl, rfl, by decide +kernel, rfl, by decide +kernel, by decide +kernel⟩
def r_Ratio_told  : FS :=
  (sRet (fzF (mapF (aCons (eFld fx_top (eVar 0)) (aCons (eFld fx_bottom (eVar 0)) aNil)) gTup')))
theorem b_Ratio_told {P : Program} {w : World} {K : PySem.W.Frag} {mg : Str → Option Value} {base : Heap} {f : Addr}  {k : Nat}
    (fh_bottom : FxOk K "bottom" fx_bottom)
    (fh_top : FxOk K "top" fx_top)
    (cdv : Value) (A : Around) (outer : List PySem.Env) (s : Shared) (H : Hp) (E : XK) (hr : Room k (A.deeper (envOfC "Ratio.told" (defScope s11) s.heap.objs.size f cdv))) :
    DSs (cxOf CX0 P w K mg base N_Ratio_told "Ratio.told" (defScope s11) f cdv A outer s H E).nox (defBody s11) (r_Ratio_told ) := by
  have nd : (N_Ratio_told).Nodup := sc_Ratio_told.nd
  have h64 := hr.units
  have h1 : (A.deeper (envOfC "Ratio.told" (defScope s11) s.heap.objs.size f cdv)).units + 1 < cLine := by omega
  have h70 : (A.deeper (envOfC "Ratio.told" (defScope s11) s.heap.objs.size f cdv)).units + 70 < cLine := by have := hr.un; omega
  exact (dss_one (ds_ret (do_of (de_tup (da_cons (de_fld fh_top (dv 0)) (da_cons (de_fld fh_bottom (dv 0)) da_nil))))))
abbrev N_ratio_of : List Str := ["train", "found", "driving", "driven"]
theorem sc_ratio_of : FnScope N_ratio_of ["train"] (defScope s13) := ⟨rfl, rfl, rfl, by decide +kernel, rfl, by decide +kernel, by decide +kernel⟩
def b1_ratio_of (sp_Ratio_times : List D → Option O) (fm_Ratio : FM) : FS :=
  (sAsg (methF 0 sp_Ratio_times [] (eVar 1) (aCons (frF (makeF 0 fm_Ratio [] (aCons (eVar 2) (aCons (eVar 3) aNil)))) aNil)) (gNm 1))
def r_ratio_of (sp_Ratio_times : List D → Option O) (fm_Ratio : FM) : FS :=
  (sSeq (sAsg (makeF 0 fm_Ratio [.int 1] (aCons (eC (.int 1)) aNil)) (gNm 1))
  (sSeq (sFor (mapF (eVar 0) seqD) (gTp 2 (gsCons (gNm 2) (gsCons (gNm 3) gsNil))) (b1_ratio_of sp_Ratio_times fm_Ratio))
  (sRet (oVar 1))))
theorem b_ratio_of {P : Program} {w : World} {K : PySem.W.Frag} {mg : Str → Option Value} {base : Heap} {f : Addr} {sp_Ratio_times : List D → Option O} {fm_Ratio : FM} {k : Nat}
    (m_Ratio_times : Met P w K mg base 0 "times" k sp_Ratio_times [])
    (k_Ratio : Mak P w K mg base "Ratio" 0 k fm_Ratio [])
    (k_Ratio_1 : Mak P w K mg base "Ratio" 0 k fm_Ratio [.int 1])
    (cdv : Value) (A : Around) (outer : List PySem.Env) (s : Shared) (H : Hp) (E : XK) (hr : Room k (A.deeper (envOfC "ratio_of" (defScope s13) s.heap.objs.size f cdv))) :
    DSs (cxOf CX0 P w K mg base N_ratio_of "ratio_of" (defScope s13) f cdv A outer s H E).nox (defBody s13) (r_ratio_of sp_Ratio_times fm_Ratio) := by
  have nd : (N_ratio_of).Nodup := sc_ratio_of.nd
  have h64 := hr.units
  have h1 : (A.deeper (envOfC "ratio_of" (defScope s13) s.heap.objs.size f cdv)).units + 1 < cLine := by omega
  have h70 : (A.deeper (envOfC "ratio_of" (defScope s13) s.heap.objs.size f cdv)).units + 70 < cLine := by have := hr.un; omega
  exact (dss_cons (ds_asg (do_mk k_Ratio_1 hr (da_cons de_int da_nil)) (dg_name 1 nd))
    (dss_cons (ds_for PassesOwn.never rfl (di_seq (dv 0)) (dg_tup rfl (dgs_cons (dg_name 2 nd) (dgs_cons (dg_name 3 nd) dgs_nil))) (dss_one (ds_asg (do_m m_Ratio_times hr (dv 1) (da_cons (de_of (do_mk k_Ratio hr (da_cons (dv 2) (da_cons (dv 3) da_nil)))) da_nil)) (dg_name 1 nd))))
    (dss_one (ds_ret (dvo 1)))))
abbrev N_groups_of : List Str := ["least", "most", "many", "found", "group", "top", "teeth"]
theorem sc_groups_of : FnScope N_groups_of ["least", "most", "many"] (defScope s14) := ⟨rfl, rfl, rfl, by decide +kernel, rfl, by decide +kernel, by decide +kernel⟩
def b1_groups_of (sp_groups_of : List D → Option O) : FS :=
  (sExpr (eAppend 3 (fzF (map2F (eVar 4) (mapF (aCons (eVar 6) aNil) gTup') addD))))
def b2_groups_of (sp_groups_of : List D → Option O) : FS :=
  (sSeq (sAsg (fzF (iteF' (mapF (map2F (eVar 4) (mapF aNil gTup') eqD) unB) (eVar 1) (map2F (eVar 4) (mapF (eC (.int 1)) negD) ixD))) (gNm 5))
  (sFor (mapF (aCons (eVar 0) (aCons (map2F (eVar 5) (eC (.int 1)) addD) aNil)) rng2) (gNm 6) (b1_groups_of sp_groups_of)))
def r_groups_of (sp_groups_of : List D → Option O) : FS :=
  (sSeq (sIf (mapF (map2F (eVar 2) (eC (.int 0)) eqD) unB) (sRet (mapF (aCons (mapF aNil gTup') aNil) gLst')) sNext)
  (sSeq (sAsg (mapF aNil gLst') (gNm 3))
  (sSeq (sFor (mapF (frF (callF sp_groups_of [] (aCons (eVar 0) (aCons (eVar 1) (aCons (map2F (eVar 2) (eC (.int 1)) subD) aNil))))) seqD) (gNm 4) (b2_groups_of sp_groups_of))
  (sRet (oVar 3)))))
theorem b_groups_of {P : Program} {w : World} {K : PySem.W.Frag} {mg : Str → Option Value} {base : Heap} {f : Addr} {sp_groups_of : List D → Option O} {k : Nat}
    (c_groups_of : Cal P w K mg base "groups_of" k sp_groups_of [])
    (g_range : mg "range" = none)
    (cdv : Value) (A : Around) (outer : List PySem.Env) (s : Shared) (H : Hp) (E : XK) (hr : Room k (A.deeper (envOfC "groups_of" (defScope s14) s.heap.objs.size f cdv))) :
    DSs (cxOf CX0 P w K mg base N_groups_of "groups_of" (defScope s14) f cdv A outer s H E).nox (defBody s14) (r_groups_of sp_groups_of) := by
  have nd : (N_groups_of).Nodup := sc_groups_of.nd
  have h64 := hr.units
  have h1 : (A.deeper (envOfC "groups_of" (defScope s14) s.heap.objs.size f cdv)).units + 1 < cLine := by omega
  have h70 : (A.deeper (envOfC "groups_of" (defScope s14) s.heap.objs.size f cdv)).units + 70 < cLine := by have := hr.un; omega
  exact (dss_cons (ds_if (dt_eq h64 (dv 2) de_int) (dss_one (ds_ret (do_lst (da_cons (de_tup da_nil) da_nil)))) dss_nil)
    (dss_cons (ds_asg (do_lst da_nil) (dg_name 3 nd))
    (dss_cons (ds_for PassesOwn.never rfl (di_seq (de_of (do_c c_groups_of hr (da_cons (dv 0) (da_cons (dv 1) (da_cons (de_sub (dv 2) de_int) da_nil)))))) (dg_name 4 nd) (dss_cons (ds_asg (do_of (de_if (dt_eq h64 (dv 4) (de_tup da_nil)) (dv 1) (de_ix h1 (dv 4) (de_neg de_int) (fun _ _ => rfl)))) (dg_name 5 nd))
    (dss_one (ds_for PassesOwn.never rfl (di_range2 rfl g_range (da_cons (dv 0) (da_cons (de_add (dv 5) de_int) da_nil))) (dg_name 6 nd) (dss_one (ds_expr (de_append 3 (pv 3) (do_of (de_add (dv 4) (de_tup (da_cons (dv 6) da_nil)))))))))))
    (dss_one (ds_ret (dvo 3))))))
abbrev N_product_of : List Str := ["group", "found", "teeth"]
theorem sc_product_of : FnScope N_product_of ["group"] (defScope s15) := ⟨rfl, rfl, rfl, by decide +kernel, rfl, by decide +kernel, by decide +kernel⟩
def b1_product_of  : FS :=
  (sAug 1 (eVar 2) gMulI)
def r_product_of  : FS :=
  (sSeq (sAsg (fzF (eC (.int 1))) (gNm 1))
  (sSeq (sFor (mapF (eVar 0) seqD) (gNm 2) (b1_product_of ))
  (sRet (oVar 1))))
theorem b_product_of {P : Program} {w : World} {K : PySem.W.Frag} {mg : Str → Option Value} {base : Heap} {f : Addr}  {k : Nat}
    
    (cdv : Value) (A : Around) (outer : List PySem.Env) (s : Shared) (H : Hp) (E : XK) (hr : Room k (A.deeper (envOfC "product_of" (defScope s15) s.heap.objs.size f cdv))) :
    DSs (cxOf CX0 P w K mg base N_product_of "product_of" (defScope s15) f cdv A outer s H E).nox (defBody s15) (r_product_of ) := by
  have nd : (N_product_of).Nodup := sc_product_of.nd
  have h64 := hr.units
  have h1 : (A.deeper (envOfC "product_of" (defScope s15) s.heap.objs.size f cdv)).units + 1 < cLine := by omega
  have h70 : (A.deeper (envOfC "product_of" (defScope s15) s.heap.objs.size f cdv)).units + 70 < cLine := by have := hr.un; omega
  exact (dss_cons (ds_asg (do_of de_int) (dg_name 1 nd))
    (dss_cons (ds_for PassesOwn.never rfl (di_seq (dv 0)) (dg_name 2 nd) (dss_one (ds_imul (i := 1) nd (dv 2))))
    (dss_one (ds_ret (dvo 1)))))
abbrev N_best_by_products : List Str := ["groups", "found", "group", "product", "key"]
theorem sc_best_by_products : FnScope N_best_by_products ["groups"] (defScope s16) := ⟨rfl, rfl, rfl, by decide +kernel, rfl, by decide +kernel, by decide +kernel⟩
def b1_best_by_products (sp_product_of : List D → Option O) : FS :=
  (sSeq (sAsg (callF sp_product_of [] (aCons (eVar 2) aNil)) (gNm 3))
  (sSeq (sAsg (fzF (mapF (aCons (mapF (aCons (eVar 2) aNil) sumD) (aCons (eVar 2) aNil)) gTup')) (gNm 4))
  (sIf (peekT (orF (mapF (eInV 1 true (eVar 3)) unB) (mapF (map2F (eVar 4) (eIxV 1 (eVar 3)) ltD) unB))) (sDPut' 1 (eVar 3) (fzF (eVar 4))) sNext)))
def r_best_by_products (sp_product_of : List D → Option O) : FS :=
  (sSeq (sAsg eDict0 (gNm 1))
  (sSeq (sFor (mapF (eVar 0) seqD) (gNm 2) (b1_best_by_products sp_product_of))
  (sRet (oVar 1))))
theorem b_best_by_products {P : Program} {w : World} {K : PySem.W.Frag} {mg : Str → Option Value} {base : Heap} {f : Addr} {sp_product_of : List D → Option O} {k : Nat}
    (g_sum : mg "sum" = none)
    (c_product_of : Cal P w K mg base "product_of" k sp_product_of [])
    (cdv : Value) (A : Around) (outer : List PySem.Env) (s : Shared) (H : Hp) (E : XK) (hr : Room k (A.deeper (envOfC "best_by_products" (defScope s16) s.heap.objs.size f cdv))) :
    DSs (cxOf CX0 P w K mg base N_best_by_products "best_by_products" (defScope s16) f cdv A outer s H E).nox (defBody s16) (r_best_by_products sp_product_of) := by
  have nd : (N_best_by_products).Nodup := sc_best_by_products.nd
  have h64 := hr.units
  have h1 : (A.deeper (envOfC "best_by_products" (defScope s16) s.heap.objs.size f cdv)).units + 1 < cLine := by omega
  have h70 : (A.deeper (envOfC "best_by_products" (defScope s16) s.heap.objs.size f cdv)).units + 70 < cLine := by have := hr.un; omega
  exact (dss_cons (ds_asg do_dict0 (dg_name 1 nd))
    (dss_cons (ds_for PassesOwn.never rfl (di_seq (dv 0)) (dg_name 2 nd) (dss_cons (ds_asg (do_c c_product_of hr (da_cons (dv 2) da_nil)) (dg_name 3 nd))
    (dss_cons (ds_asg (do_of (de_tup (da_cons (de_sum rfl rfl g_sum (da_cons (dv 2) da_nil)) (da_cons (dv 2) da_nil)))) (dg_name 4 nd))
    (dss_one (ds_if (dt_peek (dw_dt (dw_or (dt_ninV 1 h1 (dv 3) (pv 1)) (dw_or1 (dt_lt h64 (dv 4) (de_ixV 1 h1 (pv 1) (dv 3) (fun _ _ => rfl))))))) (dss_one (ds_dput 1 h1 (pv 1) (dv 3) (do_of (dv 4)))) dss_nil)))))
    (dss_one (ds_ret (dvo 1)))))
abbrev N_paired : List Str := ["driving", "driven"]
theorem sc_paired : FnScope N_paired ["driving", "driven"] (defScope s17) := ⟨rfl, rfl, rfl, by decide +kernel, rfl, by decide +kernel, by decide +kernel⟩
def r_paired  : FS :=
  (sRet (mkPair (map2F (mapF (aCons (eVar 0) aNil) sumD) (mapF (aCons (eVar 1) aNil) sumD) addD) (mapF (aCons (eVar 0) (aCons (eVar 1) aNil)) lzD)))
theorem b_paired {P : Program} {w : World} {K : PySem.W.Frag} {mg : Str → Option Value} {base : Heap} {f : Addr}  {k : Nat}
    (g_sum : mg "sum" = none)
    (g_list : mg "list" = none)
    (g_zip : mg "zip" = none)
    (cdv : Value) (A : Around) (outer : List PySem.Env) (s : Shared) (H : Hp) (E : XK) (hr : Room k (A.deeper (envOfC "paired" (defScope s17) s.heap.objs.size f cdv))) :
    DSs (cxOf CX0 P w K mg base N_paired "paired" (defScope s17) f cdv A outer s H E).nox (defBody s17) (r_paired ) := by
  have nd : (N_paired).Nodup := sc_paired.nd
  have h64 := hr.units
  have h1 : (A.deeper (envOfC "paired" (defScope s17) s.heap.objs.size f cdv)).units + 1 < cLine := by omega
  have h70 : (A.deeper (envOfC "paired" (defScope s17) s.heap.objs.size f cdv)).units + 70 < cLine := by have := hr.un; omega
  exact (dss_one (ds_ret (do_pair (de_add (de_sum rfl rfl g_sum (da_cons (dv 0) da_nil)) (de_sum rfl rfl g_sum (da_cons (dv 1) da_nil))) (do_listZip rfl rfl g_list rfl g_zip (da_cons (dv 0) (da_cons (dv 1) da_nil))))))
abbrev N_best_of : List Str := ["ratio", "groups", "driven", "found", "group", "train", "product", "rest"]
theorem sc_best_of : FnScope N_best_of ["ratio", "groups"] (defScope s18) := ⟨rfl, rfl, rfl, by decide +kernel, rfl, by decide +kernel, by decide +kernel⟩
def b1_best_of (sp_paired : List D → Option O) (sp_product_of : List D → Option O) (sp_best_by_products : List D → Option O) : FS :=
  (sSeq (sAsg (fzF (mapF (aCons (map2F (frF (callF sp_product_of [] (aCons (eVar 4) aNil))) (eFld fx_bottom (eVar 0)) mulU) (aCons (eFld fx_top (eVar 0)) aNil)) divmodD)) (gTp 2 (gsCons (gNm 6) (gsCons (gNm 7) gsNil))))
  (sSeq (sIf (peekT (orF (mapF (map2F (eVar 7) (eC (.int 0)) gtD) unB) (mapF (eInV 2 true (eVar 6)) unB))) sCt sNext)
  (sSeq (sAsg (callF sp_paired [] (aCons (eVar 4) (aCons (map2F (eIxV 2 (eVar 6)) (eC (.int 1)) ixD) aNil))) (gNm 5))
  (sIf (peekT (orF (mapF (mapF (eVar 3) isN) unB) (mapF (map2F (eVar 5) (eVar 3) ltD) unB))) (sAsg (oVar 5) (gNm 3)) sNext))))
def r_best_of (sp_paired : List D → Option O) (sp_product_of : List D → Option O) (sp_best_by_products : List D → Option O) : FS :=
  (sSeq (sAsg (callF sp_best_by_products [] (aCons (eVar 1) aNil)) (gNm 2))
  (sSeq (sAsg (fzF (eC .non)) (gNm 3))
  (sSeq (sFor (mapF (eVar 1) seqD) (gNm 4) (b1_best_of sp_paired sp_product_of sp_best_by_products))
  (sRet (oVar 3)))))
theorem b_best_of {P : Program} {w : World} {K : PySem.W.Frag} {mg : Str → Option Value} {base : Heap} {f : Addr} {sp_paired : List D → Option O} {sp_product_of : List D → Option O} {sp_best_by_products : List D → Option O} {k : Nat}
    (c_paired : Cal P w K mg base "paired" k sp_paired [])
    (fh_top : FxOk K "top" fx_top)
    (c_product_of : Cal P w K mg base "product_of" k sp_product_of [])
    (fh_bottom : FxOk K "bottom" fx_bottom)
    (g_divmod : mg "divmod" = none)
    (c_best_by_products : Cal P w K mg base "best_by_products" k sp_best_by_products [])
    (cdv : Value) (A : Around) (outer : List PySem.Env) (s : Shared) (H : Hp) (E : XK) (hr : Room k (A.deeper (envOfC "best_of" (defScope s18) s.heap.objs.size f cdv))) :
    DSs (cxOf CX0 P w K mg base N_best_of "best_of" (defScope s18) f cdv A outer s H E).nox (defBody s18) (r_best_of sp_paired sp_product_of sp_best_by_products) := by
  have nd : (N_best_of).Nodup := sc_best_of.nd
  have h64 := hr.units
  have h1 : (A.deeper (envOfC "best_of" (defScope s18) s.heap.objs.size f cdv)).units + 1 < cLine := by omega
  have h70 : (A.deeper (envOfC "best_of" (defScope s18) s.heap.objs.size f cdv)).units + 70 < cLine := by have := hr.un; omega
  exact (dss_cons (ds_asg (do_c c_best_by_products hr (da_cons (dv 1) da_nil)) (dg_name 2 nd))
    (dss_cons (ds_asg (do_of de_non) (dg_name 3 nd))
    (dss_cons (ds_for PassesOwn.never rfl (di_seq (dv 1)) (dg_name 4 nd) (dss_cons (ds_asg (do_of (de_divmod rfl g_divmod (da_cons (de_mul (de_of (do_c c_product_of hr (da_cons (dv 4) da_nil))) (de_fld fh_bottom (dv 0))) (da_cons (de_fld fh_top (dv 0)) da_nil)))) (dg_tup rfl (dgs_cons (dg_name 6 nd) (dgs_cons (dg_name 7 nd) dgs_nil))))
    (dss_cons (ds_if (dt_peek (dw_dt (dw_or (dt_gt h64 (dv 7) de_int) (dw_or1 (dt_ninV 2 h1 (dv 6) (pv 2)))))) (dss_one ds_continue) dss_nil)
    (dss_cons (ds_asg (do_c c_paired hr (da_cons (dv 4) (da_cons (de_ix h1 (de_ixV 2 h1 (pv 2) (dv 6) (fun _ _ => rfl)) de_int (fun _ _ => rfl)) da_nil))) (dg_name 5 nd))
    (dss_one (ds_if (dt_peek (dw_dt (dw_or (dt_isN (dv 3)) (dw_or1 (dt_lt h64 (dv 5) (dv 3)))))) (dss_one (ds_asg (dvo 5) (dg_name 3 nd))) dss_nil))))))
    (dss_one (ds_ret (dvo 3))))))
abbrev N_fewest : List Str := ["ratio", "least", "most", "pairs", "many", "found"]
theorem sc_fewest : FnScope N_fewest ["ratio", "least", "most", "pairs"] (defScope s19) := ⟨rfl, rfl, rfl, by decide +kernel, rfl, by decide +kernel, by decide +kernel⟩
def b1_fewest (sp_best_of : List D → Option O) (sp_groups_of : List D → Option O) : FS :=
  (sSeq (sAsg (callF sp_best_of [] (aCons (eVar 0) (aCons (frF (callF sp_groups_of [] (aCons (eVar 1) (aCons (eVar 2) (aCons (eVar 4) aNil))))) aNil))) (gNm 5))
  (sIf (peekT (mapF (mapF (eVar 5) notN) unB)) (sRet (eTake 5 1)) sNext))
def r_fewest (sp_best_of : List D → Option O) (sp_groups_of : List D → Option O) : FS :=
  (sSeq (sFor (mapF (aCons (eC (.int 1)) (aCons (map2F (eVar 3) (eC (.int 1)) addD) aNil)) rng2) (gNm 4) (b1_fewest sp_best_of sp_groups_of))
  (sRet (fzF (eC .non))))
theorem b_fewest {P : Program} {w : World} {K : PySem.W.Frag} {mg : Str → Option Value} {base : Heap} {f : Addr} {sp_best_of : List D → Option O} {sp_groups_of : List D → Option O} {k : Nat}
    (g_range : mg "range" = none)
    (c_best_of : Cal P w K mg base "best_of" k sp_best_of [])
    (c_groups_of : Cal P w K mg base "groups_of" k sp_groups_of [])
    (cdv : Value) (A : Around) (outer : List PySem.Env) (s : Shared) (H : Hp) (E : XK) (hr : Room k (A.deeper (envOfC "fewest" (defScope s19) s.heap.objs.size f cdv))) :
    DSs (cxOf CX0 P w K mg base N_fewest "fewest" (defScope s19) f cdv A outer s H E).nox (defBody s19) (r_fewest sp_best_of sp_groups_of) := by
  have nd : (N_fewest).Nodup := sc_fewest.nd
  have h64 := hr.units
  have h1 : (A.deeper (envOfC "fewest" (defScope s19) s.heap.objs.size f cdv)).units + 1 < cLine := by omega
  have h70 : (A.deeper (envOfC "fewest" (defScope s19) s.heap.objs.size f cdv)).units + 70 < cLine := by have := hr.un; omega
  exact (dss_cons (ds_for PassesOwn.never rfl (di_range2 rfl g_range (da_cons de_int (da_cons (de_add (dv 3) de_int) da_nil))) (dg_name 4 nd) (dss_cons (ds_asg (do_c c_best_of hr (da_cons (dv 0) (da_cons (de_of (do_c c_groups_of hr (da_cons (dv 1) (da_cons (dv 2) (da_cons (dv 4) da_nil))))) da_nil))) (dg_name 5 nd))
    (dss_one (ds_if (dt_peek (dt_notN (dv 5))) (dss_one (ds_ret (do_take 5 1 (pv 5) pe_int (fun _ _ => rfl)))) dss_nil))))
    (dss_one (ds_ret (do_of de_non))))
abbrev N__law_mix : List Str := ["_law_cell", "_law_k", "_law_mix_here"]
theorem sc__law_mix : FnScope N__law_mix ["_law_cell", "_law_k"] (defScope s20) := ⟨rfl, rfl, rfl, by decide +kernel, rfl, by decide +kernel, by decide +kernel⟩
def r__law_mix  : FS :=
  (sSeq (sAsg (fzF (map2F (map2F (map2F (eVar 0) (map2F (eC (.int 104729)) (eVar 1) mulU) addD) (eC (.int 17)) addD) (eC (.int 2147483647)) modD)) (gNm 2))
  (sSeq (sAsg (fzF (map2F (map2F (map2F (map2F (eVar 2) (eVar 2) mulU) (map2F (eC (.int 48271)) (eVar 2) mulU) addD) (eVar 1) addD) (eC (.int 2147483629)) modD)) (gNm 2))
  (sRet (fzF (map2F (map2F (map2F (eVar 2) (eVar 2) mulU) (map2F (eC (.int 16807)) (eVar 2) mulU) addD) (eC (.int 2147483587)) modD)))))
theorem b__law_mix {P : Program} {w : World} {K : PySem.W.Frag} {mg : Str → Option Value} {base : Heap} {f : Addr}  {k : Nat}
    
    (cdv : Value) (A : Around) (outer : List PySem.Env) (s : Shared) (H : Hp) (E : XK) (hr : Room k (A.deeper (envOfC "_law_mix" (defScope s20) s.heap.objs.size f cdv))) :
    DSs (cxOf CX0 P w K mg base N__law_mix "_law_mix" (defScope s20) f cdv A outer s H E).nox (defBody s20) (r__law_mix ) := by
  have nd : (N__law_mix).Nodup := sc__law_mix.nd
  have h64 := hr.units
  have h1 : (A.deeper (envOfC "_law_mix" (defScope s20) s.heap.objs.size f cdv)).units + 1 < cLine := by omega
  have h70 : (A.deeper (envOfC "_law_mix" (defScope s20) s.heap.objs.size f cdv)).units + 70 < cLine := by have := hr.un; omega
  exact (dss_cons (ds_asg (do_of (de_mod (de_add (de_add (dv 0) (de_mul de_int (dv 1))) de_int) de_int)) (dg_name 2 nd))
    (dss_cons (ds_asg (do_of (de_mod (de_add (de_add (de_mul (dv 2) (dv 2)) (de_mul de_int (dv 2))) (dv 1)) de_int)) (dg_name 2 nd))
    (dss_one (ds_ret (do_of (de_mod (de_add (de_mul (dv 2) (dv 2)) (de_mul de_int (dv 2))) de_int))))))
abbrev N__law_groups : List Str := ["_law_least", "_law_most", "_law_many", "_law_found", "_law_turn", "_law_longer", "_law_group", "_law_top", "_law_teeth"]
theorem sc__law_groups : FnScope N__law_groups ["_law_least", "_law_most", "_law_many"] (defScope s21) := ⟨rfl, rfl, rfl, by decide +kernel, rfl, by decide +kernel, by decide +kernel⟩
def b1__law_groups  : FS :=
  (sSeq (sAsg (fzF (map2F (map2F (frF (mapF (aCons (eVar 1) aNil) gLst')) (mapF (aCons (eVar 6) aNil) listD) addD) (mapF (eC (.int 1)) negD) ixD)) (gNm 7))
  (sAsg (fzF (map2F (eVar 5) (frF (eComp (mapF (aCons (eVar 0) (aCons (map2F (eVar 7) (eC (.int 1)) addD) aNil)) rng2) (gNm 8) yesF (map2F (eVar 6) (mapF (aCons (eVar 8) aNil) gTup') addD) [8])) addD)) (gNm 5)))
def b2__law_groups  : FS :=
  (sSeq (sAsg (mapF aNil gLst') (gNm 5))
  (sSeq (sFor (mapF (eVar 3) seqD) (gNm 6) (b1__law_groups ))
  (sAsg (fzF (eVar 5)) (gNm 3))))
def r__law_groups  : FS :=
  (sSeq (sAsg (mapF (aCons (mapF aNil gTup') aNil) gLst') (gNm 3))
  (sSeq (sFor (mapF (aCons (eVar 2) aNil) rng1) (gNm 4) (b2__law_groups ))
  (sRet (oVar 3))))
theorem b__law_groups {P : Program} {w : World} {K : PySem.W.Frag} {mg : Str → Option Value} {base : Heap} {f : Addr}  {k : Nat}
    (g_range : mg "range" = none)
    (g_list : mg "list" = none)
    (cdv : Value) (A : Around) (outer : List PySem.Env) (s : Shared) (H : Hp) (E : XK) (hr : Room k (A.deeper (envOfC "_law_groups" (defScope s21) s.heap.objs.size f cdv))) :
    DSs (cxOf CX0 P w K mg base N__law_groups "_law_groups" (defScope s21) f cdv A outer s H E).nox (defBody s21) (r__law_groups ) := by
  have nd : (N__law_groups).Nodup := sc__law_groups.nd
  have h64 := hr.units
  have h1 : (A.deeper (envOfC "_law_groups" (defScope s21) s.heap.objs.size f cdv)).units + 1 < cLine := by omega
  have h70 : (A.deeper (envOfC "_law_groups" (defScope s21) s.heap.objs.size f cdv)).units + 70 < cLine := by have := hr.un; omega
  exact (dss_cons (ds_asg (do_lst (da_cons (de_tup da_nil) da_nil)) (dg_name 3 nd))
    (dss_cons (ds_for PassesOwn.never rfl (di_range1 rfl g_range (da_cons (dv 2) da_nil)) (dg_name 4 nd) (dss_cons (ds_asg (do_lst da_nil) (dg_name 5 nd))
    (dss_cons (ds_for PassesOwn.never rfl (di_seq (dv 3)) (dg_name 6 nd) (dss_cons (ds_asg (do_of (de_ix h1 (de_add (de_of (do_lst (da_cons (dv 1) da_nil))) (de_list rfl g_list (da_cons (dv 6) da_nil))) (de_neg de_int) (fun _ _ => rfl))) (dg_name 7 nd))
    (dss_one (ds_asg (do_of (de_add (dv 5) (de_of (do_lc (own := [("_law_teeth", 8)]) rfl nd (di_range2 rfl g_range (da_cons (dv 0) (da_cons (de_add (dv 7) de_int) da_nil))) (blk_ok (N := N__law_groups) (sc := defScope s21) rfl (by decide +kernel) (by decide +kernel) (by decide +kernel) (by decide +kernel)) (fun _ _ _ _ _ => (dg_name 8 nd)) (fun _ _ _ _ _ => dts_nil) (fun _ _ _ _ _ => (de_add (dv 6) (de_tup (da_cons (dv 8) da_nil)))))))) (dg_name 5 nd)))))
    (dss_one (ds_asg (do_of (dv 5)) (dg_name 3 nd))))))
    (dss_one (ds_ret (dvo 3)))))
abbrev N__law_product : List Str := ["_law_group", "_law_found", "_law_teeth"]
theorem sc__law_product : FnScope N__law_product ["_law_group"] (defScope s22) := ⟨rfl, rfl, rfl, by decide +kernel, rfl, by decide +kernel, by decide +kernel⟩
def b1__law_product  : FS :=
  (sAsg (fzF (map2F (eVar 1) (eVar 2) mulU)) (gNm 1))
def r__law_product  : FS :=
  (sSeq (sAsg (fzF (eC (.int 1))) (gNm 1))
  (sSeq (sFor (mapF (eVar 0) seqD) (gNm 2) (b1__law_product ))
  (sRet (oVar 1))))
theorem b__law_product {P : Program} {w : World} {K : PySem.W.Frag} {mg : Str → Option Value} {base : Heap} {f : Addr}  {k : Nat}
    
    (cdv : Value) (A : Around) (outer : List PySem.Env) (s : Shared) (H : Hp) (E : XK) (hr : Room k (A.deeper (envOfC "_law_product" (defScope s22) s.heap.objs.size f cdv))) :
    DSs (cxOf CX0 P w K mg base N__law_product "_law_product" (defScope s22) f cdv A outer s H E).nox (defBody s22) (r__law_product ) := by
  have nd : (N__law_product).Nodup := sc__law_product.nd
  have h64 := hr.units
  have h1 : (A.deeper (envOfC "_law_product" (defScope s22) s.heap.objs.size f cdv)).units + 1 < cLine := by omega
  have h70 : (A.deeper (envOfC "_law_product" (defScope s22) s.heap.objs.size f cdv)).units + 70 < cLine := by have := hr.un; omega
  exact (dss_cons (ds_asg (do_of de_int) (dg_name 1 nd))
    (dss_cons (ds_for PassesOwn.never rfl (di_seq (dv 0)) (dg_name 2 nd) (dss_one (ds_asg (do_of (de_mul (dv 1) (dv 2))) (dg_name 1 nd))))
    (dss_one (ds_ret (dvo 1)))))
abbrev N__law_best : List Str := ["_law_top", "_law_bottom", "_law_least", "_law_most", "_law_pairs", "_law_many", "_law_groups_here", "_law_found", "_law_driving", "_law_driven"]
theorem sc__law_best : FnScope N__law_best ["_law_top", "_law_bottom", "_law_least", "_law_most", "_law_pairs"] (defScope s23) := ⟨rfl, rfl, rfl, by decide +kernel, rfl, by decide +kernel, by decide +kernel⟩
noncomputable def b1__law_best (sp__law_product : List D → Option O) (sp__law_groups : List D → Option O) : FS :=
  (sIf (mapF (map2F (map2F (frF (callF sp__law_product [] (aCons (eVar 8) aNil))) (eVar 1) mulU) (map2F (frF (callF sp__law_product [] (aCons (eVar 9) aNil))) (eVar 0) mulU) eqD) unB) (sExpr (eAppend 7 (fzF (mapF (aCons (map2F (mapF (aCons (eVar 8) aNil) sumD) (mapF (aCons (eVar 9) aNil) sumD) addD) (aCons (frF (mapF (aCons (eVar 8) (aCons (eVar 9) aNil)) lzD)) aNil)) gTup')))) sNext)
noncomputable def b2__law_best (sp__law_product : List D → Option O) (sp__law_groups : List D → Option O) : FS :=
  (sFor (mapF (eVar 6) seqD) (gNm 9) (b1__law_best sp__law_product sp__law_groups))
noncomputable def b3__law_best (sp__law_product : List D → Option O) (sp__law_groups : List D → Option O) : FS :=
  (sSeq (sAsg (callF sp__law_groups [] (aCons (eVar 2) (aCons (eVar 3) (aCons (eVar 5) aNil)))) (gNm 6))
  (sSeq (sAsg (mapF aNil gLst') (gNm 7))
  (sSeq (sFor (mapF (eVar 6) seqD) (gNm 8) (b2__law_best sp__law_product sp__law_groups))
  (sIf (mapF (map2F (eVar 7) (frF (mapF aNil gLst')) neD) unB) (sRet (fzF (map2F (mapF (aCons (eVar 7) aNil) minL) (eC (.int 1)) ixD))) sNext))))
noncomputable def r__law_best (sp__law_product : List D → Option O) (sp__law_groups : List D → Option O) : FS :=
  (sSeq (sFor (mapF (aCons (eC (.int 1)) (aCons (map2F (eVar 4) (eC (.int 1)) addD) aNil)) rng2) (gNm 5) (b3__law_best sp__law_product sp__law_groups))
  (sRet (fzF (eC .non))))
theorem b__law_best {P : Program} {w : World} {K : PySem.W.Frag} {mg : Str → Option Value} {base : Heap} {f : Addr} {sp__law_product : List D → Option O} {sp__law_groups : List D → Option O} {k : Nat}
    (g_range : mg "range" = none)
    (g_min : mg "min" = none)
    (c__law_product : Cal P w K mg base "_law_product" k sp__law_product [])
    (g_list : mg "list" = none)
    (g_zip : mg "zip" = none)
    (g_sum : mg "sum" = none)
    (c__law_groups : Cal P w K mg base "_law_groups" k sp__law_groups [])
    (cdv : Value) (A : Around) (outer : List PySem.Env) (s : Shared) (H : Hp) (E : XK) (hr : Room k (A.deeper (envOfC "_law_best" (defScope s23) s.heap.objs.size f cdv))) :
    DSs (cxOf CX0 P w K mg base N__law_best "_law_best" (defScope s23) f cdv A outer s H E).nox (defBody s23) (r__law_best sp__law_product sp__law_groups) := by
  have nd : (N__law_best).Nodup := sc__law_best.nd
  have h64 := hr.units
  have h1 : (A.deeper (envOfC "_law_best" (defScope s23) s.heap.objs.size f cdv)).units + 1 < cLine := by omega
  have h70 : (A.deeper (envOfC "_law_best" (defScope s23) s.heap.objs.size f cdv)).units + 70 < cLine := by have := hr.un; omega
  exact (dss_cons (ds_for PassesOwn.never rfl (di_range2 rfl g_range (da_cons de_int (da_cons (de_add (dv 4) de_int) da_nil))) (dg_name 5 nd) (dss_cons (ds_asg (do_c c__law_groups hr (da_cons (dv 2) (da_cons (dv 3) (da_cons (dv 5) da_nil)))) (dg_name 6 nd))
    (dss_cons (ds_asg (do_lst da_nil) (dg_name 7 nd))
    (dss_cons (ds_for PassesOwn.never rfl (di_seq (dv 6)) (dg_name 8 nd) (dss_one (ds_for PassesOwn.never rfl (di_seq (dv 6)) (dg_name 9 nd) (dss_one (ds_if (dt_eq h64 (de_mul (de_of (do_c c__law_product hr (da_cons (dv 8) da_nil))) (dv 1)) (de_mul (de_of (do_c c__law_product hr (da_cons (dv 9) da_nil))) (dv 0))) (dss_one (ds_expr (de_append 7 (pv 7) (do_of (de_tup (da_cons (de_add (de_sum rfl rfl g_sum (da_cons (dv 8) da_nil)) (de_sum rfl rfl g_sum (da_cons (dv 9) da_nil))) (da_cons (de_of (do_listZip rfl rfl g_list rfl g_zip (da_cons (dv 8) (da_cons (dv 9) da_nil)))) da_nil))))))) dss_nil)))))
    (dss_one (ds_if (dt_ne h64 (dv 7) (de_of (do_lst da_nil))) (dss_one (ds_ret (do_of (de_ix h1 (de_minL rfl h70 rfl g_min (da_cons (dv 7) da_nil)) de_int (fun _ _ => rfl))))) dss_nil))))))
    (dss_one (ds_ret (do_of de_non))))
abbrev N__law_ratio : List Str := ["_law_cell", "_law_least", "_law_most", "_law_pairs", "_law_top", "_law_bottom", "_law_k", "_law_way"]
theorem sc__law_ratio : FnScope N__law_ratio ["_law_cell", "_law_least", "_law_most", "_law_pairs"] (defScope s24) := ⟨rfl, rfl, rfl, by decide +kernel, rfl, by decide +kernel, by decide +kernel⟩
def b1__law_ratio (sp__law_mix : List D → Option O) : FS :=
  (sSeq (sAsg (fzF (map2F (eVar 4) (map2F (eVar 1) (map2F (frF (callF sp__law_mix [] (aCons (eVar 0) (aCons (map2F (eC (.int 10)) (eVar 6) addD) aNil)))) (map2F (map2F (eVar 2) (eVar 1) subD) (eC (.int 1)) addD) modD) addD) mulU)) (gNm 4))
  (sAsg (fzF (map2F (eVar 5) (map2F (eVar 1) (map2F (frF (callF sp__law_mix [] (aCons (eVar 0) (aCons (map2F (eC (.int 20)) (eVar 6) addD) aNil)))) (map2F (map2F (eVar 2) (eVar 1) subD) (eC (.int 1)) addD) modD) addD) mulU)) (gNm 5)))
def r__law_ratio (sp__law_mix : List D → Option O) : FS :=
  (sSeq (sAsg (fzF (eC (.int 1))) (gNm 4))
  (sSeq (sAsg (fzF (eC (.int 1))) (gNm 5))
  (sSeq (sFor (mapF (aCons (map2F (eC (.int 1)) (map2F (frF (callF sp__law_mix [] (aCons (eVar 0) (aCons (eC (.int 1)) aNil)))) (eVar 3) modD) addD) aNil) rng1) (gNm 6) (b1__law_ratio sp__law_mix))
  (sSeq (sAsg (fzF (map2F (frF (callF sp__law_mix [] (aCons (eVar 0) (aCons (eC (.int 2)) aNil)))) (eC (.int 8)) modD)) (gNm 7))
  (sSeq (sIf (mapF (map2F (eVar 7) (eC (.int 0)) eqD) unB) (sRet (fzF (mapF (aCons (map2F (eVar 4) (eC (.int 1)) addD) (aCons (eVar 5) aNil)) gTup'))) sNext)
  (sSeq (sIf (mapF (map2F (eVar 7) (eC (.int 1)) eqD) unB) (sRet (fzF (mapF (aCons (map2F (eC (.int 1)) (map2F (frF (callF sp__law_mix [] (aCons (eVar 0) (aCons (eC (.int 3)) aNil)))) (eC (.int 60)) modD) addD) (aCons (map2F (eC (.int 1)) (map2F (frF (callF sp__law_mix [] (aCons (eVar 0) (aCons (eC (.int 4)) aNil)))) (eC (.int 60)) modD) addD) aNil)) gTup'))) sNext)
  (sRet (fzF (mapF (aCons (eVar 4) (aCons (eVar 5) aNil)) gTup')))))))))
theorem b__law_ratio {P : Program} {w : World} {K : PySem.W.Frag} {mg : Str → Option Value} {base : Heap} {f : Addr} {sp__law_mix : List D → Option O} {k : Nat}
    (c__law_mix : Cal P w K mg base "_law_mix" k sp__law_mix [])
    (g_range : mg "range" = none)
    (cdv : Value) (A : Around) (outer : List PySem.Env) (s : Shared) (H : Hp) (E : XK) (hr : Room k (A.deeper (envOfC "_law_ratio" (defScope s24) s.heap.objs.size f cdv))) :
    DSs (cxOf CX0 P w K mg base N__law_ratio "_law_ratio" (defScope s24) f cdv A outer s H E).nox (defBody s24) (r__law_ratio sp__law_mix) := by
  have nd : (N__law_ratio).Nodup := sc__law_ratio.nd
  have h64 := hr.units
  have h1 : (A.deeper (envOfC "_law_ratio" (defScope s24) s.heap.objs.size f cdv)).units + 1 < cLine := by omega
  have h70 : (A.deeper (envOfC "_law_ratio" (defScope s24) s.heap.objs.size f cdv)).units + 70 < cLine := by have := hr.un; omega
  exact (dss_cons (ds_asg (do_of de_int) (dg_name 4 nd))
    (dss_cons (ds_asg (do_of de_int) (dg_name 5 nd))
    (dss_cons (ds_for PassesOwn.never rfl (di_range1 rfl g_range (da_cons (de_add de_int (de_mod (de_of (do_c c__law_mix hr (da_cons (dv 0) (da_cons de_int da_nil)))) (dv 3))) da_nil)) (dg_name 6 nd) (dss_cons (ds_asg (do_of (de_mul (dv 4) (de_add (dv 1) (de_mod (de_of (do_c c__law_mix hr (da_cons (dv 0) (da_cons (de_add de_int (dv 6)) da_nil)))) (de_add (de_sub (dv 2) (dv 1)) de_int))))) (dg_name 4 nd))
    (dss_one (ds_asg (do_of (de_mul (dv 5) (de_add (dv 1) (de_mod (de_of (do_c c__law_mix hr (da_cons (dv 0) (da_cons (de_add de_int (dv 6)) da_nil)))) (de_add (de_sub (dv 2) (dv 1)) de_int))))) (dg_name 5 nd)))))
    (dss_cons (ds_asg (do_of (de_mod (de_of (do_c c__law_mix hr (da_cons (dv 0) (da_cons de_int da_nil)))) de_int)) (dg_name 7 nd))
    (dss_cons (ds_if (dt_eq h64 (dv 7) de_int) (dss_one (ds_ret (do_of (de_tup (da_cons (de_add (dv 4) de_int) (da_cons (dv 5) da_nil)))))) dss_nil)
    (dss_cons (ds_if (dt_eq h64 (dv 7) de_int) (dss_one (ds_ret (do_of (de_tup (da_cons (de_add de_int (de_mod (de_of (do_c c__law_mix hr (da_cons (dv 0) (da_cons de_int da_nil)))) de_int)) (da_cons (de_add de_int (de_mod (de_of (do_c c__law_mix hr (da_cons (dv 0) (da_cons de_int da_nil)))) de_int)) da_nil)))))) dss_nil)
    (dss_one (ds_ret (do_of (de_tup (da_cons (dv 4) (da_cons (dv 5) da_nil))))))))))))
abbrev N_law : List Str := ["_law_script", "_law_great", "_law_k", "_law_cell", "_law_one", "_law_pairs", "_law_least", "_law_wide", "_law_most", "_law_due", "_law_found", "_law_top", "_law_bottom"]
theorem sc_law : FnScope N_law ["_law_script"] (defScope s25) := ⟨rfl, rfl, rfl, by decide +kernel, rfl, by decide +kernel, by decide +kernel⟩
def b1_law (sp_Ratio_told : List D → Option O) (sp_ratio_of : List D → Option O) (sp_fewest : List D → Option O) (fm_Ratio : FM) (sp__law_mix : List D → Option O) (sp__law_best : List D → Option O) (sp__law_ratio : List D → Option O) : FS :=
  (sSeq (sAsg (callF sp__law_mix [] (aCons (eVar 3) (aCons (eVar 2) aNil))) (gNm 4))
  (sSeq (sAsg (fzF (map2F (eC (.int 1)) (map2F (frF (callF sp__law_mix [] (aCons (eVar 4) (aCons (eC (.int 1)) aNil)))) (eC (.int 3)) modD) addD)) (gNm 5))
  (sSeq (sAsg (fzF (map2F (eC (.int 6)) (map2F (frF (callF sp__law_mix [] (aCons (eVar 4) (aCons (eC (.int 2)) aNil)))) (map2F (frF (mapF (aCons (eC (.int 4)) (aCons (eC (.int 50)) aNil)) gLst')) (map2F (frF (callF sp__law_mix [] (aCons (eVar 4) (aCons (eC (.int 5)) aNil)))) (eC (.int 2)) modD) ixD) modD) addD)) (gNm 6))
  (sSeq (sAsg (fzF (map2F (frF (mapF (aCons (eC (.int 9)) (aCons (eC (.int 9)) (aCons (map2F (frF (mapF (aCons (eC (.int 4)) (aCons (eC (.int 7)) aNil)) gLst')) (mapF (aCons (map2F (map2F (frF (callF sp__law_mix [] (aCons (eVar 4) (aCons (eC (.int 9)) aNil)))) (eC (.int 8)) modD) (eC (.int 0)) eqD) aNil) intD) ixD) aNil))) gLst')) (map2F (eVar 5) (eC (.int 1)) subD) ixD)) (gNm 7))
  (sSeq (sAsg (fzF (mapF (aCons (eC (.int 60)) (aCons (map2F (eVar 6) (map2F (frF (callF sp__law_mix [] (aCons (eVar 4) (aCons (eC (.int 3)) aNil)))) (eVar 7) modD) addD) aNil)) min2D)) (gNm 8))
  (sSeq (sAsg (callF sp__law_ratio [] (aCons (frF (callF sp__law_mix [] (aCons (eVar 4) (aCons (eC (.int 4)) aNil)))) (aCons (eVar 6) (aCons (eVar 8) (aCons (eVar 5) aNil))))) (gTp 2 (gsCons (gNm 11) (gsCons (gNm 12) gsNil))))
  (sSeq (sIf (peekT (mapF (map2F (map2F (frF (callF sp__law_mix [] (aCons (eVar 4) (aCons (eC (.int 6)) aNil)))) (eC (.int 4)) modD) (eC (.int 0)) eqD) unB)) (sSeq (sAsg (fzF (mapF (aCons (eC (.int 2)) (aCons (eC (.int 6)) (aCons (eC (.int 14)) aNil))) gTup')) (gTp 3 (gsCons (gNm 5) (gsCons (gNm 6) (gsCons (gNm 8) gsNil)))))
  (sSeq (sAsg (fzF (map2F (frF (mapF (aCons (eC (.int 143)) (aCons (eC (.int 121)) (aCons (eC (.int 169)) aNil))) gLst')) (map2F (frF (callF sp__law_mix [] (aCons (eVar 4) (aCons (eC (.int 7)) aNil)))) (eC (.int 3)) modD) ixD)) (gNm 11))
  (sSeq (sAsg (fzF (map2F (frF (mapF (aCons (eC (.int 72)) (aCons (eC (.int 84)) aNil)) gLst')) (map2F (frF (callF sp__law_mix [] (aCons (eVar 4) (aCons (eC (.int 8)) aNil)))) (eC (.int 2)) modD) ixD)) (gNm 12))
  (sIf (peekT (mapF (map2F (map2F (frF (callF sp__law_mix [] (aCons (eVar 4) (aCons (eC (.int 10)) aNil)))) (eC (.int 3)) modD) (eC (.int 0)) eqD) unB)) (sSeq (sAsg (fzF (eC (.int 3))) (gNm 5))
  (sAsg (fzF (map2F (frF (mapF (aCons (mapF (aCons (eC (.int 1859)) (aCons (eC (.int 1008)) aNil)) gTup') (aCons (mapF (aCons (eC (.int 1008)) (aCons (eC (.int 1859)) aNil)) gTup') (aCons (mapF (aCons (eC (.int 1573)) (aCons (eC (.int 1008)) aNil)) gTup') aNil))) gLst')) (map2F (frF (callF sp__law_mix [] (aCons (eVar 4) (aCons (eC (.int 7)) aNil)))) (eC (.int 3)) modD) ixD)) (gTp 2 (gsCons (gNm 11) (gsCons (gNm 12) gsNil))))) sNext)))) sNext)
  (sSeq (sAsg (callF sp__law_best [] (aCons (eVar 11) (aCons (eVar 12) (aCons (eVar 6) (aCons (eVar 8) (aCons (eVar 5) aNil)))))) (gNm 9))
  (sSeq (sAsg (callF sp_fewest [] (aCons (frF (makeF 0 fm_Ratio [] (aCons (eVar 11) (aCons (eVar 12) aNil)))) (aCons (eVar 6) (aCons (eVar 8) (aCons (eVar 5) aNil))))) (gNm 10))
  (sSeq (sIf (peekT (orF (mapF (map2F (eVar 10) (eVar 9) neD) unB) (andF (mapF (mapF (eVar 9) notN) unB) (notF (mapF (mapF (eVar 10) isListD) unB))))) (sRet (fzF (eC (.bl false)))) sNext)
  (sIf (peekT (mapF (mapF (eVar 9) notN) unB)) (sSeq (sIf (peekT (mapF (map2F (frF (methF 0 sp_Ratio_told [] (frF (callF sp_ratio_of [] (aCons (eVar 10) aNil))) aNil)) (frF (methF 0 sp_Ratio_told [] (frF (makeF 0 fm_Ratio [] (aCons (eVar 11) (aCons (eVar 12) aNil)))) aNil)) neD) unB)) (sRet (fzF (eC (.bl false)))) sNext)
  (sSeq (sExpr (eAppend 10 (fzF (mapF (aCons (eC (.int 6)) (aCons (eC (.int 6)) aNil)) gTup'))))
  (sIf (peekT (mapF (map2F (frF (callF sp_fewest [] (aCons (frF (makeF 0 fm_Ratio [] (aCons (eVar 11) (aCons (eVar 12) aNil)))) (aCons (eVar 6) (aCons (eVar 8) (aCons (eVar 5) aNil)))))) (eVar 9) neD) unB)) (sRet (fzF (eC (.bl false)))) sNext))) sNext)))))))))))
def r_law (sp_Ratio_told : List D → Option O) (sp_ratio_of : List D → Option O) (sp_fewest : List D → Option O) (fm_Ratio : FM) (sp__law_mix : List D → Option O) (sp__law_best : List D → Option O) (sp__law_ratio : List D → Option O) : FS :=
  (sSeq (sFor (mapF (aCons (eCut (eVar 0) pNo (pSome (eC (.int 4)))) aNil) enumD) (gTp 2 (gsCons (gNm 2) (gsCons (gNm 3) gsNil))) (b1_law sp_Ratio_told sp_ratio_of sp_fewest fm_Ratio sp__law_mix sp__law_best sp__law_ratio))
  (sSeq (sAsg (makeF 0 fm_Ratio [] (aCons (map2F (map2F (map2F (eC (.int 10)) (eC (.int 30)) powD) (eC (.int 57)) addD) (frF (callF sp__law_mix [] (aCons (mapF (aCons (eVar 0) aNil) lenD) (aCons (eC (.int 1)) aNil)))) addD) (aCons (map2F (eC (.int 10)) (eC (.int 30)) powD) aNil))) (gNm 1))
  (sSeq (sIf (peekT (orF (mapF (mapF (frF (callF sp_fewest [] (aCons (eVar 1) (aCons (eC (.int 6)) (aCons (eC (.int 12)) (aCons (eC (.int 2)) aNil)))))) notN) unB) (mapF (map2F (frF (methF 0 sp_Ratio_told [] (frF (callF sp_ratio_of [] (aCons (mapF (aCons (mapF (aCons (eC (.int 12)) (aCons (eC (.int 6)) aNil)) gTup') (aCons (mapF (aCons (eC (.int 7)) (aCons (eC (.int 9)) aNil)) gTup') aNil)) gTup') aNil))) aNil)) (mapF (aCons (eC (.int 14)) (aCons (eC (.int 9)) aNil)) gTup') neD) unB))) (sRet (fzF (eC (.bl false)))) sNext)
  (sRet (fzF (map2F (frF (methF 0 sp_Ratio_told [] (frF (callF sp_ratio_of [] (aCons (frF (mapF aNil gLst')) aNil))) aNil)) (mapF (aCons (eC (.int 1)) (aCons (eC (.int 1)) aNil)) gTup') eqD))))))
theorem b_law {P : Program} {w : World} {K : PySem.W.Frag} {mg : Str → Option Value} {base : Heap} {f : Addr} {sp_Ratio_told : List D → Option O} {sp_ratio_of : List D → Option O} {sp_fewest : List D → Option O} {fm_Ratio : FM} {sp__law_mix : List D → Option O} {sp__law_best : List D → Option O} {sp__law_ratio : List D → Option O} {k : Nat}
    (m_Ratio_told : Met P w K mg base 0 "told" k sp_Ratio_told [])
    (c_ratio_of : Cal P w K mg base "ratio_of" k sp_ratio_of [])
    (c_fewest : Cal P w K mg base "fewest" k sp_fewest [])
    (k_Ratio : Mak P w K mg base "Ratio" 0 k fm_Ratio [])
    (c__law_mix : Cal P w K mg base "_law_mix" k sp__law_mix [])
    (g_len : mg "len" = none)
    (g_enumerate : mg "enumerate" = none)
    (g_isinstance : mg "isinstance" = none)
    (g_list : mg "list" = none)
    (c__law_best : Cal P w K mg base "_law_best" k sp__law_best [])
    (c__law_ratio : Cal P w K mg base "_law_ratio" k sp__law_ratio [])
    (g_min : mg "min" = none)
    (g_int : mg "int" = none)
    (cdv : Value) (A : Around) (outer : List PySem.Env) (s : Shared) (H : Hp) (E : XK) (hr : Room k (A.deeper (envOfC "law" (defScope s25) s.heap.objs.size f cdv))) :
    DSs (cxOf CX0 P w K mg base N_law "law" (defScope s25) f cdv A outer s H E).nox (defBody s25) (r_law sp_Ratio_told sp_ratio_of sp_fewest fm_Ratio sp__law_mix sp__law_best sp__law_ratio) := by
  have nd : (N_law).Nodup := sc_law.nd
  have h64 := hr.units
  have h1 : (A.deeper (envOfC "law" (defScope s25) s.heap.objs.size f cdv)).units + 1 < cLine := by omega
  have h70 : (A.deeper (envOfC "law" (defScope s25) s.heap.objs.size f cdv)).units + 70 < cLine := by have := hr.un; omega
  exact (dss_cons (ds_for PassesOwn.never rfl (di_enum rfl g_enumerate (da_cons (de_cut (dv 0) dp_none (dp_some de_int)) da_nil)) (dg_tup rfl (dgs_cons (dg_name 2 nd) (dgs_cons (dg_name 3 nd) dgs_nil))) (dss_cons (ds_asg (do_c c__law_mix hr (da_cons (dv 3) (da_cons (dv 2) da_nil))) (dg_name 4 nd))
    (dss_cons (ds_asg (do_of (de_add de_int (de_mod (de_of (do_c c__law_mix hr (da_cons (dv 4) (da_cons de_int da_nil)))) de_int))) (dg_name 5 nd))
    (dss_cons (ds_asg (do_of (de_add de_int (de_mod (de_of (do_c c__law_mix hr (da_cons (dv 4) (da_cons de_int da_nil)))) (de_ix h1 (de_of (do_lst (da_cons de_int (da_cons de_int da_nil)))) (de_mod (de_of (do_c c__law_mix hr (da_cons (dv 4) (da_cons de_int da_nil)))) de_int) (fun _ _ => rfl))))) (dg_name 6 nd))
    (dss_cons (ds_asg (do_of (de_ix h1 (de_of (do_lst (da_cons de_int (da_cons de_int (da_cons (de_ix h1 (de_of (do_lst (da_cons de_int (da_cons de_int da_nil)))) (de_int1 rfl g_int (da_cons (de_eq h64 (de_mod (de_of (do_c c__law_mix hr (da_cons (dv 4) (da_cons de_int da_nil)))) de_int) de_int) da_nil)) (fun _ _ => rfl)) da_nil))))) (de_sub (dv 5) de_int) (fun _ _ => rfl))) (dg_name 7 nd))
    (dss_cons (ds_asg (do_of (de_min2 rfl rfl g_min (da_cons de_int (da_cons (de_add (dv 6) (de_mod (de_of (do_c c__law_mix hr (da_cons (dv 4) (da_cons de_int da_nil)))) (dv 7))) da_nil)))) (dg_name 8 nd))
    (dss_cons (ds_asg (do_c c__law_ratio hr (da_cons (de_of (do_c c__law_mix hr (da_cons (dv 4) (da_cons de_int da_nil)))) (da_cons (dv 6) (da_cons (dv 8) (da_cons (dv 5) da_nil))))) (dg_tup rfl (dgs_cons (dg_name 11 nd) (dgs_cons (dg_name 12 nd) dgs_nil))))
    (dss_cons (ds_if (dt_peek (dt_eq h64 (de_mod (de_of (do_c c__law_mix hr (da_cons (dv 4) (da_cons de_int da_nil)))) de_int) de_int)) (dss_cons (ds_asg (do_of (de_tup (da_cons de_int (da_cons de_int (da_cons de_int da_nil))))) (dg_tup rfl (dgs_cons (dg_name 5 nd) (dgs_cons (dg_name 6 nd) (dgs_cons (dg_name 8 nd) dgs_nil)))))
    (dss_cons (ds_asg (do_of (de_ix h1 (de_of (do_lst (da_cons de_int (da_cons de_int (da_cons de_int da_nil))))) (de_mod (de_of (do_c c__law_mix hr (da_cons (dv 4) (da_cons de_int da_nil)))) de_int) (fun _ _ => rfl))) (dg_name 11 nd))
    (dss_cons (ds_asg (do_of (de_ix h1 (de_of (do_lst (da_cons de_int (da_cons de_int da_nil)))) (de_mod (de_of (do_c c__law_mix hr (da_cons (dv 4) (da_cons de_int da_nil)))) de_int) (fun _ _ => rfl))) (dg_name 12 nd))
    (dss_one (ds_if (dt_peek (dt_eq h64 (de_mod (de_of (do_c c__law_mix hr (da_cons (dv 4) (da_cons de_int da_nil)))) de_int) de_int)) (dss_cons (ds_asg (do_of de_int) (dg_name 5 nd))
    (dss_one (ds_asg (do_of (de_ix h1 (de_of (do_lst (da_cons (de_tup (da_cons de_int (da_cons de_int da_nil))) (da_cons (de_tup (da_cons de_int (da_cons de_int da_nil))) (da_cons (de_tup (da_cons de_int (da_cons de_int da_nil))) da_nil))))) (de_mod (de_of (do_c c__law_mix hr (da_cons (dv 4) (da_cons de_int da_nil)))) de_int) (fun _ _ => rfl))) (dg_tup rfl (dgs_cons (dg_name 11 nd) (dgs_cons (dg_name 12 nd) dgs_nil)))))) dss_nil))))) dss_nil)
    (dss_cons (ds_asg (do_c c__law_best hr (da_cons (dv 11) (da_cons (dv 12) (da_cons (dv 6) (da_cons (dv 8) (da_cons (dv 5) da_nil)))))) (dg_name 9 nd))
    (dss_cons (ds_asg (do_c c_fewest hr (da_cons (de_of (do_mk k_Ratio hr (da_cons (dv 11) (da_cons (dv 12) da_nil)))) (da_cons (dv 6) (da_cons (dv 8) (da_cons (dv 5) da_nil))))) (dg_name 10 nd))
    (dss_cons (ds_if (dt_peek (dw_dt (dw_or (dt_ne h64 (dv 10) (dv 9)) (dw_or1 (dw_dt (dw_and (dt_notN (dv 9)) (dw_and1 (dt_not (dt_val (de_isList rfl g_isinstance rfl g_list (dv 10))))))))))) (dss_one (ds_ret (do_of de_bl))) dss_nil)
    (dss_one (ds_if (dt_peek (dt_notN (dv 9))) (dss_cons (ds_if (dt_peek (dt_ne h64 (de_of (do_m0 m_Ratio_told hr (de_of (do_c c_ratio_of hr (da_cons (dv 10) da_nil))))) (de_of (do_m0 m_Ratio_told hr (de_of (do_mk k_Ratio hr (da_cons (dv 11) (da_cons (dv 12) da_nil)))))))) (dss_one (ds_ret (do_of de_bl))) dss_nil)
    (dss_cons (ds_expr (de_append 10 (pv 10) (do_of (de_tup (da_cons de_int (da_cons de_int da_nil))))))
    (dss_one (ds_if (dt_peek (dt_ne h64 (de_of (do_c c_fewest hr (da_cons (de_of (do_mk k_Ratio hr (da_cons (dv 11) (da_cons (dv 12) da_nil)))) (da_cons (dv 6) (da_cons (dv 8) (da_cons (dv 5) da_nil)))))) (dv 9))) (dss_one (ds_ret (do_of de_bl))) dss_nil)))) dss_nil)))))))))))))
    (dss_cons (ds_asg (do_mk k_Ratio hr (da_cons (de_add (de_add (de_pow de_int de_int) de_int) (de_of (do_c c__law_mix hr (da_cons (de_len rfl g_len (da_cons (dv 0) da_nil)) (da_cons de_int da_nil))))) (da_cons (de_pow de_int de_int) da_nil))) (dg_name 1 nd))
    (dss_cons (ds_if (dt_peek (dw_dt (dw_or (dt_notN (de_of (do_c c_fewest hr (da_cons (dv 1) (da_cons de_int (da_cons de_int (da_cons de_int da_nil))))))) (dw_or1 (dt_ne h64 (de_of (do_m0 m_Ratio_told hr (de_of (do_c c_ratio_of hr (da_cons (de_tup (da_cons (de_tup (da_cons de_int (da_cons de_int da_nil))) (da_cons (de_tup (da_cons de_int (da_cons de_int da_nil))) da_nil))) da_nil))))) (de_tup (da_cons de_int (da_cons de_int da_nil)))))))) (dss_one (ds_ret (do_of de_bl))) dss_nil)
    (dss_one (ds_ret (do_of (de_eq h64 (de_of (do_m0 m_Ratio_told hr (de_of (do_c c_ratio_of hr (da_cons (de_of (do_lst da_nil)) da_nil))))) (de_tup (da_cons de_int (da_cons de_int da_nil))))))))))
end T
namespace T
open PySem PySem.Spec PyProof.Rows L2 Hd
theorem cls_0 {K : PySem.W.Frag} (c : He.SaysD fa fn K) : ClsOk K 0 := ⟨He.cls_ok (c.fact 4 (f := .cls "Ratio") rfl), fun f hf => by
  have hf2 : f ∈ (["top", "bottom"] : List Str) := hf
  simp only [List.mem_cons, List.not_mem_nil, or_false] at hf2
  rcases hf2 with rfl | rfl
  · exact He.noat_ok (c.fact 6 (f := .noat "Ratio" "top") rfl)
  · exact He.noat_ok (c.fact 7 (f := .noat "Ratio" "bottom") rfl)
  , by decide⟩
noncomputable def sp_common : List D → Option O := spOf 2 2 (r_common )
theorem cal_common {P : Program} {w : World} {K : PySem.W.Frag} {h : Heap} {mg : Str → Option Value} {base : Heap} (KX : K.In h) (G : h.Ns mainGlobals mg) (c : He.SaysD fa fn K) : Cal P w K mg base "common" 1 sp_common [] := by
  obtain ⟨fd, F0⟩ := c.def_ 0 (d := d1) rfl
  have F : FunD K "common" "common" (defArgs s1) (defBody s1) (defScope s1) [] [] (He.fAd K d1.at_) fd := F0
  have ok := fn_P2 (P := P) (w := w) (mg := mg) (base := base) (k := 0) F sc_common (r_common ) (n := 2) (m := 2) rfl rfl (fun cdv A outer s H E hr => b_common (He.free_ok KX G (c.fact 26 (f := .free "abs") rfl)) cdv A outer s H E hr)
  exact ⟨_, fd, _, [], [], ok, He.glo_ok KX G (c.fact 2 (f := .glo "common") rfl), F.kp, F.bindsN (fun _ _ _ _ _ _ us hl => match us, hl with | [a0, a1], _ => rfl), .nil, fun _ => .nil⟩
theorem common_loop : ∀ (m : Nat) (a b : Int), 0 ≤ a → 0 ≤ b → b.toNat < m → whileN t2_common b1_common m [some (.fz (.int a)), some (.fz (.int b))] = some (.nx [some (.fz (.int (Int.gcd a b))), some (.fz (.int 0))])
  | 0, _, _, _, _, h => by omega
  | m + 1, a, b, ha, hb, h => by
    by_cases h0 : b = 0
    · subst h0
      have e : ((Int.gcd a 0 : Nat) : Int) = a := by rw [Int.gcd_zero_right]; omega
      rw [e]
      simp [whileN, t2_common]
    · have hp : 0 < b := by omega
      have h1 : a.fmod b = a % b := by rw [Int.fmod_eq_emod_of_nonneg _ hb]
      have h2 := Int.emod_nonneg a h0
      have h3 := Int.emod_lt_of_pos a hp
      have ih := common_loop m b (a % b) hb h2 (by omega)
      have e : Int.gcd b (a % b) = Int.gcd a b := by
        have z : a % b = a - a / b * b := by have := Int.emod_add_mul_ediv a b; rw [Int.mul_comm] at this; omega
        rw [Int.gcd_comm, z, Int.gcd_sub_mul_right_left]
      rw [e] at ih
      simp only [whileN]
      have c1 : t2_common [some (.fz (.int a)), some (.fz (.int b))] = some (true, [some (.fz (.int a)), some (.fz (.int b))]) := by simp [t2_common, hp]
      have c2 : b1_common [some (.fz (.int a)), some (.fz (.int b))] = some (.nx [some (.fz (.int b)), some (.fz (.int (a % b)))]) := by simp [b1_common, h0, h1]
      rw [c1]
      dsimp only
      rw [c2]
      exact ih
theorem sp_common_eq (a b : Int) : sp_common [.int a, .int b] = some (.fz (.int (Int.gcd a b))) := by
  have h := common_loop ((if b < 0 then -b else b).natAbs + 1) (if a < 0 then -a else a) (if b < 0 then -b else b) (by split <;> omega) (by split <;> omega) (by split <;> omega)
  have e : Int.gcd (if a < 0 then -a else a) (if b < 0 then -b else b) = Int.gcd a b := by
    split <;> split <;> simp [Int.gcd_neg, Int.neg_gcd]
  rw [e] at h
  unfold sp_common spOf r_common
  simp only [List.length_cons, List.length_nil, start0, List.map_cons, List.map_nil, Nat.reduceAdd, if_true, Nat.sub_self, List.replicate_zero, List.append_nil]
  simp [intAt]
  rw [h]
  simp [ends]
def big : Nat := 2 ^ 1000
theorem big_log {b : Nat} (h : b < big) : b.log2 < 9000 := by
  by_cases h0 : b = 0
  · subst h0; decide
  · have := (Nat.log2_lt h0).mpr (show b < 2 ^ 1000 from h)
    omega
def bothOf (t b : Int) : Int := if b < 0 then -(Int.gcd t b : Int) else (Int.gcd t b : Int)
def fm_Ratio : FM := fun os ds => match os, ds with
  | [], [.int t, .int b] => if b ≠ 0 ∧ b.natAbs < big then some (.fz .non, [.fz (.int (t / bothOf t b)), .fz (.int (b / bothOf t b))]) else none
  | _, _ => none
theorem fmlen_Ratio {os : List O} {ds : List D} {r : O × List O} (e : fm_Ratio os ds = some r) : ds.length + 1 = 3 := by
  unfold fm_Ratio at e
  split at e
  · rfl
  · cases e
theorem fmok_Ratio (x : Addr) {os : List O} {ds : List D} {r : O} {os' : List O} (e : fm_Ratio os ds = some (r, os')) : ∃ ρ', endsE (r_Ratio_init sp_common (some (.ins (some x) 0 os) :: start0 (4 - 1) ds)) = some (r, ρ') ∧ ρ'[0]? = some (some (.ins (some x) 0 os')) := by
  unfold fm_Ratio at e
  split at e
  · rename_i t b
    split at e
    · rename_i hb
      injection e with e
      injection e with e1 e2
      subst e1 e2
      have hg : (Int.gcd t b : Int) ≠ 0 := by
        intro z
        have : Int.gcd t b = 0 := by omega
        rw [Int.gcd_eq_zero_iff] at this
        exact hb.1 this.2
      have hle : Int.gcd t b ≤ b.natAbs := Nat.le_of_dvd (by omega) (Int.gcd_dvd_natAbs_right ..)
      have dt : (Int.gcd t b : Int) ∣ t := Int.gcd_dvd_left ..
      have db : (Int.gcd t b : Int) ∣ b := Int.gcd_dvd_right ..
      have hl := big_log (Nat.lt_of_le_of_lt hle hb.2)
      have q1 : t.fdiv (Int.gcd t b) = t / (Int.gcd t b : Int) := Int.fdiv_eq_ediv_of_dvd dt
      have q2 : b.fdiv (Int.gcd t b) = b / (Int.gcd t b : Int) := Int.fdiv_eq_ediv_of_dvd db
      have q3 : t.fdiv (-(Int.gcd t b : Int)) = t / (-(Int.gcd t b : Int)) := Int.fdiv_eq_ediv_of_dvd (Int.neg_dvd.mpr dt)
      have q4 : b.fdiv (-(Int.gcd t b : Int)) = b / (-(Int.gcd t b : Int)) := Int.fdiv_eq_ediv_of_dvd (Int.neg_dvd.mpr db)
      unfold r_Ratio_init bothOf
      by_cases hn : b < 0
      · simp [start0, hb.1, sp_common_eq, hn, fx_top, fx_bottom, hg, hl, q3, q4, endsE]
      · simp [start0, hb.1, sp_common_eq, hn, fx_top, fx_bottom, hg, hl, q1, q2, endsE]
    · cases e
  · cases e
theorem mak_Ratio {P : Program} {w : World} {K : PySem.W.Frag} {h : Heap} {mg : Str → Option Value} {base : Heap} (KX : K.In h) (G : h.Ns mainGlobals mg) (c : He.SaysD fa fn K) : Mak P w K mg base "Ratio" 0 3 fm_Ratio [] := by
  obtain ⟨fd, F0⟩ := c.def_ 1 (d := d2) rfl
  have F : FunD K "__init__" "Ratio.__init__" (defArgs s2) (defBody s2) (defScope s2) [.int 1] [] (He.fAd K d2.at_) fd := F0
  have ok := fn_M (P := P) (w := w) (mg := mg) (base := base) (C := 0) (k := 1) (fm := fm_Ratio) F sc_Ratio_init (r_Ratio_init sp_common) (fun os ds r e => fmlen_Ratio e) (fun cdv A outer s H E hr => b_Ratio_init (fxok_bottom (cls_0 c)) (fxok_top (cls_0 c)) ((cal_common KX G c).mono (by omega)) cdv A outer s H E hr) (fun x os ds r os' e => fmok_Ratio x e)
  obtain ⟨ds, hv, hb⟩ := F.binds1 (ps := ["self", "top", "bottom"]) 3 1 (by simp) (by rfl) (fun _ _ _ _ _ _ _ us its hu hi => match us, its, hu, hi with | [a0, a1, a2], [e0], _, _ => ⟨_, rfl, rfl⟩)
  exact ⟨_, fd, _, ds, _, _, by decide, He.mkr_ok (c.fact 5 (f := .mkr "Ratio") rfl), ok, He.glo_ok KX G (c.fact 3 (f := .glo "Ratio") rfl), hb, hv, fun _ => .nil⟩
theorem mak_Ratio_1 {P : Program} {w : World} {K : PySem.W.Frag} {h : Heap} {mg : Str → Option Value} {base : Heap} (KX : K.In h) (G : h.Ns mainGlobals mg) (c : He.SaysD fa fn K) : Mak P w K mg base "Ratio" 0 3 fm_Ratio [.int 1] := by
  obtain ⟨fd, F0⟩ := c.def_ 1 (d := d2) rfl
  have F : FunD K "__init__" "Ratio.__init__" (defArgs s2) (defBody s2) (defScope s2) [.int 1] [] (He.fAd K d2.at_) fd := F0
  have ok := fn_M (P := P) (w := w) (mg := mg) (base := base) (C := 0) (k := 1) (fm := fm_Ratio) F sc_Ratio_init (r_Ratio_init sp_common) (fun os ds r e => fmlen_Ratio e) (fun cdv A outer s H E hr => b_Ratio_init (fxok_bottom (cls_0 c)) (fxok_top (cls_0 c)) ((cal_common KX G c).mono (by omega)) cdv A outer s H E hr) (fun x os ds r os' e => fmok_Ratio x e)
  obtain ⟨ds, hv, hb⟩ := F.binds1 (ps := ["self", "top", "bottom"]) 2 0 (by simp) (by rfl) (fun _ _ _ _ _ _ _ us its hu hi => match us, its, hu, hi with | [a0, a1], [e0], _, _ => ⟨_, rfl, rfl⟩)
  exact ⟨_, fd, _, ds, _, _, by decide, He.mkr_ok (c.fact 5 (f := .mkr "Ratio") rfl), ok, He.glo_ok KX G (c.fact 3 (f := .glo "Ratio") rfl), hb, hv, fun _ => (.cons (.int _) .nil)⟩
noncomputable def sp_Ratio_times : List D → Option O := spOf 2 2 (r_Ratio_times fm_Ratio)
theorem met_Ratio_times {P : Program} {w : World} {K : PySem.W.Frag} {h : Heap} {mg : Str → Option Value} {base : Heap} (KX : K.In h) (G : h.Ns mainGlobals mg) (c : He.SaysD fa fn K) : Met P w K mg base 0 "times" 4 sp_Ratio_times [] := by
  obtain ⟨fd, F0⟩ := c.def_ 2 (d := d5) rfl
  have F : FunD K "times" "Ratio.times" (defArgs s5) (defBody s5) (defScope s5) [] [] (He.fAd K d5.at_) fd := F0
  have ok := fn_P2 (P := P) (w := w) (mg := mg) (base := base) (k := 3) F sc_Ratio_times (r_Ratio_times fm_Ratio) (n := 2) (m := 2) rfl rfl (fun cdv A outer s H E hr => b_Ratio_times ((mak_Ratio KX G c).mono (by omega)) (fxok_bottom (cls_0 c)) (fxok_top (cls_0 c)) cdv A outer s H E hr)
  exact ⟨_, fd, _, [], [], (cls_0 c).cl, He.meth_ok (c.fact 8 (f := .meth "Ratio" "times") rfl), ok, F.bindsN (fun _ _ _ _ _ _ us hl => match us, hl with | [a0, a1], _ => rfl), .nil, fun _ => .nil, by decide⟩
noncomputable def sp_Ratio_floor : List D → Option O := spOf 1 1 (r_Ratio_floor )
theorem met_Ratio_floor {P : Program} {w : World} {K : PySem.W.Frag} {h : Heap} {mg : Str → Option Value} {base : Heap} (KX : K.In h) (G : h.Ns mainGlobals mg) (c : He.SaysD fa fn K) : Met P w K mg base 0 "floor" 1 sp_Ratio_floor [] := by
  obtain ⟨fd, F0⟩ := c.def_ 3 (d := d9) rfl
  have F : FunD K "floor" "Ratio.floor" (defArgs s9) (defBody s9) (defScope s9) [] [] (He.fAd K d9.at_) fd := F0
  have ok := fn_P2 (P := P) (w := w) (mg := mg) (base := base) (k := 0) F sc_Ratio_floor (r_Ratio_floor ) (n := 1) (m := 1) rfl rfl (fun cdv A outer s H E hr => b_Ratio_floor (fxok_top (cls_0 c)) (fxok_bottom (cls_0 c)) cdv A outer s H E hr)
  exact ⟨_, fd, _, [], [], (cls_0 c).cl, He.meth_ok (c.fact 9 (f := .meth "Ratio" "floor") rfl), ok, F.bindsN (fun _ _ _ _ _ _ us hl => match us, hl with | [a0], _ => rfl), .nil, fun _ => .nil, by decide⟩
noncomputable def sp_Ratio_rest : List D → Option O := spOf 1 1 (r_Ratio_rest fm_Ratio)
theorem met_Ratio_rest {P : Program} {w : World} {K : PySem.W.Frag} {h : Heap} {mg : Str → Option Value} {base : Heap} (KX : K.In h) (G : h.Ns mainGlobals mg) (c : He.SaysD fa fn K) : Met P w K mg base 0 "rest" 4 sp_Ratio_rest [] := by
  obtain ⟨fd, F0⟩ := c.def_ 4 (d := d10) rfl
  have F : FunD K "rest" "Ratio.rest" (defArgs s10) (defBody s10) (defScope s10) [] [] (He.fAd K d10.at_) fd := F0
  have ok := fn_P2 (P := P) (w := w) (mg := mg) (base := base) (k := 3) F sc_Ratio_rest (r_Ratio_rest fm_Ratio) (n := 1) (m := 1) rfl rfl (fun cdv A outer s H E hr => b_Ratio_rest ((mak_Ratio KX G c).mono (by omega)) (fxok_bottom (cls_0 c)) (fxok_top (cls_0 c)) cdv A outer s H E hr)
  exact ⟨_, fd, _, [], [], (cls_0 c).cl, He.meth_ok (c.fact 10 (f := .meth "Ratio" "rest") rfl), ok, F.bindsN (fun _ _ _ _ _ _ us hl => match us, hl with | [a0], _ => rfl), .nil, fun _ => .nil, by decide⟩
noncomputable def sp_Ratio_told : List D → Option O := spOf 1 1 (r_Ratio_told )
theorem met_Ratio_told {P : Program} {w : World} {K : PySem.W.Frag} {h : Heap} {mg : Str → Option Value} {base : Heap} (KX : K.In h) (G : h.Ns mainGlobals mg) (c : He.SaysD fa fn K) : Met P w K mg base 0 "told" 1 sp_Ratio_told [] := by
  obtain ⟨fd, F0⟩ := c.def_ 5 (d := d11) rfl
  have F : FunD K "told" "Ratio.told" (defArgs s11) (defBody s11) (defScope s11) [] [] (He.fAd K d11.at_) fd := F0
  have ok := fn_P2 (P := P) (w := w) (mg := mg) (base := base) (k := 0) F sc_Ratio_told (r_Ratio_told ) (n := 1) (m := 1) rfl rfl (fun cdv A outer s H E hr => b_Ratio_told (fxok_bottom (cls_0 c)) (fxok_top (cls_0 c)) cdv A outer s H E hr)
  exact ⟨_, fd, _, [], [], (cls_0 c).cl, He.meth_ok (c.fact 11 (f := .meth "Ratio" "told") rfl), ok, F.bindsN (fun _ _ _ _ _ _ us hl => match us, hl with | [a0], _ => rfl), .nil, fun _ => .nil, by decide⟩
noncomputable def sp_ratio_of : List D → Option O := spOf 1 4 (r_ratio_of sp_Ratio_times fm_Ratio)
theorem cal_ratio_of {P : Program} {w : World} {K : PySem.W.Frag} {h : Heap} {mg : Str → Option Value} {base : Heap} (KX : K.In h) (G : h.Ns mainGlobals mg) (c : He.SaysD fa fn K) : Cal P w K mg base "ratio_of" 5 sp_ratio_of [] := by
  obtain ⟨fd, F0⟩ := c.def_ 6 (d := d13) rfl
  have F : FunD K "ratio_of" "ratio_of" (defArgs s13) (defBody s13) (defScope s13) [] [] (He.fAd K d13.at_) fd := F0
  have ok := fn_P2 (P := P) (w := w) (mg := mg) (base := base) (k := 4) F sc_ratio_of (r_ratio_of sp_Ratio_times fm_Ratio) (n := 1) (m := 4) rfl rfl (fun cdv A outer s H E hr => b_ratio_of ((met_Ratio_times KX G c).mono (by omega)) ((mak_Ratio KX G c).mono (by omega)) ((mak_Ratio_1 KX G c).mono (by omega)) cdv A outer s H E hr)
  exact ⟨_, fd, _, [], [], ok, He.glo_ok KX G (c.fact 12 (f := .glo "ratio_of") rfl), F.kp, F.bindsN (fun _ _ _ _ _ _ us hl => match us, hl with | [a0], _ => rfl), .nil, fun _ => .nil⟩
noncomputable def sq_groups_of : Nat → List D → Option O
  | 0 => fun _ => none
  | n + 1 => spOf 3 7 (r_groups_of (sq_groups_of n))
noncomputable def sp_groups_of : List D → Option O := sq_groups_of 20
theorem calq_groups_of {P : Program} {w : World} {K : PySem.W.Frag} {h : Heap} {mg : Str → Option Value} {base : Heap} (KX : K.In h) (G : h.Ns mainGlobals mg) (c : He.SaysD fa fn K) : ∀ n, Cal P w K mg base "groups_of" (0 + n) (sq_groups_of n) [] := by
  obtain ⟨fd, F0⟩ := c.def_ 7 (d := d14) rfl
  have F : FunD K "groups_of" "groups_of" (defArgs s14) (defBody s14) (defScope s14) [] [] (He.fAd K d14.at_) fd := F0
  intro n
  have hbd : Binds K fd ["least", "most", "many"] [] := F.bindsN (fun _ _ _ _ _ _ us hl => match us, hl with | [a0, a1, a2], _ => rfl)
  induction n with
  | zero => exact ⟨_, fd, ["least", "most", "many"], [], [], fn_none, He.glo_ok KX G (c.fact 13 (f := .glo "groups_of") rfl), F.kp, hbd, .nil, fun _ => .nil⟩
  | succ n ih =>
    have ok := fn_P2 (P := P) (w := w) (mg := mg) (base := base) (k := 0 + n) F sc_groups_of (r_groups_of (sq_groups_of n)) (n := 3) (m := 7) rfl rfl (fun cdv A outer s H E hr => b_groups_of ih (He.free_ok KX G (c.fact 34 (f := .free "range") rfl)) cdv A outer s H E hr)
    exact ⟨_, fd, _, [], [], ok, He.glo_ok KX G (c.fact 13 (f := .glo "groups_of") rfl), F.kp, hbd, .nil, fun _ => .nil⟩
theorem cal_groups_of {P : Program} {w : World} {K : PySem.W.Frag} {h : Heap} {mg : Str → Option Value} {base : Heap} (KX : K.In h) (G : h.Ns mainGlobals mg) (c : He.SaysD fa fn K) : Cal P w K mg base "groups_of" 20 sp_groups_of [] := calq_groups_of KX G c 20
noncomputable def sp_product_of : List D → Option O := spOf 1 3 (r_product_of )
theorem cal_product_of {P : Program} {w : World} {K : PySem.W.Frag} {h : Heap} {mg : Str → Option Value} {base : Heap} (KX : K.In h) (G : h.Ns mainGlobals mg) (c : He.SaysD fa fn K) : Cal P w K mg base "product_of" 1 sp_product_of [] := by
  obtain ⟨fd, F0⟩ := c.def_ 8 (d := d15) rfl
  have F : FunD K "product_of" "product_of" (defArgs s15) (defBody s15) (defScope s15) [] [] (He.fAd K d15.at_) fd := F0
  have ok := fn_P2 (P := P) (w := w) (mg := mg) (base := base) (k := 0) F sc_product_of (r_product_of ) (n := 1) (m := 3) rfl rfl (fun cdv A outer s H E hr => b_product_of  cdv A outer s H E hr)
  exact ⟨_, fd, _, [], [], ok, He.glo_ok KX G (c.fact 14 (f := .glo "product_of") rfl), F.kp, F.bindsN (fun _ _ _ _ _ _ us hl => match us, hl with | [a0], _ => rfl), .nil, fun _ => .nil⟩
noncomputable def sp_best_by_products : List D → Option O := spOf 1 5 (r_best_by_products sp_product_of)
theorem cal_best_by_products {P : Program} {w : World} {K : PySem.W.Frag} {h : Heap} {mg : Str → Option Value} {base : Heap} (KX : K.In h) (G : h.Ns mainGlobals mg) (c : He.SaysD fa fn K) : Cal P w K mg base "best_by_products" 2 sp_best_by_products [] := by
  obtain ⟨fd, F0⟩ := c.def_ 9 (d := d16) rfl
  have F : FunD K "best_by_products" "best_by_products" (defArgs s16) (defBody s16) (defScope s16) [] [] (He.fAd K d16.at_) fd := F0
  have ok := fn_P2 (P := P) (w := w) (mg := mg) (base := base) (k := 1) F sc_best_by_products (r_best_by_products sp_product_of) (n := 1) (m := 5) rfl rfl (fun cdv A outer s H E hr => b_best_by_products (He.free_ok KX G (c.fact 35 (f := .free "sum") rfl)) ((cal_product_of KX G c).mono (by omega)) cdv A outer s H E hr)
  exact ⟨_, fd, _, [], [], ok, He.glo_ok KX G (c.fact 15 (f := .glo "best_by_products") rfl), F.kp, F.bindsN (fun _ _ _ _ _ _ us hl => match us, hl with | [a0], _ => rfl), .nil, fun _ => .nil⟩
noncomputable def sp_paired : List D → Option O := spOf 2 2 (r_paired )
theorem cal_paired {P : Program} {w : World} {K : PySem.W.Frag} {h : Heap} {mg : Str → Option Value} {base : Heap} (KX : K.In h) (G : h.Ns mainGlobals mg) (c : He.SaysD fa fn K) : Cal P w K mg base "paired" 1 sp_paired [] := by
  obtain ⟨fd, F0⟩ := c.def_ 10 (d := d17) rfl
  have F : FunD K "paired" "paired" (defArgs s17) (defBody s17) (defScope s17) [] [] (He.fAd K d17.at_) fd := F0
  have ok := fn_P2 (P := P) (w := w) (mg := mg) (base := base) (k := 0) F sc_paired (r_paired ) (n := 2) (m := 2) rfl rfl (fun cdv A outer s H E hr => b_paired (He.free_ok KX G (c.fact 35 (f := .free "sum") rfl)) (He.free_ok KX G (c.fact 32 (f := .free "list") rfl)) (He.free_ok KX G (c.fact 36 (f := .free "zip") rfl)) cdv A outer s H E hr)
  exact ⟨_, fd, _, [], [], ok, He.glo_ok KX G (c.fact 16 (f := .glo "paired") rfl), F.kp, F.bindsN (fun _ _ _ _ _ _ us hl => match us, hl with | [a0, a1], _ => rfl), .nil, fun _ => .nil⟩
noncomputable def sp_best_of : List D → Option O := spOf 2 8 (r_best_of sp_paired sp_product_of sp_best_by_products)
theorem cal_best_of {P : Program} {w : World} {K : PySem.W.Frag} {h : Heap} {mg : Str → Option Value} {base : Heap} (KX : K.In h) (G : h.Ns mainGlobals mg) (c : He.SaysD fa fn K) : Cal P w K mg base "best_of" 3 sp_best_of [] := by
  obtain ⟨fd, F0⟩ := c.def_ 11 (d := d18) rfl
  have F : FunD K "best_of" "best_of" (defArgs s18) (defBody s18) (defScope s18) [] [] (He.fAd K d18.at_) fd := F0
  have ok := fn_P2 (P := P) (w := w) (mg := mg) (base := base) (k := 2) F sc_best_of (r_best_of sp_paired sp_product_of sp_best_by_products) (n := 2) (m := 8) rfl rfl (fun cdv A outer s H E hr => b_best_of ((cal_paired KX G c).mono (by omega)) (fxok_top (cls_0 c)) ((cal_product_of KX G c).mono (by omega)) (fxok_bottom (cls_0 c)) (He.free_ok KX G (c.fact 27 (f := .free "divmod") rfl)) ((cal_best_by_products KX G c).mono (by omega)) cdv A outer s H E hr)
  exact ⟨_, fd, _, [], [], ok, He.glo_ok KX G (c.fact 17 (f := .glo "best_of") rfl), F.kp, F.bindsN (fun _ _ _ _ _ _ us hl => match us, hl with | [a0, a1], _ => rfl), .nil, fun _ => .nil⟩
noncomputable def sp_fewest : List D → Option O := spOf 4 6 (r_fewest sp_best_of sp_groups_of)
theorem cal_fewest {P : Program} {w : World} {K : PySem.W.Frag} {h : Heap} {mg : Str → Option Value} {base : Heap} (KX : K.In h) (G : h.Ns mainGlobals mg) (c : He.SaysD fa fn K) : Cal P w K mg base "fewest" 21 sp_fewest [] := by
  obtain ⟨fd, F0⟩ := c.def_ 12 (d := d19) rfl
  have F : FunD K "fewest" "fewest" (defArgs s19) (defBody s19) (defScope s19) [] [] (He.fAd K d19.at_) fd := F0
  have ok := fn_P2 (P := P) (w := w) (mg := mg) (base := base) (k := 20) F sc_fewest (r_fewest sp_best_of sp_groups_of) (n := 4) (m := 6) rfl rfl (fun cdv A outer s H E hr => b_fewest (He.free_ok KX G (c.fact 34 (f := .free "range") rfl)) ((cal_best_of KX G c).mono (by omega)) ((cal_groups_of KX G c).mono (by omega)) cdv A outer s H E hr)
  exact ⟨_, fd, _, [], [], ok, He.glo_ok KX G (c.fact 18 (f := .glo "fewest") rfl), F.kp, F.bindsN (fun _ _ _ _ _ _ us hl => match us, hl with | [a0, a1, a2, a3], _ => rfl), .nil, fun _ => .nil⟩
noncomputable def sp__law_mix : List D → Option O := spOf 2 3 (r__law_mix )
theorem cal__law_mix {P : Program} {w : World} {K : PySem.W.Frag} {h : Heap} {mg : Str → Option Value} {base : Heap} (KX : K.In h) (G : h.Ns mainGlobals mg) (c : He.SaysD fa fn K) : Cal P w K mg base "_law_mix" 1 sp__law_mix [] := by
  obtain ⟨fd, F0⟩ := c.def_ 13 (d := d20) rfl
  have F : FunD K "_law_mix" "_law_mix" (defArgs s20) (defBody s20) (defScope s20) [] [] (He.fAd K d20.at_) fd := F0
  have ok := fn_P2 (P := P) (w := w) (mg := mg) (base := base) (k := 0) F sc__law_mix (r__law_mix ) (n := 2) (m := 3) rfl rfl (fun cdv A outer s H E hr => b__law_mix  cdv A outer s H E hr)
  exact ⟨_, fd, _, [], [], ok, He.glo_ok KX G (c.fact 19 (f := .glo "_law_mix") rfl), F.kp, F.bindsN (fun _ _ _ _ _ _ us hl => match us, hl with | [a0, a1], _ => rfl), .nil, fun _ => .nil⟩
noncomputable def sp__law_groups : List D → Option O := spOf 3 9 (r__law_groups )
theorem cal__law_groups {P : Program} {w : World} {K : PySem.W.Frag} {h : Heap} {mg : Str → Option Value} {base : Heap} (KX : K.In h) (G : h.Ns mainGlobals mg) (c : He.SaysD fa fn K) : Cal P w K mg base "_law_groups" 1 sp__law_groups [] := by
  obtain ⟨fd, F0⟩ := c.def_ 14 (d := d21) rfl
  have F : FunD K "_law_groups" "_law_groups" (defArgs s21) (defBody s21) (defScope s21) [] [] (He.fAd K d21.at_) fd := F0
  have ok := fn_P2 (P := P) (w := w) (mg := mg) (base := base) (k := 0) F sc__law_groups (r__law_groups ) (n := 3) (m := 9) rfl rfl (fun cdv A outer s H E hr => b__law_groups (He.free_ok KX G (c.fact 34 (f := .free "range") rfl)) (He.free_ok KX G (c.fact 32 (f := .free "list") rfl)) cdv A outer s H E hr)
  exact ⟨_, fd, _, [], [], ok, He.glo_ok KX G (c.fact 20 (f := .glo "_law_groups") rfl), F.kp, F.bindsN (fun _ _ _ _ _ _ us hl => match us, hl with | [a0, a1, a2], _ => rfl), .nil, fun _ => .nil⟩
noncomputable def sp__law_product : List D → Option O := spOf 1 3 (r__law_product )
theorem cal__law_product {P : Program} {w : World} {K : PySem.W.Frag} {h : Heap} {mg : Str → Option Value} {base : Heap} (KX : K.In h) (G : h.Ns mainGlobals mg) (c : He.SaysD fa fn K) : Cal P w K mg base "_law_product" 1 sp__law_product [] := by
  obtain ⟨fd, F0⟩ := c.def_ 15 (d := d22) rfl
  have F : FunD K "_law_product" "_law_product" (defArgs s22) (defBody s22) (defScope s22) [] [] (He.fAd K d22.at_) fd := F0
  have ok := fn_P2 (P := P) (w := w) (mg := mg) (base := base) (k := 0) F sc__law_product (r__law_product ) (n := 1) (m := 3) rfl rfl (fun cdv A outer s H E hr => b__law_product  cdv A outer s H E hr)
  exact ⟨_, fd, _, [], [], ok, He.glo_ok KX G (c.fact 21 (f := .glo "_law_product") rfl), F.kp, F.bindsN (fun _ _ _ _ _ _ us hl => match us, hl with | [a0], _ => rfl), .nil, fun _ => .nil⟩
noncomputable def sp__law_best : List D → Option O := spOf 5 10 (r__law_best sp__law_product sp__law_groups)
theorem cal__law_best {P : Program} {w : World} {K : PySem.W.Frag} {h : Heap} {mg : Str → Option Value} {base : Heap} (KX : K.In h) (G : h.Ns mainGlobals mg) (c : He.SaysD fa fn K) : Cal P w K mg base "_law_best" 2 sp__law_best [] := by
  obtain ⟨fd, F0⟩ := c.def_ 16 (d := d23) rfl
  have F : FunD K "_law_best" "_law_best" (defArgs s23) (defBody s23) (defScope s23) [] [] (He.fAd K d23.at_) fd := F0
  have ok := fn_P2 (P := P) (w := w) (mg := mg) (base := base) (k := 1) F sc__law_best (r__law_best sp__law_product sp__law_groups) (n := 5) (m := 10) rfl rfl (fun cdv A outer s H E hr => b__law_best (He.free_ok KX G (c.fact 34 (f := .free "range") rfl)) (He.free_ok KX G (c.fact 33 (f := .free "min") rfl)) ((cal__law_product KX G c).mono (by omega)) (He.free_ok KX G (c.fact 32 (f := .free "list") rfl)) (He.free_ok KX G (c.fact 36 (f := .free "zip") rfl)) (He.free_ok KX G (c.fact 35 (f := .free "sum") rfl)) ((cal__law_groups KX G c).mono (by omega)) cdv A outer s H E hr)
  exact ⟨_, fd, _, [], [], ok, He.glo_ok KX G (c.fact 22 (f := .glo "_law_best") rfl), F.kp, F.bindsN (fun _ _ _ _ _ _ us hl => match us, hl with | [a0, a1, a2, a3, a4], _ => rfl), .nil, fun _ => .nil⟩
noncomputable def sp__law_ratio : List D → Option O := spOf 4 8 (r__law_ratio sp__law_mix)
theorem cal__law_ratio {P : Program} {w : World} {K : PySem.W.Frag} {h : Heap} {mg : Str → Option Value} {base : Heap} (KX : K.In h) (G : h.Ns mainGlobals mg) (c : He.SaysD fa fn K) : Cal P w K mg base "_law_ratio" 2 sp__law_ratio [] := by
  obtain ⟨fd, F0⟩ := c.def_ 17 (d := d24) rfl
  have F : FunD K "_law_ratio" "_law_ratio" (defArgs s24) (defBody s24) (defScope s24) [] [] (He.fAd K d24.at_) fd := F0
  have ok := fn_P2 (P := P) (w := w) (mg := mg) (base := base) (k := 1) F sc__law_ratio (r__law_ratio sp__law_mix) (n := 4) (m := 8) rfl rfl (fun cdv A outer s H E hr => b__law_ratio ((cal__law_mix KX G c).mono (by omega)) (He.free_ok KX G (c.fact 34 (f := .free "range") rfl)) cdv A outer s H E hr)
  exact ⟨_, fd, _, [], [], ok, He.glo_ok KX G (c.fact 23 (f := .glo "_law_ratio") rfl), F.kp, F.bindsN (fun _ _ _ _ _ _ us hl => match us, hl with | [a0, a1, a2, a3], _ => rfl), .nil, fun _ => .nil⟩
noncomputable def sp_law : List D → Option O := spOf 1 13 (r_law sp_Ratio_told sp_ratio_of sp_fewest fm_Ratio sp__law_mix sp__law_best sp__law_ratio)
theorem cal_law {P : Program} {w : World} {K : PySem.W.Frag} {h : Heap} {mg : Str → Option Value} {base : Heap} (KX : K.In h) (G : h.Ns mainGlobals mg) (c : He.SaysD fa fn K) : Cal P w K mg base "law" 22 sp_law [] := by
  obtain ⟨fd, F0⟩ := c.def_ 18 (d := d25) rfl
  have F : FunD K "law" "law" (defArgs s25) (defBody s25) (defScope s25) [] [] (He.fAd K d25.at_) fd := F0
  have ok := fn_P2 (P := P) (w := w) (mg := mg) (base := base) (k := 21) F sc_law (r_law sp_Ratio_told sp_ratio_of sp_fewest fm_Ratio sp__law_mix sp__law_best sp__law_ratio) (n := 1) (m := 13) rfl rfl (fun cdv A outer s H E hr => b_law ((met_Ratio_told KX G c).mono (by omega)) ((cal_ratio_of KX G c).mono (by omega)) ((cal_fewest KX G c).mono (by omega)) ((mak_Ratio KX G c).mono (by omega)) ((cal__law_mix KX G c).mono (by omega)) (He.free_ok KX G (c.fact 31 (f := .free "len") rfl)) (He.free_ok KX G (c.fact 28 (f := .free "enumerate") rfl)) (He.free_ok KX G (c.fact 30 (f := .free "isinstance") rfl)) (He.free_ok KX G (c.fact 32 (f := .free "list") rfl)) ((cal__law_best KX G c).mono (by omega)) ((cal__law_ratio KX G c).mono (by omega)) (He.free_ok KX G (c.fact 33 (f := .free "min") rfl)) (He.free_ok KX G (c.fact 29 (f := .free "int") rfl)) cdv A outer s H E hr)
  exact ⟨_, fd, _, [], [], ok, He.glo_ok KX G (c.fact 24 (f := .glo "law") rfl), F.kp, F.bindsN (fun _ _ _ _ _ _ us hl => match us, hl with | [a0], _ => rfl), .nil, fun _ => .nil⟩
theorem law_facts {P : Program} {w : World} {K : PySem.W.Frag} {h : Heap} {mg : Str → Option Value} {f : Addr} (KX : K.In h) (G : h.Ns mainGlobals mg) (hfa : mg ("law" : Str) = some (.ref f)) (c : He.SaysD fa fn K) :
    ∃ fd : FuncData, (∀ (s : Shared) (v : Value), BindsTo s fd ⟨[v], []⟩ [("_law_script", v)]) ∧ ∀ base : Heap, K.In base → base.Ns mainGlobals mg → FnOk P w K mg base CX0 22 f fd ["_law_script"] (spP K sp_law) := by
  obtain ⟨fd, F0⟩ := c.def_ 18 (d := d25) rfl
  have F : FunD K "law" "law" (defArgs s25) (defBody s25) (defScope s25) [] [] (He.fAd K d25.at_) fd := F0
  have e := hfa.symm.trans (He.glo_ok KX G (c.fact 24 (f := .glo "law") rfl))
  cases e
  have b := FunD.bindsA (ps := ["_law_script"]) F fun _ _ _ _ _ _ us hl => match us, hl with | [_], _ => rfl
  exact ⟨fd, fun s v => b s [v] rfl, fun base _ _ => fn_P2 (P := P) (w := w) (mg := mg) (base := base) (k := 21) F sc_law (r_law sp_Ratio_told sp_ratio_of sp_fewest fm_Ratio sp__law_mix sp__law_best sp__law_ratio) (n := 1) (m := 13) rfl rfl (fun cdv A outer s H E hr => b_law ((met_Ratio_told KX G c).mono (by omega)) ((cal_ratio_of KX G c).mono (by omega)) ((cal_fewest KX G c).mono (by omega)) ((mak_Ratio KX G c).mono (by omega)) ((cal__law_mix KX G c).mono (by omega)) (He.free_ok KX G (c.fact 31 (f := .free "len") rfl)) (He.free_ok KX G (c.fact 28 (f := .free "enumerate") rfl)) (He.free_ok KX G (c.fact 30 (f := .free "isinstance") rfl)) (He.free_ok KX G (c.fact 32 (f := .free "list") rfl)) ((cal__law_best KX G c).mono (by omega)) ((cal__law_ratio KX G c).mono (by omega)) (He.free_ok KX G (c.fact 33 (f := .free "min") rfl)) (He.free_ok KX G (c.fact 29 (f := .free "int") rfl)) cdv A outer s H E hr)⟩
def lawLevel : Nat := 22
end T
/-! trains: groups of teeth, products, the best ones -/
namespace T
open PySem PySem.Spec PyProof.Rows L2
theorem szM_big {a b : Int} (ha : a.natAbs < big) (hb : b.natAbs < big) : szM a b = true := by
  have h1 := PyProof.Rows.intBits_le (k := 1000) ha
  have h2 := PyProof.Rows.intBits_le (k := 1000) hb
  unfold szM
  exact decide_eq_true (by omega)
theorem big_of {a : Int} {n : Nat} (h : a.natAbs ≤ 2 ^ n) (hn : n < 1000) : a.natAbs < big := Nat.lt_of_le_of_lt h (Nat.pow_lt_pow_right (by decide) hn)
/-! ### products -/
def dG (g : List Int) : D := .tup (g.map .int)
def prd (g : List Int) : Int := g.foldl (· * ·) 1
theorem prd_snoc (g : List Int) (x : Int) : prd (g ++ [x]) = prd g * x := by simp [prd, List.foldl_append]
def okG (g : List Int) : Prop := ∀ x ∈ g, 1 ≤ x ∧ x ≤ 1000
theorem prd_bound : ∀ (n : Nat) (g : List Int), g.length = n → okG g → 1 ≤ prd g ∧ prd g ≤ 1000 ^ n
  | 0, g, hl, _ => by
    have : g = [] := List.eq_nil_of_length_eq_zero hl
    subst this
    simp [prd]
  | n + 1, g, hl, ok => by
    have hne : g ≠ [] := fun e => by rw [e] at hl; cases hl
    obtain ⟨h, x, rfl⟩ : ∃ h x, g = h ++ [x] := ⟨g.dropLast, g.getLast hne, (List.dropLast_concat_getLast hne).symm⟩
    have hl' : h.length = n := by simpa using hl
    obtain ⟨i1, i2⟩ := prd_bound n h hl' fun y hy => ok y (List.mem_append_left _ hy)
    obtain ⟨x1, x2⟩ := ok x (by simp)
    rw [prd_snoc, Int.pow_succ]
    constructor
    · have := Int.mul_le_mul i1 x1 (by omega) (by omega); omega
    · exact Int.mul_le_mul i2 x2 (by omega) (by omega)
theorem prd_big {g : List Int} (hl : g.length ≤ 20) (ok : okG g) : 1 ≤ prd g ∧ (prd g).natAbs ≤ 2 ^ 200 := by
  obtain ⟨h1, h2⟩ := prd_bound _ g rfl ok
  have h3 : (1000 : Int) ^ g.length ≤ 1000 ^ 20 := by
    have : (1000 : Nat) ^ g.length ≤ 1000 ^ 20 := Nat.pow_le_pow_right (by decide) hl
    exact_mod_cast this
  refine ⟨h1, ?_⟩
  have h4 : ((1000 : Int) ^ 20) ≤ 2 ^ 200 := by decide
  omega
theorem sp_product_ok {g : List Int} (hl : g.length ≤ 20) (ok : okG g) : sp_product_of [dG g] = some (.fz (.int (prd g))) := by
  obtain ⟨ρ', h1, h2⟩ := loop_all (g := gNm 2) (b := b1_product_of) (fun ds ρ => ∃ (a r : List Int) (l : Option O), g = a ++ r ∧ ds = r.map .int ∧ ρ = [some (.fz (dG g)), some (.fz (.int (prd a))), l])
    (fun d ds ρ ⟨a, r, l, e1, e2, e3⟩ => by
      cases r with
      | nil => cases e2
      | cons x r =>
        rw [List.map_cons] at e2
        injection e2 with e2 e4
        subst e2 e4 e3
        have la : a.length ≤ 20 := by have := congrArg List.length e1; simp at this; omega
        have p1 := prd_big la fun y hy => ok y (by rw [e1]; exact List.mem_append_left _ hy)
        have p2 := ok x (by rw [e1]; simp)
        have z : szM (prd a) x = true := szM_big (big_of p1.2 (by decide)) (big_of (n := 10) (by omega) (by decide))
        refine ⟨[some (.fz (dG g)), some (.fz (.int (prd a))), some (.fz (.int x))], _, by simp, .inl ?_, a ++ [x], r, some (.fz (.int x)), by simp [e1], rfl, rfl⟩
        unfold b1_product_of
        simp [z, prd_snoc]) (ds := g.map .int) (ρ := [some (.fz (dG g)), some (.fz (.int 1)), none]) ⟨[], g, none, rfl, rfl, rfl⟩
  obtain ⟨a, r, l, e1, e2, e3⟩ := h2
  have : r = [] := by cases r with
    | nil => rfl
    | cons _ _ => cases e2
  subst this e3
  rw [List.append_nil] at e1
  subst e1
  unfold sp_product_of spOf r_product_of
  simp [start0]
  rw [show seqD (dG g) = some (g.map .int) from rfl]
  simp [h1, ends]
end T
namespace T
open PySem PySem.Spec PyProof.Rows L2
/-! ### groups -/
theorem addD_tup {a b : List D} : addD (.tup a) (.tup b) = if a.length + b.length ≤ sizeLine then some (.tup (a ++ b)) else none := rfl
theorem addD_lst {a b : List D} : addD (.lst a) (.lst b) = if a.length + b.length ≤ sizeLine then some (.lst (a ++ b)) else none := rfl
theorem gTup_small {ds : List D} (h : ds.length ≤ 1000) : gTup' ds = some (.tup ds) := by
  unfold gTup'
  rw [if_pos (by rw [sizeLine_eq]; omega)]
theorem gLst_small {ds : List D} (h : ds.length ≤ 1000) : gLst' ds = some (.lst none (ds.map .fz)) := by
  unfold gLst'
  rw [if_pos (by rw [sizeLine_eq]; omega)]
def gO (X : List (List Int)) : List O := X.map fun g => .fz (dG g)
theorem gO_length (X : List (List Int)) : (gO X).length = X.length := by simp [gO]
theorem gO_snoc (X : List (List Int)) (g : List Int) : gO X ++ [.fz (dG g)] = gO (X ++ [g]) := by simp [gO]
def rng (lo hi : Int) : List Int := (List.range (hi + 1 - lo).toNat).map fun i => lo + (i : Nat)
theorem rngL_eq (lo hi : Int) : rngL lo (hi + 1 - lo).toNat = (rng lo hi).map .int := by
  unfold rngL rng
  rw [List.map_map]
  rfl
theorem rng2_ok {i h : Int} (h1 : -1000000000 ≤ i ∧ i ≤ 1000000000) (h2 : -1000000000 ≤ h ∧ h ≤ 1000000000) : rng2 [.int i, .int (h + 1)] = some ((rng i h).map .int) := by
  show (if -(2 ^ 62) ≤ i ∧ i < 2 ^ 62 ∧ -(2 ^ 62) ≤ h + 1 ∧ h + 1 < 2 ^ 62 then some (rngL i (h + 1 - i).toNat) else none) = _
  rw [if_pos (by omega), rngL_eq]
theorem rng_mem {lo hi x : Int} : x ∈ rng lo hi ↔ lo ≤ x ∧ x ≤ hi := by
  unfold rng
  rw [List.mem_map]
  constructor
  · rintro ⟨i, hi, rfl⟩
    rw [List.mem_range] at hi
    omega
  · rintro ⟨h1, h2⟩
    exact ⟨(x - lo).toNat, by rw [List.mem_range]; omega, by omega⟩
theorem rng_length (lo hi : Int) : (rng lo hi).length = (hi + 1 - lo).toNat := by simp [rng]
def topOf (m : Int) (g : List Int) : Int := g.getLast?.getD m
def ext (l m : Int) (g : List Int) : List (List Int) := (rng l (topOf m g)).map fun t => g ++ [t]
def grp (l m : Int) : Nat → List (List Int)
  | 0 => [[]]
  | n + 1 => (grp l m n).flatMap (ext l m)
theorem topOf_snoc (m : Int) (g : List Int) (x : Int) : topOf m (g ++ [x]) = x := by simp [topOf]
theorem grp_in {l m : Int} : ∀ {n : Nat} {g : List Int}, g ∈ grp l m n → g.length = n ∧ (∀ x ∈ g, l ≤ x ∧ x ≤ m) ∧ topOf m g ≤ m
  | 0, g, h => by
    simp [grp] at h
    subst h
    exact ⟨rfl, fun _ h => (nomatch h), Int.le_refl _⟩
  | n + 1, g, h => by
    simp only [grp, List.mem_flatMap, ext, List.mem_map] at h
    obtain ⟨g0, h0, t, ht, rfl⟩ := h
    obtain ⟨h1, h2, h3⟩ := grp_in h0
    rw [rng_mem] at ht
    refine ⟨by simp [h1], fun x hx => ?_, by rw [topOf_snoc]; omega⟩
    rcases List.mem_append.mp hx with hx | hx
    · exact h2 x hx
    · simp at hx; subst hx; omega
theorem flat_len {α β : Type} {f : α → List β} {w : Nat} : ∀ {xs : List α}, (∀ x ∈ xs, (f x).length ≤ w) → (xs.flatMap f).length ≤ xs.length * w
  | [], _ => by simp
  | x :: xs, h => by
    rw [List.flatMap_cons, List.length_append, List.length_cons, Nat.succ_mul]
    have := h x (by simp)
    have := flat_len (xs := xs) fun y hy => h y (List.mem_cons_of_mem _ hy)
    omega
theorem ext_len {l m : Int} {g : List Int} (h : topOf m g ≤ m) : (ext l m g).length ≤ (m + 1 - l).toNat := by
  unfold ext
  rw [List.length_map, rng_length]
  omega
theorem grp_len {l m : Int} : ∀ n : Nat, (grp l m n).length ≤ (m + 1 - l).toNat ^ n
  | 0 => by simp [grp]
  | n + 1 => by
    rw [grp, Nat.pow_succ]
    refine Nat.le_trans (flat_len fun g hg => ext_len (grp_in hg).2.2) ?_
    exact Nat.mul_le_mul_right _ (grp_len n)
theorem grp_inner (sp : List D → Option O) (l m n : Int) (g : List Int) (top : Int) (hg : g.length ≤ 1000) : ∀ (ts : List Int) (X : List (List Int)) (last : Option O), X.length + ts.length ≤ sizeLine →
    ∃ last', loop (gNm 6) (b1_groups_of sp) (ts.map .int) [some (.fz (.int l)), some (.fz (.int m)), some (.fz (.int n)), some (.lst none (gO X)), some (.fz (dG g)), some (.fz (.int top)), last] =
      some (.nx [some (.fz (.int l)), some (.fz (.int m)), some (.fz (.int n)), some (.lst none (gO (X ++ ts.map fun t => g ++ [t]))), some (.fz (dG g)), some (.fz (.int top)), last'])
  | [], X, last, _ => ⟨last, by simp [loop]⟩
  | t :: ts, X, last, h => by
    have z : g.length + 1 ≤ sizeLine := by rw [sizeLine_eq]; omega
    have step : b1_groups_of sp [some (.fz (.int l)), some (.fz (.int m)), some (.fz (.int n)), some (.lst none (gO X)), some (.fz (dG g)), some (.fz (.int top)), some (.fz (.int t))] =
        some (.nx [some (.fz (.int l)), some (.fz (.int m)), some (.fz (.int n)), some (.lst none (gO (X ++ [g ++ [t]]))), some (.fz (dG g)), some (.fz (.int top)), some (.fz (.int t))]) := by
      unfold b1_groups_of
      have h1 : X.length < sizeLine := by rw [List.length_cons] at h; omega
      have e : addD (dG g) (.tup [.int t]) = some (dG (g ++ [t])) := by
        unfold dG
        rw [addD_tup, if_pos (by simpa using z)]
        simp
      simp [gTup_small, e, gO_length, h1, gO_snoc]
    obtain ⟨last', ih⟩ := grp_inner sp l m n g top hg ts (X ++ [g ++ [t]]) (some (.fz (.int t))) (by simp at h ⊢; omega)
    refine ⟨last', ?_⟩
    rw [List.map_cons]
    simp only [loop]
    simp only [gNm_ap, List.length_cons, List.length_nil, Nat.reduceAdd, Nat.reduceLT, if_true, List.set_cons_succ, List.set_cons_zero]
    rw [step]
    simpa using ih
theorem last_ix (g : List Int) (h : g ≠ []) (m : Int) : ixD (dG g) (.int (-1)) = some (.int (topOf m g)) := by
  obtain ⟨a, x, rfl⟩ : ∃ a x, g = a ++ [x] := ⟨g.dropLast, g.getLast h, (List.dropLast_concat_getLast h).symm⟩
  show atI ((a ++ [x]).map D.int) (-1) = _
  rw [topOf_snoc, List.map_append]
  exact atI_last _ _
theorem pn_dG {n : Nat} (g : List Int) (h : 0 < n) : pn n (dG g) = true := by simp [dG, pn, h, pnL_ints]
theorem eq_nil (g : List Int) : eqD (dG g) (.tup []) = some (.bl (decide (g = []))) := by
  obtain ⟨r, h1, h2⟩ := eqD_pn (pn_dG (n := 64) g (by decide)) (show pn 64 (.tup []) = true from rfl)
  rw [h1]
  have : (dG g = .tup []) ↔ g = [] := by simp [dG]
  rw [this] at h2
  cases r <;> simp_all
theorem grp_outer (sp : List D → Option O) (l m n : Int) (hl : -1000 ≤ l ∧ l ≤ 1000) (hm : -1000 ≤ m ∧ m ≤ 1000) : ∀ (gs X : List (List Int)) (l1 l2 l3 : Option O), (∀ g ∈ gs, g.length ≤ 1000 ∧ -1000 ≤ topOf m g ∧ topOf m g ≤ 1000) → X.length + (gs.flatMap (ext l m)).length ≤ sizeLine →
    ∃ l1' l2' l3', loop (gNm 4) (b2_groups_of sp) (gs.map dG) [some (.fz (.int l)), some (.fz (.int m)), some (.fz (.int n)), some (.lst none (gO X)), l1, l2, l3] =
      some (.nx [some (.fz (.int l)), some (.fz (.int m)), some (.fz (.int n)), some (.lst none (gO (X ++ gs.flatMap (ext l m)))), l1', l2', l3'])
  | [], X, l1, l2, l3, _, _ => ⟨l1, l2, l3, by simp [loop]⟩
  | g :: gs, X, l1, l2, l3, hb, h => by
    obtain ⟨hg, ht1, ht2⟩ := hb g (by simp)
    rw [List.flatMap_cons, List.length_append] at h
    have hel : (ext l m g).length = (rng l (topOf m g)).length := by simp [ext]
    obtain ⟨last', hin⟩ := grp_inner sp l m n g (topOf m g) hg (rng l (topOf m g)) X l3 (by omega)
    have step : b2_groups_of sp [some (.fz (.int l)), some (.fz (.int m)), some (.fz (.int n)), some (.lst none (gO X)), some (.fz (dG g)), l2, l3] =
        some (.nx [some (.fz (.int l)), some (.fz (.int m)), some (.fz (.int n)), some (.lst none (gO (X ++ ext l m g))), some (.fz (dG g)), some (.fz (.int (topOf m g))), last']) := by
      unfold b2_groups_of
      have hr : rng2 [.int l, .int (topOf m g + 1)] = some ((rng l (topOf m g)).map .int) := by
        exact rng2_ok (by omega) (by omega)
      by_cases hn : g = []
      · subst hn
        have e0 : topOf m [] = m := rfl
        rw [e0] at hr hin ⊢
        simp [gTup_small, eq_nil, hr]
        exact hin
      · simp [gTup_small, eq_nil, hn, last_ix g hn m, hr]
        exact hin
    obtain ⟨l1', l2', l3', ih⟩ := grp_outer sp l m n hl hm gs (X ++ ext l m g) (some (.fz (dG g))) (some (.fz (.int (topOf m g)))) last' (fun y hy => hb y (List.mem_cons_of_mem _ hy)) (by rw [List.length_append]; omega)
    refine ⟨l1', l2', l3', ?_⟩
    rw [List.map_cons]
    simp only [loop]
    simp only [gNm_ap, List.length_cons, List.length_nil, Nat.reduceAdd, Nat.reduceLT, if_true, List.set_cons_succ, List.set_cons_zero]
    rw [step]
    rw [List.append_assoc] at ih
    simpa [List.flatMap_cons] using ih
theorem frz_gO (X : List (List Int)) : frz (.lst none (gO X)) = .lst (X.map dG) := by
  unfold frz gO
  rw [frzL_map dG X]
theorem sq_groups_ok {l m : Int} (hl : -1000 ≤ l ∧ l ≤ 1000) (hm : -1000 ≤ m ∧ m ≤ 1000) : ∀ (n N : Nat), n < N → n ≤ 1000 → (m + 1 - l).toNat ^ n ≤ 1000000 → (∀ k, k ≤ n → (m + 1 - l).toNat ^ k ≤ 1000000) → sq_groups_of N [.int l, .int m, .int n] = some (.lst none (gO (grp l m n)))
  | _, 0, h, _, _, _ => by omega
  | 0, N + 1, _, _, _, _ => by
    unfold sq_groups_of spOf r_groups_of
    simp [start0, gTup_small, gLst_small, ends, gO, grp, dG]
  | n + 1, N + 1, h, h0, hw, hk => by
    have ih := sq_groups_ok hl hm n N (by omega) (by omega) (hk n (by omega)) fun k hk' => hk k (by omega)
    have hlen := grp_len (l := l) (m := m) (n + 1)
    obtain ⟨l1, l2, l3, ho⟩ := grp_outer (sq_groups_of N) l m ((n + 1 : Nat) : Int) hl hm (grp l m n) [] none none none (fun g hg => by
      obtain ⟨a, b, c⟩ := grp_in hg
      refine ⟨by omega, ?_, by omega⟩
      by_cases hn : g = []
      · subst hn; exact hm.1
      · obtain ⟨p, x, rfl⟩ : ∃ p x, g = p ++ [x] := ⟨g.dropLast, g.getLast hn, (List.dropLast_concat_getLast hn).symm⟩
        rw [topOf_snoc]
        have := b x (by simp)
        omega) (by rw [sizeLine_eq]; simp only [grp] at hlen; simp only [List.length_nil]; omega)
    have e1 : ((n + 1 : Nat) : Int) - 1 = n := by omega
    have e2 : ((n + 1 : Nat) : Int) ≠ 0 := by omega
    rw [sq_groups_of]
    unfold spOf r_groups_of
    have e3 : ((n : Int) + 1) ≠ 0 := by omega
    have e4 : ((n : Int) + 1 - 1) = n := by omega
    simp [start0, gTup_small, gLst_small, e3, e4, ih, frz_gO]
    rw [show seqD (.lst ((grp l m n).map dG)) = some ((grp l m n).map dG) from rfl]
    simp only [show gO [] = [] from rfl, List.nil_append] at ho
    have ho' : loop (gNm 4) (b2_groups_of (sq_groups_of N)) ((grp l m n).map dG) [some (.fz (.int l)), some (.fz (.int m)), some (.fz (.int ((n : Int) + 1))), some (.lst none []), none, none, none] = _ := ho
    simp [ho', ends, grp]
theorem sp_groups_ok {l m : Int} {n : Nat} (hl : -1000 ≤ l ∧ l ≤ 1000) (hm : -1000 ≤ m ∧ m ≤ 1000) (hn : n < 20) (hk : ∀ k, k ≤ n → (m + 1 - l).toNat ^ k ≤ 1000000) : sp_groups_of [.int l, .int m, .int n] = some (.lst none (gO (grp l m n))) :=
  sq_groups_ok hl hm n 20 hn (by omega) (hk n (Nat.le_refl n)) hk
end T
namespace T
open PySem PySem.Spec PyProof.Rows L2
/-! ### the order of keys and of trains -/
theorem IsMin.union {α : Type} {k : α → List Int} {S S' S2 : α → Prop} {r y : α} (a : IsMin k S r) (b : IsMin k S' y) (hs : ∀ x, S2 x ↔ S x ∨ S' x) : IsMin k S2 (if lex (k y) (k r) = true then y else r) := by
  split
  · rename_i h
    refine ⟨(hs y).mpr (.inr b.1), fun x hx => ?_⟩
    rcases (hs x).mp hx with q | q
    · cases h2 : lex (k x) (k y) with
      | false => rfl
      | true => have := a.2 x q; rw [lex_trans h2 h] at this; cases this
    · exact b.2 x q
  · rename_i h
    refine ⟨(hs r).mpr (.inl a.1), fun x hx => ?_⟩
    rcases (hs x).mp hx with q | q
    · exact a.2 x q
    · exact le_trans_lex (by simpa using h) (b.2 x q)
theorem IsMin.congr {α : Type} {k : α → List Int} {S S' : α → Prop} {r : α} (a : IsMin k S r) (h : ∀ x, S x ↔ S' x) : IsMin k S' r := ⟨(h r).mp a.1, fun y hy => a.2 y ((h y).mpr hy)⟩
def ftok : List Int → List Int
  | [] => [0]
  | x :: g => 1 :: x :: ftok g
def tkK (g : List Int) : List Int := 1 :: g.sum :: 1 :: (ftok g ++ [0])
def ptok : List (Int × Int) → List Int
  | [] => [0]
  | (x, y) :: g => 1 :: 1 :: x :: 1 :: y :: 0 :: ptok g
def tkT (c : Int × List (Int × Int)) : List Int := 1 :: c.1 :: 1 :: (ptok c.2 ++ [0])
theorem toks_ints : ∀ g : List Int, PySem.W.keyToksAll (g.map .int) = (ftok g).map Sum.inl
  | [] => rfl
  | x :: g => by
    rw [List.map_cons, PySem.W.toks_all_cons, toks_ints g]
    simp [PySem.W.keyToks, ftok]
def pP (q : Int × Int) : PyData := .tuple [.int q.1, .int q.2]
theorem toks_pairs : ∀ g : List (Int × Int), PySem.W.keyToksAll (g.map pP) = (ptok g).map Sum.inl
  | [] => rfl
  | (x, y) :: g => by
    rw [List.map_cons, PySem.W.toks_all_cons, toks_pairs g]
    simp [pP, PySem.W.keyToks, PySem.W.keyToksAll, ptok]
def kP (g : List Int) : PyData := .tuple [.int g.sum, .tuple (g.map .int)]
def kD (g : List Int) : D := .tup [.int g.sum, dG g]
theorem toP_kD (g : List Int) : toP (kD g) = some (kP g) := by simp [kD, kP, toP, toPs, dG, toPs_ints]
def pD (q : Int × Int) : D := .tup [.int q.1, .int q.2]
def trD (c : Int × List (Int × Int)) : D := .tup [.int c.1, .lst (c.2.map pD)]
def trP (c : Int × List (Int × Int)) : PyData := .tuple [.int c.1, .list (c.2.map pP)]
theorem toPs_pairs : ∀ g : List (Int × Int), toPs (g.map pD) = some (g.map pP)
  | [] => rfl
  | (x, y) :: g => by simp [toPs, toP, pD, pP, toPs_pairs g]
theorem toP_trD (c : Int × List (Int × Int)) : toP (trD c) = some (trP c) := by simp [trD, trP, toP, toPs, toPs_pairs]
theorem lt_kP (g e : List Int) : PySem.W.dataLt (kP g) (kP e) = lex (tkK g) (tkK e) := by
  unfold PySem.W.dataLt
  have h : ∀ g, PySem.W.keyToks (kP g) = (tkK g).map Sum.inl := fun g => by
    simp [kP, PySem.W.keyToks, PySem.W.keyToksAll, toks_ints, tkK]
  rw [h, h, lex_eq]
theorem lt_trP (c d : Int × List (Int × Int)) : PySem.W.dataLt (trP c) (trP d) = lex (tkT c) (tkT d) := by
  unfold PySem.W.dataLt
  have h : ∀ c, PySem.W.keyToks (trP c) = (tkT c).map Sum.inl := fun c => by
    simp [trP, PySem.W.keyToks, PySem.W.keyToksAll, toks_pairs, tkT]
  rw [h, h, lex_eq]
theorem alike_ints : ∀ g e : List Int, PySem.W.alikeAll (g.map .int) (e.map .int) = true
  | [], _ => by simp [PySem.W.alikeAll]
  | _ :: _, [] => by simp [PySem.W.alikeAll]
  | x :: g, y :: e => by simp [PySem.W.alikeAll, PySem.W.alike, alike_ints g e]
theorem alike_pairs : ∀ g e : List (Int × Int), PySem.W.alikeAll (g.map pP) (e.map pP) = true
  | [], _ => by simp [PySem.W.alikeAll]
  | _ :: _, [] => by simp [PySem.W.alikeAll]
  | x :: g, y :: e => by simp [PySem.W.alikeAll, PySem.W.alike, pP, alike_pairs g e]
theorem alike_kP (g e : List Int) : PySem.W.alike (kP g) (kP e) = true := by simp [kP, PySem.W.alike, PySem.W.alikeAll, alike_ints]
theorem alike_trP (g e : Int × List (Int × Int)) : PySem.W.alike (trP g) (trP e) = true := by simp [trP, PySem.W.alike, PySem.W.alikeAll, alike_pairs]
theorem depth_ints : ∀ g : List Int, PyData.depthAll (g.map .int) = 0
  | [] => rfl
  | x :: g => by simp [PyData.depthAll, PyData.depth, depth_ints g]
theorem depth_pairs : ∀ g : List (Int × Int), PyData.depthAll (g.map pP) ≤ 1
  | [] => by simp [PyData.depthAll]
  | x :: g => by simp [PyData.depthAll, PyData.depth, pP, depth_pairs g]
theorem depth_trP (c : Int × List (Int × Int)) : (trP c).depth ≤ 3 := by
  have := depth_pairs c.2
  simp only [trP, PyData.depth, PyData.depthAll]
  omega
theorem ltD_kD (g e : List Int) : ltD (kD g) (kD e) = some (.bl (lex (tkK g) (tkK e))) := by
  show ordD _ (kD g) (kD e) = _
  unfold ordD
  rw [toP_kD, toP_kD]
  have ok : okLt (kP g) (kP e) = true := by
    unfold okLt
    rw [alike_kP]
    have : (kP g).depth ≤ 64 := by simp [kP, PyData.depth, PyData.depthAll, depth_ints]
    have n1 : notNone (kP g) = true := rfl
    simp [n1, this]
  simp [ok, lt_kP]
theorem ltD_trD (g e : Int × List (Int × Int)) : ltD (trD g) (trD e) = some (.bl (lex (tkT g) (tkT e))) := by
  show ordD _ (trD g) (trD e) = _
  unfold ordD
  rw [toP_trD, toP_trD]
  have ok : okLt (trP g) (trP e) = true := by
    unfold okLt
    rw [alike_trP]
    have := depth_trP g
    have h2 : (trP g).depth ≤ 64 := by omega
    have n1 : notNone (trP g) = true := rfl
    simp [n1, h2]
  simp [ok, lt_trP]
theorem ftok_inj : ∀ {g e : List Int} {a b : List Int}, ftok g ++ a = ftok e ++ b → g = e
  | [], [], _, _, _ => rfl
  | [], _ :: _, _, _, h => by simp [ftok] at h
  | _ :: _, [], _, _, h => by simp [ftok] at h
  | x :: g, y :: e, a, b, h => by
    simp [ftok] at h
    rw [h.1, ftok_inj h.2]
theorem tkK_inj {g e : List Int} (h : tkK g = tkK e) : g = e := by
  simp only [tkK, List.cons.injEq, true_and] at h
  exact ftok_inj h.2
theorem ptok_inj : ∀ {g e : List (Int × Int)} {a b : List Int}, ptok g ++ a = ptok e ++ b → g = e
  | [], [], _, _, _ => rfl
  | [], _ :: _, _, _, h => by simp [ptok] at h
  | _ :: _, [], _, _, h => by simp [ptok] at h
  | (x, x') :: g, (y, y') :: e, a, b, h => by
    simp [ptok] at h
    rw [h.1, h.2.1, ptok_inj h.2.2]
theorem tkT_inj {g e : Int × List (Int × Int)} (h : tkT g = tkT e) : g = e := by
  obtain ⟨a, g⟩ := g
  obtain ⟨b, e⟩ := e
  simp only [tkT, List.cons.injEq, true_and] at h
  rw [h.1, ptok_inj h.2]
theorem lex_zip : ∀ (d e e' : List Int), e.length = d.length → e'.length = d.length → lex (ptok (d.zip e) ++ [0]) (ptok (d.zip e') ++ [0]) = lex (ftok e ++ [0]) (ftok e' ++ [0])
  | [], [], [], _, _ => rfl
  | [], _ :: _, _, h, _ => by cases h
  | [], [], _ :: _, _, h => by cases h
  | _ :: _, [], _, h, _ => by cases h
  | _ :: _, _ :: _, [], _, h => by cases h
  | x :: d, y :: e, y' :: e', h1, h2 => by
    have ih := lex_zip d e e' (by simpa using h1) (by simpa using h2)
    simp [ptok, ftok, lex, ih]
/-- of one row of driving teeth the trains go as the driven rows -/
theorem lex_train {d e e' : List Int} (h1 : e.length = d.length) (h2 : e'.length = d.length) : lex (tkT (d.sum + e.sum, d.zip e)) (tkT (d.sum + e'.sum, d.zip e')) = lex (tkK e) (tkK e') := by
  have := lex_zip d e e' h1 h2
  simp only [tkT, tkK, lex_cons_self]
  simp only [lex, this]
  have q1 : decide (d.sum + e.sum < d.sum + e'.sum) = decide (e.sum < e'.sum) := by by_cases h : e.sum < e'.sum <;> simp [h]
  have q2 : decide (d.sum + e'.sum < d.sum + e.sum) = decide (e'.sum < e.sum) := by by_cases h : e'.sum < e.sum <;> simp [h]
  rw [q1, q2]
/-! ### the best of each product -/
theorem lookK_frz {k : Key} : ∀ kvs : List (Key × O), lookK (frzK kvs) k = (lookK kvs k).map frz
  | [] => rfl
  | (k', o) :: r => by
    unfold frzK
    rw [lookK_cons, lookK_cons, lookK_frz r]
    by_cases h : k' = k <;> simp [h]
theorem sum_dG (g : List Int) : sumD [dG g] = some (.int g.sum) := by
  have : ∀ g : List Int, intsOf (g.map .int) = some g := fun g => by
    induction g with
    | nil => rfl
    | cons x g ih => rw [List.map_cons]; simp [intsOf, ih]
  show (intsOf (g.map .int)).map _ = _
  rw [this]
  rfl
def BInv (a : List (List Int)) (kvs : List (Key × O)) : Prop := (kvs.map (·.1)).Nodup ∧ kvs.length ≤ a.length ∧
  ∀ p : Int, (lookK kvs (.inl p) = none ∧ ∀ g ∈ a, prd g ≠ p) ∨ ∃ e, lookK kvs (.inl p) = some (.fz (kD e)) ∧ IsMin tkK (fun g => g ∈ a ∧ prd g = p) e
theorem BInv.put {a : List (List Int)} {kvs : List (Key × O)} (h : BInv a kvs) (g : List Int) (hg : ∀ e, IsMin tkK (fun g => g ∈ a ∧ prd g = prd g) e → True) (hm : IsMin tkK (fun x => x ∈ a ++ [g] ∧ prd x = prd g) g) : BInv (a ++ [g]) (putA kvs (.inl (prd g)) (.fz (kD g))) := by
  obtain ⟨h1, h2, h3⟩ := h
  obtain ⟨k1, k2⟩ := put_keys (k := .inl (prd g)) (v := O.fz (kD g)) h1
  refine ⟨k1, by rw [List.length_append]; simp only [List.length_cons, List.length_nil]; omega, fun p => ?_⟩
  rw [look_put]
  by_cases hp : p = prd g
  · subst hp
    exact .inr ⟨g, by simp, hm⟩
  · have hne : ¬ ((Sum.inl p : Key) = Sum.inl (prd g)) := fun z => hp (Sum.inl.inj z)
    rw [if_neg hne]
    rcases h3 p with ⟨q1, q2⟩ | ⟨e, q1, q2⟩
    · refine .inl ⟨q1, fun x hx => ?_⟩
      rcases List.mem_append.mp hx with hx | hx
      · exact q2 x hx
      · simp at hx; subst hx; exact fun z => hp z.symm
    · refine .inr ⟨e, q1, q2.congr fun x => ?_⟩
      rw [List.mem_append]
      constructor
      · rintro ⟨z1, z2⟩; exact ⟨.inl z1, z2⟩
      · rintro ⟨z1 | z1, z2⟩
        · exact ⟨z1, z2⟩
        · simp at z1; subst z1; exact absurd z2.symm hp
theorem bbp_loop : ∀ (r a : List (List Int)) (kvs : List (Key × O)) (G : D) (l2 l3 l4 : Option O), (∀ g ∈ r, g.length ≤ 20 ∧ okG g) → a.length + r.length ≤ 10000000 → BInv a kvs →
    ∃ kvs' l2' l3' l4', loop (gNm 2) (b1_best_by_products sp_product_of) (r.map dG) [some (.fz G), some (.dct none kvs), l2, l3, l4] = some (.nx [some (.fz G), some (.dct none kvs'), l2', l3', l4']) ∧ BInv (a ++ r) kvs'
  | [], a, kvs, G, l2, l3, l4, _, _, h => ⟨kvs, l2, l3, l4, by simp [loop], by simpa using h⟩
  | g :: r, a, kvs, G, l2, l3, l4, ok, hz, h => by
    obtain ⟨o1, o2⟩ := ok g (by simp)
    have hlen : kvs.length < sizeLine := by have := h.2.1; simp at hz; rw [sizeLine_eq]; omega
    have step : ∃ kvs', b1_best_by_products sp_product_of [some (.fz G), some (.dct none kvs), some (.fz (dG g)), l3, l4] = some (.nx [some (.fz G), some (.dct none kvs'), some (.fz (dG g)), some (.fz (.int (prd g))), some (.fz (kD g))]) ∧ BInv (a ++ [g]) kvs' := by
      unfold b1_best_by_products
      rcases h.2.2 (prd g) with ⟨q1, q2⟩ | ⟨e, q1, q2⟩
      · refine ⟨putA kvs (.inl (prd g)) (.fz (kD g)), ?_, h.put g (fun _ _ => trivial) ⟨⟨by simp, rfl⟩, fun y hy => ?_⟩⟩
        · simp [sp_product_ok o1 o2, sum_dG, gTup_small, lookO, lookK_frz, q1, hlen, h.1]
          exact ⟨rfl, rfl⟩
        · rcases List.mem_append.mp hy.1 with z | z
          · exact absurd hy.2 (q2 y z)
          · simp at z; subst z; exact lex_irr _
      · have hs := q2.step (y := g) (S' := fun x => x ∈ a ++ [g] ∧ prd x = prd g) ⟨by simp, rfl⟩ fun x => by
          rw [List.mem_append]
          constructor
          · rintro ⟨z1 | z1, z2⟩
            · exact .inl ⟨z1, z2⟩
            · simp at z1; exact .inr z1
          · rintro (⟨z1, z2⟩ | z1)
            · exact ⟨.inl z1, z2⟩
            · subst z1; exact ⟨.inr (by simp), rfl⟩
        have hix : ixO (.fz (.dct (frzK kvs))) (.int (prd g)) = some (kD e) := by
          simp [ixO, ixD, lookK_frz, q1, frz]
        have hkd : D.tup [.int g.sum, dG g] = kD g := rfl
        by_cases hx : lex (tkK g) (tkK e) = true
        · rw [if_pos hx] at hs
          refine ⟨putA kvs (.inl (prd g)) (.fz (kD g)), ?_, h.put g (fun _ _ => trivial) hs⟩
          simp [sp_product_ok o1 o2, sum_dG, gTup_small, lookO, lookK_frz, q1, hlen, h.1, hix, hkd, ltD_kD, hx]
        · rw [if_neg hx] at hs
          have hx' : lex (tkK g) (tkK e) = false := by simpa using hx
          refine ⟨kvs, ?_, h.1, by have := h.2.1; rw [List.length_append]; omega, fun p => ?_⟩
          · simp [sp_product_ok o1 o2, sum_dG, gTup_small, lookO, lookK_frz, q1, hlen, h.1, hix, hkd, ltD_kD, hx']
          · by_cases hp : p = prd g
            · subst hp
              exact .inr ⟨e, q1, hs⟩
            · rcases h.2.2 p with ⟨q3, q4⟩ | ⟨e', q3, q4⟩
              · refine .inl ⟨q3, fun x hx => ?_⟩
                rcases List.mem_append.mp hx with hx | hx
                · exact q4 x hx
                · simp at hx; subst hx; exact fun z => hp z.symm
              · refine .inr ⟨e', q3, q4.congr fun x => ?_⟩
                rw [List.mem_append]
                constructor
                · rintro ⟨z1, z2⟩; exact ⟨.inl z1, z2⟩
                · rintro ⟨z1 | z1, z2⟩
                  · exact ⟨z1, z2⟩
                  · simp at z1; subst z1; exact absurd z2.symm hp
    obtain ⟨kvs', s1, s2⟩ := step
    obtain ⟨kvs2, m2, m3, m4, e1, e2⟩ := bbp_loop r (a ++ [g]) kvs' G (some (.fz (dG g))) (some (.fz (.int (prd g)))) (some (.fz (kD g))) (fun x hx => ok x (List.mem_cons_of_mem _ hx)) (by simp at hz ⊢; omega) s2
    refine ⟨kvs2, m2, m3, m4, ?_, by simpa using e2⟩
    rw [List.map_cons]
    simp only [loop]
    simp only [gNm_ap, List.length_cons, List.length_nil, Nat.reduceAdd, Nat.reduceLT, if_true, List.set_cons_succ, List.set_cons_zero]
    rw [s1]
    exact e1
theorem bbp_ok {gs : List (List Int)} (ok : ∀ g ∈ gs, g.length ≤ 20 ∧ okG g) (hz : gs.length ≤ 10000000) : ∃ kvs, sp_best_by_products [.lst (gs.map dG)] = some (.dct none kvs) ∧ BInv gs kvs := by
  obtain ⟨kvs, m2, m3, m4, e1, e2⟩ := bbp_loop gs [] [] (.lst (gs.map dG)) none none none ok (by simpa using hz) ⟨by simp, by simp, fun p => .inl ⟨rfl, fun _ h => nomatch h⟩⟩
  refine ⟨kvs, ?_, by simpa using e2⟩
  unfold sp_best_by_products spOf r_best_by_products
  simp [start0]
  rw [show seqD (.lst (gs.map dG)) = some (gs.map dG) from rfl]
  simp [e1, ends]
end T
namespace T
open PySem PySem.Spec PyProof.Rows L2
abbrev Cand := Int × List (Int × Int)
def trO (c : Cand) : O := .tup none [.fz (.int c.1), .lst none (c.2.map fun q => .fz (pD q))]
theorem frz_trO (c : Cand) : frz (trO c) = trD c := by
  unfold trO
  simp only [frz, frzL, trD, frzL_map pD]
theorem ice_trO (c : Cand) : iceO (some (trO c)) = some (.fz (trD c)) := by
  rw [← frz_trO]; rfl
theorem pairs_zip : ∀ d e : List Int, pairs (d.map .int) (e.map .int) = (d.zip e).map pD
  | [], _ => by simp [pairs]
  | _ :: _, [] => by simp [pairs]
  | x :: d, y :: e => by simp [pairs, pairs_zip d e, pD]
theorem paired_ok {d e : List Int} (h : d.length ≤ 1000) : sp_paired [dG d, dG e] = some (trO (d.sum + e.sum, d.zip e)) := by
  have z : lzD [dG d, dG e] = some (.lst none (((d.zip e).map pD).map .fz)) := by
    show (if min (d.map D.int).length (e.map D.int).length ≤ sizeLine then some (O.lst none ((pairs (d.map .int) (e.map .int)).map .fz)) else none) = _
    rw [if_pos (by rw [sizeLine_eq]; simp; omega), pairs_zip]
  unfold sp_paired spOf r_paired
  simp [start0, sum_dG, z, ends, trO]
def ratD (t b : Int) : D := .ins 0 [.int t, .int b]
/-- the trains of the ratio t/b whose driving row is in a, the driven one in gs -/
def Sx (gs : List (List Int)) (t b : Int) (a : List (List Int)) (c : Cand) : Prop := ∃ d ∈ a, ∃ e ∈ gs, prd d * b = prd e * t ∧ c = (d.sum + e.sum, d.zip e)
def Acc (gs : List (List Int)) (t b : Int) (a : List (List Int)) (r : Option Cand) : Prop := (r = none ∧ ∀ c, ¬ Sx gs t b a c) ∨ ∃ c, r = some c ∧ IsMin tkT (Sx gs t b a) c
def fO : Option Cand → O
  | none => .fz .non
  | some c => trO c
theorem Acc.skip {gs a : List (List Int)} {t b : Int} {r : Option Cand} {g : List Int} (h : Acc gs t b a r) (hn : ∀ e ∈ gs, prd g * b ≠ prd e * t) : Acc gs t b (a ++ [g]) r := by
  have q : ∀ c, Sx gs t b a c ↔ Sx gs t b (a ++ [g]) c := fun c => by
    constructor
    · rintro ⟨d, h1, h2⟩; exact ⟨d, List.mem_append_left _ h1, h2⟩
    · rintro ⟨d, h1, e, h2, h3, h4⟩
      rcases List.mem_append.mp h1 with z | z
      · exact ⟨d, z, e, h2, h3, h4⟩
      · simp at z; subst z; exact absurd h3 (hn e h2)
  rcases h with ⟨h1, h2⟩ | ⟨c, h1, h2⟩
  · exact .inl ⟨h1, fun c z => h2 c ((q c).mpr z)⟩
  · exact .inr ⟨c, h1, h2.congr q⟩
theorem Acc.add {gs a : List (List Int)} {t b : Int} {r : Option Cand} {g e : List Int} {n : Nat} (h : Acc gs t b a r) (ht : t ≠ 0) (hl : ∀ x ∈ gs, x.length = n) (hg : g.length = n) (hm : IsMin tkK (fun x => x ∈ gs ∧ prd g * b = prd x * t) e) :
    Acc gs t b (a ++ [g]) (match r with
      | none => some (g.sum + e.sum, g.zip e)
      | some c => some (if lex (tkT (g.sum + e.sum, g.zip e)) (tkT c) = true then (g.sum + e.sum, g.zip e) else c)) := by
  have hmin : IsMin tkT (fun c => ∃ x ∈ gs, prd g * b = prd x * t ∧ c = (g.sum + x.sum, g.zip x)) (g.sum + e.sum, g.zip e) := by
    refine ⟨⟨e, hm.1.1, hm.1.2, rfl⟩, ?_⟩
    rintro c ⟨x, h1, h2, rfl⟩
    rw [lex_train (by rw [hl x h1, hg]) (by rw [hl e hm.1.1, hg])]
    exact hm.2 x ⟨h1, h2⟩
  have q : ∀ c, Sx gs t b (a ++ [g]) c ↔ Sx gs t b a c ∨ ∃ x ∈ gs, prd g * b = prd x * t ∧ c = (g.sum + x.sum, g.zip x) := fun c => by
    constructor
    · rintro ⟨d, h1, e, h2, h3, h4⟩
      rcases List.mem_append.mp h1 with z | z
      · exact .inl ⟨d, z, e, h2, h3, h4⟩
      · simp at z; subst z; exact .inr ⟨e, h2, h3, h4⟩
    · rintro (⟨d, h1, h2⟩ | ⟨x, h1, h2, h3⟩)
      · exact ⟨d, List.mem_append_left _ h1, h2⟩
      · exact ⟨g, by simp, x, h1, h2, h3⟩
  rcases h with ⟨h1, h2⟩ | ⟨c, h1, h2⟩
  · subst h1
    refine .inr ⟨_, rfl, hmin.congr fun c => ?_⟩
    rw [q]
    exact ⟨.inr, fun z => z.elim (fun y => absurd y (h2 c)) id⟩
  · subst h1
    exact .inr ⟨_, rfl, h2.union hmin q⟩
structure TB (t b : Int) : Prop where
  t0 : 0 < t
  t1 : t.natAbs ≤ 2 ^ 200
  b0 : 0 < b
  b1 : b.natAbs ≤ 2 ^ 200
theorem divmod_ok {i j : Int} (hj : 0 < j) (hi : i.natAbs < 2 ^ 1000) : divmodD [.int i, .int j] = some (.tup [.int (i / j), .int (i % j)]) := by
  have := PyProof.Rows.intBits_le (k := 1000) hi
  show (if 0 < j ∧ Builtin.Int.intBits i ≤ 4000 then some (D.tup [.int (i / j), .int (i % j)]) else none) = _
  rw [if_pos ⟨hj, by omega⟩]
theorem best_step {gs a : List (List Int)} {t b : Int} {kvs : List (Key × O)} {r : Option Cand} {g : List Int} {n : Nat} (G : D) (l5 l6 l7 : Option O) (tb : TB t b) (hb : BInv gs kvs) (hl : ∀ x ∈ gs, x.length = n) (hn : n ≤ 20) (hg : g.length = n) (ok : okG g) (h : Acc gs t b a r) :
    ∃ r' l5' l6' l7', (b1_best_of sp_paired sp_product_of sp_best_by_products [some (.fz (ratD t b)), some (.fz G), some (.dct none kvs), some (fO r), some (.fz (dG g)), l5, l6, l7] = some (.nx [some (.fz (ratD t b)), some (.fz G), some (.dct none kvs), some (fO r'), some (.fz (dG g)), l5', l6', l7']) ∨
      b1_best_of sp_paired sp_product_of sp_best_by_products [some (.fz (ratD t b)), some (.fz G), some (.dct none kvs), some (fO r), some (.fz (dG g)), l5, l6, l7] = some (.ct [some (.fz (ratD t b)), some (.fz G), some (.dct none kvs), some (fO r'), some (.fz (dG g)), l5', l6', l7'])) ∧ Acc gs t b (a ++ [g]) r' := by
  have p1 := prd_big (by omega) ok
  have hs : szM (prd g) b = true := szM_big (big_of p1.2 (by decide)) (big_of tb.b1 (by decide))
  have hi : (prd g * b).natAbs < 2 ^ 1000 := by
    rw [Int.natAbs_mul]
    have : (prd g).natAbs * b.natAbs ≤ 2 ^ 200 * 2 ^ 200 := Nat.mul_le_mul p1.2 tb.b1
    have h2 : (2 : Nat) ^ 200 * 2 ^ 200 = 2 ^ 400 := by decide
    have h3 : (2 : Nat) ^ 400 < 2 ^ 1000 := by decide
    omega
  have hd := divmod_ok tb.t0 hi
  have sp := sp_product_ok (g := g) (by omega) ok
  have f1 : fldD fx_bottom (ratD t b) = some (.int b) := rfl
  have f2 : fldD fx_top (ratD t b) = some (.int t) := rfl
  have em := Int.emod_nonneg (prd g * b) (show t ≠ 0 by have := tb.t0; omega)
  unfold b1_best_of
  by_cases hr : 0 < prd g * b % t
  · refine ⟨r, l5, some (.fz (.int (prd g * b / t))), some (.fz (.int (prd g * b % t))), .inr ?_, h.skip fun e he z => ?_⟩
    · simp [sp, frz, f1, f2, hs, hd, hr]
    · rw [z, Int.mul_emod_left] at hr; omega
  · have hz : prd g * b % t = 0 := by omega
    have hq : prd g * b / t * t = prd g * b := Int.ediv_mul_cancel (Int.dvd_of_emod_eq_zero hz)
    have hiff : ∀ x, prd x = prd g * b / t ↔ prd g * b = prd x * t := fun x => by
      constructor
      · intro z; rw [z, hq]
      · intro z; rw [z, Int.mul_ediv_cancel _ (show t ≠ 0 by have := tb.t0; omega)]
    rcases hb.2.2 (prd g * b / t) with ⟨q1, q2⟩ | ⟨e, q1, q2⟩
    · refine ⟨r, l5, some (.fz (.int (prd g * b / t))), some (.fz (.int (prd g * b % t))), .inr ?_, h.skip fun e he z => q2 e he ((hiff e).mpr z)⟩
      simp [sp, frz, f1, f2, hs, hd, hz, lookO, lookK_frz, q1]
    · have hm : IsMin tkK (fun x => x ∈ gs ∧ prd g * b = prd x * t) e := q2.congr fun x => by rw [hiff]
      have hadd := h.add (by have := tb.t0; omega) hl hg hm
      have hp := paired_ok (d := g) (e := e) (by omega)
      have ix1 : ixO (.dct none kvs) (.int (prd g * b / t)) = some (kD e) := by simp [ixO, lookO, q1]
      have ix2 : ixD (kD e) (.int 1) = some (dG e) := rfl
      cases r with
      | none =>
        refine ⟨some (g.sum + e.sum, g.zip e), none, some (.fz (.int (prd g * b / t))), some (.fz (.int (prd g * b % t))), .inl ?_, hadd⟩
        simp [sp, frz, f1, f2, hs, hd, hz, lookO, lookK_frz, q1, ix1, ix2, hp, fO, isN]
      | some c =>
        dsimp only at hadd
        have nn : isN (trD c) = some (.bl false) := rfl
        by_cases hx : lex (tkT (g.sum + e.sum, g.zip e)) (tkT c) = true
        · rw [if_pos hx] at hadd
          refine ⟨some (g.sum + e.sum, g.zip e), none, some (.fz (.int (prd g * b / t))), some (.fz (.int (prd g * b % t))), .inl ?_, hadd⟩
          simp [sp, frz, f1, f2, hs, hd, hz, lookO, lookK_frz, q1, ix1, ix2, hp, fO, ice_trO, nn, ltD_trD, hx]
        · rw [if_neg hx] at hadd
          have hx' : lex (tkT (g.sum + e.sum, g.zip e)) (tkT c) = false := by simpa using hx
          refine ⟨some c, some (trO (g.sum + e.sum, g.zip e)), some (.fz (.int (prd g * b / t))), some (.fz (.int (prd g * b % t))), .inl ?_, hadd⟩
          simp [sp, frz, f1, f2, hs, hd, hz, lookO, lookK_frz, q1, ix1, ix2, hp, fO, ice_trO, nn, ltD_trD, hx']
theorem best_loop {gs : List (List Int)} {t b : Int} {kvs : List (Key × O)} {n : Nat} (G : D) (tb : TB t b) (hb : BInv gs kvs) (hl : ∀ x ∈ gs, x.length = n) (hn : n ≤ 20) : ∀ (rest a : List (List Int)) (r : Option Cand) (l4 l5 l6 l7 : Option O), (∀ g ∈ rest, g.length = n ∧ okG g) → Acc gs t b a r →
    ∃ r' l4' l5' l6' l7', loop (gNm 4) (b1_best_of sp_paired sp_product_of sp_best_by_products) (rest.map dG) [some (.fz (ratD t b)), some (.fz G), some (.dct none kvs), some (fO r), l4, l5, l6, l7] = some (.nx [some (.fz (ratD t b)), some (.fz G), some (.dct none kvs), some (fO r'), l4', l5', l6', l7']) ∧ Acc gs t b (a ++ rest) r'
  | [], a, r, l4, l5, l6, l7, _, h => ⟨r, l4, l5, l6, l7, by simp [loop], by simpa using h⟩
  | g :: rest, a, r, l4, l5, l6, l7, ok, h => by
    obtain ⟨r1, m5, m6, m7, s1, s2⟩ := best_step G l5 l6 l7 tb hb hl hn (ok g (by simp)).1 (ok g (by simp)).2 h
    obtain ⟨r2, k4, k5, k6, k7, e1, e2⟩ := best_loop G tb hb hl hn rest (a ++ [g]) r1 (some (.fz (dG g))) m5 m6 m7 (fun x hx => ok x (List.mem_cons_of_mem _ hx)) s2
    refine ⟨r2, k4, k5, k6, k7, ?_, by simpa using e2⟩
    rw [List.map_cons]
    simp only [loop]
    simp only [gNm_ap, List.length_cons, List.length_nil, Nat.reduceAdd, Nat.reduceLT, if_true, List.set_cons_succ, List.set_cons_zero]
    rcases s1 with s1 | s1 <;> (rw [s1]; exact e1)
theorem best_ok {gs : List (List Int)} {t b : Int} {n : Nat} (tb : TB t b) (hn : n ≤ 20) (ok : ∀ g ∈ gs, g.length = n ∧ okG g) (hz : gs.length ≤ 10000000) : ∃ r, sp_best_of [ratD t b, .lst (gs.map dG)] = some (fO r) ∧ Acc gs t b gs r := by
  obtain ⟨kvs, q1, q2⟩ := bbp_ok (gs := gs) (fun g hg => ⟨by have := (ok g hg).1; omega, (ok g hg).2⟩) hz
  obtain ⟨r, m4, m5, m6, m7, e1, e2⟩ := best_loop (.lst (gs.map dG)) tb q2 (fun x hx => (ok x hx).1) hn gs [] none none none none none ok (.inl ⟨rfl, fun c ⟨_, h, _⟩ => nomatch h⟩)
  refine ⟨r, ?_, by simpa using e2⟩
  unfold sp_best_of spOf r_best_of
  have e1' : loop (gNm 4) (b1_best_of sp_paired sp_product_of sp_best_by_products) (gs.map dG) [some (.fz (ratD t b)), some (.fz (.lst (gs.map dG))), some (.dct none kvs), some (.fz .non), none, none, none, none] = _ := e1
  simp [start0, q1]
  rw [show seqD (.lst (gs.map dG)) = some (gs.map dG) from rfl]
  simp [e1', ends]
/-! ### fewest -/
/-- the trains of the ratio t/b of n pairs within l .. m -/
def Sn (l m : Int) (t b : Int) (n : Nat) : Cand → Prop := Sx (grp l m n) t b (grp l m n)
/-- what fewest tells: the fewest pairs, of these the least train -/
def Few (l m t b : Int) (P : Nat) (r : Option (List (Int × Int))) : Prop := (r = none ∧ ∀ n, 1 ≤ n → n ≤ P → ∀ c, ¬ Sn l m t b n c) ∨
  ∃ n c, 1 ≤ n ∧ n ≤ P ∧ (∀ j, 1 ≤ j → j < n → ∀ c, ¬ Sn l m t b j c) ∧ IsMin tkT (Sn l m t b n) c ∧ r = some c.2
theorem Few.unique {l m t b : Int} {P : Nat} {r r' : Option (List (Int × Int))} (h : Few l m t b P r) (h' : Few l m t b P r') : r = r' := by
  rcases h with ⟨h1, h2⟩ | ⟨n, c, h1, h2, h3, h4, h5⟩ <;> rcases h' with ⟨k1, k2⟩ | ⟨n', c', k1, k2, k3, k4, k5⟩
  · rw [h1, k1]
  · exact absurd k4.1 (h2 n' k1 k2 c')
  · exact absurd h4.1 (k2 n h1 h2 c)
  · have e : n = n' := by
      rcases Nat.lt_trichotomy n n' with z | z | z
      · exact absurd h4.1 (k3 n h1 z c)
      · exact z
      · exact absurd k4.1 (h3 n' k1 z c')
    subst e
    rw [h5, k5, h4.unique (fun _ _ _ _ => tkT_inj) k4]
structure LM (l m : Int) (P : Nat) : Prop where
  l0 : 1 ≤ l
  m1 : m ≤ 1000
  le : l ≤ m
  P1 : P ≤ 10
  w : ∀ k, k ≤ P → (m + 1 - l).toNat ^ k ≤ 1000000
theorem LM.grp {l m : Int} {P n : Nat} (h : LM l m P) (hn : n ≤ P) : ∀ g ∈ grp l m n, g.length = n ∧ okG g := fun g hg => by
  obtain ⟨a, b, _⟩ := grp_in hg
  refine ⟨a, fun x hx => ?_⟩
  have := b x hx
  have := h.l0
  have := h.m1
  omega
def lsO (ps : List (Int × Int)) : O := .lst none (ps.map fun q => .fz (pD q))
def rsO : Option (List (Int × Int)) → O
  | none => .fz .non
  | some ps => lsO ps
theorem few_loop {l m t b : Int} {P : Nat} (tb : TB t b) (lm : LM l m P) : ∀ (k : Nat) (i : Nat) (l4 l5 : Option O), i + k = P + 1 → 1 ≤ i → (∀ n, 1 ≤ n → n < i → ∀ c, ¬ Sn l m t b n c) →
    (∃ l4' l5', loop (gNm 4) (b1_fewest sp_best_of sp_groups_of) ((rng i P).map .int) [some (.fz (ratD t b)), some (.fz (.int l)), some (.fz (.int m)), some (.fz (.int P)), l4, l5] = some (.nx [some (.fz (ratD t b)), some (.fz (.int l)), some (.fz (.int m)), some (.fz (.int P)), l4', l5']) ∧ Few l m t b P none) ∨
    ∃ ps ρ, loop (gNm 4) (b1_fewest sp_best_of sp_groups_of) ((rng i P).map .int) [some (.fz (ratD t b)), some (.fz (.int l)), some (.fz (.int m)), some (.fz (.int P)), l4, l5] = some (.rt (lsO ps) ρ) ∧ Few l m t b P (some ps)
  | 0, i, l4, l5, h, hi, hc => by
    have e : rng (i : Int) P = [] := by
      unfold rng
      have : ((P : Int) + 1 - i).toNat = 0 := by omega
      rw [this]; rfl
    rw [e]
    exact .inl ⟨l4, l5, by simp [loop], .inl ⟨rfl, fun n h1 h2 => hc n h1 (by omega)⟩⟩
  | k + 1, i, l4, l5, h, hi, hc => by
    have e : rng (i : Int) P = (i : Int) :: rng ((i + 1 : Nat) : Int) P := by
      unfold rng
      have e1 : ((P : Int) + 1 - i).toNat = ((P : Int) + 1 - ((i + 1 : Nat) : Int)).toNat + 1 := by omega
      rw [e1, List.range_succ_eq_map, List.map_cons, List.map_map]
      rw [List.cons_eq_cons]
      refine ⟨by simp, List.map_congr_left fun x _ => ?_⟩
      simp only [Function.comp]
      omega
    have hg := sp_groups_ok (l := l) (m := m) (n := i) (by have := lm.l0; have := lm.m1; have := lm.le; constructor <;> omega) (by have := lm.l0; have := lm.m1; have := lm.le; constructor <;> omega) (by have := lm.P1; omega) fun k hk => lm.w k (by omega)
    obtain ⟨r, b1, b2⟩ := best_ok (gs := grp l m i) (n := i) tb (by have := lm.P1; omega) (lm.grp (by omega)) (by have := grp_len (l := l) (m := m) i; have := lm.w i (by omega); omega)
    have fz : frz (.lst none (gO (grp l m i))) = .lst ((grp l m i).map dG) := frz_gO _
    rw [e, List.map_cons]
    simp only [loop]
    simp only [gNm_ap, List.length_cons, List.length_nil, Nat.reduceAdd, Nat.reduceLT, if_true, List.set_cons_succ, List.set_cons_zero]
    rcases b2 with ⟨r1, r2⟩ | ⟨c, r1, r2⟩
    · subst r1
      have step : b1_fewest sp_best_of sp_groups_of [some (.fz (ratD t b)), some (.fz (.int l)), some (.fz (.int m)), some (.fz (.int P)), some (.fz (.int i)), l5] = some (.nx [some (.fz (ratD t b)), some (.fz (.int l)), some (.fz (.int m)), some (.fz (.int P)), some (.fz (.int i)), some (.fz .non)]) := by
        unfold b1_fewest
        simp [hg, fz, b1, fO, notN]
      rw [step]
      refine few_loop tb lm k (i + 1) _ _ (by omega) (by omega) fun n h1 h2 => ?_
      by_cases z : n = i
      · subst z; exact r2
      · exact hc n h1 (by omega)
    · subst r1
      have step : b1_fewest sp_best_of sp_groups_of [some (.fz (ratD t b)), some (.fz (.int l)), some (.fz (.int m)), some (.fz (.int P)), some (.fz (.int i)), l5] = some (.rt (lsO c.2) [some (.fz (ratD t b)), some (.fz (.int l)), some (.fz (.int m)), some (.fz (.int P)), some (.fz (.int i)), none]) := by
        unfold b1_fewest
        have nn : notN (trD c) = some (.bl true) := rfl
        simp [hg, fz, b1, fO, ice_trO, nn]
        simp [trO, lsO]
      rw [step]
      exact .inr ⟨c.2, _, rfl, .inr ⟨i, c, hi, by omega, hc, r2, rfl⟩⟩
end T
namespace T
open PySem PySem.Spec PyProof.Rows L2
theorem mapF_eq {α β : Type} {f : F α} {g : α → Option β} {ρ ρ1 : Env} {a : α} {b : β} (h1 : f ρ = some (a, ρ1)) (h2 : g a = some b) : mapF f g ρ = some (b, ρ1) := by
  rw [mapF_ap, h1]
  dsimp only
  rw [h2]
theorem sFor_eq {f : F (List D)} {g : FG} {b : FS} {ρ ρ1 : Env} {ds : List D} (h : f ρ = some (ds, ρ1)) : sFor f g b ρ = loop g b ds ρ1 := by
  rw [sFor_ap, h]
theorem spOf_eq {n m : Nat} {g : FS} {ds : List D} (h : ds.length = n) : spOf n m g ds = ends (g (start0 m ds)) := if_pos h
def seqO (r : Option Out) (g : FS) : Option Out := match r with
  | some (.nx ρ1) => g ρ1
  | o => o
theorem sSeq_eq {f g : FS} {ρ : Env} : sSeq f g ρ = seqO (f ρ) g := rfl
theorem hr1 {P : Nat} (h : P ≤ 10) : rng2 [.int 1, .int ((P : Int) + 1)] = some ((rng 1 P).map .int) := rng2_ok (by omega) (by omega)
theorem fc {l m t b : Int} {P : Nat} : aCons (eC (D.int 1)) (aCons (map2F (eVar 3) (eC (D.int 1)) addD) aNil) (start0 6 [ratD t b, .int l, .int m, .int P]) = some ([.int 1, .int ((P : Int) + 1)], [some (.fz (ratD t b)), some (.fz (.int l)), some (.fz (.int m)), some (.fz (.int P)), none, none]) := by
  simp [start0]
theorem fx {sb sg : List D → Option O} {l m t b : Int} {P : Nat} (h : P ≤ 10) : spOf 4 6 (r_fewest sb sg) [ratD t b, .int l, .int m, .int P] = ends (seqO (loop (gNm 4) (b1_fewest sb sg) ((rng 1 P).map .int) [some (.fz (ratD t b)), some (.fz (.int l)), some (.fz (.int m)), some (.fz (.int P)), none, none]) (sRet (fzF (eC .non)))) := by
  rw [spOf_eq (show [ratD t b, D.int l, .int m, .int (P : Int)].length = 4 from rfl)]
  unfold r_fewest
  rw [sSeq_eq, sFor_eq (mapF_eq fc (hr1 h))]
theorem sp_fewest_eq : sp_fewest = spOf 4 6 (r_fewest sp_best_of sp_groups_of) := rfl
theorem fewest_ok {l m t b : Int} {P : Nat} (tb : TB t b) (lm : LM l m P) : ∃ r, sp_fewest [ratD t b, .int l, .int m, .int P] = some (rsO r) ∧ Few l m t b P r := by
  have e1 : ((1 : Nat) : Int) = 1 := rfl
  have hf := few_loop tb lm P 1 none none (by omega) (by omega) (fun n h1 h2 => by omega)
  rw [e1] at hf
  rw [sp_fewest_eq, fx lm.P1]
  rcases hf with ⟨l4, l5, h1, h2⟩ | ⟨ps, ρ, h1, h2⟩
  · exact ⟨none, by rw [h1]; rfl, h2⟩
  · exact ⟨some ps, by rw [h1]; rfl, h2⟩
end T
namespace T
open PySem PySem.Spec PyProof.Rows L2
/-! ### the law's numbers -/
def mixF (c k : Int) : Int :=
  let a := (c + 104729 * k + 17) % 2147483647
  let b := (a * a + 48271 * a + k) % 2147483629
  (b * b + 16807 * b) % 2147483587
theorem mix_bd (c k : Int) : 0 ≤ mixF c k ∧ mixF c k < 2147483587 := ⟨Int.emod_nonneg _ (by decide), Int.emod_lt_of_pos _ (by decide)⟩
theorem mix_ok {c k : Int} (hk : k.natAbs < 2 ^ 100) : sp__law_mix [.int c, .int k] = some (.fz (.int (mixF c k))) := by
  have m1 : ∀ x : Int, x.fmod 2147483647 = x % 2147483647 := fun x => Int.fmod_eq_emod_of_nonneg _ (by decide)
  have m2 : ∀ x : Int, x.fmod 2147483629 = x % 2147483629 := fun x => Int.fmod_eq_emod_of_nonneg _ (by decide)
  have m3 : ∀ x : Int, x.fmod 2147483587 = x % 2147483587 := fun x => Int.fmod_eq_emod_of_nonneg _ (by decide)
  have z0 : szM 104729 k = true := szM_big (big_of (n := 20) (by decide) (by decide)) (big_of (n := 100) (by omega) (by decide))
  generalize ha : (c + 104729 * k + 17) % 2147483647 = a
  have a0 : 0 ≤ a := by rw [← ha]; exact Int.emod_nonneg _ (by decide)
  have a1 : a < 2147483647 := by rw [← ha]; exact Int.emod_lt_of_pos _ (by decide)
  have ba : a.natAbs < big := big_of (n := 32) (by omega) (by decide)
  have z1 : szM a a = true := szM_big ba ba
  have z2 : szM 48271 a = true := szM_big (big_of (n := 20) (by decide) (by decide)) ba
  generalize hb : (a * a + 48271 * a + k) % 2147483629 = b
  have b0 : 0 ≤ b := by rw [← hb]; exact Int.emod_nonneg _ (by decide)
  have b1 : b < 2147483629 := by rw [← hb]; exact Int.emod_lt_of_pos _ (by decide)
  have bb : b.natAbs < big := big_of (n := 32) (by omega) (by decide)
  have z3 : szM b b = true := szM_big bb bb
  have z4 : szM 16807 b = true := szM_big (big_of (n := 20) (by decide) (by decide)) bb
  have e : mixF c k = (b * b + 16807 * b) % 2147483587 := by
    unfold mixF
    simp only [ha, hb]
  unfold sp__law_mix spOf r__law_mix
  simp [start0, z0, m1, ha, z1, z2, m2, hb, z3, z4, m3, ends, e]
/-! ### the law's products -/
theorem law_product_ok {g : List Int} (hl : g.length ≤ 20) (ok : okG g) : sp__law_product [dG g] = some (.fz (.int (prd g))) := by
  obtain ⟨ρ', h1, h2⟩ := loop_all (g := gNm 2) (b := b1__law_product) (fun ds ρ => ∃ (a r : List Int) (l : Option O), g = a ++ r ∧ ds = r.map .int ∧ ρ = [some (.fz (dG g)), some (.fz (.int (prd a))), l])
    (fun d ds ρ ⟨a, r, l, e1, e2, e3⟩ => by
      cases r with
      | nil => cases e2
      | cons x r =>
        rw [List.map_cons] at e2
        injection e2 with e2 e4
        subst e2 e4 e3
        have la : a.length ≤ 20 := by have := congrArg List.length e1; simp at this; omega
        have p1 := prd_big la fun y hy => ok y (by rw [e1]; exact List.mem_append_left _ hy)
        have p2 := ok x (by rw [e1]; simp)
        have z : szM (prd a) x = true := szM_big (big_of p1.2 (by decide)) (big_of (n := 10) (by omega) (by decide))
        refine ⟨[some (.fz (dG g)), some (.fz (.int (prd a))), some (.fz (.int x))], _, by simp, .inl ?_, a ++ [x], r, some (.fz (.int x)), by simp [e1], rfl, rfl⟩
        unfold b1__law_product
        simp [z, prd_snoc]) (ds := g.map .int) (ρ := [some (.fz (dG g)), some (.fz (.int 1)), none]) ⟨[], g, none, rfl, rfl, rfl⟩
  obtain ⟨a, r, l, e1, e2, e3⟩ := h2
  have : r = [] := by cases r with
    | nil => rfl
    | cons _ _ => cases e2
  subst this e3
  rw [List.append_nil] at e1
  subst e1
  unfold sp__law_product spOf r__law_product
  simp [start0]
  rw [show seqD (dG g) = some (g.map .int) from rfl]
  simp [h1, ends]
/-! ### the law's groups -/
theorem eVar_o {ρ : Env} {i : Nat} {o : O} (h : ρ[i]? = some (some o)) : eVar i ρ = some (frz o, ρ.set i (some (.fz (frz o)))) := by
  unfold eVar
  rw [h]
  cases o with
  | fz d =>
    dsimp only
    have : ρ.set i (some (.fz d)) = ρ := by
      obtain ⟨hi, e⟩ := List.getElem?_eq_some_iff.mp h
      rw [← e, List.set_getElem_self]
    show some (d, ρ) = some (d, ρ.set i (some (.fz d)))
    rw [this]
  | lst t xs => rfl
  | tup t xs => rfl
  | dct t xs => rfl
  | ins t C xs => rfl
theorem law_comp (l m n o3 o4 o5 g top : O) (gg : List Int) (hgg : g = .fz (dG gg)) (hg : gg.length ≤ 1000) : ∀ (ts : List Int) (acc : List D), acc.length + ts.length ≤ 1000000 →
    comp (gNm 8) yesF (map2F (eVar 6) (mapF (aCons (eVar 8) aNil) gTup') addD) [8] (ts.map .int) acc [some l, some m, some n, some o3, some o4, some o5, some g, some top, none] =
      some (acc ++ ts.map fun t => dG (gg ++ [t]), [some l, some m, some n, some o3, some o4, some o5, some g, some top, none])
  | [], acc, _ => by simp [comp]
  | t :: ts, acc, h => by
    subst hgg
    have z : gg.length + 1 ≤ sizeLine := by rw [sizeLine_eq]; omega
    have e : addD (dG gg) (.tup [.int t]) = some (dG (gg ++ [t])) := by
      unfold dG
      rw [addD_tup, if_pos (by simpa using z)]
      simp
    have z2 : acc.length < sizeLine := by rw [sizeLine_eq]; simp at h; omega
    have ih := law_comp l m n o3 o4 o5 (.fz (dG gg)) top gg rfl hg ts (acc ++ [dG (gg ++ [t])]) (by simp at h ⊢; omega)
    rw [List.map_cons]
    simp only [comp]
    simp [gTup_small, e, z2, wipeE]
    simpa using ih
theorem topOf_ix (m : Int) (g : List Int) : ixD (.lst (.int m :: g.map .int)) (.int (-1)) = some (.int (topOf m g)) := by
  show atI (D.int m :: g.map .int) (-1) = _
  by_cases h : g = []
  · subst h; rfl
  · obtain ⟨a, x, rfl⟩ : ∃ a x, g = a ++ [x] := ⟨g.dropLast, g.getLast h, (List.dropLast_concat_getLast h).symm⟩
    rw [topOf_snoc]
    have : (D.int m :: (a ++ [x]).map .int) = (D.int m :: a.map .int) ++ [.int x] := by simp
    rw [this]
    exact atI_last _ _
theorem lg_step {l m : Int} (hl : -1000 ≤ l ∧ l ≤ 1000) (n o3 o4 o5 : O) (l7 : Option O) {X : List (List Int)} (h5 : frz o5 = .lst (X.map dG)) {g : List Int} (hg : g.length ≤ 900) (ht : -1000 ≤ topOf m g ∧ topOf m g ≤ 1000) (hX : X.length + (ext l m g).length ≤ 1000000) :
    b1__law_groups [some (.fz (.int l)), some (.fz (.int m)), some n, some o3, some o4, some o5, some (.fz (dG g)), l7, none] =
      some (.nx [some (.fz (.int l)), some (.fz (.int m)), some n, some o3, some o4, some (.fz (.lst ((X ++ ext l m g).map dG))), some (.fz (dG g)), some (.fz (.int (topOf m g))), none]) := by
  have hel : (ext l m g).length = (rng l (topOf m g)).length := by simp [ext]
  have hr : rng2 [.int l, .int (topOf m g + 1)] = some ((rng l (topOf m g)).map .int) := rng2_ok (by omega) (by omega)
  have hc := law_comp (.fz (.int l)) (.fz (.int m)) n o3 o4 (.fz (.lst (X.map dG))) (.fz (dG g)) (.fz (.int (topOf m g))) g rfl (by omega) (rng l (topOf m g)) [] (by simp; omega)
  have hli : listD [dG g] = some (.lst (g.map .int)) := rfl
  have ha : addD (.lst [.int m]) (.lst (g.map .int)) = some (.lst (.int m :: g.map .int)) := by
    rw [addD_lst, if_pos (by rw [sizeLine_eq]; simp; omega)]
    rfl
  have hb : addD (.lst (X.map dG)) (.lst ((rng l (topOf m g)).map fun t => dG (g ++ [t]))) = some (.lst ((X ++ ext l m g).map dG)) := by
    rw [addD_lst, if_pos (by rw [sizeLine_eq]; simp; omega)]
    simp [ext, List.map_map, Function.comp_def]
  have hv := eVar_o (ρ := [some (.fz (.int l)), some (.fz (.int m)), some n, some o3, some o4, some o5, some (.fz (dG g)), some (.fz (.int (topOf m g))), none]) (i := 5) (o := o5) rfl
  rw [h5] at hv
  simp only [List.set_cons_succ, List.set_cons_zero] at hv
  simp only [List.nil_append] at hc
  unfold b1__law_groups
  rw [sSeq_ap]
  have s1 : sAsg (fzF (map2F (map2F (frF (mapF (aCons (eVar 1) aNil) gLst')) (mapF (aCons (eVar 6) aNil) listD) addD) (mapF (eC (.int 1)) negD) ixD)) (gNm 7) [some (.fz (.int l)), some (.fz (.int m)), some n, some o3, some o4, some o5, some (.fz (dG g)), l7, none] =
      some (.nx [some (.fz (.int l)), some (.fz (.int m)), some n, some o3, some o4, some o5, some (.fz (dG g)), some (.fz (.int (topOf m g))), none]) := by
    simp [gLst_small, frz, frzL, hli, ha, topOf_ix]
  rw [s1]
  dsimp only
  rw [sAsg_ap, fzF_ap, map2F_ap, hv]
  dsimp only
  have s2 : frF (eComp (mapF (aCons (eVar 0) (aCons (map2F (eVar 7) (eC (.int 1)) addD) aNil)) rng2) (gNm 8) yesF (map2F (eVar 6) (mapF (aCons (eVar 8) aNil) gTup') addD) [8]) [some (.fz (.int l)), some (.fz (.int m)), some n, some o3, some o4, some (.fz (.lst (X.map dG))), some (.fz (dG g)), some (.fz (.int (topOf m g))), none] =
      some (.lst ((rng l (topOf m g)).map fun t => dG (g ++ [t])), [some (.fz (.int l)), some (.fz (.int m)), some n, some o3, some o4, some (.fz (.lst (X.map dG))), some (.fz (dG g)), some (.fz (.int (topOf m g))), none]) := by
    have i1 : mapF (aCons (eVar 0) (aCons (map2F (eVar 7) (eC (.int 1)) addD) aNil)) rng2 [some (.fz (.int l)), some (.fz (.int m)), some n, some o3, some o4, some (.fz (.lst (X.map dG))), some (.fz (dG g)), some (.fz (.int (topOf m g))), none] = some ((rng l (topOf m g)).map .int, [some (.fz (.int l)), some (.fz (.int m)), some n, some o3, some o4, some (.fz (.lst (X.map dG))), some (.fz (dG g)), some (.fz (.int (topOf m g))), none]) := mapF_eq (a := [.int l, .int (topOf m g + 1)]) (by simp) hr
    rw [frF_ap, eComp_ap, i1]
    dsimp only
    have w1 : wipeE [some (O.fz (.int l)), some (.fz (.int m)), some n, some o3, some o4, some (.fz (.lst (X.map dG))), some (.fz (dG g)), some (.fz (.int (topOf m g))), none] [8] = [some (.fz (.int l)), some (.fz (.int m)), some n, some o3, some o4, some (.fz (.lst (X.map dG))), some (.fz (dG g)), some (.fz (.int (topOf m g))), none] := rfl
    rw [w1, hc]
    dsimp only
    have w2 : backE [some (O.fz (.int l)), some (.fz (.int m)), some n, some o3, some o4, some (.fz (.lst (X.map dG))), some (.fz (dG g)), some (.fz (.int (topOf m g))), none] [8] [some (O.fz (.int l)), some (.fz (.int m)), some n, some o3, some o4, some (.fz (.lst (X.map dG))), some (.fz (dG g)), some (.fz (.int (topOf m g))), none] = [some (.fz (.int l)), some (.fz (.int m)), some n, some o3, some o4, some (.fz (.lst (X.map dG))), some (.fz (dG g)), some (.fz (.int (topOf m g))), none] := rfl
    rw [w2]
    simp [frz]
    exact frzL_map _ _
  rw [s2]
  dsimp only
  rw [hb]
  simp
theorem lg_inner {l m : Int} (hl : -1000 ≤ l ∧ l ≤ 1000) (n o3 o4 : O) : ∀ (gs : List (List Int)) (X : List (List Int)) (o5 : O) (l6 l7 : Option O), frz o5 = .lst (X.map dG) → (∀ g ∈ gs, g.length ≤ 900 ∧ -1000 ≤ topOf m g ∧ topOf m g ≤ 1000) → X.length + (gs.flatMap (ext l m)).length ≤ 1000000 →
    ∃ o5' l6' l7', loop (gNm 6) b1__law_groups (gs.map dG) [some (.fz (.int l)), some (.fz (.int m)), some n, some o3, some o4, some o5, l6, l7, none] = some (.nx [some (.fz (.int l)), some (.fz (.int m)), some n, some o3, some o4, some o5', l6', l7', none]) ∧ frz o5' = .lst ((X ++ gs.flatMap (ext l m)).map dG)
  | [], X, o5, l6, l7, h5, _, _ => ⟨o5, l6, l7, by simp [loop], by simpa using h5⟩
  | g :: gs, X, o5, l6, l7, h5, hb, h => by
    rw [List.flatMap_cons, List.length_append] at h
    obtain ⟨hg, ht⟩ := hb g (by simp)
    have s := lg_step hl n o3 o4 o5 l7 h5 hg ht (by omega)
    obtain ⟨o5', l6', l7', e1, e2⟩ := lg_inner hl n o3 o4 gs (X ++ ext l m g) (.fz (.lst ((X ++ ext l m g).map dG))) (some (.fz (dG g))) (some (.fz (.int (topOf m g)))) rfl (fun x hx => hb x (List.mem_cons_of_mem _ hx)) (by rw [List.length_append]; omega)
    refine ⟨o5', l6', l7', ?_, by rw [e2, List.flatMap_cons, List.append_assoc]⟩
    rw [List.map_cons]
    simp only [loop]
    simp only [gNm_ap, List.length_cons, List.length_nil, Nat.reduceAdd, Nat.reduceLT, if_true, List.set_cons_succ, List.set_cons_zero]
    rw [s]
    exact e1
theorem lg_outer {l m : Int} {n : Nat} (hl : -1000 ≤ l ∧ l ≤ 1000) (hm : -1000 ≤ m ∧ m ≤ 1000) (hn : n ≤ 20) (hk : ∀ k, k ≤ n → (m + 1 - l).toNat ^ k ≤ 1000000) : ∀ (r k : Nat) (i : Int) (o3 : O) (l4 l5 l6 l7 : Option O), k + r = n → frz o3 = .lst ((grp l m k).map dG) →
    ∃ o3' l4' l5' l6' l7', loop (gNm 4) b2__law_groups ((List.range r).map fun j => D.int (i + (j : Nat))) [some (.fz (.int l)), some (.fz (.int m)), some (.fz (.int n)), some o3, l4, l5, l6, l7, none] = some (.nx [some (.fz (.int l)), some (.fz (.int m)), some (.fz (.int n)), some o3', l4', l5', l6', l7', none]) ∧ frz o3' = .lst ((grp l m n).map dG) ∧ (0 < r → ∃ d, o3' = .fz d)
  | 0, k, i, o3, l4, l5, l6, l7, h, h3 => ⟨o3, l4, l5, l6, l7, by simp [loop], by rw [h3, show k = n by omega], fun z => absurd z (Nat.lt_irrefl 0)⟩
  | r + 1, k, i, o3, l4, l5, l6, l7, h, h3 => by
    have hlen := grp_len (l := l) (m := m) (k + 1)
    have hw := hk (k + 1) (by omega)
    obtain ⟨o5, l6', l7', e1, e2⟩ := lg_inner (m := m) hl (.fz (.int n)) (.fz (.lst ((grp l m k).map dG))) (.fz (.int i)) (grp l m k) [] (.lst none []) l6 l7 rfl (fun g hg => by
      obtain ⟨a, b, c⟩ := grp_in hg
      refine ⟨by omega, ?_, by omega⟩
      by_cases hn : g = []
      · subst hn; exact hm.1
      · obtain ⟨p, x, rfl⟩ : ∃ p x, g = p ++ [x] := ⟨g.dropLast, g.getLast hn, (List.dropLast_concat_getLast hn).symm⟩
        rw [topOf_snoc]
        have := b x (by simp)
        omega) (by simp only [grp] at hlen; simp only [List.length_nil]; omega)
    have step : b2__law_groups [some (.fz (.int l)), some (.fz (.int m)), some (.fz (.int n)), some o3, some (.fz (.int i)), l5, l6, l7, none] =
        some (.nx [some (.fz (.int l)), some (.fz (.int m)), some (.fz (.int n)), some (.fz (.lst ((grp l m (k + 1)).map dG))), some (.fz (.int i)), some (.fz (frz o5)), l6', l7', none]) := by
      have hv := eVar_o (ρ := [some (.fz (.int l)), some (.fz (.int m)), some (.fz (.int n)), some o3, some (.fz (.int i)), some (.lst none []), l6, l7, none]) (i := 3) (o := o3) rfl
      rw [h3] at hv
      simp only [List.set_cons_succ, List.set_cons_zero] at hv
      have hv2 := eVar_o (ρ := [some (.fz (.int l)), some (.fz (.int m)), some (.fz (.int n)), some (.fz (.lst ((grp l m k).map dG))), some (.fz (.int i)), some o5, l6', l7', none]) (i := 5) (o := o5) rfl
      simp only [List.set_cons_succ, List.set_cons_zero] at hv2
      have e3 : frz o5 = .lst ((grp l m (k + 1)).map dG) := by rw [e2, List.nil_append]; rfl
      unfold b2__law_groups
      rw [sSeq_ap]
      have s1 : sAsg (mapF aNil gLst') (gNm 5) [some (.fz (.int l)), some (.fz (.int m)), some (.fz (.int n)), some o3, some (.fz (.int i)), l5, l6, l7, none] = some (.nx [some (.fz (.int l)), some (.fz (.int m)), some (.fz (.int n)), some o3, some (.fz (.int i)), some (.lst none []), l6, l7, none]) := by simp [gLst_small]
      rw [s1]
      dsimp only
      rw [sSeq_ap, sFor_eq (mapF_eq hv (show seqD (.lst ((grp l m k).map dG)) = some ((grp l m k).map dG) from rfl)), e1]
      dsimp only
      rw [sAsg_ap, fzF_ap, hv2, e3]
      rfl
    have ei : ∀ j : Nat, i + ((j + 1 : Nat) : Int) = (i + 1) + (j : Nat) := fun j => by omega
    obtain ⟨o3', m4, m5, m6, m7, f1, f2, f3⟩ := lg_outer hl hm hn hk r (k + 1) (i + 1) (.fz (.lst ((grp l m (k + 1)).map dG))) (some (.fz (.int i))) (some (.fz (frz o5))) l6' l7' (by omega) rfl
    refine ⟨o3', m4, m5, m6, m7, ?_, f2, fun _ => ?_⟩
    · rw [List.range_succ_eq_map, List.map_cons, List.map_map]
      have em : ((fun j : Nat => D.int (i + (j : Nat))) ∘ Nat.succ) = fun j : Nat => D.int ((i + 1) + (j : Nat)) := by
        funext j
        simp only [Function.comp]
        rw [← ei j]
      rw [em]
      have e0 : i + ((0 : Nat) : Int) = i := by omega
      simp only [loop]
      simp only [gNm_ap, List.length_cons, List.length_nil, Nat.reduceAdd, Nat.reduceLT, if_true, List.set_cons_succ, List.set_cons_zero]
      rw [e0, step]
      exact f1
    · cases r with
      | zero =>
        simp only [List.range_zero, List.map_nil, loop] at f1
        injection f1 with f1
        injection f1 with f1
        simp only [List.cons.injEq, Option.some.injEq] at f1
        exact ⟨_, f1.2.2.2.1.symm⟩
      | succ r => exact f3 (Nat.succ_pos r)
theorem rng1_ok {n : Nat} (h : n ≤ 1000000) : rng1 [.int (n : Int)] = some (rngL 0 n) := by
  generalize hn : (n : Int) = z
  have h1 : z.toNat = n := by omega
  have h2 : -(2 ^ 62) ≤ z ∧ z < 2 ^ 62 := by omega
  unfold rng1
  dsimp only
  rw [if_pos h2, h1]
theorem law_groups_ok {l m : Int} {n : Nat} (hl : -1000 ≤ l ∧ l ≤ 1000) (hm : -1000 ≤ m ∧ m ≤ 1000) (h1 : 1 ≤ n) (hn : n ≤ 20) (hk : ∀ k, k ≤ n → (m + 1 - l).toNat ^ k ≤ 1000000) : sp__law_groups [.int l, .int m, .int n] = some (.fz (.lst ((grp l m n).map dG))) := by
  obtain ⟨o3, m4, m5, m6, m7, f1, f2, f3⟩ := lg_outer hl hm hn hk n 0 0 (.lst none [.fz (.tup [])]) none none none none (by omega) rfl
  obtain ⟨d, rfl⟩ := f3 h1
  have f2' : d = .lst ((grp l m n).map dG) := f2
  subst f2'
  have hr : rng1 [.int (n : Int)] = some ((List.range n).map fun j => D.int (0 + (j : Nat))) := by
    exact rng1_ok (by omega)
  unfold sp__law_groups
  rw [spOf_eq (show [D.int l, .int m, .int (n : Int)].length = 3 from rfl)]
  unfold r__law_groups
  rw [sSeq_ap]
  have s1 : sAsg (mapF (aCons (mapF aNil gTup') aNil) gLst') (gNm 3) (start0 9 [.int l, .int m, .int n]) = some (.nx [some (.fz (.int l)), some (.fz (.int m)), some (.fz (.int n)), some (.lst none [.fz (.tup [])]), none, none, none, none, none]) := by
    simp [start0, gTup_small, gLst_small]
  rw [s1]
  dsimp only
  have i1 : aCons (eVar 2) aNil [some (.fz (.int l)), some (.fz (.int m)), some (.fz (.int n)), some (.lst none [.fz (.tup [])]), none, none, none, none, none] = some ([.int n], [some (.fz (.int l)), some (.fz (.int m)), some (.fz (.int n)), some (.lst none [.fz (.tup [])]), none, none, none, none, none]) := by simp
  rw [sSeq_ap, sFor_eq (mapF_eq i1 hr), f1]
  simp [ends]
end T
namespace T
open PySem PySem.Spec PyProof.Rows L2
/-! ### the law's best train -/
def cO (cs : List Cand) : List O := cs.map fun c => .fz (trD c)
theorem cO_snoc (cs : List Cand) (c : Cand) : cO cs ++ [.fz (trD c)] = cO (cs ++ [c]) := by simp [cO]
theorem lz_ok {d e : List Int} (h : d.length ≤ 1000) : lzD [dG d, dG e] = some (.lst none (((d.zip e).map pD).map .fz)) := by
  show (if min (d.map D.int).length (e.map D.int).length ≤ sizeLine then some (O.lst none ((pairs (d.map .int) (e.map .int)).map .fz)) else none) = _
  rw [if_pos (by rw [sizeLine_eq]; simp; omega), pairs_zip]
def inn (T B : Int) (d : List Int) (es : List (List Int)) : List Cand := (es.filter fun e => decide (prd d * B = prd e * T)).map fun e => (d.sum + e.sum, d.zip e)
theorem inn_len (T B : Int) (d : List Int) (es : List (List Int)) : (inn T B d es).length ≤ es.length := by
  unfold inn
  rw [List.length_map]
  exact List.length_filter_le ..
theorem lb_inner {T B : Int} (hT : T.natAbs ≤ 2 ^ 200) (hB : B.natAbs ≤ 2 ^ 200) (o2 o3 o4 o5 o6 : O) {d : List Int} (hd : d.length ≤ 20) (okd : okG d) : ∀ (es : List (List Int)) (cs : List Cand) (l9 : Option O), (∀ e ∈ es, e.length ≤ 20 ∧ okG e) → cs.length + es.length ≤ 16000000 →
    ∃ l9', loop (gNm 9) (b1__law_best sp__law_product sp__law_groups) (es.map dG) [some (.fz (.int T)), some (.fz (.int B)), some o2, some o3, some o4, some o5, some o6, some (.lst none (cO cs)), some (.fz (dG d)), l9] = some (.nx [some (.fz (.int T)), some (.fz (.int B)), some o2, some o3, some o4, some o5, some o6, some (.lst none (cO (cs ++ inn T B d es))), some (.fz (dG d)), l9'])
  | [], cs, l9, _, _ => ⟨l9, by simp [loop, inn]⟩
  | e :: es, cs, l9, ok, h => by
    obtain ⟨he, oke⟩ := ok e (by simp)
    have p1 := prd_big hd okd
    have p2 := prd_big he oke
    have z1 : szM (prd d) B = true := szM_big (big_of p1.2 (by decide)) (big_of hB (by decide))
    have z2 : szM (prd e) T = true := szM_big (big_of p2.2 (by decide)) (big_of hT (by decide))
    have q1 := law_product_ok hd okd
    have q2 := law_product_ok he oke
    have hz : cs.length < sizeLine := by rw [sizeLine_eq]; simp at h; omega
    have hz' : (cO cs).length < sizeLine := by simpa [cO] using hz
    have lz := lz_ok (d := d) (e := e) (by omega)
    have ft : frz (.lst none (((d.zip e).map pD).map .fz)) = .lst ((d.zip e).map pD) := by simp [frz, frzL_map, List.map_map, Function.comp_def]
    rw [List.map_cons]
    simp only [loop]
    simp only [gNm_ap, List.length_cons, List.length_nil, Nat.reduceAdd, Nat.reduceLT, if_true, List.set_cons_succ, List.set_cons_zero]
    by_cases hx : prd d * B = prd e * T
    · have step : b1__law_best sp__law_product sp__law_groups [some (.fz (.int T)), some (.fz (.int B)), some o2, some o3, some o4, some o5, some o6, some (.lst none (cO cs)), some (.fz (dG d)), some (.fz (dG e))] = some (.nx [some (.fz (.int T)), some (.fz (.int B)), some o2, some o3, some o4, some o5, some o6, some (.lst none (cO (cs ++ [(d.sum + e.sum, d.zip e)]))), some (.fz (dG d)), some (.fz (dG e))]) := by
        unfold b1__law_best
        rw [← cO_snoc]
        simp only [sIf_ap, mapF_ap, map2F_ap, frF_ap, callF_ap, aCons_ap, aNil_ap, eVar_ap, List.getElem?_cons_succ, List.getElem?_cons_zero, List.append_nil, q1, q2, frz, mulU_int, z1, z2, if_true, eqD_int, hx, decide_true, unB_bl, sExpr_ap, eAppend_ap, fzF_ap, sum_dG, addD_int, lz]
        simp [gTup_small, hz', trD]
        exact frzL_map pD _
      obtain ⟨l9', ih⟩ := lb_inner hT hB o2 o3 o4 o5 o6 hd okd es (cs ++ [(d.sum + e.sum, d.zip e)]) (some (.fz (dG e))) (fun x hx => ok x (List.mem_cons_of_mem _ hx)) (by simp at h ⊢; omega)
      refine ⟨l9', ?_⟩
      rw [step]
      have : inn T B d (e :: es) = (d.sum + e.sum, d.zip e) :: inn T B d es := by simp [inn, hx]
      rw [this]
      simpa using ih
    · have step : b1__law_best sp__law_product sp__law_groups [some (.fz (.int T)), some (.fz (.int B)), some o2, some o3, some o4, some o5, some o6, some (.lst none (cO cs)), some (.fz (dG d)), some (.fz (dG e))] = some (.nx [some (.fz (.int T)), some (.fz (.int B)), some o2, some o3, some o4, some o5, some o6, some (.lst none (cO cs)), some (.fz (dG d)), some (.fz (dG e))]) := by
        unfold b1__law_best
        simp only [sIf_ap, mapF_ap, map2F_ap, frF_ap, callF_ap, aCons_ap, aNil_ap, eVar_ap, List.getElem?_cons_succ, List.getElem?_cons_zero, List.append_nil, q1, q2, frz, mulU_int, z1, z2, if_true, eqD_int, hx, decide_false, unB_bl, sNext_ap]
      obtain ⟨l9', ih⟩ := lb_inner hT hB o2 o3 o4 o5 o6 hd okd es cs (some (.fz (dG e))) (fun x hx => ok x (List.mem_cons_of_mem _ hx)) (by simp at h ⊢; omega)
      refine ⟨l9', ?_⟩
      rw [step]
      have : inn T B d (e :: es) = inn T B d es := by simp [inn, hx]
      rw [this]
      exact ih
theorem lb_outer {T B : Int} (hT : T.natAbs ≤ 2 ^ 200) (hB : B.natAbs ≤ 2 ^ 200) (o2 o3 o4 o5 : O) {gs : List (List Int)} (okg : ∀ e ∈ gs, e.length ≤ 20 ∧ okG e) : ∀ (ds : List (List Int)) (cs : List Cand) (l8 l9 : Option O), (∀ e ∈ ds, e.length ≤ 20 ∧ okG e) → cs.length + ds.length * gs.length ≤ 16000000 →
    ∃ l8' l9', loop (gNm 8) (b2__law_best sp__law_product sp__law_groups) (ds.map dG) [some (.fz (.int T)), some (.fz (.int B)), some o2, some o3, some o4, some o5, some (.fz (.lst (gs.map dG))), some (.lst none (cO cs)), l8, l9] = some (.nx [some (.fz (.int T)), some (.fz (.int B)), some o2, some o3, some o4, some o5, some (.fz (.lst (gs.map dG))), some (.lst none (cO (cs ++ ds.flatMap fun d => inn T B d gs))), l8', l9'])
  | [], cs, l8, l9, _, _ => ⟨l8, l9, by simp [loop]⟩
  | d :: ds, cs, l8, l9, ok, h => by
    obtain ⟨hd, okd⟩ := ok d (by simp)
    rw [List.length_cons, Nat.succ_mul] at h
    have hi := inn_len T B d gs
    obtain ⟨m9, e1⟩ := lb_inner hT hB o2 o3 o4 o5 (.fz (.lst (gs.map dG))) hd okd gs cs l9 okg (by omega)
    obtain ⟨m8, m9', e2⟩ := lb_outer hT hB o2 o3 o4 o5 okg ds (cs ++ inn T B d gs) (some (.fz (dG d))) m9 (fun x hx => ok x (List.mem_cons_of_mem _ hx)) (by rw [List.length_append]; omega)
    refine ⟨m8, m9', ?_⟩
    rw [List.map_cons]
    simp only [loop]
    simp only [gNm_ap, List.length_cons, List.length_nil, Nat.reduceAdd, Nat.reduceLT, if_true, List.set_cons_succ, List.set_cons_zero]
    have step : b2__law_best sp__law_product sp__law_groups [some (.fz (.int T)), some (.fz (.int B)), some o2, some o3, some o4, some o5, some (.fz (.lst (gs.map dG))), some (.lst none (cO cs)), some (.fz (dG d)), l9] = some (.nx [some (.fz (.int T)), some (.fz (.int B)), some o2, some o3, some o4, some o5, some (.fz (.lst (gs.map dG))), some (.lst none (cO (cs ++ inn T B d gs))), some (.fz (dG d)), m9]) := by
      unfold b2__law_best
      have hv := eVar_o (ρ := [some (.fz (.int T)), some (.fz (.int B)), some o2, some o3, some o4, some o5, some (.fz (.lst (gs.map dG))), some (.lst none (cO cs)), some (.fz (dG d)), l9]) (i := 6) (o := .fz (.lst (gs.map dG))) rfl
      rw [sFor_eq (mapF_eq hv (show seqD (frz (.fz (.lst (gs.map dG)))) = some (gs.map dG) from rfl))]
      exact e1
    rw [step]
    rw [List.flatMap_cons, ← List.append_assoc]
    exact e2
def cmin (c : Cand) (cs : List Cand) : Cand := cs.foldl (fun a y => if lex (tkT y) (tkT a) = true then y else a) c
theorem cmin_is : ∀ (cs : List Cand) (S : Cand → Prop) (c : Cand), IsMin tkT S c → IsMin tkT (fun x => S x ∨ x ∈ cs) (cmin c cs)
  | [], S, c, h => h.congr fun x => by simp
  | y :: cs, S, c, h => by
    have h2 := h.step (y := y) (S' := fun x => S x ∨ x = y) (.inr rfl) fun x => Iff.rfl
    have h3 := cmin_is cs _ _ h2
    show IsMin tkT _ (cmin (if lex (tkT y) (tkT c) = true then y else c) cs)
    exact h3.congr fun x => by rw [List.mem_cons, or_assoc]
theorem cmin_min (c : Cand) (cs : List Cand) : IsMin tkT (· ∈ c :: cs) (cmin c cs) :=
  (cmin_is cs (· = c) c ⟨rfl, fun y hy => by rw [hy]; exact lex_irr _⟩).congr fun x => by rw [List.mem_cons]
theorem minD_tr : ∀ (cs : List Cand) (c : Cand), PySem.W.minD (trP c) (cs.map trP) = trP (cmin c cs)
  | [], c => rfl
  | y :: cs, c => by
    have ih := minD_tr cs (if lex (tkT y) (tkT c) = true then y else c)
    have e : (if PySem.W.dataLt (trP y) (trP c) then trP y else trP c) = trP (if lex (tkT y) (tkT c) = true then y else c) := by
      rw [lt_trP]
      split <;> rfl
    show PySem.W.minD (if PySem.W.dataLt (trP y) (trP c) then trP y else trP c) (cs.map trP) = _
    rw [e, ih]
    rfl
theorem toPs_tr : ∀ cs : List Cand, toPs (cs.map trD) = some (cs.map trP)
  | [] => rfl
  | c :: cs => by rw [List.map_cons]; simp [toPs, toP_trD, toPs_tr cs]
theorem depth_trs : ∀ cs : List Cand, PyData.depthAll (cs.map trP) ≤ 3
  | [] => by simp [PyData.depthAll]
  | c :: cs => by
    have := depth_trs cs
    have := depth_trP c
    simp only [List.map_cons, PyData.depthAll]
    omega
theorem alikeL_tr (cs : List Cand) : alikeL (cs.map trP) := by
  refine ⟨⟨fun x hx y hy => ?_, fun x hx => ?_⟩, by have := depth_trs cs; omega⟩
  · obtain ⟨a, _, rfl⟩ := List.mem_map.mp hx
    obtain ⟨b, _, rfl⟩ := List.mem_map.mp hy
    exact alike_trP a b
  · obtain ⟨a, _, rfl⟩ := List.mem_map.mp hx
    intro e
    unfold trP at e
    cases e
theorem minL_tr (c : Cand) (cs : List Cand) : minL [.lst ((c :: cs).map trD)] = some (trD (cmin c cs)) := by
  have h := toPs_tr (c :: cs)
  simp only [minL, h]
  simp only [List.map_cons]
  rw [if_pos (show alikeL (trP c :: cs.map trP) from alikeL_tr (c :: cs)), minD_tr]
  exact fromP_to _ (toP_trD _)
theorem pn_pairs (n : Nat) (h : 0 < n) : ∀ ps : List (Int × Int), pnL n (ps.map pD) = true
  | [] => rfl
  | p :: ps => by rw [List.map_cons]; simp [pnL, pn, pD, h, pn_pairs n h ps]
theorem pn_trD {n : Nat} (h : 3 ≤ n) (c : Cand) : pn n (trD c) = true := by
  have := pn_pairs (n - 1 - 1) (by omega) c.2
  simp [trD, pn, pnL, this]
  omega
theorem pn_trs {n : Nat} (h : 3 ≤ n) : ∀ cs : List Cand, pnL n (cs.map trD) = true
  | [] => rfl
  | c :: cs => by rw [List.map_cons]; simp [pnL, pn_trD h c, pn_trs h cs]
theorem ne_nil (cs : List Cand) : neD (.lst (cs.map trD)) (.lst []) = some (.bl (decide (cs ≠ []))) := by
  have h1 : pn 64 (.lst (cs.map trD)) = true := by simp [pn, pn_trs (n := 63) (by decide) cs]
  have h2 : pn 64 (.lst []) = true := rfl
  cases cs with
  | nil => exact neD_same h2
  | cons c cs => exact neD_diff h1 h2 (by simp)
theorem Sx_all {gs : List (List Int)} {T B : Int} {c : Cand} : c ∈ gs.flatMap (fun d => inn T B d gs) ↔ Sx gs T B gs c := by
  simp only [List.mem_flatMap, inn, List.mem_map, List.mem_filter, decide_eq_true_eq, Sx]
  constructor
  · rintro ⟨d, h1, e, ⟨h2, h3⟩, h4⟩; exact ⟨d, h1, e, h2, h3, h4.symm⟩
  · rintro ⟨d, h1, e, h2, h3, h4⟩; exact ⟨d, h1, e, ⟨h2, h3⟩, h4.symm⟩
def rsD : Option (List (Int × Int)) → D
  | none => .non
  | some ps => .lst (ps.map pD)
theorem cO_frz (cs : List Cand) : frz (.lst none (cO cs)) = .lst (cs.map trD) := by
  unfold cO
  rw [frz, frzL_map]
abbrev lbE (T B l m P i : Int) (l6 l7 l8 l9 : Option O) : Env := [some (.fz (.int T)), some (.fz (.int B)), some (.fz (.int l)), some (.fz (.int m)), some (.fz (.int P)), some (.fz (.int i)), l6, l7, l8, l9]
theorem lb_tail {T B l m P i : Int} {o6 : O} {cs : List Cand} {l8 l9 : Option O} : sIf (mapF (map2F (eVar 7) (frF (mapF aNil gLst')) neD) unB) (sRet (fzF (map2F (mapF (aCons (eVar 7) aNil) minL) (eC (.int 1)) ixD))) sNext (lbE T B l m P i (some o6) (some (.lst none (cO cs))) l8 l9) =
    (match cs with
    | [] => some (.nx (lbE T B l m P i (some o6) (some (.fz (.lst []))) l8 l9))
    | c :: cs => some (.rt (.fz (.lst ((cmin c cs).2.map pD))) (lbE T B l m P i (some o6) (some (.fz (.lst ((c :: cs).map trD)))) l8 l9))) := by
  have hv7 := eVar_o (ρ := lbE T B l m P i (some o6) (some (.lst none (cO cs))) l8 l9) (i := 7) (o := .lst none (cO cs)) rfl
  rw [cO_frz] at hv7
  have hs : (lbE T B l m P i (some o6) (some (.lst none (cO cs))) l8 l9).set 7 (some (.fz (.lst (cs.map trD)))) = lbE T B l m P i (some o6) (some (.fz (.lst (cs.map trD)))) l8 l9 := rfl
  rw [hs] at hv7
  have f1 : frF (mapF aNil gLst') (lbE T B l m P i (some o6) (some (.fz (.lst (cs.map trD)))) l8 l9) = some (.lst [], lbE T B l m P i (some o6) (some (.fz (.lst (cs.map trD)))) l8 l9) := by simp [gLst_small, frz, frzL]
  have nn := ne_nil cs
  rw [sIf_ap, mapF_ap, map2F_ap, hv7]
  dsimp only
  rw [f1]
  dsimp only
  rw [nn]
  cases cs with
  | nil => simp
  | cons c cs =>
    have ml := minL_tr c cs
    have i1 : mapF (aCons (eVar 7) aNil) minL (lbE T B l m P i (some o6) (some (.fz (.lst ((c :: cs).map trD)))) l8 l9) = some (trD (cmin c cs), lbE T B l m P i (some o6) (some (.fz (.lst ((c :: cs).map trD)))) l8 l9) := mapF_eq (a := [.lst ((c :: cs).map trD)]) (by simp) ml
    have ix : ixD (trD (cmin c cs)) (.int 1) = some (.lst ((cmin c cs).2.map pD)) := rfl
    dsimp only [unB_bl, ne_eq, reduceCtorEq, not_false_eq_true, decide_true]
    simp only [ne_eq, reduceCtorEq, not_false_eq_true, decide_true, unB_bl]
    rw [sRet_ap, fzF_ap, map2F_ap, i1]
    dsimp only
    rw [eC_ap]
    dsimp only
    rw [ix]
theorem seqO_nx {ρ : Env} {g : FS} : seqO (some (.nx ρ)) g = g ρ := rfl
theorem lb_head {sa sb : List D → Option O} {T B l m P i : Int} {l6 l7 l8 l9 : Option O} {gs : List (List Int)} (hg : sb [.int l, .int m, .int i] = some (.fz (.lst (gs.map dG)))) {r : Option Out}
    (hr : loop (gNm 8) (b2__law_best sa sb) (gs.map dG) (lbE T B l m P i (some (.fz (.lst (gs.map dG)))) (some (.lst none (cO []))) l8 l9) = r) :
    b3__law_best sa sb (lbE T B l m P i l6 l7 l8 l9) = seqO r (sIf (mapF (map2F (eVar 7) (frF (mapF aNil gLst')) neD) unB) (sRet (fzF (map2F (mapF (aCons (eVar 7) aNil) minL) (eC (.int 1)) ixD))) sNext) := by
  unfold b3__law_best
  rw [sSeq_eq]
  have s1 : sAsg (callF sb [] (aCons (eVar 2) (aCons (eVar 3) (aCons (eVar 5) aNil)))) (gNm 6) (lbE T B l m P i l6 l7 l8 l9) = some (.nx (lbE T B l m P i (some (.fz (.lst (gs.map dG)))) l7 l8 l9)) := by simp [hg]
  rw [s1, seqO_nx, sSeq_eq]
  have s2 : sAsg (mapF aNil gLst') (gNm 7) (lbE T B l m P i (some (.fz (.lst (gs.map dG)))) l7 l8 l9) = some (.nx (lbE T B l m P i (some (.fz (.lst (gs.map dG)))) (some (.lst none (cO []))) l8 l9)) := by simp [gLst_small, cO]
  rw [s2, seqO_nx]
  have hv := eVar_o (ρ := lbE T B l m P i (some (.fz (.lst (gs.map dG)))) (some (.lst none (cO []))) l8 l9) (i := 6) (o := .fz (.lst (gs.map dG))) rfl
  have hs : (lbE T B l m P i (some (.fz (.lst (gs.map dG)))) (some (.lst none (cO []))) l8 l9).set 6 (some (.fz (frz (.fz (.lst (gs.map dG)))))) = lbE T B l m P i (some (.fz (.lst (gs.map dG)))) (some (.lst none (cO []))) l8 l9 := rfl
  rw [hs] at hv
  rw [sSeq_eq, sFor_eq (mapF_eq hv (show seqD (frz (.fz (.lst (gs.map dG)))) = some (gs.map dG) from rfl)), hr]
theorem rng_cons {i P : Nat} (h : i ≤ P) : rng (i : Int) P = (i : Int) :: rng ((i + 1 : Nat) : Int) P := by
  unfold rng
  have e1 : ((P : Int) + 1 - i).toNat = ((P : Int) + 1 - ((i + 1 : Nat) : Int)).toNat + 1 := by omega
  rw [e1, List.range_succ_eq_map, List.map_cons, List.map_map]
  rw [List.cons_eq_cons]
  refine ⟨by simp, List.map_congr_left fun x _ => ?_⟩
  simp only [Function.comp]
  omega
theorem rng_end {P : Nat} : rng ((P + 1 : Nat) : Int) P = [] := by
  unfold rng
  have : ((P : Int) + 1 - ((P + 1 : Nat) : Int)).toNat = 0 := by omega
  rw [this]; rfl
theorem lb_step {l m T B : Int} {P : Nat} (hT : T.natAbs ≤ 2 ^ 200) (hB : B.natAbs ≤ 2 ^ 200) (lm : LM l m P) (hq : ∀ k, k ≤ P → (grp l m k).length * (grp l m k).length ≤ 16000000) {i : Nat} (hi : 1 ≤ i) (hiP : i ≤ P) (l6 l7 l8 l9 : Option O) :
    (∃ m6 m7 m8 m9, b3__law_best sp__law_product sp__law_groups (lbE T B l m P i l6 l7 l8 l9) = some (.nx (lbE T B l m P i m6 m7 m8 m9)) ∧ ∀ c, ¬ Sn l m T B i c) ∨
    ∃ ρ c, b3__law_best sp__law_product sp__law_groups (lbE T B l m P i l6 l7 l8 l9) = some (.rt (.fz (.lst (c.2.map pD))) ρ) ∧ IsMin tkT (Sn l m T B i) c := by
  have hg := law_groups_ok (l := l) (m := m) (n := i) (by have := lm.l0; have := lm.m1; have := lm.le; constructor <;> omega) (by have := lm.l0; have := lm.m1; have := lm.le; constructor <;> omega) hi (by have := lm.P1; omega) fun k hk => lm.w k (by omega)
  have okg : ∀ e ∈ grp l m i, e.length ≤ 20 ∧ okG e := fun g hg => ⟨by have := (lm.grp (n := i) (by omega) g hg).1; have := lm.P1; omega, (lm.grp (n := i) (by omega) g hg).2⟩
  obtain ⟨m8, m9, ho⟩ := lb_outer hT hB (.fz (.int l)) (.fz (.int m)) (.fz (.int P)) (.fz (.int i)) okg (grp l m i) [] l8 l9 okg (by have := hq i (by omega); simpa using this)
  rw [List.nil_append] at ho
  have hh := lb_head (T := T) (B := B) (P := P) (l6 := l6) (l7 := l7) hg ho
  generalize hcs : (grp l m i).flatMap (fun d => inn T B d (grp l m i)) = cs at hh
  have hmem : ∀ c, c ∈ cs ↔ Sn l m T B i c := fun c => by rw [← hcs]; exact Sx_all
  rw [hh]
  show (∃ m6 m7 m8' m9', sIf _ _ _ (lbE T B l m P i (some (.fz (.lst ((grp l m i).map dG)))) (some (.lst none (cO cs))) m8 m9) = _ ∧ _) ∨ ∃ ρ c, sIf _ _ _ (lbE T B l m P i (some (.fz (.lst ((grp l m i).map dG)))) (some (.lst none (cO cs))) m8 m9) = _ ∧ _
  rw [lb_tail]
  cases cs with
  | nil => exact .inl ⟨_, _, _, _, rfl, fun c hc => absurd ((hmem c).mpr hc) (by simp)⟩
  | cons c cs => exact .inr ⟨_, cmin c cs, rfl, (cmin_min c cs).congr hmem⟩
end T
namespace T
open PySem PySem.Spec PyProof.Rows L2
theorem loop_nil {g : FG} {b : FS} {ρ : Env} : loop g b [] ρ = some (.nx ρ) := rfl
theorem loop_nx {g : FG} {b : FS} {d : D} {ds : List D} {ρ ρ1 ρ2 : Env} (h1 : g (.fz d) ρ = some ρ1) (h2 : b ρ1 = some (.nx ρ2)) : loop g b (d :: ds) ρ = loop g b ds ρ2 := by simp only [loop, h1, h2]
theorem loop_ct {g : FG} {b : FS} {d : D} {ds : List D} {ρ ρ1 ρ2 : Env} (h1 : g (.fz d) ρ = some ρ1) (h2 : b ρ1 = some (.ct ρ2)) : loop g b (d :: ds) ρ = loop g b ds ρ2 := by simp only [loop, h1, h2]
theorem loop_rt {g : FG} {b : FS} {d : D} {ds : List D} {ρ ρ1 ρ2 : Env} {o : O} (h1 : g (.fz d) ρ = some ρ1) (h2 : b ρ1 = some (.rt o ρ2)) : loop g b (d :: ds) ρ = some (.rt o ρ2) := by simp only [loop, h1, h2]
theorem lb_loop {l m T B : Int} {P : Nat} (hT : T.natAbs ≤ 2 ^ 200) (hB : B.natAbs ≤ 2 ^ 200) (lm : LM l m P) (hq : ∀ k, k ≤ P → (grp l m k).length * (grp l m k).length ≤ 16000000) (k : Nat) : ∀ (i : Nat) (l5 l6 l7 l8 l9 : Option O), i + k = P + 1 → 1 ≤ i → (∀ n, 1 ≤ n → n < i → ∀ c, ¬ Sn l m T B n c) →
    (∃ ρ, loop (gNm 5) (b3__law_best sp__law_product sp__law_groups) ((rng i P).map .int) [some (.fz (.int T)), some (.fz (.int B)), some (.fz (.int l)), some (.fz (.int m)), some (.fz (.int P)), l5, l6, l7, l8, l9] = some (.nx ρ) ∧ Few l m T B P none) ∨
    ∃ ps ρ, loop (gNm 5) (b3__law_best sp__law_product sp__law_groups) ((rng i P).map .int) [some (.fz (.int T)), some (.fz (.int B)), some (.fz (.int l)), some (.fz (.int m)), some (.fz (.int P)), l5, l6, l7, l8, l9] = some (.rt (.fz (.lst (ps.map pD))) ρ) ∧ Few l m T B P (some ps) := by
  induction k with
  | zero =>
    intro i l5 l6 l7 l8 l9 h hi hc
    have : i = P + 1 := by omega
    subst this
    rw [rng_end]
    exact .inl ⟨[some (.fz (.int T)), some (.fz (.int B)), some (.fz (.int l)), some (.fz (.int m)), some (.fz (.int P)), l5, l6, l7, l8, l9], by simp only [List.map_nil, loop], .inl ⟨rfl, fun n h1 h2 => hc n h1 (by omega)⟩⟩
  | succ k ih =>
    intro i l5 l6 l7 l8 l9 h hi hc
    have e := rng_cons (i := i) (P := P) (by omega)
    have g1 : gNm 5 (.fz (.int i)) [some (.fz (.int T)), some (.fz (.int B)), some (.fz (.int l)), some (.fz (.int m)), some (.fz (.int P)), l5, l6, l7, l8, l9] = some (lbE T B l m P i l6 l7 l8 l9) := by simp
    rw [e, List.map_cons]
    rcases lb_step hT hB lm hq hi (by omega) l6 l7 l8 l9 with ⟨m6, m7, m8, m9, s1, s2⟩ | ⟨ρ, c, s1, s2⟩
    · rw [loop_nx g1 s1]
      refine ih (i + 1) _ _ _ _ _ (by omega) (by omega) fun n h1 h2 => ?_
      by_cases z : n = i
      · rw [z]; exact s2
      · exact hc n h1 (by omega)
    · rw [loop_rt g1 s1]
      exact .inr ⟨c.2, ρ, rfl, .inr ⟨i, c, hi, by omega, hc, s2, rfl⟩⟩
theorem law_best_run {sa sb : List D → Option O} {l m T B : Int} {P : Nat} (h : P ≤ 10) : spOf 5 10 (r__law_best sa sb) [.int T, .int B, .int l, .int m, .int P] = ends (seqO (loop (gNm 5) (b3__law_best sa sb) ((rng 1 P).map .int) [some (.fz (.int T)), some (.fz (.int B)), some (.fz (.int l)), some (.fz (.int m)), some (.fz (.int P)), none, none, none, none, none]) (sRet (fzF (eC .non)))) := by
  rw [spOf_eq (show [D.int T, .int B, .int l, .int m, .int (P : Int)].length = 5 from rfl)]
  unfold r__law_best
  have i1 : aCons (eC (D.int 1)) (aCons (map2F (eVar 4) (eC (D.int 1)) addD) aNil) (start0 10 [.int T, .int B, .int l, .int m, .int P]) = some ([.int 1, .int ((P : Int) + 1)], [some (.fz (.int T)), some (.fz (.int B)), some (.fz (.int l)), some (.fz (.int m)), some (.fz (.int P)), none, none, none, none, none]) := by simp [start0]
  rw [sSeq_eq, sFor_eq (mapF_eq i1 (hr1 h))]
theorem law_best_eq : sp__law_best = spOf 5 10 (r__law_best sp__law_product sp__law_groups) := rfl
theorem law_best_ok {l m T B : Int} {P : Nat} (hT : T.natAbs ≤ 2 ^ 200) (hB : B.natAbs ≤ 2 ^ 200) (lm : LM l m P) (hq : ∀ k, k ≤ P → (grp l m k).length * (grp l m k).length ≤ 16000000) : ∃ r, sp__law_best [.int T, .int B, .int l, .int m, .int P] = some (.fz (rsD r)) ∧ Few l m T B P r := by
  have e1 : ((1 : Nat) : Int) = 1 := rfl
  have hf := lb_loop hT hB lm hq P 1 none none none none none (by omega) (by omega) (fun n h1 h2 => by omega)
  rw [e1] at hf
  rw [law_best_eq, law_best_run lm.P1]
  rcases hf with ⟨ρ, h1, h2⟩ | ⟨ps, ρ, h1, h2⟩
  · exact ⟨none, by rw [h1]; rfl, h2⟩
  · exact ⟨some ps, by rw [h1]; rfl, h2⟩
end T
namespace T
open PySem PySem.Spec PyProof.Rows L2
/-! ### ratios in lowest terms -/
def nT (t b : Int) : Int := t / (Int.gcd t b : Int)
def nB (t b : Int) : Int := b / (Int.gcd t b : Int)
theorem gcd_pos' {t b : Int} (hb : 0 < b) : 0 < Int.gcd t b := by
  rcases Nat.eq_zero_or_pos (Int.gcd t b) with h | h
  · rw [Int.gcd_eq_zero_iff] at h; omega
  · exact h
theorem nT_mul (t b : Int) : nT t b * (Int.gcd t b : Int) = t := Int.ediv_mul_cancel (Int.gcd_dvd_left ..)
theorem nB_mul (t b : Int) : nB t b * (Int.gcd t b : Int) = b := Int.ediv_mul_cancel (Int.gcd_dvd_right ..)
theorem n_pos {x g : Int} (hx : 0 < x * g) (hg : 0 < g) : 0 < x := by
  by_cases h : 0 < x
  · exact h
  · have h' : x ≤ 0 := by omega
    have := Int.mul_le_mul_of_nonneg_right h' (Int.le_of_lt hg)
    omega
theorem nT_pos {t b : Int} (ht : 0 < t) (hb : 0 < b) : 0 < nT t b := n_pos (g := (Int.gcd t b : Int)) (by rw [nT_mul]; exact ht) (by have := gcd_pos' (t := t) hb; omega)
theorem nB_pos {t b : Int} (hb : 0 < b) : 0 < nB t b := n_pos (g := (Int.gcd t b : Int)) (by rw [nB_mul]; exact hb) (by have := gcd_pos' (t := t) hb; omega)
theorem n_le {x g t : Int} (h : x * g = t) (hx : 0 < x) (hg : 0 < g) : x ≤ t := by
  have := Int.mul_le_mul_of_nonneg_left (show 1 ≤ g by omega) (Int.le_of_lt hx)
  omega
theorem nT_le {t b : Int} (ht : 0 < t) (hb : 0 < b) : nT t b ≤ t := n_le (nT_mul t b) (nT_pos ht hb) (by have := gcd_pos' (t := t) hb; omega)
theorem nB_le {t b : Int} (hb : 0 < b) : nB t b ≤ b := n_le (nB_mul t b) (nB_pos hb) (by have := gcd_pos' (t := t) hb; omega)
theorem n_cross {t b : Int} (hb : 0 < b) : nT t b * b = t * nB t b := by
  have h1 := nT_mul t b
  have h2 := nB_mul t b
  calc nT t b * b = nT t b * (nB t b * (Int.gcd t b : Int)) := by rw [h2]
    _ = (nT t b * (Int.gcd t b : Int)) * nB t b := by rw [Int.mul_comm (nB t b), ← Int.mul_assoc]
    _ = t * nB t b := by rw [h1]
theorem n_cop {t b : Int} (hb : 0 < b) : Nat.Coprime (nT t b).natAbs (nB t b).natAbs := by
  have h := gcd_pos' (t := t) hb
  have := Int.gcd_ediv_gcd_ediv_gcd h
  exact this
theorem cop_eq {a c a' c' : Nat} (h1 : Nat.Coprime a c) (h2 : Nat.Coprime a' c') (h : a * c' = a' * c) (hc : 0 < c) (ha : 0 < a) : a = a' ∧ c = c' := by
  have d1 : a ∣ a' := h1.dvd_of_dvd_mul_right (by rw [← h]; exact Nat.dvd_mul_right ..)
  have d2 : a' ∣ a := h2.dvd_of_dvd_mul_right (by rw [h]; exact Nat.dvd_mul_right ..)
  have e := Nat.dvd_antisymm d1 d2
  subst e
  exact ⟨rfl, (Nat.eq_of_mul_eq_mul_left ha h).symm⟩
theorem n_unique {t b t' b' : Int} (ht : 0 < t) (hb : 0 < b) (ht' : 0 < t') (hb' : 0 < b') (h : t * b' = t' * b) : nT t b = nT t' b' ∧ nB t b = nB t' b' := by
  have p1 := nT_pos ht hb
  have p2 := nB_pos (t := t) hb
  have p3 := nT_pos ht' hb'
  have p4 := nB_pos (t := t') hb'
  have g1 := gcd_pos' (t := t) hb
  have g2 := gcd_pos' (t := t') hb'
  have key : nT t b * nB t' b' = nT t' b' * nB t b := by
    have q : (nT t b * nB t' b') * ((Int.gcd t b : Int) * (Int.gcd t' b' : Int)) = (nT t' b' * nB t b) * ((Int.gcd t b : Int) * (Int.gcd t' b' : Int)) := by
      calc (nT t b * nB t' b') * ((Int.gcd t b : Int) * (Int.gcd t' b' : Int)) = (nT t b * (Int.gcd t b : Int)) * (nB t' b' * (Int.gcd t' b' : Int)) := by ac_rfl
        _ = t * b' := by rw [nT_mul, nB_mul]
        _ = t' * b := h
        _ = (nT t' b' * (Int.gcd t' b' : Int)) * (nB t b * (Int.gcd t b : Int)) := by rw [nT_mul, nB_mul]
        _ = _ := by ac_rfl
    exact Int.eq_of_mul_eq_mul_right (Int.ne_of_gt (Int.mul_pos (by omega) (by omega))) q
  have kn : (nT t b).natAbs * (nB t' b').natAbs = (nT t' b').natAbs * (nB t b).natAbs := by rw [← Int.natAbs_mul, ← Int.natAbs_mul, key]
  obtain ⟨e1, e2⟩ := cop_eq (n_cop hb) (n_cop hb') kn (by omega) (by omega)
  omega
def rO (t b : Int) : O := .ins none 0 [.fz (.int (nT t b)), .fz (.int (nB t b))]
theorem frz_rO (t b : Int) : frz (rO t b) = ratD (nT t b) (nB t b) := by simp [rO, frz, frzL, ratD]
theorem mk_ok {t b : Int} (hb : 0 < b) (hz : b.natAbs < big) : mkO 0 fm_Ratio [.int t, .int b] = some (rO t b) := by
  have e : bothOf t b = (Int.gcd t b : Int) := by unfold bothOf; rw [if_neg (by omega)]
  unfold mkO fm_Ratio
  simp [hz, e, rO, nT, nB, show b ≠ 0 by omega]
theorem told_ok (t b : Int) : sp_Ratio_told [ratD t b] = some (.fz (.tup [.int t, .int b])) := by
  unfold sp_Ratio_told spOf r_Ratio_told
  simp [start0, ratD, fldD, fx_top, fx_bottom, gTup_small, ends]
theorem times_ok {a b c d : Int} (hb : 0 < b) (hd : 0 < d) (za : a.natAbs ≤ 2 ^ 300) (zb : b.natAbs ≤ 2 ^ 300) (zc : c.natAbs ≤ 2 ^ 300) (zd : d.natAbs ≤ 2 ^ 300) : sp_Ratio_times [ratD a b, ratD c d] = some (rO (a * c) (b * d)) := by
  have z1 : szM a c = true := szM_big (big_of za (by decide)) (big_of zc (by decide))
  have z2 : szM b d = true := szM_big (big_of zb (by decide)) (big_of zd (by decide))
  have zz : (b * d).natAbs < big := by
    rw [Int.natAbs_mul]
    have := Nat.mul_le_mul zb zd
    have h2 : (2 : Nat) ^ 300 * 2 ^ 300 = 2 ^ 600 := by decide
    have h3 : (2 : Nat) ^ 600 < big := Nat.pow_lt_pow_right (by decide) (by decide)
    omega
  have m := mk_ok (t := a * c) (Int.mul_pos hb hd) zz
  unfold sp_Ratio_times spOf r_Ratio_times
  simp [start0, ratD, fldD, fx_top, fx_bottom, z1, z2, m, ends]
theorem ratio_step {P Q x y : Int} (c : D) (l2 l3 : Option O) (hP : 0 < P) (hQ : 0 < Q) (hx : 1 ≤ x ∧ x ≤ 1000) (hy : 1 ≤ y ∧ y ≤ 1000) (zP : P.natAbs ≤ 2 ^ 200) (zQ : Q.natAbs ≤ 2 ^ 200) :
    b1_ratio_of sp_Ratio_times fm_Ratio [some (.fz c), some (rO P Q), some (.fz (.int x)), some (.fz (.int y))] = some (.nx [some (.fz c), some (rO (P * x) (Q * y)), some (.fz (.int x)), some (.fz (.int y))]) := by
  have pw : (2 : Nat) ^ 200 ≤ 2 ^ 300 := Nat.pow_le_pow_right (by decide) (by decide)
  have pv : (1000 : Nat) ≤ 2 ^ 300 := by
    have : (1000 : Nat) ≤ 2 ^ 10 := by decide
    exact Nat.le_trans this (Nat.pow_le_pow_right (by decide) (by decide))
  have m := mk_ok (t := x) (b := y) (by omega) (big_of (n := 10) (by omega) (by decide))
  have a1 := nT_pos hP hQ
  have a2 := nB_pos (t := P) hQ
  have a3 := nT_pos (t := x) (b := y) (by omega) (by omega)
  have a4 := nB_pos (t := x) (b := y) (by omega)
  have u1 := nT_le hP hQ
  have u2 := nB_le (t := P) hQ
  have u3 := nT_le (t := x) (b := y) (by omega) (by omega)
  have u4 := nB_le (t := x) (b := y) (by omega)
  have t1 := times_ok (a := nT P Q) (b := nB P Q) (c := nT x y) (d := nB x y) a2 a4 (Nat.le_trans (show (nT P Q).natAbs ≤ P.natAbs by omega) (Nat.le_trans zP pw)) (Nat.le_trans (show (nB P Q).natAbs ≤ Q.natAbs by omega) (Nat.le_trans zQ pw)) (Nat.le_trans (show (nT x y).natAbs ≤ 1000 by omega) pv) (Nat.le_trans (show (nB x y).natAbs ≤ 1000 by omega) pv)
  have eq : rO (nT P Q * nT x y) (nB P Q * nB x y) = rO (P * x) (Q * y) := by
    have h : (nT P Q * nT x y) * (Q * y) = (P * x) * (nB P Q * nB x y) := by
      calc (nT P Q * nT x y) * (Q * y) = (nT P Q * Q) * (nT x y * y) := by ac_rfl
        _ = (P * nB P Q) * (x * nB x y) := by rw [n_cross hQ, n_cross (show 0 < y by omega)]
        _ = _ := by ac_rfl
    obtain ⟨e1, e2⟩ := n_unique (Int.mul_pos a1 a3) (Int.mul_pos a2 a4) (Int.mul_pos hP (show 0 < x by omega)) (Int.mul_pos hQ (show 0 < y by omega)) h
    unfold rO
    rw [e1, e2]
  rw [eq] at t1
  have hv := eVar_o (ρ := [some (.fz c), some (rO P Q), some (.fz (.int x)), some (.fz (.int y))]) (i := 1) (o := rO P Q) rfl
  rw [frz_rO] at hv
  simp only [List.set_cons_succ, List.set_cons_zero] at hv
  have i1 : aCons (frF (makeF 0 fm_Ratio [] (aCons (eVar 2) (aCons (eVar 3) aNil)))) aNil [some (.fz c), some (.fz (ratD (nT P Q) (nB P Q))), some (.fz (.int x)), some (.fz (.int y))] = some ([ratD (nT x y) (nB x y)], [some (.fz c), some (.fz (ratD (nT P Q) (nB P Q))), some (.fz (.int x)), some (.fz (.int y))]) := by simp [m, frz_rO]
  unfold b1_ratio_of
  rw [sAsg_ap, methF_ap, hv]
  show (match (if (0 : Nat) = 0 then (match aCons (frF (makeF 0 fm_Ratio [] (aCons (eVar 2) (aCons (eVar 3) aNil)))) aNil [some (.fz c), some (.fz (ratD (nT P Q) (nB P Q))), some (.fz (.int x)), some (.fz (.int y))] with
    | some (ds, ρ2) => match sp_Ratio_times (ratD (nT P Q) (nB P Q) :: (ds ++ [])) with
      | some o => some (o, ρ2)
      | none => none
    | none => none) else none) with
  | some (o, ρ1) => match gNm 1 o ρ1 with
    | some ρ2 => some (Out.nx ρ2)
    | none => none
  | none => none) = _
  rw [if_pos rfl, i1]
  dsimp only
  rw [List.append_nil, t1]
  simp
def okP (ps : List (Int × Int)) : Prop := ∀ q ∈ ps, (1 ≤ q.1 ∧ q.1 ≤ 1000) ∧ 1 ≤ q.2 ∧ q.2 ≤ 1000
theorem ratio_loop (c : D) : ∀ (r a : List (Int × Int)) (l2 l3 : Option O), okP (a ++ r) → (a ++ r).length ≤ 20 →
    ∃ l2' l3', loop (gTp 2 (gsCons (gNm 2) (gsCons (gNm 3) gsNil))) (b1_ratio_of sp_Ratio_times fm_Ratio) (r.map pD) [some (.fz c), some (rO (prd (a.map (·.1))) (prd (a.map (·.2)))), l2, l3] = some (.nx [some (.fz c), some (rO (prd ((a ++ r).map (·.1))) (prd ((a ++ r).map (·.2)))), l2', l3'])
  | [], a, l2, l3, _, _ => ⟨l2, l3, by rw [List.map_nil, loop_nil, List.append_nil]⟩
  | (x, y) :: r, a, l2, l3, ok, hl => by
    have oa : okG (a.map (·.1)) := fun z hz => by
      obtain ⟨q, hq, rfl⟩ := List.mem_map.mp hz
      exact (ok q (List.mem_append_left _ hq)).1
    have ob : okG (a.map (·.2)) := fun z hz => by
      obtain ⟨q, hq, rfl⟩ := List.mem_map.mp hz
      exact (ok q (List.mem_append_left _ hq)).2
    have la : (a.map (·.1)).length ≤ 20 := by simp at hl ⊢; omega
    have lb : (a.map (·.2)).length ≤ 20 := by simp at hl ⊢; omega
    have p1 := prd_big la oa
    have p2 := prd_big lb ob
    obtain ⟨ox, oy⟩ := ok (x, y) (by simp)
    have st := ratio_step c l2 l3 (by omega) (by omega) ox oy p1.2 p2.2
    obtain ⟨m2, m3, ih⟩ := ratio_loop c r (a ++ [(x, y)]) (some (.fz (.int x))) (some (.fz (.int y))) (by simpa using ok) (by simpa using hl)
    refine ⟨m2, m3, ?_⟩
    rw [List.map_cons]
    have g1 : gTp 2 (gsCons (gNm 2) (gsCons (gNm 3) gsNil)) (.fz (pD (x, y))) [some (.fz c), some (rO (prd (a.map (·.1))) (prd (a.map (·.2)))), l2, l3] = some [some (.fz c), some (rO (prd (a.map (·.1))) (prd (a.map (·.2)))), some (.fz (.int x)), some (.fz (.int y))] := by simp [pD]
    rw [loop_nx g1 st]
    have e1 : prd ((a ++ [(x, y)]).map (·.1)) = prd (a.map (·.1)) * x := by rw [List.map_append]; exact prd_snoc _ _
    have e2 : prd ((a ++ [(x, y)]).map (·.2)) = prd (a.map (·.2)) * y := by rw [List.map_append]; exact prd_snoc _ _
    rw [e1, e2] at ih
    rw [ih]
    simp
theorem ratio_of_ok {c : D} {ps : List (Int × Int)} (hc : seqD c = some (ps.map pD)) (ok : okP ps) (hl : ps.length ≤ 20) : sp_ratio_of [c] = some (rO (prd (ps.map (·.1))) (prd (ps.map (·.2)))) := by
  obtain ⟨m2, m3, h⟩ := ratio_loop c ps [] none none (by simpa using ok) (by simpa using hl)
  have m1 : mkO 0 fm_Ratio [.int 1, .int 1] = some (rO 1 1) := mk_ok (by decide) (big_of (n := 10) (by decide) (by decide))
  unfold sp_ratio_of
  rw [spOf_eq (show [c].length = 1 from rfl)]
  unfold r_ratio_of
  rw [sSeq_eq]
  have s1 : sAsg (makeF 0 fm_Ratio [.int 1] (aCons (eC (.int 1)) aNil)) (gNm 1) (start0 4 [c]) = some (.nx [some (.fz c), some (rO 1 1), none, none]) := by simp [start0, m1]
  have i1 : eVar 0 [some (.fz c), some (rO 1 1), none, none] = some (c, [some (.fz c), some (rO 1 1), none, none]) := by simp
  rw [s1, seqO_nx, sSeq_eq, sFor_eq (mapF_eq i1 hc)]
  have h' : loop (gTp 2 (gsCons (gNm 2) (gsCons (gNm 3) gsNil))) (b1_ratio_of sp_Ratio_times fm_Ratio) (ps.map pD) [some (.fz c), some (rO 1 1), none, none] = _ := h
  rw [h', seqO_nx]
  simp [ends]
end T
namespace T
open PySem PySem.Spec PyProof.Rows L2
/-! ### the law's ratio -/
theorem fmod_pos {x n : Int} (hn : 0 < n) : modD (.int x) (.int n) = some (.int (x % n)) := by
  rw [modD_int, if_pos (by omega), Int.fmod_eq_emod_of_nonneg _ (by omega)]
theorem mod_bd (x : Int) {n : Int} (hn : 0 < n) : 0 ≤ x % n ∧ x % n < n := ⟨Int.emod_nonneg _ (by omega), Int.emod_lt_of_pos _ hn⟩
theorem grow {a v : Int} {i : Nat} (h1 : 1 ≤ a) (h2 : a.natAbs ≤ 2 ^ (10 * i)) (h3 : 1 ≤ v) (h4 : v ≤ 1000) : 1 ≤ a * v ∧ (a * v).natAbs ≤ 2 ^ (10 * (i + 1)) := by
  constructor
  · have := Int.mul_le_mul h1 h3 (by omega) (by omega); omega
  · rw [Int.natAbs_mul, Nat.mul_add, Nat.pow_add]
    exact Nat.mul_le_mul h2 (by have : (2 : Nat) ^ (10 * 1) = 1024 := by decide
                                omega)
abbrev rE (cell l m P a c : Int) (l6 l7 : Option O) : Env := [some (.fz (.int cell)), some (.fz (.int l)), some (.fz (.int m)), some (.fz (.int P)), some (.fz (.int a)), some (.fz (.int c)), l6, l7]
theorem lr_step {cell l m P a c : Int} {l7 : Option O} {k : Int} (hl : 1 ≤ l) (hlm : l ≤ m) (hm : m ≤ 1000) {i : Nat} (hi : i ≤ 50) (hk : 0 ≤ k ∧ k ≤ 100) (a1 : 1 ≤ a) (a2 : a.natAbs ≤ 2 ^ (10 * i)) (c1 : 1 ≤ c) (c2 : c.natAbs ≤ 2 ^ (10 * i)) :
    ∃ a' c', b1__law_ratio sp__law_mix (rE cell l m P a c (some (.fz (.int k))) l7) = some (.nx (rE cell l m P a' c' (some (.fz (.int k))) l7)) ∧ (1 ≤ a' ∧ a'.natAbs ≤ 2 ^ (10 * (i + 1))) ∧ 1 ≤ c' ∧ c'.natAbs ≤ 2 ^ (10 * (i + 1)) := by
  have q1 := mix_ok (c := cell) (k := 10 + k) (by omega)
  have q2 := mix_ok (c := cell) (k := 20 + k) (by omega)
  have w0 : 0 < m - l + 1 := by omega
  have b1 := mod_bd (mixF cell (10 + k)) w0
  have b2 := mod_bd (mixF cell (20 + k)) w0
  have f1 := fmod_pos (x := mixF cell (10 + k)) w0
  have f2 := fmod_pos (x := mixF cell (20 + k)) w0
  have pp : (2 : Nat) ^ (10 * i) ≤ 2 ^ 500 := Nat.pow_le_pow_right (by decide) (by omega)
  have z1 : szM a (l + mixF cell (10 + k) % (m - l + 1)) = true := szM_big (big_of (n := 500) (by omega) (by decide)) (big_of (n := 10) (by omega) (by decide))
  have z2 : szM c (l + mixF cell (20 + k) % (m - l + 1)) = true := szM_big (big_of (n := 500) (by omega) (by decide)) (big_of (n := 10) (by omega) (by decide))
  refine ⟨a * (l + mixF cell (10 + k) % (m - l + 1)), c * (l + mixF cell (20 + k) % (m - l + 1)), ?_, grow a1 a2 (by omega) (by omega), grow c1 c2 (by omega) (by omega)⟩
  unfold b1__law_ratio
  simp only [sSeq_ap, sAsg_ap, fzF_ap, map2F_ap, frF_ap, callF_ap, aCons_ap, aNil_ap, eVar_ap, eC_ap, List.getElem?_cons_succ, List.getElem?_cons_zero, List.append_nil, addD_int, subD_int, q1, q2, frz, f1, f2, mulU_int, z1, z2, if_true, gNm_ap, List.length_cons, List.length_nil, Nat.reduceAdd, Nat.reduceLT, List.set_cons_succ, List.set_cons_zero]
theorem lr_loop {cell l m P : Int} {l7 : Option O} (hl : 1 ≤ l) (hlm : l ≤ m) (hm : m ≤ 1000) (r : Nat) : ∀ (i : Nat) (a c : Int) (l6 : Option O), i + r ≤ 50 → 1 ≤ a → a.natAbs ≤ 2 ^ (10 * i) → 1 ≤ c → c.natAbs ≤ 2 ^ (10 * i) →
    ∃ a' c' l6', loop (gNm 6) (b1__law_ratio sp__law_mix) ((List.range r).map fun j => D.int ((i : Int) + (j : Nat))) (rE cell l m P a c l6 l7) = some (.nx (rE cell l m P a' c' l6' l7)) ∧ (1 ≤ a' ∧ a'.natAbs ≤ 2 ^ (10 * (i + r))) ∧ 1 ≤ c' ∧ c'.natAbs ≤ 2 ^ (10 * (i + r)) := by
  induction r with
  | zero => intro i a c l6 h a1 a2 c1 c2; exact ⟨a, c, l6, by rw [List.range_zero, List.map_nil, loop_nil], ⟨a1, a2⟩, c1, c2⟩
  | succ r ih =>
    intro i a c l6 h a1 a2 c1 c2
    obtain ⟨a', c', s1, ⟨s2, s3⟩, s4, s5⟩ := lr_step (P := P) (cell := cell) (l7 := l7) hl hlm hm (i := i) (k := (i : Int) + ((0 : Nat) : Int)) (by omega) (by omega) a1 a2 c1 c2
    obtain ⟨a2', c2', l6', e1, e2, e3⟩ := ih (i + 1) a' c' (some (.fz (.int ((i : Int) + ((0 : Nat) : Int))))) (by omega) s2 s3 s4 s5
    refine ⟨a2', c2', l6', ?_, by rw [show i + (r + 1) = i + 1 + r by omega]; exact e2, by rw [show i + (r + 1) = i + 1 + r by omega]; exact e3⟩
    rw [List.range_succ_eq_map, List.map_cons, List.map_map]
    have em : ((fun j : Nat => D.int ((i : Int) + (j : Nat))) ∘ Nat.succ) = fun j : Nat => D.int (((i + 1 : Nat) : Int) + (j : Nat)) := by
      funext j
      simp only [Function.comp]
      congr 1
      omega
    have g1 : gNm 6 (.fz (.int ((i : Int) + ((0 : Nat) : Int)))) (rE cell l m P a c l6 l7) = some (rE cell l m P a c (some (.fz (.int ((i : Int) + ((0 : Nat) : Int))))) l7) := rfl
    rw [em, loop_nx g1 s1]
    exact e1
theorem eqD_bl {a b : Int} : eqD (.int a) (.int b) = some (.bl (decide (a = b))) := eqD_int
theorem law_ratio_ok {cell l m : Int} {P : Nat} (hl : 1 ≤ l) (hlm : l ≤ m) (hm : m ≤ 1000) (h1 : 1 ≤ P) (hP : P ≤ 10) : ∃ T B, sp__law_ratio [.int cell, .int l, .int m, .int P] = some (.fz (.tup [.int T, .int B])) ∧ TB T B := by
  have P0 : (0 : Int) < P := by omega
  have q1 := mix_ok (c := cell) (k := 1) (by decide)
  have q2 := mix_ok (c := cell) (k := 2) (by decide)
  have q3 := mix_ok (c := cell) (k := 3) (by decide)
  have q4 := mix_ok (c := cell) (k := 4) (by decide)
  have b1 := mod_bd (mixF cell 1) P0
  have f1 := fmod_pos (x := mixF cell 1) P0
  have f2 := fmod_pos (x := mixF cell 2) (n := 8) (by decide)
  have f3 := fmod_pos (x := mixF cell 3) (n := 60) (by decide)
  have f4 := fmod_pos (x := mixF cell 4) (n := 60) (by decide)
  have b3 := mod_bd (mixF cell 3) (n := 60) (by decide)
  have b4 := mod_bd (mixF cell 4) (n := 60) (by decide)
  generalize hr : (1 + mixF cell 1 % (P : Int)).toNat = r
  have er : 1 + mixF cell 1 % (P : Int) = (r : Int) := by omega
  obtain ⟨a, c, l6, e1, ⟨e2, e3⟩, e4, e5⟩ := lr_loop (cell := cell) (P := P) (l7 := none) hl hlm hm r 0 1 1 none (by omega) (by decide) (by decide) (by decide) (by decide)
  have pw : (2 : Nat) ^ (10 * (0 + r)) ≤ 2 ^ 150 := Nat.pow_le_pow_right (by decide) (by omega)
  have pv : (2 : Nat) ^ 150 + 1 ≤ 2 ^ 200 := by decide
  have p6 : (1000 : Nat) ≤ 2 ^ 200 := by decide
  have hr1 : rng1 [.int (1 + mixF cell 1 % (P : Int))] = some ((List.range r).map fun j => D.int (((0 : Nat) : Int) + (j : Nat))) := by
    rw [er, rng1_ok (by omega)]
    rfl
  unfold sp__law_ratio
  rw [spOf_eq (show [D.int cell, .int l, .int m, .int (P : Int)].length = 4 from rfl)]
  unfold r__law_ratio
  rw [sSeq_eq]
  have s1 : sAsg (fzF (eC (.int 1))) (gNm 4) (start0 8 [.int cell, .int l, .int m, .int (P : Int)]) = some (.nx [some (.fz (.int cell)), some (.fz (.int l)), some (.fz (.int m)), some (.fz (.int P)), some (.fz (.int 1)), none, none, none]) := by simp [start0]
  rw [s1, seqO_nx, sSeq_eq]
  have s2 : sAsg (fzF (eC (.int 1))) (gNm 5) [some (.fz (.int cell)), some (.fz (.int l)), some (.fz (.int m)), some (.fz (.int P)), some (.fz (.int 1)), none, none, none] = some (.nx (rE cell l m P 1 1 none none)) := by simp
  rw [s2, seqO_nx, sSeq_eq]
  have i1 : aCons (map2F (eC (.int 1)) (map2F (frF (callF sp__law_mix [] (aCons (eVar 0) (aCons (eC (.int 1)) aNil)))) (eVar 3) modD) addD) aNil (rE cell l m P 1 1 none none) = some ([.int (1 + mixF cell 1 % (P : Int))], rE cell l m P 1 1 none none) := by
    simp only [map2F_ap, frF_ap, callF_ap, aCons_ap, aNil_ap, eVar_ap, eC_ap, List.getElem?_cons_succ, List.getElem?_cons_zero, List.append_nil, q1, frz, f1, addD_int]
  rw [sFor_eq (mapF_eq i1 hr1), e1, seqO_nx, sSeq_eq]
  have s3 : sAsg (fzF (map2F (frF (callF sp__law_mix [] (aCons (eVar 0) (aCons (eC (.int 2)) aNil)))) (eC (.int 8)) modD)) (gNm 7) (rE cell l m P a c l6 none) = some (.nx (rE cell l m P a c l6 (some (.fz (.int (mixF cell 2 % 8)))))) := by
    simp only [sAsg_ap, fzF_ap, map2F_ap, frF_ap, callF_ap, aCons_ap, aNil_ap, eVar_ap, eC_ap, List.getElem?_cons_succ, List.getElem?_cons_zero, List.append_nil, q2, frz, f2, gNm_ap, List.length_cons, List.length_nil, Nat.reduceAdd, Nat.reduceLT, if_true, List.set_cons_succ, List.set_cons_zero]
  rw [s3, seqO_nx]
  generalize mixF cell 2 % 8 = way
  by_cases w0 : way = 0
  · refine ⟨a + 1, c, ?_, ⟨by omega, by omega, by omega, by omega⟩⟩
    simp [w0, gTup_small, ends]
  · by_cases w1 : way = 1
    · refine ⟨1 + mixF cell 3 % 60, 1 + mixF cell 4 % 60, ?_, ⟨by omega, by omega, by omega, by omega⟩⟩
      subst w1
      simp [gTup_small, ends, q3, q4, frz, Int.fmod_eq_emod_of_nonneg]
    · refine ⟨a, c, ?_, ⟨by omega, by omega, by omega, by omega⟩⟩
      simp [w0, w1, gTup_small, ends]
end T
namespace T
open PySem PySem.Spec PyProof.Rows L2
section
variable {α β γ : Type} {ρ ρ1 ρ2 ρ3 : Env}
theorem sAsg_eq {f : F O} {g : FG} {o : O} (h1 : f ρ = some (o, ρ1)) (h2 : g o ρ1 = some ρ2) : sAsg f g ρ = some (.nx ρ2) := by rw [sAsg_ap, h1]; dsimp only; rw [h2]
theorem callF_eq {sp : List D → Option O} {dd ds : List D} {g : F (List D)} {o : O} (h1 : g ρ = some (ds, ρ1)) (h2 : sp (ds ++ dd) = some o) : callF sp dd g ρ = some (o, ρ1) := by rw [callF_ap, h1]; dsimp only; rw [h2]
theorem makeF_eq {C : Nat} {fm : FM} {dd ds : List D} {g : F (List D)} {o : O} (h1 : g ρ = some (ds, ρ1)) (h2 : mkO C fm (ds ++ dd) = some o) : makeF C fm dd g ρ = some (o, ρ1) := by rw [makeF_ap, h1]; dsimp only; rw [h2]
theorem frF_eq {f : F O} {o : O} (h1 : f ρ = some (o, ρ1)) : frF f ρ = some (frz o, ρ1) := by rw [frF_ap, h1]
theorem fzF_eq {f : F D} {o : D} (h1 : f ρ = some (o, ρ1)) : fzF f ρ = some (.fz o, ρ1) := by rw [fzF_ap, h1]
theorem aCons_eq {f : F D} {g : F (List D)} {d : D} {ds : List D} (h1 : f ρ = some (d, ρ1)) (h2 : g ρ1 = some (ds, ρ2)) : aCons f g ρ = some (d :: ds, ρ2) := by rw [aCons_ap, h1]; dsimp only; rw [h2]
theorem aNil_eq : aNil ρ = some ([], ρ) := rfl
theorem eC_eq {d : D} : eC d ρ = some (d, ρ) := rfl
theorem map2F_eq {f : F α} {f' : F β} {g : α → β → Option γ} {a : α} {b : β} {c : γ} (h1 : f ρ = some (a, ρ1)) (h2 : f' ρ1 = some (b, ρ2)) (h3 : g a b = some c) : map2F f f' g ρ = some (c, ρ2) := by rw [map2F_ap, h1]; dsimp only; rw [h2]; dsimp only; rw [h3]
theorem peekT_eq {f : F Bool} {b : Bool} (h : f (iceE ρ) = some (b, ρ1)) : peekT f ρ = some (b, ρ) := by rw [peekT_ap, h]
theorem sIf_t {c : F Bool} {f g : FS} (h : c ρ = some (true, ρ1)) : sIf c f g ρ = f ρ1 := by rw [sIf_ap, h]
theorem sIf_f {c : F Bool} {f g : FS} (h : c ρ = some (false, ρ1)) : sIf c f g ρ = g ρ1 := by rw [sIf_ap, h]
theorem methF_eq {C : Nat} {sp : List D → Option O} {dd ds xs : List D} {g : F D} {ga : F (List D)} {o : O} (h1 : g ρ = some (.ins C xs, ρ1)) (h2 : ga ρ1 = some (ds, ρ2)) (h3 : sp (.ins C xs :: (ds ++ dd)) = some o) : methF C sp dd g ga ρ = some (o, ρ2) := by
  rw [methF_ap, h1]
  show (if C = C then _ else _) = _
  rw [if_pos rfl, h2]
  dsimp only
  rw [h3]
theorem eVar_fz {i : Nat} {d : D} (h : ρ[i]? = some (some (.fz d))) : eVar i ρ = some (d, ρ) := by
  unfold eVar
  rw [h]
theorem sExpr_eq {f : F α} {a : α} (h : f ρ = some (a, ρ1)) : sExpr f ρ = some (.nx ρ1) := by rw [sExpr_ap, h]
theorem sRet_eq {f : F O} {o : O} (h : f ρ = some (o, ρ1)) : sRet f ρ = some (.rt o ρ1) := by rw [sRet_ap, h]
theorem orF_f {f g : F Bool} {b : Bool} (h : f ρ = some (false, ρ1)) (h2 : g ρ1 = some (b, ρ2)) : orF f g ρ = some (b, ρ2) := by rw [orF_ap, h]; exact h2
theorem orF_t {f g : F Bool} (h : f ρ = some (true, ρ1)) : orF f g ρ = some (true, ρ1) := by rw [orF_ap, h]
theorem andF_t {f g : F Bool} {b : Bool} (h : f ρ = some (true, ρ1)) (h2 : g ρ1 = some (b, ρ2)) : andF f g ρ = some (b, ρ2) := by rw [andF_ap, h]; exact h2
theorem andF_f {f g : F Bool} (h : f ρ = some (false, ρ1)) : andF f g ρ = some (false, ρ1) := by rw [andF_ap, h]
theorem notF_eq {f : F Bool} {b : Bool} (h : f ρ = some (b, ρ1)) : notF f ρ = some (!b, ρ1) := by rw [notF_ap, h]
end
/-! ### one cell of the script -/
abbrev lE (S : D) (great k cell one pairs least wide most due found top bottom : Option O) : Env := [some (.fz S), great, k, cell, one, pairs, least, wide, most, due, found, top, bottom]
abbrev iO (n : Int) : Option O := some (.fz (.int n))
/-- numbers at which the law asks -/
structure Good (l m : Int) (P : Nat) (T B : Int) : Prop where
  lm : LM l m P
  tb : TB T B
  q : ∀ k, k ≤ P → (grp l m k).length * (grp l m k).length ≤ 16000000
theorem good_of {l m T B : Int} {P : Nat} (l0 : 1 ≤ l) (le : l ≤ m) (w : m - l ≤ 8) (m1 : m ≤ 1000) (hP : P ≤ 3) (tb : TB T B) : Good l m P T B := by
  have hw : (m + 1 - l).toNat ≤ 9 := by omega
  have h3 : ∀ k, k ≤ P → (m + 1 - l).toNat ^ k ≤ 729 := fun k hk => by
    have h1 : (m + 1 - l).toNat ^ k ≤ 9 ^ k := Nat.pow_le_pow_left hw k
    have h2 : (9 : Nat) ^ k ≤ 9 ^ 3 := Nat.pow_le_pow_right (by decide) (by omega)
    have h4 : (9 : Nat) ^ 3 = 729 := by decide
    omega
  refine ⟨⟨l0, m1, le, by omega, fun k hk => Nat.le_trans (h3 k hk) (by decide)⟩, tb, fun k hk => ?_⟩
  have a := Nat.le_trans (grp_len (l := l) (m := m) k) (h3 k hk)
  exact Nat.le_trans (Nat.mul_le_mul a a) (by decide)
theorem Few.red {l m T B : Int} {P : Nat} {r : Option (List (Int × Int))} (hT : 0 < T) (hB : 0 < B) (h : Few l m (nT T B) (nB T B) P r) : Few l m T B P r := by
  have g := gcd_pos' (t := T) hB
  have key : ∀ x y : Int, x * nB T B = y * nT T B ↔ x * B = y * T := fun x y => by
    have e1 := nT_mul T B
    have e2 := nB_mul T B
    constructor
    · intro z
      calc x * B = (x * nB T B) * (Int.gcd T B : Int) := by rw [Int.mul_assoc, e2]
        _ = (y * nT T B) * (Int.gcd T B : Int) := by rw [z]
        _ = y * T := by rw [Int.mul_assoc, e1]
    · intro z
      refine Int.eq_of_mul_eq_mul_right (show (Int.gcd T B : Int) ≠ 0 by omega) ?_
      rw [Int.mul_assoc, Int.mul_assoc, e1, e2, z]
  have hs : ∀ n c, Sn l m (nT T B) (nB T B) n c ↔ Sn l m T B n c := fun n c => by
    unfold Sn Sx
    constructor
    · rintro ⟨d, h1, e, h2, h3, h4⟩; exact ⟨d, h1, e, h2, (key _ _).mp h3, h4⟩
    · rintro ⟨d, h1, e, h2, h3, h4⟩; exact ⟨d, h1, e, h2, (key _ _).mpr h3, h4⟩
  rcases h with ⟨h1, h2⟩ | ⟨n, c, h1, h2, h3, h4, h5⟩
  · exact .inl ⟨h1, fun n a b c z => h2 n a b c ((hs n c).mpr z)⟩
  · exact .inr ⟨n, c, h1, h2, fun j a b c z => h3 j a b c ((hs j c).mpr z), h4.congr (hs n), h5⟩
theorem frz_rsO (r : Option (List (Int × Int))) : frz (rsO r) = rsD r := by
  cases r with
  | none => rfl
  | some ps => show frz (lsO ps) = _; unfold lsO; rw [frz, frzL_map pD]; rfl
theorem ice_rsO (r : Option (List (Int × Int))) : iceO (some (rsO r)) = some (.fz (rsD r)) := by rw [← frz_rsO]; rfl
theorem pn_rsD (r : Option (List (Int × Int))) : pn 64 (rsD r) = true := by
  cases r with
  | none => rfl
  | some ps => simp [rsD, pn, pn_pairs 63 (by decide) ps]
/-- the train that is told: its ratio -/
theorem few_ratio {l m T B : Int} {P : Nat} {ps : List (Int × Int)} (lm : LM l m P) (tb : TB T B) (h : Few l m T B P (some ps)) : sp_ratio_of [.lst (ps.map pD)] = some (rO T B) := by
  rcases h with ⟨h1, _⟩ | ⟨n, c, h1, h2, _, ⟨⟨d, hd, e, he, h3, h4⟩, _⟩, h5⟩
  · cases h1
  · cases h5
    subst h4
    obtain ⟨ld, od⟩ := lm.grp h2 d hd
    obtain ⟨le, oe⟩ := lm.grp h2 e he
    have z1 : (d.zip e).map (·.1) = d := by rw [List.map_fst_zip]; omega
    have z2 : (d.zip e).map (·.2) = e := by rw [List.map_snd_zip]; omega
    have ok : okP (d.zip e) := fun q hq => by
      have m1 := List.of_mem_zip hq
      exact ⟨od _ m1.1, oe _ m1.2⟩
    have := lm.P1
    have r := ratio_of_ok (c := .lst ((d.zip e).map pD)) rfl ok (by rw [List.length_zip]; omega)
    rw [z1, z2] at r
    rw [r]
    have p1 := prd_big (g := d) (by omega) od
    have p2 := prd_big (g := e) (by omega) oe
    have := tb.t0
    have := tb.b0
    obtain ⟨e1, e2⟩ := n_unique (t := prd d) (b := prd e) (t' := T) (b' := B) (by omega) (by omega) tb.t0 tb.b0 (by rw [h3, Int.mul_comm])
    unfold rO
    rw [e1, e2]
section
variable {S : D} {k cell one : Int}
theorem st_due {l m T B : Int} {P : Nat} (g : Good l m P T B) (wide due found : Option O) : ∃ r, Few l m T B P r ∧
    sAsg (callF sp__law_best [] (aCons (eVar 11) (aCons (eVar 12) (aCons (eVar 6) (aCons (eVar 8) (aCons (eVar 5) aNil)))))) (gNm 9) (lE S none (iO k) (iO cell) (iO one) (iO P) (iO l) wide (iO m) due found (iO T) (iO B)) = some (.nx (lE S none (iO k) (iO cell) (iO one) (iO P) (iO l) wide (iO m) (some (.fz (rsD r))) found (iO T) (iO B))) := by
  obtain ⟨r, h1, h2⟩ := law_best_ok g.tb.t1 g.tb.b1 g.lm g.q
  refine ⟨r, h2, ?_⟩
  exact sAsg_eq (callF_eq (aCons_eq (eVar_fz rfl) (aCons_eq (eVar_fz rfl) (aCons_eq (eVar_fz rfl) (aCons_eq (eVar_fz rfl) (aCons_eq (eVar_fz rfl) aNil_eq))))) h1) rfl
theorem red_TB {T B : Int} (tb : TB T B) : TB (nT T B) (nB T B) := by
  have := nT_pos tb.t0 tb.b0
  have := nB_pos (t := T) tb.b0
  have := nT_le tb.t0 tb.b0
  have := nB_le (t := T) tb.b0
  have := tb.t1
  have := tb.b1
  exact ⟨by omega, by omega, by omega, by omega⟩
theorem few_call {l m T B : Int} {P : Nat} (g : Good l m P T B) {r : Option (List (Int × Int))} (h : Few l m T B P r) : mkO 0 fm_Ratio [.int T, .int B] = some (rO T B) ∧ sp_fewest [frz (rO T B), .int l, .int m, .int P] = some (rsO r) := by
  obtain ⟨r', h1, h2⟩ := fewest_ok (red_TB g.tb) g.lm
  have e := (h2.red g.tb.t0 g.tb.b0).unique h
  subst e
  exact ⟨mk_ok g.tb.b0 (big_of g.tb.b1 (by decide)), by rw [frz_rO]; exact h1⟩
theorem st_found {l m T B : Int} {P : Nat} (g : Good l m P T B) {r : Option (List (Int × Int))} (h : Few l m T B P r) (wide due found : Option O) :
    sAsg (callF sp_fewest [] (aCons (frF (makeF 0 fm_Ratio [] (aCons (eVar 11) (aCons (eVar 12) aNil)))) (aCons (eVar 6) (aCons (eVar 8) (aCons (eVar 5) aNil))))) (gNm 10) (lE S none (iO k) (iO cell) (iO one) (iO P) (iO l) wide (iO m) due found (iO T) (iO B)) = some (.nx (lE S none (iO k) (iO cell) (iO one) (iO P) (iO l) wide (iO m) due (some (rsO r)) (iO T) (iO B))) := by
  obtain ⟨h1, h2⟩ := few_call g h
  exact sAsg_eq (callF_eq (aCons_eq (frF_eq (makeF_eq (aCons_eq (eVar_fz rfl) (aCons_eq (eVar_fz rfl) aNil_eq)) h1)) (aCons_eq (eVar_fz rfl) (aCons_eq (eVar_fz rfl) (aCons_eq (eVar_fz rfl) aNil_eq)))) h2) rfl
theorem isN_rsD (r : Option (List (Int × Int))) : notN (rsD r) = some (.bl r.isSome) := by cases r <;> rfl
theorem st_test {l m T B : Int} {P : Nat} (r : Option (List (Int × Int))) (wide : Option O) :
    sIf (peekT (orF (mapF (map2F (eVar 10) (eVar 9) neD) unB) (andF (mapF (mapF (eVar 9) notN) unB) (notF (mapF (mapF (eVar 10) isListD) unB))))) (sRet (fzF (eC (.bl false)))) sNext (lE S none (iO k) (iO cell) (iO one) (iO P) (iO l) wide (iO m) (some (.fz (rsD r))) (some (rsO r)) (iO T) (iO B)) = some (.nx (lE S none (iO k) (iO cell) (iO one) (iO P) (iO l) wide (iO m) (some (.fz (rsD r))) (some (rsO r)) (iO T) (iO B))) := by
  have n1 := neD_same (pn_rsD r)
  have n2 := isN_rsD r
  rw [sIf_ap, peekT_ap]
  simp only [iceE_cons, iceE_nil, iceO_fz, ice_rsO, orF_ap, andF_ap, notF_ap, mapF_ap, map2F_ap, eVar_ap, List.getElem?_cons_succ, List.getElem?_cons_zero, n1, n2, unB_bl]
  cases r with
  | none => simp
  | some ps => simp [rsD, isListD]
theorem st_last {l m T B : Int} {P : Nat} (g : Good l m P T B) {r : Option (List (Int × Int))} (h : Few l m T B P r) (wd : Int) : ∃ found',
    sIf (peekT (mapF (mapF (eVar 9) notN) unB)) (sSeq (sIf (peekT (mapF (map2F (frF (methF 0 sp_Ratio_told [] (frF (callF sp_ratio_of [] (aCons (eVar 10) aNil))) aNil)) (frF (methF 0 sp_Ratio_told [] (frF (makeF 0 fm_Ratio [] (aCons (eVar 11) (aCons (eVar 12) aNil)))) aNil)) neD) unB)) (sRet (fzF (eC (.bl false)))) sNext)
      (sSeq (sExpr (eAppend 10 (fzF (mapF (aCons (eC (.int 6)) (aCons (eC (.int 6)) aNil)) gTup'))))
      (sIf (peekT (mapF (map2F (frF (callF sp_fewest [] (aCons (frF (makeF 0 fm_Ratio [] (aCons (eVar 11) (aCons (eVar 12) aNil)))) (aCons (eVar 6) (aCons (eVar 8) (aCons (eVar 5) aNil)))))) (eVar 9) neD) unB)) (sRet (fzF (eC (.bl false)))) sNext))) sNext (lE S none (iO k) (iO cell) (iO one) (iO P) (iO l) (iO wd) (iO m) (some (.fz (rsD r))) (some (rsO r)) (iO T) (iO B)) =
    some (.nx (lE S none (iO k) (iO cell) (iO one) (iO P) (iO l) (iO wd) (iO m) (some (.fz (rsD r))) found' (iO T) (iO B))) := by
  have n2 := isN_rsD r
  obtain ⟨h1, h2⟩ := few_call g h
  have n1 := neD_same (pn_rsD r)
  have hr0 : ∀ ps, r = some ps → sp_ratio_of [.lst (ps.map pD)] = some (rO T B) := fun ps e => few_ratio g.lm g.tb (by rw [← e]; exact h)
  have td := told_ok (nT T B) (nB T B)
  generalize sp_fewest = sf at h2 ⊢
  generalize fm_Ratio = fm at h1 ⊢
  generalize sp_ratio_of = sr at hr0 ⊢
  generalize sp_Ratio_told = st at td ⊢
  have hice : iceE (lE S none (iO k) (iO cell) (iO one) (iO P) (iO l) (iO wd) (iO m) (some (.fz (rsD r))) (some (rsO r)) (iO T) (iO B)) = lE S none (iO k) (iO cell) (iO one) (iO P) (iO l) (iO wd) (iO m) (some (.fz (rsD r))) (some (.fz (rsD r))) (iO T) (iO B) := by simp only [iceE_cons, iceE_nil, iceO_fz, iceO_none, ice_rsO]
  cases r with
  | none =>
    refine ⟨some (rsO none), sIf_f (peekT_eq (ρ1 := lE S none (iO k) (iO cell) (iO one) (iO P) (iO l) (iO wd) (iO m) (some (.fz (rsD none))) (some (.fz (rsD none))) (iO T) (iO B)) ?_)⟩
    rw [hice]
    exact mapF_eq (mapF_eq (eVar_fz rfl) n2) rfl
  | some ps =>
    have hr := hr0 ps rfl
    have n3 : neD (.tup [.int (nT T B), .int (nB T B)]) (.tup [.int (nT T B), .int (nB T B)]) = some (.bl false) := neD_same rfl
    have hl : (ps.map fun q => O.fz (pD q)).length < sizeLine := by
      rcases h with ⟨z, _⟩ | ⟨n, c, _, q2, _, ⟨⟨d, hd, e, he, _, h4⟩, _⟩, h5⟩
      · cases z
      · cases h5
        subst h4
        have a1 := (g.lm.grp q2 d hd).1
        have := g.lm.P1
        rw [sizeLine_eq]
        simp only [List.length_map, List.length_zip]
        omega
    have hfr : frz (rO T B) = .ins 0 [.int (nT T B), .int (nB T B)] := frz_rO T B
    have td' : st (.ins 0 [.int (nT T B), .int (nB T B)] :: ([] ++ [])) = some (.fz (.tup [.int (nT T B), .int (nB T B)])) := td
    refine ⟨some (.lst none ((ps.map fun q => .fz (pD q)) ++ [.fz (.tup [.int 6, .int 6])])), ?_⟩
    rw [sIf_t (peekT_eq (b := true) (ρ1 := lE S none (iO k) (iO cell) (iO one) (iO P) (iO l) (iO wd) (iO m) (some (.fz (rsD (some ps)))) (some (.fz (rsD (some ps)))) (iO T) (iO B)) (by rw [hice]; exact mapF_eq (mapF_eq (eVar_fz rfl) n2) rfl))]
    rw [sSeq_eq]
    have mkr : ∀ ρ : Env, ρ[11]? = some (iO T) → ρ[12]? = some (iO B) → frF (makeF 0 fm [] (aCons (eVar 11) (aCons (eVar 12) aNil))) ρ = some (.ins 0 [.int (nT T B), .int (nB T B)], ρ) := fun ρ q1 q2 => by
      have := frF_eq (makeF_eq (C := 0) (fm := fm) (dd := []) (aCons_eq (eVar_fz q1) (aCons_eq (eVar_fz q2) aNil_eq)) h1)
      rwa [hfr] at this
    have t1 : mapF (map2F (frF (methF 0 st [] (frF (callF sr [] (aCons (eVar 10) aNil))) aNil)) (frF (methF 0 st [] (frF (makeF 0 fm [] (aCons (eVar 11) (aCons (eVar 12) aNil)))) aNil)) neD) unB (lE S none (iO k) (iO cell) (iO one) (iO P) (iO l) (iO wd) (iO m) (some (.fz (rsD (some ps)))) (some (.fz (rsD (some ps)))) (iO T) (iO B)) = some (false, lE S none (iO k) (iO cell) (iO one) (iO P) (iO l) (iO wd) (iO m) (some (.fz (rsD (some ps)))) (some (.fz (rsD (some ps)))) (iO T) (iO B)) := by
      have c1 := frF_eq (callF_eq (sp := sr) (dd := []) (ρ := lE S none (iO k) (iO cell) (iO one) (iO P) (iO l) (iO wd) (iO m) (some (.fz (rsD (some ps)))) (some (.fz (rsD (some ps)))) (iO T) (iO B)) (aCons_eq (eVar_fz (i := 10) (d := rsD (some ps)) rfl) aNil_eq) hr)
      rw [hfr] at c1
      exact mapF_eq (map2F_eq (frF_eq (methF_eq c1 aNil_eq td')) (frF_eq (methF_eq (mkr _ rfl rfl) aNil_eq td')) n3) rfl
    rw [sIf_f (peekT_eq (b := false) (by rw [hice]; exact t1)), sNext_ap, seqO_nx, sSeq_eq]
    have gt : gTup' [.int 6, .int 6] = some (.tup [.int 6, .int 6]) := gTup_small (by decide)
    have s2 : sExpr (eAppend 10 (fzF (mapF (aCons (eC (.int 6)) (aCons (eC (.int 6)) aNil)) gTup'))) (lE S none (iO k) (iO cell) (iO one) (iO P) (iO l) (iO wd) (iO m) (some (.fz (rsD (some ps)))) (some (rsO (some ps))) (iO T) (iO B)) = some (.nx (lE S none (iO k) (iO cell) (iO one) (iO P) (iO l) (iO wd) (iO m) (some (.fz (rsD (some ps)))) (some (.lst none ((ps.map fun q => .fz (pD q)) ++ [.fz (.tup [.int 6, .int 6])]))) (iO T) (iO B))) := by
      have e1 : rsO (some ps) = .lst none (ps.map fun q => .fz (pD q)) := rfl
      rw [e1]
      simp only [sExpr_ap, eAppend_ap, fzF_ap, mapF_ap, aCons_ap, aNil_ap, eC_ap, gt, List.getElem?_cons_succ, List.getElem?_cons_zero, hl, if_true, List.set_cons_succ, List.set_cons_zero]
    rw [s2, seqO_nx]
    have hice2 : iceE (lE S none (iO k) (iO cell) (iO one) (iO P) (iO l) (iO wd) (iO m) (some (.fz (rsD (some ps)))) (some (.lst none ((ps.map fun q => .fz (pD q)) ++ [.fz (.tup [.int 6, .int 6])]))) (iO T) (iO B)) = lE S none (iO k) (iO cell) (iO one) (iO P) (iO l) (iO wd) (iO m) (some (.fz (rsD (some ps)))) (some (.fz (.lst (frzL ((ps.map fun q => .fz (pD q)) ++ [.fz (.tup [.int 6, .int 6])]))))) (iO T) (iO B) := rfl
    have t2 : mapF (map2F (frF (callF sf [] (aCons (frF (makeF 0 fm [] (aCons (eVar 11) (aCons (eVar 12) aNil)))) (aCons (eVar 6) (aCons (eVar 8) (aCons (eVar 5) aNil)))))) (eVar 9) neD) unB (lE S none (iO k) (iO cell) (iO one) (iO P) (iO l) (iO wd) (iO m) (some (.fz (rsD (some ps)))) (some (.fz (.lst (frzL ((ps.map fun q => .fz (pD q)) ++ [.fz (.tup [.int 6, .int 6])]))))) (iO T) (iO B)) = some (false, lE S none (iO k) (iO cell) (iO one) (iO P) (iO l) (iO wd) (iO m) (some (.fz (rsD (some ps)))) (some (.fz (.lst (frzL ((ps.map fun q => .fz (pD q)) ++ [.fz (.tup [.int 6, .int 6])]))))) (iO T) (iO B)) := by
      rw [hfr] at h2
      have c1 := frF_eq (callF_eq (sp := sf) (dd := []) (ρ := lE S none (iO k) (iO cell) (iO one) (iO P) (iO l) (iO wd) (iO m) (some (.fz (rsD (some ps)))) (some (.fz (.lst (frzL ((ps.map fun q => .fz (pD q)) ++ [.fz (.tup [.int 6, .int 6])]))))) (iO T) (iO B)) (aCons_eq (mkr _ rfl rfl) (aCons_eq (eVar_fz (i := 6) (d := .int l) rfl) (aCons_eq (eVar_fz (i := 8) (d := .int m) rfl) (aCons_eq (eVar_fz (i := 5) (d := .int P) rfl) aNil_eq)))) h2)
      rw [frz_rsO] at c1
      exact mapF_eq (map2F_eq c1 (eVar_fz rfl) n1) rfl
    rw [sIf_f (peekT_eq (b := false) (by rw [hice2]; exact t2)), sNext_ap]
end
end T
namespace T
open PySem PySem.Spec PyProof.Rows L2
section
variable {S : D} {one : Int} {ρ : Env}
theorem mixE (h : ρ[4]? = some (iO one)) (j : Int) (hj : j.natAbs < 2 ^ 100) : frF (callF sp__law_mix [] (aCons (eVar 4) (aCons (eC (.int j)) aNil))) ρ = some (.int (mixF one j), ρ) := by
  have := frF_eq (callF_eq (sp := sp__law_mix) (dd := []) (aCons_eq (eVar_fz h) (aCons_eq (eC_eq (d := .int j)) aNil_eq)) (show sp__law_mix ([.int one, .int j] ++ []) = _ from mix_ok hj))
  exact this
theorem mixM (h : ρ[4]? = some (iO one)) (j n : Int) (hj : j.natAbs < 2 ^ 100) (hn : 0 < n) : map2F (frF (callF sp__law_mix [] (aCons (eVar 4) (aCons (eC (.int j)) aNil)))) (eC (.int n)) modD ρ = some (.int (mixF one j % n), ρ) :=
  map2F_eq (mixE h j hj) eC_eq (fmod_pos hn)
theorem mixZ (h : ρ[4]? = some (iO one)) (j n : Int) (hj : j.natAbs < 2 ^ 100) (hn : 0 < n) : mapF (map2F (map2F (frF (callF sp__law_mix [] (aCons (eVar 4) (aCons (eC (.int j)) aNil)))) (eC (.int n)) modD) (eC (.int 0)) eqD) unB ρ = some (decide (mixF one j % n = 0), ρ) :=
  mapF_eq (map2F_eq (mixM h j n hj hn) eC_eq eqD_int) rfl
theorem lst_eq {f : F (List D)} {ds : List D} (h : f ρ = some (ds, ρ)) (hl : ds.length ≤ 1000) : frF (mapF f gLst') ρ = some (.lst ds, ρ) := by
  have := frF_eq (mapF_eq h (gLst_small hl))
  simpa [frz] using this
theorem tup_eq {f : F (List D)} {ds : List D} (h : f ρ = some (ds, ρ)) (hl : ds.length ≤ 1000) : mapF f gTup' ρ = some (.tup ds, ρ) := mapF_eq h (gTup_small hl)
theorem ix2 {a b v : Int} (h : 0 ≤ v ∧ v < 2) : ∃ w, ixD (.lst [.int a, .int b]) (.int v) = some (.int w) ∧ (w = a ∨ w = b) := by
  have : v = 0 ∨ v = 1 := by omega
  rcases this with rfl | rfl
  · exact ⟨a, rfl, .inl rfl⟩
  · exact ⟨b, rfl, .inr rfl⟩
theorem ix3 {a b c v : Int} (h : 0 ≤ v ∧ v < 3) : ∃ w, ixD (.lst [.int a, .int b, .int c]) (.int v) = some (.int w) ∧ (w = a ∨ w = b ∨ w = c) := by
  have : v = 0 ∨ v = 1 ∨ v = 2 := by omega
  rcases this with rfl | rfl | rfl
  · exact ⟨a, rfl, .inl rfl⟩
  · exact ⟨b, rfl, .inr (.inl rfl)⟩
  · exact ⟨c, rfl, .inr (.inr rfl)⟩
theorem ix3t {a b c : Int × Int} {v : Int} (h : 0 ≤ v ∧ v < 3) : ∃ w, ixD (.lst [pD a, pD b, pD c]) (.int v) = some (pD w) ∧ (w = a ∨ w = b ∨ w = c) := by
  have : v = 0 ∨ v = 1 ∨ v = 2 := by omega
  rcases this with rfl | rfl | rfl
  · exact ⟨a, rfl, .inl rfl⟩
  · exact ⟨b, rfl, .inr (.inl rfl)⟩
  · exact ⟨c, rfl, .inr (.inr rfl)⟩
variable {k cell : Int}
theorem st_one (hk : k.natAbs < 2 ^ 100) (l4 l5 l6 l7 l8 l9 l10 l11 l12 : Option O) : sAsg (callF sp__law_mix [] (aCons (eVar 3) (aCons (eVar 2) aNil))) (gNm 4) (lE S none (iO k) (iO cell) l4 l5 l6 l7 l8 l9 l10 l11 l12) = some (.nx (lE S none (iO k) (iO cell) (iO (mixF cell k)) l5 l6 l7 l8 l9 l10 l11 l12)) :=
  sAsg_eq (callF_eq (aCons_eq (eVar_fz rfl) (aCons_eq (eVar_fz rfl) aNil_eq)) (show sp__law_mix ([.int cell, .int k] ++ []) = _ from mix_ok hk)) rfl
theorem st_pairs (l5 l6 l7 l8 l9 l10 l11 l12 : Option O) : ∃ P : Nat, 1 ≤ P ∧ P ≤ 3 ∧ sAsg (fzF (map2F (eC (.int 1)) (map2F (frF (callF sp__law_mix [] (aCons (eVar 4) (aCons (eC (.int 1)) aNil)))) (eC (.int 3)) modD) addD)) (gNm 5) (lE S none (iO k) (iO cell) (iO one) l5 l6 l7 l8 l9 l10 l11 l12) = some (.nx (lE S none (iO k) (iO cell) (iO one) (iO P) l6 l7 l8 l9 l10 l11 l12)) := by
  have b := mod_bd (mixF one 1) (n := 3) (by decide)
  generalize hP : (1 + mixF one 1 % 3).toNat = P
  have e : 1 + mixF one 1 % 3 = (P : Int) := by omega
  refine ⟨P, by omega, by omega, sAsg_eq (o := .fz (.int (1 + mixF one 1 % 3))) (fzF_eq (map2F_eq eC_eq (mixM rfl 1 3 (by decide) (by decide)) addD_int)) ?_⟩
  rw [e]
  rfl
theorem st_least (l5 l6 l7 l8 l9 l10 l11 l12 : Option O) : ∃ l : Int, 6 ≤ l ∧ l ≤ 55 ∧ sAsg (fzF (map2F (eC (.int 6)) (map2F (frF (callF sp__law_mix [] (aCons (eVar 4) (aCons (eC (.int 2)) aNil)))) (map2F (frF (mapF (aCons (eC (.int 4)) (aCons (eC (.int 50)) aNil)) gLst')) (map2F (frF (callF sp__law_mix [] (aCons (eVar 4) (aCons (eC (.int 5)) aNil)))) (eC (.int 2)) modD) ixD) modD) addD)) (gNm 6) (lE S none (iO k) (iO cell) (iO one) l5 l6 l7 l8 l9 l10 l11 l12) = some (.nx (lE S none (iO k) (iO cell) (iO one) l5 (iO l) l7 l8 l9 l10 l11 l12)) := by
  obtain ⟨w, h1, h2⟩ := ix2 (a := 4) (b := 50) (mod_bd (mixF one 5) (n := 2) (by decide))
  have w0 : 0 < w := by omega
  have b := mod_bd (mixF one 2) w0
  exact ⟨6 + mixF one 2 % w, by omega, by omega, sAsg_eq (fzF_eq (map2F_eq eC_eq (map2F_eq (mixE rfl 2 (by decide)) (map2F_eq (lst_eq (aCons_eq eC_eq (aCons_eq eC_eq aNil_eq)) (by decide)) (mixM rfl 5 2 (by decide) (by decide)) h1) (fmod_pos w0)) addD_int)) rfl⟩
theorem st_wide {P : Nat} (h1 : 1 ≤ P) (h3 : P ≤ 3) (l6 l7 l8 l9 l10 l11 l12 : Option O) : ∃ wd : Int, 1 ≤ wd ∧ wd ≤ 9 ∧ sAsg (fzF (map2F (frF (mapF (aCons (eC (.int 9)) (aCons (eC (.int 9)) (aCons (map2F (frF (mapF (aCons (eC (.int 4)) (aCons (eC (.int 7)) aNil)) gLst')) (mapF (aCons (map2F (map2F (frF (callF sp__law_mix [] (aCons (eVar 4) (aCons (eC (.int 9)) aNil)))) (eC (.int 8)) modD) (eC (.int 0)) eqD) aNil) intD) ixD) aNil))) gLst')) (map2F (eVar 5) (eC (.int 1)) subD) ixD)) (gNm 7) (lE S none (iO k) (iO cell) (iO one) (iO P) l6 l7 l8 l9 l10 l11 l12) = some (.nx (lE S none (iO k) (iO cell) (iO one) (iO P) l6 (iO wd) l8 l9 l10 l11 l12)) := by
  obtain ⟨u, q1, q2⟩ := ix2 (a := 4) (b := 7) (v := if decide (mixF one 9 % 8 = 0) = true then 1 else 0) (by split <;> omega)
  obtain ⟨wd, q3, q4⟩ := ix3 (a := 9) (b := 9) (c := u) (v := (P : Int) - 1) (by omega)
  exact ⟨wd, by omega, by omega, sAsg_eq (fzF_eq (map2F_eq (lst_eq (aCons_eq eC_eq (aCons_eq eC_eq (aCons_eq (map2F_eq (lst_eq (aCons_eq eC_eq (aCons_eq eC_eq aNil_eq)) (by decide)) (mapF_eq (aCons_eq (map2F_eq (mixM rfl 9 8 (by decide) (by decide)) eC_eq eqD_int) aNil_eq) (show intD _ = _ from rfl)) q1) aNil_eq))) (by show 3 ≤ 1000; decide)) (map2F_eq (eVar_fz rfl) eC_eq subD_int) q3)) rfl⟩
theorem st_most {l wd : Int} (hl : 6 ≤ l ∧ l ≤ 55) (hw : 1 ≤ wd ∧ wd ≤ 9) (l5 l8 l9 l10 l11 l12 : Option O) : ∃ m : Int, l ≤ m ∧ m - l ≤ 8 ∧ m ≤ 60 ∧ sAsg (fzF (mapF (aCons (eC (.int 60)) (aCons (map2F (eVar 6) (map2F (frF (callF sp__law_mix [] (aCons (eVar 4) (aCons (eC (.int 3)) aNil)))) (eVar 7) modD) addD) aNil)) min2D)) (gNm 8) (lE S none (iO k) (iO cell) (iO one) l5 (iO l) (iO wd) l8 l9 l10 l11 l12) = some (.nx (lE S none (iO k) (iO cell) (iO one) l5 (iO l) (iO wd) (iO m) l9 l10 l11 l12)) := by
  have w0 : 0 < wd := by omega
  have b := mod_bd (mixF one 3) w0
  refine ⟨if l + mixF one 3 % wd < 60 then l + mixF one 3 % wd else 60, by split <;> omega, by split <;> omega, by split <;> omega, sAsg_eq (fzF_eq (mapF_eq (aCons_eq eC_eq (aCons_eq (map2F_eq (eVar_fz rfl) (map2F_eq (mixE rfl 3 (by decide)) (eVar_fz rfl) (fmod_pos w0)) addD_int) aNil_eq)) (show min2D _ = _ from rfl))) rfl⟩
theorem st_tb {l m : Int} {P : Nat} (hl : 6 ≤ l ∧ l ≤ 55) (hm : l ≤ m ∧ m ≤ 60) (hP : 1 ≤ P ∧ P ≤ 3) (l7 l9 l10 l11 l12 : Option O) : ∃ T B, TB T B ∧ sAsg (callF sp__law_ratio [] (aCons (frF (callF sp__law_mix [] (aCons (eVar 4) (aCons (eC (.int 4)) aNil)))) (aCons (eVar 6) (aCons (eVar 8) (aCons (eVar 5) aNil))))) (gTp 2 (gsCons (gNm 11) (gsCons (gNm 12) gsNil))) (lE S none (iO k) (iO cell) (iO one) (iO P) (iO l) l7 (iO m) l9 l10 l11 l12) = some (.nx (lE S none (iO k) (iO cell) (iO one) (iO P) (iO l) l7 (iO m) l9 l10 (iO T) (iO B))) := by
  obtain ⟨T, B, q1, q2⟩ := law_ratio_ok (cell := mixF one 4) (l := l) (m := m) (P := P) (by omega) hm.1 (by omega) hP.1 (by omega)
  exact ⟨T, B, q2, sAsg_eq (callF_eq (aCons_eq (mixE rfl 4 (by decide)) (aCons_eq (eVar_fz rfl) (aCons_eq (eVar_fz rfl) (aCons_eq (eVar_fz rfl) aNil_eq)))) (show sp__law_ratio ([.int (mixF one 4), .int l, .int m, .int (P : Int)] ++ []) = _ from q1)) rfl⟩
theorem tb_small {T B : Int} (h1 : 1 ≤ T ∧ T ≤ 100000) (h2 : 1 ≤ B ∧ B ≤ 100000) : TB T B := by
  have h : (100000 : Nat) ≤ 2 ^ 200 := by
    have : (100000 : Nat) ≤ 2 ^ 20 := by decide
    exact Nat.le_trans this (Nat.pow_le_pow_right (by decide) (by decide))
  exact ⟨by omega, by omega, by omega, by omega⟩
theorem st_other {l m T B : Int} {P : Nat} (g : Good l m P T B) (l7 l9 l10 : Option O) : ∃ l' m' T' B', ∃ P' : Nat, Good l' m' P' T' B' ∧
    sIf (peekT (mapF (map2F (map2F (frF (callF sp__law_mix [] (aCons (eVar 4) (aCons (eC (.int 6)) aNil)))) (eC (.int 4)) modD) (eC (.int 0)) eqD) unB)) (sSeq (sAsg (fzF (mapF (aCons (eC (.int 2)) (aCons (eC (.int 6)) (aCons (eC (.int 14)) aNil))) gTup')) (gTp 3 (gsCons (gNm 5) (gsCons (gNm 6) (gsCons (gNm 8) gsNil)))))
      (sSeq (sAsg (fzF (map2F (frF (mapF (aCons (eC (.int 143)) (aCons (eC (.int 121)) (aCons (eC (.int 169)) aNil))) gLst')) (map2F (frF (callF sp__law_mix [] (aCons (eVar 4) (aCons (eC (.int 7)) aNil)))) (eC (.int 3)) modD) ixD)) (gNm 11))
      (sSeq (sAsg (fzF (map2F (frF (mapF (aCons (eC (.int 72)) (aCons (eC (.int 84)) aNil)) gLst')) (map2F (frF (callF sp__law_mix [] (aCons (eVar 4) (aCons (eC (.int 8)) aNil)))) (eC (.int 2)) modD) ixD)) (gNm 12))
      (sIf (peekT (mapF (map2F (map2F (frF (callF sp__law_mix [] (aCons (eVar 4) (aCons (eC (.int 10)) aNil)))) (eC (.int 3)) modD) (eC (.int 0)) eqD) unB)) (sSeq (sAsg (fzF (eC (.int 3))) (gNm 5))
      (sAsg (fzF (map2F (frF (mapF (aCons (mapF (aCons (eC (.int 1859)) (aCons (eC (.int 1008)) aNil)) gTup') (aCons (mapF (aCons (eC (.int 1008)) (aCons (eC (.int 1859)) aNil)) gTup') (aCons (mapF (aCons (eC (.int 1573)) (aCons (eC (.int 1008)) aNil)) gTup') aNil))) gLst')) (map2F (frF (callF sp__law_mix [] (aCons (eVar 4) (aCons (eC (.int 7)) aNil)))) (eC (.int 3)) modD) ixD)) (gTp 2 (gsCons (gNm 11) (gsCons (gNm 12) gsNil))))) sNext)))) sNext (lE S none (iO k) (iO cell) (iO one) (iO P) (iO l) l7 (iO m) l9 l10 (iO T) (iO B)) =
    some (.nx (lE S none (iO k) (iO cell) (iO one) (iO P') (iO l') l7 (iO m') l9 l10 (iO T') (iO B'))) := by
  by_cases h6 : mixF one 6 % 4 = 0
  · obtain ⟨w1, a1, a2⟩ := ix3 (a := 143) (b := 121) (c := 169) (mod_bd (mixF one 7) (n := 3) (by decide))
    obtain ⟨w2, b1, b2⟩ := ix2 (a := 72) (b := 84) (mod_bd (mixF one 8) (n := 2) (by decide))
    obtain ⟨w3, c1, c2⟩ := ix3t (a := (1859, 1008)) (b := (1008, 1859)) (c := (1573, 1008)) (mod_bd (mixF one 7) (n := 3) (by decide))
    have z := mixZ (one := one) (ρ := iceE (lE S none (iO k) (iO cell) (iO one) (iO P) (iO l) l7 (iO m) l9 l10 (iO T) (iO B))) rfl 6 4 (by decide) (by decide)
    rw [show decide (mixF one 6 % 4 = 0) = true from decide_eq_true h6] at z
    rw [sIf_t (peekT_eq z), sSeq_eq]
    have s1 : sAsg (fzF (mapF (aCons (eC (.int 2)) (aCons (eC (.int 6)) (aCons (eC (.int 14)) aNil))) gTup')) (gTp 3 (gsCons (gNm 5) (gsCons (gNm 6) (gsCons (gNm 8) gsNil)))) (lE S none (iO k) (iO cell) (iO one) (iO P) (iO l) l7 (iO m) l9 l10 (iO T) (iO B)) = some (.nx (lE S none (iO k) (iO cell) (iO one) (iO 2) (iO 6) l7 (iO 14) l9 l10 (iO T) (iO B))) :=
      sAsg_eq (fzF_eq (tup_eq (aCons_eq eC_eq (aCons_eq eC_eq (aCons_eq eC_eq aNil_eq))) (by decide))) rfl
    have s2 : sAsg (fzF (map2F (frF (mapF (aCons (eC (.int 143)) (aCons (eC (.int 121)) (aCons (eC (.int 169)) aNil))) gLst')) (map2F (frF (callF sp__law_mix [] (aCons (eVar 4) (aCons (eC (.int 7)) aNil)))) (eC (.int 3)) modD) ixD)) (gNm 11) (lE S none (iO k) (iO cell) (iO one) (iO 2) (iO 6) l7 (iO 14) l9 l10 (iO T) (iO B)) = some (.nx (lE S none (iO k) (iO cell) (iO one) (iO 2) (iO 6) l7 (iO 14) l9 l10 (iO w1) (iO B))) :=
      sAsg_eq (fzF_eq (map2F_eq (lst_eq (aCons_eq eC_eq (aCons_eq eC_eq (aCons_eq eC_eq aNil_eq))) (by decide)) (mixM rfl 7 3 (by decide) (by decide)) a1)) rfl
    have s3 : sAsg (fzF (map2F (frF (mapF (aCons (eC (.int 72)) (aCons (eC (.int 84)) aNil)) gLst')) (map2F (frF (callF sp__law_mix [] (aCons (eVar 4) (aCons (eC (.int 8)) aNil)))) (eC (.int 2)) modD) ixD)) (gNm 12) (lE S none (iO k) (iO cell) (iO one) (iO 2) (iO 6) l7 (iO 14) l9 l10 (iO w1) (iO B)) = some (.nx (lE S none (iO k) (iO cell) (iO one) (iO 2) (iO 6) l7 (iO 14) l9 l10 (iO w1) (iO w2))) :=
      sAsg_eq (fzF_eq (map2F_eq (lst_eq (aCons_eq eC_eq (aCons_eq eC_eq aNil_eq)) (by decide)) (mixM rfl 8 2 (by decide) (by decide)) b1)) rfl
    rw [s1, seqO_nx, sSeq_eq, s2, seqO_nx, sSeq_eq, s3, seqO_nx]
    have z2 := mixZ (one := one) (ρ := iceE (lE S none (iO k) (iO cell) (iO one) (iO 2) (iO 6) l7 (iO 14) l9 l10 (iO w1) (iO w2))) rfl 10 3 (by decide) (by decide)
    by_cases h10 : mixF one 10 % 3 = 0
    · rw [show decide (mixF one 10 % 3 = 0) = true from decide_eq_true h10] at z2
      rw [sIf_t (peekT_eq (b := true) z2), sSeq_eq]
      have s4 : sAsg (fzF (eC (.int 3))) (gNm 5) (lE S none (iO k) (iO cell) (iO one) (iO 2) (iO 6) l7 (iO 14) l9 l10 (iO w1) (iO w2)) = some (.nx (lE S none (iO k) (iO cell) (iO one) (iO 3) (iO 6) l7 (iO 14) l9 l10 (iO w1) (iO w2))) := sAsg_eq (fzF_eq eC_eq) rfl
      have s5 : sAsg (fzF (map2F (frF (mapF (aCons (mapF (aCons (eC (.int 1859)) (aCons (eC (.int 1008)) aNil)) gTup') (aCons (mapF (aCons (eC (.int 1008)) (aCons (eC (.int 1859)) aNil)) gTup') (aCons (mapF (aCons (eC (.int 1573)) (aCons (eC (.int 1008)) aNil)) gTup') aNil))) gLst')) (map2F (frF (callF sp__law_mix [] (aCons (eVar 4) (aCons (eC (.int 7)) aNil)))) (eC (.int 3)) modD) ixD)) (gTp 2 (gsCons (gNm 11) (gsCons (gNm 12) gsNil))) (lE S none (iO k) (iO cell) (iO one) (iO 3) (iO 6) l7 (iO 14) l9 l10 (iO w1) (iO w2)) = some (.nx (lE S none (iO k) (iO cell) (iO one) (iO 3) (iO 6) l7 (iO 14) l9 l10 (iO w3.1) (iO w3.2))) :=
        sAsg_eq (fzF_eq (map2F_eq (lst_eq (aCons_eq (tup_eq (aCons_eq eC_eq (aCons_eq eC_eq aNil_eq)) (by decide)) (aCons_eq (tup_eq (aCons_eq eC_eq (aCons_eq eC_eq aNil_eq)) (by decide)) (aCons_eq (tup_eq (aCons_eq eC_eq (aCons_eq eC_eq aNil_eq)) (by decide)) aNil_eq))) (by decide)) (mixM rfl 7 3 (by decide) (by decide)) c1)) rfl
      rw [s4, seqO_nx, s5]
      exact ⟨6, 14, w3.1, w3.2, 3, good_of (by decide) (by decide) (by decide) (by decide) (by decide) (tb_small (by rcases c2 with rfl | rfl | rfl <;> decide) (by rcases c2 with rfl | rfl | rfl <;> decide)), rfl⟩
    · have z3 : decide (mixF one 10 % 3 = 0) = false := decide_eq_false h10
      rw [z3] at z2
      rw [sIf_f (peekT_eq (b := false) z2), sNext_ap]
      exact ⟨6, 14, w1, w2, 2, good_of (by decide) (by decide) (by decide) (by decide) (by decide) (tb_small (by omega) (by omega)), rfl⟩
  · have z := mixZ (one := one) (ρ := iceE (lE S none (iO k) (iO cell) (iO one) (iO P) (iO l) l7 (iO m) l9 l10 (iO T) (iO B))) rfl 6 4 (by decide) (by decide)
    rw [show decide (mixF one 6 % 4 = 0) = false from decide_eq_false h6] at z
    rw [sIf_f (peekT_eq (b := false) z), sNext_ap]
    exact ⟨l, m, T, B, P, g, rfl⟩
end
end T
namespace T
open PySem PySem.Spec PyProof.Rows L2
theorem cell_ok {S : D} {k cell : Int} (hk : 0 ≤ k ∧ k ≤ 1000) (l4 l5 l6 l7 l8 l9 l10 l11 l12 : Option O) : ∃ m4 m5 m6 m7 m8 m9 m10 m11 m12,
    b1_law sp_Ratio_told sp_ratio_of sp_fewest fm_Ratio sp__law_mix sp__law_best sp__law_ratio (lE S none (iO k) (iO cell) l4 l5 l6 l7 l8 l9 l10 l11 l12) = some (.nx (lE S none (iO k) (iO cell) m4 m5 m6 m7 m8 m9 m10 m11 m12)) := by
  have s1 := st_one (S := S) (k := k) (cell := cell) (by omega) l4 l5 l6 l7 l8 l9 l10 l11 l12
  obtain ⟨P, p1, p3, s2⟩ := st_pairs (S := S) (one := mixF cell k) (k := k) (cell := cell) l5 l6 l7 l8 l9 l10 l11 l12
  obtain ⟨l, q1, q2, s3⟩ := st_least (S := S) (one := mixF cell k) (k := k) (cell := cell) (iO P) l6 l7 l8 l9 l10 l11 l12
  obtain ⟨wd, w1, w2, s4⟩ := st_wide (S := S) (one := mixF cell k) (k := k) (cell := cell) p1 p3 (iO l) l7 l8 l9 l10 l11 l12
  obtain ⟨m, e1, e2, e3, s5⟩ := st_most (S := S) (one := mixF cell k) (k := k) (cell := cell) ⟨q1, q2⟩ ⟨w1, w2⟩ (iO P) l8 l9 l10 l11 l12
  obtain ⟨T, B, tb, s6⟩ := st_tb (S := S) (one := mixF cell k) (k := k) (cell := cell) (P := P) ⟨q1, q2⟩ ⟨e1, e3⟩ ⟨p1, p3⟩ (iO wd) l9 l10 l11 l12
  have g0 : Good l m P T B := good_of (by omega) e1 e2 (by omega) p3 tb
  obtain ⟨l', m', T', B', P', g, s7⟩ := st_other (S := S) (one := mixF cell k) (k := k) (cell := cell) g0 (iO wd) l9 l10
  obtain ⟨r, few, s8⟩ := st_due (S := S) (one := mixF cell k) (k := k) (cell := cell) g (iO wd) l9 l10
  have s9 := st_found (S := S) (one := mixF cell k) (k := k) (cell := cell) g few (iO wd) (some (.fz (rsD r))) l10
  have s10 := st_test (S := S) (one := mixF cell k) (k := k) (cell := cell) (l := l') (m := m') (T := T') (B := B') (P := P') r (iO wd)
  obtain ⟨fo, s11⟩ := st_last (S := S) (one := mixF cell k) (k := k) (cell := cell) g few wd
  refine ⟨iO (mixF cell k), iO P', iO l', iO wd, iO m', some (.fz (rsD r)), fo, iO T', iO B', ?_⟩
  unfold b1_law
  rw [sSeq_eq, s1, seqO_nx, sSeq_eq, s2, seqO_nx, sSeq_eq, s3, seqO_nx, sSeq_eq, s4, seqO_nx, sSeq_eq, s5, seqO_nx, sSeq_eq, s6, seqO_nx, sSeq_eq, s7, seqO_nx, sSeq_eq, s8, seqO_nx, sSeq_eq, s9, seqO_nx, sSeq_eq, s10, seqO_nx]
  exact s11
theorem cells_ok {S : D} : ∀ (qs : List (Int × Int)) (l2 l3 l4 l5 l6 l7 l8 l9 l10 l11 l12 : Option O), (∀ q ∈ qs, 0 ≤ q.1 ∧ q.1 ≤ 1000) → ∃ m2 m3 m4 m5 m6 m7 m8 m9 m10 m11 m12,
    loop (gTp 2 (gsCons (gNm 2) (gsCons (gNm 3) gsNil))) (b1_law sp_Ratio_told sp_ratio_of sp_fewest fm_Ratio sp__law_mix sp__law_best sp__law_ratio) (qs.map pD) (lE S none l2 l3 l4 l5 l6 l7 l8 l9 l10 l11 l12) = some (.nx (lE S none m2 m3 m4 m5 m6 m7 m8 m9 m10 m11 m12))
  | [], l2, l3, l4, l5, l6, l7, l8, l9, l10, l11, l12, _ => ⟨l2, l3, l4, l5, l6, l7, l8, l9, l10, l11, l12, by rw [List.map_nil, loop_nil]⟩
  | (k, c) :: qs, l2, l3, l4, l5, l6, l7, l8, l9, l10, l11, l12, h => by
    obtain ⟨m4, m5, m6, m7, m8, m9, m10, m11, m12, s⟩ := cell_ok (S := S) (k := k) (cell := c) (h (k, c) (by simp)) l4 l5 l6 l7 l8 l9 l10 l11 l12
    obtain ⟨n2, n3, n4, n5, n6, n7, n8, n9, n10, n11, n12, ih⟩ := cells_ok (S := S) qs (iO k) (iO c) m4 m5 m6 m7 m8 m9 m10 m11 m12 (fun q hq => h q (List.mem_cons_of_mem _ hq))
    refine ⟨n2, n3, n4, n5, n6, n7, n8, n9, n10, n11, n12, ?_⟩
    have g1 : gTp 2 (gsCons (gNm 2) (gsCons (gNm 3) gsNil)) (.fz (pD (k, c))) (lE S none l2 l3 l4 l5 l6 l7 l8 l9 l10 l11 l12) = some (lE S none (iO k) (iO c) l4 l5 l6 l7 l8 l9 l10 l11 l12) := rfl
    rw [List.map_cons, loop_nx g1 s, ih]
/-! ### behind the cells -/
theorem great_none {w : Int} (hw : 57 ≤ w ∧ w ≤ 3000000000) {r : Option (List (Int × Int))} (h : Few 6 12 (10 ^ 30 + w) (10 ^ 30) 2 r) : r = none := by
  rcases h with ⟨h1, _⟩ | ⟨n, c, h1, h2, _, ⟨⟨d, hd, e, he, h3, _⟩, _⟩, _⟩
  · exact h1
  · exfalso
    obtain ⟨ld, bd, _⟩ := grp_in hd
    obtain ⟨le, be, _⟩ := grp_in he
    have b1 := prd_bound _ d rfl fun x hx => by have := bd x hx; omega
    have b2 := prd_bound _ e rfl fun x hx => by have := be x hx; omega
    have pw : ∀ k : Nat, k ≤ 2 → (1000 : Int) ^ k ≤ 1000000 := fun k hk => by
      have : k = 0 ∨ k = 1 ∨ k = 2 := by omega
      rcases this with rfl | rfl | rfl <;> decide
    have c1 := pw d.length (by omega)
    have c2 := pw e.length (by omega)
    have hE : prd e ≤ 1000000 := by omega
    have hE1 : 1 ≤ prd e := b2.1
    have x1 : 1 * 57 ≤ prd e * w := Int.mul_le_mul hE1 hw.1 (by decide) (by omega)
    have x2 : prd e * w ≤ 1000000 * 3000000000 := Int.mul_le_mul hE hw.2 (by omega) (by decide)
    rw [Int.mul_add] at h3
    generalize prd e * w = x at x1 x2 h3
    generalize prd d = p at h3
    generalize prd e = q at h3
    omega
theorem lm612 : LM 6 12 2 := ⟨by decide, by decide, by decide, by decide, fun k hk => by
  have : k = 0 ∨ k = 1 ∨ k = 2 := by omega
  rcases this with rfl | rfl | rfl <;> decide⟩
theorem n84 : nT 84 54 = 14 ∧ nB 84 54 = 9 := by decide
theorem n11 : nT 1 1 = 1 ∧ nB 1 1 = 1 := by decide
theorem told_of {ρ : Env} {f : F O} {t b : Int} (h : f ρ = some (rO t b, ρ)) : frF (methF 0 sp_Ratio_told [] (frF f) aNil) ρ = some (.tup [.int (nT t b), .int (nB t b)], ρ) := by
  have h1 := frF_eq h
  rw [frz_rO] at h1
  have td : sp_Ratio_told (.ins 0 [.int (nT t b), .int (nB t b)] :: ([] ++ [])) = some (.fz (.tup [.int (nT t b), .int (nB t b)])) := told_ok (nT t b) (nB t b)
  exact frF_eq (methF_eq h1 aNil_eq td)
theorem main61 (ns : List Int) (hn : ns.length ≤ 63) : sp_law [.scr (ns.map .int)] = some (.fz (.bl true)) := by
  generalize hS : D.scr (ns.map .int) = S
  -- the loop over cells
  have hcut : cutD S none (some 4) = some (.lst (cutA (ns.map D.int) none (some 4))) := by rw [← hS]; rfl
  have hcm : cutA (ns.map D.int) none (some 4) = (cutA ns none (some 4)).map .int := by
    unfold cutA
    rw [List.length_map, List.map_take, List.map_drop]
  have hlen : (cutA ns none (some 4)).length ≤ 1000 := by
    unfold cutA
    simp only [List.length_take, List.length_drop]
    omega
  generalize hcs : cutA ns none (some 4) = cs at hcm hlen
  have hen : enumD [.lst (cs.map .int)] = some ((((List.range cs.length).map fun i => (0 : Int) + (i : Nat)).zip cs).map pD) := by
    have : rngL 0 cs.length = ((List.range cs.length).map fun i => (0 : Int) + (i : Nat)).map .int := by unfold rngL; rw [List.map_map]; rfl
    show some (pairs (rngL 0 (cs.map D.int).length) (cs.map D.int)) = _
    rw [List.length_map, this, pairs_zip]
  obtain ⟨m2, m3, m4, m5, m6, m7, m8, m9, m10, m11, m12, s1⟩ := cells_ok (S := S) (((List.range cs.length).map fun i => (0 : Int) + (i : Nat)).zip cs) none none none none none none none none none none none (fun q hq => by
    have := (List.of_mem_zip hq).1
    obtain ⟨i, hi, e⟩ := List.mem_map.mp this
    rw [List.mem_range] at hi
    omega)
  have i0 : eCut (eVar 0) pNo (pSome (eC (.int 4))) (lE S none none none none none none none none none none none none) = some (.lst (cs.map .int), lE S none none none none none none none none none none none none) := by
    have p1 : pSome (eC (.int 4)) (lE S none none none none none none none none none none none none) = some (some 4, lE S none none none none none none none none none none none none) := mapF_eq (a := D.int 4) eC_eq rfl
    rw [eCut_ap, bindF_ap, eVar_fz (i := 0) (d := S) rfl]
    dsimp only
    rw [bindF_ap, pNo_ap]
    dsimp only
    exact mapF_eq p1 (by rw [hcut, hcm])
  have i1 := mapF_eq (aCons_eq i0 aNil_eq) hen
  -- the great ratio
  have hml := mix_bd (ns.length : Int) 1
  have hmx := mix_ok (c := (ns.length : Int)) (k := 1) (by decide)
  have hlenD : lenD [S] = some (.int ns.length) := by rw [← hS]; show some (D.int ((ns.map D.int).length : Nat)) = _; rw [List.length_map]
  have hpow : powD (.int 10) (.int 30) = some (.int (10 ^ 30)) := by
    rw [powD_int, if_pos (by decide)]
    rfl
  have B0 : (0 : Int) < 10 ^ 30 := by decide
  have bb : ((10 : Int) ^ 30).natAbs < big := big_of (n := 110) (by decide) (by decide)
  have mk := mk_ok (t := 10 ^ 30 + 57 + mixF ns.length 1) B0 bb
  have s2 : sAsg (makeF 0 fm_Ratio [] (aCons (map2F (map2F (map2F (eC (.int 10)) (eC (.int 30)) powD) (eC (.int 57)) addD) (frF (callF sp__law_mix [] (aCons (mapF (aCons (eVar 0) aNil) lenD) (aCons (eC (.int 1)) aNil)))) addD) (aCons (map2F (eC (.int 10)) (eC (.int 30)) powD) aNil))) (gNm 1) (lE S none m2 m3 m4 m5 m6 m7 m8 m9 m10 m11 m12) = some (.nx (lE S (some (rO (10 ^ 30 + 57 + mixF ns.length 1) (10 ^ 30))) m2 m3 m4 m5 m6 m7 m8 m9 m10 m11 m12)) :=
    sAsg_eq (makeF_eq (aCons_eq (map2F_eq (map2F_eq (map2F_eq eC_eq eC_eq hpow) eC_eq addD_int) (frF_eq (callF_eq (aCons_eq (mapF_eq (aCons_eq (eVar_fz rfl) aNil_eq) hlenD) (aCons_eq eC_eq aNil_eq)) hmx)) addD_int) (aCons_eq (map2F_eq eC_eq eC_eq hpow) aNil_eq)) mk) rfl
  generalize ht : (10 : Int) ^ 30 + 57 + mixF ns.length 1 = t at s2 mk
  have t0 : 0 < t := by rw [← ht]; omega
  have tb : TB t (10 ^ 30) := by
    have z : (10 : Nat) ^ 30 + 3000000000 ≤ 2 ^ 200 := by decide
    have z2 : (10 : Int) ^ 30 = ((10 ^ 30 : Nat) : Int) := by decide
    refine ⟨t0, ?_, B0, ?_⟩
    · rw [← ht]; omega
    · omega
  obtain ⟨r, f1, f2⟩ := fewest_ok (red_TB tb) lm612
  have rn : r = none := by
    have f3 := f2.red t0 B0
    rw [← ht, Int.add_assoc] at f3
    exact great_none (by omega) f3
  subst rn
  have f1' : sp_fewest ([ratD (nT t (10 ^ 30)) (nB t (10 ^ 30)), .int 6, .int 12, .int 2] ++ []) = some (.fz .non) := f1
  -- the test behind it
  have hice : iceE (lE S (some (rO t (10 ^ 30))) m2 m3 m4 m5 m6 m7 m8 m9 m10 m11 m12) = lE S (some (.fz (ratD (nT t (10 ^ 30)) (nB t (10 ^ 30))))) (iceO m2) (iceO m3) (iceO m4) (iceO m5) (iceO m6) (iceO m7) (iceO m8) (iceO m9) (iceO m10) (iceO m11) (iceO m12) := by
    have : iceO (some (rO t (10 ^ 30))) = some (.fz (ratD (nT t (10 ^ 30)) (nB t (10 ^ 30)))) := by rw [← frz_rO]; rfl
    simp only [iceE_cons, iceE_nil, iceO_fz, this]
  have ro1 : sp_ratio_of ([.tup [pD (12, 6), pD (7, 9)]] ++ []) = some (rO 84 54) := ratio_of_ok (c := .tup [pD (12, 6), pD (7, 9)]) (ps := [(12, 6), (7, 9)]) rfl (fun q hq => by
    simp at hq
    rcases hq with rfl | rfl <;> decide) (by decide)
  have ro2 : sp_ratio_of ([.lst []] ++ []) = some (rO 1 1) := ratio_of_ok (c := .lst []) (ps := []) rfl (fun q hq => by cases hq) (by decide)
  have ne1 : neD (.tup [.int (nT 84 54), .int (nB 84 54)]) (.tup [.int 14, .int 9]) = some (.bl false) := by rw [n84.1, n84.2]; exact neD_same rfl
  have eq1 : eqD (.tup [.int (nT 1 1), .int (nB 1 1)]) (.tup [.int 1, .int 1]) = some (.bl true) := by rw [n11.1, n11.2]; exact eqD_same rfl
  generalize hρ : lE S (some (.fz (ratD (nT t (10 ^ 30)) (nB t (10 ^ 30))))) (iceO m2) (iceO m3) (iceO m4) (iceO m5) (iceO m6) (iceO m7) (iceO m8) (iceO m9) (iceO m10) (iceO m11) (iceO m12) = ρi at hice
  have hρ1 : ρi[1]? = some (some (.fz (ratD (nT t (10 ^ 30)) (nB t (10 ^ 30))))) := by rw [← hρ]; rfl
  have t1 : orF (mapF (mapF (frF (callF sp_fewest [] (aCons (eVar 1) (aCons (eC (.int 6)) (aCons (eC (.int 12)) (aCons (eC (.int 2)) aNil)))))) notN) unB) (mapF (map2F (frF (methF 0 sp_Ratio_told [] (frF (callF sp_ratio_of [] (aCons (mapF (aCons (mapF (aCons (eC (.int 12)) (aCons (eC (.int 6)) aNil)) gTup') (aCons (mapF (aCons (eC (.int 7)) (aCons (eC (.int 9)) aNil)) gTup') aNil)) gTup') aNil))) aNil)) (mapF (aCons (eC (.int 14)) (aCons (eC (.int 9)) aNil)) gTup') neD) unB) ρi = some (false, ρi) :=
    orF_f (mapF_eq (mapF_eq (frF_eq (callF_eq (aCons_eq (eVar_fz hρ1) (aCons_eq eC_eq (aCons_eq eC_eq (aCons_eq eC_eq aNil_eq)))) f1')) (show notN (frz (.fz .non)) = some (.bl false) from rfl)) rfl)
      (mapF_eq (map2F_eq (told_of (callF_eq (aCons_eq (tup_eq (aCons_eq (tup_eq (aCons_eq eC_eq (aCons_eq eC_eq aNil_eq)) (by decide)) (aCons_eq (tup_eq (aCons_eq eC_eq (aCons_eq eC_eq aNil_eq)) (by decide)) aNil_eq)) (by show 2 ≤ 1000; decide)) aNil_eq) ro1)) (tup_eq (aCons_eq eC_eq (aCons_eq eC_eq aNil_eq)) (by decide)) ne1) rfl)
  have last : ∀ ρ : Env, sRet (fzF (map2F (frF (methF 0 sp_Ratio_told [] (frF (callF sp_ratio_of [] (aCons (frF (mapF aNil gLst')) aNil))) aNil)) (mapF (aCons (eC (.int 1)) (aCons (eC (.int 1)) aNil)) gTup') eqD)) ρ = some (.rt (.fz (.bl true)) ρ) := fun ρ =>
    sRet_eq (fzF_eq (map2F_eq (told_of (callF_eq (aCons_eq (lst_eq aNil_eq (by decide)) aNil_eq) ro2)) (tup_eq (aCons_eq eC_eq (aCons_eq eC_eq aNil_eq)) (by decide)) eq1))
  have hst : start0 13 [S] = lE S none none none none none none none none none none none none := rfl
  show spOf 1 13 (r_law sp_Ratio_told sp_ratio_of sp_fewest fm_Ratio sp__law_mix sp__law_best sp__law_ratio) [S] = _
  rw [spOf_eq (show [S].length = 1 from rfl), hst]
  unfold r_law
  rw [sSeq_eq, sFor_eq i1, s1, seqO_nx, sSeq_eq, s2, seqO_nx, sSeq_eq, sIf_f (peekT_eq (b := false) (by rw [hice]; exact t1)), sNext_ap, seqO_nx, last]
  rfl
end T
namespace T
open PySem PySem.Spec PyProof.Rows L2 Hd
end T
open PySem PySem.W PySem.Calls PyProof.Rows
set_option maxHeartbeats 0 in
theorem PySem.Challenge.cw_toothyard_k61_fewest_pairs_holds : PySem.Challenge.rw_toothyard_k61_fewest_pairs.Holds := by
  w_on; o_law
  refine HandSHeadRun.head_any (r := OpenLaw.row PySem.Challenge.rw_toothyard_k61_fewest_pairs) (q := view (OpenLaw.row PySem.Challenge.rw_toothyard_k61_fewest_pairs).prog [21]) (H := Hd.hk) (ob := Hd.ob) (M := 2000) (loose := Hd.nms) (d := HandSHeadRun.topDef (OpenLaw.row PySem.Challenge.rw_toothyard_k61_fewest_pairs).prog 21) (kwd := []) Hd.ob_eq
    (by kernel_rfl) (fun s => by kernel_rfl) Hd.run (by kernel_rfl) (by kernel_rfl) (by kernel_rfl) (by rfl) (by first | assumption | decide +kernel) (by decide +kernel) ⟨rfl, rfl, rfl, rfl, rfl, by decide +kernel⟩ ?hw ?hc
  case hw => w_witness2
  case hc =>
    refine L2.walk_ofE (l := PySem.Challenge.rw_toothyard_k61_fewest_pairs) (n := 63) (k := T.lawLevel) (x := "_law_script") (CX := L2.CX0) rfl (by decide) (by kernel_rfl) ⟨rfl, by decide, by decide⟩ ?F (fun _ _ _ _ z => z)
    intro w mg fa h Y G hmg0
    obtain ⟨K, KX, c⟩ := Y
    have hmg : mg ("law" : PySem.Str) = some (.ref fa) := by
      have e : (HandSHeadRun.topDef (OpenLaw.row PySem.Challenge.rw_toothyard_k61_fewest_pairs).prog 21).name = ("law" : PySem.Str) := by kernel_rfl
      rw [← e]
      exact hmg0
    obtain ⟨fd, hb, hF⟩ := T.law_facts (P := (PySem.Challenge.rw_toothyard_k61_fewest_pairs).prog) (w := w) KX G hmg c
    exact ⟨K, fd, T.spP K T.sp_law, KX, hb, fun H a ns hl _ hS => ⟨H, [.scr (ns.map .int)], .fz (.bl true), T.Le.refl H, .cons (.scr hS (T.isL_ints ns)) .nil, T.main61 ns hl, fun v H' G' fv _ w _ => w.fz_inv.1.bl_inv⟩, hF⟩
