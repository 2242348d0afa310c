import PyProof.Rows.All
import Wide.All
import OpenK.AllK
import Wide.FinOn
import HandS.ForMost
import HandS.Wide
import HandS.WideBits
import HandS.TupAny
import HandS.Deep
import HandS.SortInts
import HandS.IsInst
import HandS.Flow
import HandS.ClsMeth
import HandS.Property
import HandS.Rev
import KE.SortData
import KE.DataEq
import KE.DataMinMax
import HandS.NoneIn
import HandS.Conv
import PySem.Challenge.RW_heardcalls_k07_whole_view_heard
set_option Elab.async false
set_option linter.all false
set_option maxRecDepth 100000
set_option maxHeartbeats 4000000
/-! Values without a heap, and how the heap bears them. -/
namespace Hc
open PySem PySem.Spec PyProof.Rows L2

inductive D where
  | non | bl (b : Bool) | int (i : Int) | str (x : Str)
  | tup (xs : List D) | lst (xs : List D)
  | scr (ns : List Int)
  | dct (t : Bool) (ks vs : List D)
  | obj (c : Nat) (fs : List Nat) (vs : List D)
  | own (c : Nat) (fs : List Nat) (vs : List D)
  deriving Inhabited

structure Tab where
  K : PySem.W.Frag
  cls : Nat → Addr
  /-- the number of classes -/
  nc : Nat
  fnm : Nat → Str
  inj : ∀ i j, fnm i = fnm j → i = j

/-- keys of a dict -/
def keyD : Key → D
  | .inl i => .int i
  | .inr x => .str x

mutual
/-- the value v stands for d: shared nodes lie outside A, the first n levels are owned (their places: F) -/
inductive Rep (T : Tab) (H : Hp) (A : Addr → Prop) : V → D → Nat → List Addr → Prop
  | non {n : Nat} : Rep T H A .non .non n []
  | bl {n : Nat} {b : Bool} : Rep T H A (.bl b) (.bl b) n []
  | int {n : Nat} {i : Int} : Rep T H A (.int i) (.int i) n []
  | str {n : Nat} {x : Str} : Rep T H A (.str x) (.str x) n []
  | tup {n : Nat} {a : Addr} {vs : List V} {ds : List D} : SqT T.K H a vs → RepL T H A vs ds 0 [] → Rep T H A (.ref a) (.tup ds) n []
  | scr {n : Nat} {a : Addr} {ns : List Int} : SqL T.K H a (ns.map V.int) → ((∃ o, H a = some (.frz o (.lst (ns.map V.int)))) ∨ SqL T.K (fun _ => none) a (ns.map V.int)) → Rep T H A (.ref a) (.scr ns) n []
  | lstS {a : Addr} {vs : List V} {ds : List D} : H a = some (.lst vs) → ¬ A a → RepL T H A vs ds 0 [] → Rep T H A (.ref a) (.lst ds) 0 []
  | lstO {n : Nat} {F : List Addr} {a : Addr} {vs : List V} {ds : List D} : H a = some (.lst vs) → a ∉ F → RepL T H A vs ds n F → Rep T H A (.ref a) (.lst ds) (n + 1) (a :: F)
  | dctS {a : Addr} {kvs : List (Key × V)} {ds : List D} : H a = some (.dK kvs) → ¬ A a → RepL T H A (kvs.map (·.2)) ds 0 [] → Rep T H A (.ref a) (.dct false (kvs.map fun p => keyD p.1) ds) 0 []
  | dctO {n : Nat} {F : List Addr} {a : Addr} {kvs : List (Key × V)} {ds : List D} : H a = some (.dK kvs) → a ∉ F → RepL T H A (kvs.map (·.2)) ds n F → Rep T H A (.ref a) (.dct false (kvs.map fun p => keyD p.1) ds) (n + 1) (a :: F)
  | dctTS {a : Addr} {kvs : List (List Key × V)} {ds : List D} : H a = some (.dT kvs) → ¬ A a → RepL T H A (kvs.map (·.2)) ds 0 [] → Rep T H A (.ref a) (.dct true (kvs.map fun p => .tup (p.1.map keyD)) ds) 0 []
  | dctTO {n : Nat} {F : List Addr} {a : Addr} {kvs : List (List Key × V)} {ds : List D} : H a = some (.dT kvs) → a ∉ F → RepL T H A (kvs.map (·.2)) ds n F → Rep T H A (.ref a) (.dct true (kvs.map fun p => .tup (p.1.map keyD)) ds) (n + 1) (a :: F)
  | objS {n : Nat} {a dx : Addr} {c : Nat} {fs : List Nat} {vs : List V} {ds : List D} : H a = some (.ins (T.cls c) dx ((fs.map T.fnm).zip vs)) → ¬ A a → (vs.length = fs.length ∧ c < T.nc) → RepL T H A vs ds 0 [] → Rep T H A (.ref a) (.obj c fs ds) n []
  | ownS {a dx : Addr} {c : Nat} {fs : List Nat} {vs : List V} {ds : List D} : H a = some (.ins (T.cls c) dx ((fs.map T.fnm).zip vs)) → ¬ A a → (vs.length = fs.length ∧ c < T.nc) → RepL T H A vs ds 0 [] → Rep T H A (.ref a) (.own c fs ds) 0 []
  | ownO {n : Nat} {F : List Addr} {a dx : Addr} {c : Nat} {fs : List Nat} {vs : List V} {ds : List D} : H a = some (.ins (T.cls c) dx ((fs.map T.fnm).zip vs)) → a ∉ F → (vs.length = fs.length ∧ c < T.nc) → RepL T H A vs ds n F → Rep T H A (.ref a) (.own c fs ds) (n + 1) (a :: F)
inductive RepL (T : Tab) (H : Hp) (A : Addr → Prop) : List V → List D → Nat → List Addr → Prop
  | nil {n : Nat} : RepL T H A [] [] n []
  | cons {n : Nat} {F G : List Addr} {v : V} {vs : List V} {d : D} {ds : List D} : Rep T H A v d n F → RepL T H A vs ds n G → (∀ b ∈ F, b ∉ G) → RepL T H A (v :: vs) (d :: ds) n (F ++ G)
end

theorem RepL.length {T : Tab} {H : Hp} {A : Addr → Prop} : ∀ {vs : List V} {ds : List D} {n : Nat} {F : List Addr}, RepL T H A vs ds n F → vs.length = ds.length
  | _, _, _, _, .nil => rfl
  | _, _, _, _, .cons _ r _ => by rw [List.length_cons, List.length_cons, r.length]

theorem sql_keepF {K : PySem.W.Frag} {H H' : Hp} {a : Addr} {vs : List V} {A : Addr → Prop} {F : List Addr} (k : ∀ b o, H b = some o → (Mut (some o) → ¬ A b ∨ b ∈ F) → H' b = some o) (h : (∃ o, H a = some (.frz o (.lst vs))) ∨ SqL K (fun _ => none) a vs) : SqL K H' a vs ∧ ((∃ o, H' a = some (.frz o (.lst vs))) ∨ SqL K (fun _ => none) a vs) := by
  rcases h with ⟨o, h⟩ | h
  · have h' := k _ _ h fun z => z.elim
    exact ⟨.inl (.inr ⟨o, h'⟩), .inl ⟨o, h'⟩⟩
  · refine ⟨?_, .inr h⟩
    rcases h with (h | ⟨o, h⟩) | h
    · cases h
    · cases h
    · exact .inr h
theorem sqt_keep {K : PySem.W.Frag} {H H' : Hp} {a : Addr} {vs : List V} {A : Addr → Prop} {F : List Addr} (k : ∀ b o, H b = some o → (Mut (some o) → ¬ A b ∨ b ∈ F) → H' b = some o) (h : SqT K H a vs) : SqT K H' a vs := by
  rcases h with (h | ⟨o, h⟩) | h
  · exact .inl (.inl (k _ _ h fun z => z.elim))
  · exact .inl (.inr ⟨o, k _ _ h fun z => z.elim⟩)
  · exact .inr h

mutual
theorem Rep.keep {T : Tab} {H H' : Hp} {A : Addr → Prop} {E : List Addr} : ∀ {v : V} {d : D} {n : Nat} {F : List Addr}, Rep T H A v d n F → (∀ b ∈ F, b ∈ E) → (∀ b o, H b = some o → (Mut (some o) → ¬ A b ∨ b ∈ E) → H' b = some o) → Rep T H' A v d n F
  | _, _, _, _, .non, _, _ => .non
  | _, _, _, _, .bl, _, _ => .bl
  | _, _, _, _, .int, _, _ => .int
  | _, _, _, _, .str, _, _ => .str
  | _, _, _, _, .scr _ h, _, k => .scr (sql_keepF k h).1 (sql_keepF (K := T.K) k h).2
  | _, _, _, _, .tup h r, s, k => .tup (sqt_keep k h) (r.keep (fun b hb => absurd hb (by simp)) k)
  | _, _, _, _, .lstS h n r, s, k => .lstS (k _ _ h fun _ => .inl n) n (r.keep (fun b hb => absurd hb (by simp)) k)
  | _, _, _, _, .lstO h n r, s, k => .lstO (k _ _ h fun _ => .inr (s _ (by simp))) n (r.keep (fun b hb => s b (List.mem_cons_of_mem _ hb)) k)
  | _, _, _, _, .dctS h n r, s, k => .dctS (k _ _ h fun _ => .inl n) n (r.keep (fun b hb => absurd hb (by simp)) k)
  | _, _, _, _, .dctO h n r, s, k => .dctO (k _ _ h fun _ => .inr (s _ (by simp))) n (r.keep (fun b hb => s b (List.mem_cons_of_mem _ hb)) k)
  | _, _, _, _, .dctTS h n r, s, k => .dctTS (k _ _ h fun _ => .inl n) n (r.keep (fun b hb => absurd hb (by simp)) k)
  | _, _, _, _, .dctTO h n r, s, k => .dctTO (k _ _ h fun _ => .inr (s _ (by simp))) n (r.keep (fun b hb => s b (List.mem_cons_of_mem _ hb)) k)
  | _, _, _, _, .objS h n l r, s, k => .objS (k _ _ h fun _ => .inl n) n l (r.keep (fun b hb => absurd hb (by simp)) k)
  | _, _, _, _, .ownS h n l r, s, k => .ownS (k _ _ h fun _ => .inl n) n l (r.keep (fun b hb => absurd hb (by simp)) k)
  | _, _, _, _, .ownO h n l r, s, k => .ownO (k _ _ h fun _ => .inr (s _ (by simp))) n l (r.keep (fun b hb => s b (List.mem_cons_of_mem _ hb)) k)
theorem RepL.keep {T : Tab} {H H' : Hp} {A : Addr → Prop} {E : List Addr} : ∀ {v : List V} {d : List D} {n : Nat} {F : List Addr}, RepL T H A v d n F → (∀ b ∈ F, b ∈ E) → (∀ b o, H b = some o → (Mut (some o) → ¬ A b ∨ b ∈ E) → H' b = some o) → RepL T H' A v d n F
  | _, _, _, _, .nil, _, _ => .nil
  | _, _, _, _, .cons r rs d, s, k => .cons (r.keep (fun b hb => s b (List.mem_append_left _ hb)) k) (rs.keep (fun b hb => s b (List.mem_append_right _ hb)) k) d
end


mutual
theorem Rep.avoid {T : Tab} {H : Hp} {A A' : Addr → Prop} : ∀ {v : V} {d : D} {n : Nat} {F : List Addr}, Rep T H A v d n F → (∀ b, H b ≠ none → A' b → A b) → Rep T H A' v d n F
  | _, _, _, _, .non, _ => .non
  | _, _, _, _, .bl, _ => .bl
  | _, _, _, _, .int, _ => .int
  | _, _, _, _, .str, _ => .str
  | _, _, _, _, .scr a h, _ => .scr a h
  | _, _, _, _, .tup h r, k => .tup h (r.avoid k)
  | _, _, _, _, .lstS h n r, k => .lstS h (fun z => n (k _ (by rw [h]; simp) z)) (r.avoid k)
  | _, _, _, _, .lstO h n r, k => .lstO h n (r.avoid k)
  | _, _, _, _, .dctS h n r, k => .dctS h (fun z => n (k _ (by rw [h]; simp) z)) (r.avoid k)
  | _, _, _, _, .dctO h n r, k => .dctO h n (r.avoid k)
  | _, _, _, _, .dctTS h n r, k => .dctTS h (fun z => n (k _ (by rw [h]; simp) z)) (r.avoid k)
  | _, _, _, _, .dctTO h n r, k => .dctTO h n (r.avoid k)
  | _, _, _, _, .objS h n l r, k => .objS h (fun z => n (k _ (by rw [h]; simp) z)) l (r.avoid k)
  | _, _, _, _, .ownS h n l r, k => .ownS h (fun z => n (k _ (by rw [h]; simp) z)) l (r.avoid k)
  | _, _, _, _, .ownO h n l r, k => .ownO h n l (r.avoid k)
theorem RepL.avoid {T : Tab} {H : Hp} {A A' : Addr → Prop} : ∀ {v : List V} {d : List D} {n : Nat} {F : List Addr}, RepL T H A v d n F → (∀ b, H b ≠ none → A' b → A b) → RepL T H A' v d n F
  | _, _, _, _, .nil, _ => .nil
  | _, _, _, _, .cons r rs d, k => .cons (r.avoid k) (rs.avoid k) d
end

mutual
theorem Rep.there {T : Tab} {H : Hp} {A : Addr → Prop} : ∀ {v : V} {d : D} {n : Nat} {F : List Addr}, Rep T H A v d n F → ∀ b ∈ F, H b ≠ none
  | _, _, _, _, .non, b, hb => absurd hb (by simp)
  | _, _, _, _, .bl, b, hb => absurd hb (by simp)
  | _, _, _, _, .int, b, hb => absurd hb (by simp)
  | _, _, _, _, .str, b, hb => absurd hb (by simp)
  | _, _, _, _, .scr a h, b, hb => absurd hb (by simp)
  | _, _, _, _, .tup h r, b, hb => absurd hb (by simp)
  | _, _, _, _, .lstS h n r, b, hb => absurd hb (by simp)
  | _, _, _, _, .lstO h n r, b, hb => by
    rcases List.mem_cons.mp hb with e | hb
    · rw [e, h]; simp
    · exact r.there b hb
  | _, _, _, _, .dctS h n r, b, hb => absurd hb (by simp)
  | _, _, _, _, .dctO h n r, b, hb => by
    rcases List.mem_cons.mp hb with e | hb
    · rw [e, h]; simp
    · exact r.there b hb
  | _, _, _, _, .dctTS h n r, b, hb => absurd hb (by simp)
  | _, _, _, _, .dctTO h n r, b, hb => by
    rcases List.mem_cons.mp hb with e | hb
    · rw [e, h]; simp
    · exact r.there b hb
  | _, _, _, _, .objS h n l r, b, hb => absurd hb (by simp)
  | _, _, _, _, .ownS h n l r, b, hb => absurd hb (by simp)
  | _, _, _, _, .ownO h n l r, b, hb => by
    rcases List.mem_cons.mp hb with e | hb
    · rw [e, h]; simp
    · exact r.there b hb
theorem RepL.there {T : Tab} {H : Hp} {A : Addr → Prop} : ∀ {v : List V} {d : List D} {n : Nat} {F : List Addr}, RepL T H A v d n F → ∀ b ∈ F, H b ≠ none
  | _, _, _, _, .nil, b, hb => absurd hb (by simp)
  | _, _, _, _, .cons r rs d, b, hb => by
    rcases List.mem_append.mp hb with hb | hb
    · exact r.there b hb
    · exact rs.there b hb
end

/-! freezing: nothing is owned any more -/
mutual
theorem Rep.low {T : Tab} {H : Hp} {A A' : Addr → Prop} : ∀ {v : V} {d : D} {n : Nat} {F : List Addr}, Rep T H A v d n F → (∀ b, A' b → A b) → (∀ b ∈ F, ¬ A' b) → Rep T H A' v d 0 []
  | _, _, _, _, .non, _, _ => .non
  | _, _, _, _, .bl, _, _ => .bl
  | _, _, _, _, .int, _, _ => .int
  | _, _, _, _, .str, _, _ => .str
  | _, _, _, _, .scr a h, _, _ => .scr a h
  | _, _, _, _, .tup h r, k, _ => .tup h (r.avoid fun b _ => k b)
  | _, _, _, _, .lstS h n r, k, _ => .lstS h (fun z => n (k _ z)) (r.avoid fun b _ => k b)
  | _, _, _, _, .lstO h n r, k, q => .lstS h (q _ List.mem_cons_self) (r.low k fun b hb => q b (List.mem_cons_of_mem _ hb))
  | _, _, _, _, .dctS h n r, k, _ => .dctS h (fun z => n (k _ z)) (r.avoid fun b _ => k b)
  | _, _, _, _, .dctO h n r, k, q => .dctS h (q _ List.mem_cons_self) (r.low k fun b hb => q b (List.mem_cons_of_mem _ hb))
  | _, _, _, _, .dctTS h n r, k, _ => .dctTS h (fun z => n (k _ z)) (r.avoid fun b _ => k b)
  | _, _, _, _, .dctTO h n r, k, q => .dctTS h (q _ List.mem_cons_self) (r.low k fun b hb => q b (List.mem_cons_of_mem _ hb))
  | _, _, _, _, .objS h n l r, k, _ => .objS h (fun z => n (k _ z)) l (r.avoid fun b _ => k b)
  | _, _, _, _, .ownS h n l r, k, _ => .ownS h (fun z => n (k _ z)) l (r.avoid fun b _ => k b)
  | _, _, _, _, .ownO h n l r, k, q => .ownS h (q _ List.mem_cons_self) l (r.low k fun b hb => q b (List.mem_cons_of_mem _ hb))
theorem RepL.low {T : Tab} {H : Hp} {A A' : Addr → Prop} : ∀ {v : List V} {d : List D} {n : Nat} {F : List Addr}, RepL T H A v d n F → (∀ b, A' b → A b) → (∀ b ∈ F, ¬ A' b) → RepL T H A' v d 0 []
  | _, _, _, _, .nil, _, _ => .nil
  | _, _, _, _, .cons (F := F) (G := G) r rs dj, k, q =>
    .cons (F := []) (G := []) (r.low k fun b hb => q b (List.mem_append_left _ hb)) (rs.low k fun b hb => q b (List.mem_append_right _ hb)) (fun b hb => absurd hb (by simp))
end

/-! values in which nothing can be changed -/
mutual
def scal : D → Bool
  | .non => true
  | .bl _ => true
  | .int _ => true
  | .str _ => true
  | .scr _ => true
  | .tup xs => scalL xs
  | _ => false
def scalL : List D → Bool
  | [] => true
  | d :: ds => scal d && scalL ds
end
theorem scalL_all : ∀ ds : List D, scalL ds = ds.all scal
  | [] => by simp [scalL]
  | d :: ds => by simp [scalL, scalL_all ds]
mutual
theorem Rep.scal {T : Tab} {H : Hp} {A A' : Addr → Prop} {m : Nat} : ∀ {v : V} {d : D} {n : Nat} {F : List Addr}, Rep T H A v d n F → scal d = true → F = [] ∧ Rep T H A' v d m []
  | _, _, _, _, .non, _ => ⟨rfl, .non⟩
  | _, _, _, _, .bl, _ => ⟨rfl, .bl⟩
  | _, _, _, _, .int, _ => ⟨rfl, .int⟩
  | _, _, _, _, .str, _ => ⟨rfl, .str⟩
  | _, _, _, _, .scr a h, _ => ⟨rfl, .scr a h⟩
  | _, _, _, _, .tup h r, s => ⟨rfl, .tup h (r.scal (m := 0) (by simpa [Hc.scal] using s)).2⟩
  | _, _, _, _, .lstS h n r, s => by simp [Hc.scal] at s
  | _, _, _, _, .lstO h n r, s => by simp [Hc.scal] at s
  | _, _, _, _, .dctS h n r, s => by simp [Hc.scal] at s
  | _, _, _, _, .dctO h n r, s => by simp [Hc.scal] at s
  | _, _, _, _, .dctTS h n r, s => by simp [Hc.scal] at s
  | _, _, _, _, .dctTO h n r, s => by simp [Hc.scal] at s
  | _, _, _, _, .objS h n l r, s => by simp [Hc.scal] at s
  | _, _, _, _, .ownS h n l r, s => by simp [Hc.scal] at s
  | _, _, _, _, .ownO h n l r, s => by simp [Hc.scal] at s
theorem RepL.scal {T : Tab} {H : Hp} {A A' : Addr → Prop} {m : Nat} : ∀ {v : List V} {d : List D} {n : Nat} {F : List Addr}, RepL T H A v d n F → scalL d = true → F = [] ∧ RepL T H A' v d m []
  | _, _, _, _, .nil, _ => ⟨rfl, .nil⟩
  | _, _, _, _, .cons (F := F) (G := G) r rs dj, s => by
    have s' := Bool.and_eq_true_iff.mp (by simpa [scalL] using s)
    obtain ⟨e1, r1⟩ := r.scal (A' := A') (m := m) s'.1
    obtain ⟨e2, r2⟩ := rs.scal (A' := A') (m := m) s'.2
    subst e1; subst e2
    exact ⟨rfl, .cons (F := []) (G := []) r1 r2 (fun b hb => absurd hb (by simp))⟩
end
/-- no node of it is shared but those that can't be changed -/
def cleanN : Nat → D → Bool
  | 0, d => scal d
  | n + 1, .lst ds => ds.all (cleanN n)
  | n + 1, .dct _ _ ds => ds.all (cleanN n)
  | n + 1, .own _ _ ds => ds.all (cleanN n)
  | _ + 1, d => scal d
def clean (d : D) (n : Nat) : Bool := cleanN n d
theorem RepL.cleanL {T : Tab} {H : Hp} {A A' : Addr → Prop} {n : Nat} (ih : ∀ {v : V} {d : D} {F : List Addr}, Rep T H A v d n F → cleanN n d = true → Rep T H A' v d n F) : ∀ {vs : List V} {ds : List D} {F : List Addr}, RepL T H A vs ds n F → ds.all (cleanN n) = true → RepL T H A' vs ds n F
  | [], [], _, .nil, _ => .nil
  | v :: vs, d :: ds, _, .cons (F := F) (G := G) r rs dj, c => by
    have c' := Bool.and_eq_true_iff.mp (by rw [List.all_cons] at c; exact c)
    exact .cons (ih r c'.1) (rs.cleanL ih c'.2) dj
theorem Rep.cleanN {T : Tab} {H : Hp} {A A' : Addr → Prop} : ∀ (n : Nat) {v : V} {d : D} {F : List Addr}, Rep T H A v d n F → Hc.cleanN n d = true → Rep T H A' v d n F
  | 0, v, d, F, r, c => by
    obtain ⟨e, r'⟩ := r.scal (A' := A') (m := 0) c
    subst e; exact r'
  | n + 1, v, d, F, r, c => by
    have sc : Hc.scal d = true → Rep T H A' v d (n + 1) F := fun c => by
      obtain ⟨e, r'⟩ := r.scal (A' := A') (m := n + 1) c
      subst e; exact r'
    cases r with
    | lstO h q r => exact .lstO h q (r.cleanL (fun r c => Rep.cleanN n r c) c)
    | dctO h q r => exact .dctO h q (r.cleanL (fun r c => Rep.cleanN n r c) c)
    | dctTO h q r => exact .dctTO h q (r.cleanL (fun r c => Rep.cleanN n r c) c)
    | ownO h q l r => exact .ownO h q l (r.cleanL (fun r c => Rep.cleanN n r c) c)
    | _ => exact sc c
theorem Rep.clean {T : Tab} {H : Hp} {A A' : Addr → Prop} {v : V} {d : D} {n : Nat} {F : List Addr} (r : Rep T H A v d n F) (c : Hc.clean d n = true) : Rep T H A' v d n F := r.cleanN n c
end Hc
set_option Elab.async false
set_option linter.all false
set_option maxRecDepth 100000
set_option maxHeartbeats 4000000
/-! A small language over values, and what it computes. -/
namespace Hc
open PySem PySem.Spec PyProof.Rows L2

inductive Rs (α : Type) where
  | ok (a : α)
  | ex (c : Nat) (d : D)
  | bad
@[simp] def Rs.bind {α β : Type} : Rs α → (α → Rs β) → Rs β
  | .ok a, f => f a
  | .ex c d, _ => .ex c d
  | .bad, _ => .bad
@[simp] def Rs.of {α : Type} : Option α → Rs α
  | some a => .ok a
  | none => .bad
theorem Rs.bind_ok {α β : Type} {x : Rs α} {f : α → Rs β} {b : β} (h : x.bind f = .ok b) : ∃ a, x = .ok a ∧ f a = .ok b := by
  cases x with
  | ok a => exact ⟨a, rfl, h⟩
  | ex c d => cases h
  | bad => cases h

def lim : Nat := 16000000

/-! ### operations on values -/
inductive Bo where
  | add | sub | mul | fdiv | mod | pow | shl | shr | band | bor
  deriving DecidableEq
inductive Co where
  | eq | ne | lt | le | gt | ge | isin | nin | is | isn
  deriving DecidableEq
/-- what is sorted: ints, texts, tuples of one kind (not empty), tuples of kinds -/
inductive Ty where
  | i | s | h (t : Ty) | p (a b : Ty)
def td : Ty → Nat
  | .i => 1
  | .s => 1
  | .h t => td t + 1
  | .p a b => Nat.max (td a) (td b) + 1
inductive Bi where
  | len | int | list | tuple | sorted (t : Ty) | abs | min | max | sum | any | all | str | minL | maxL | dmaxL
  | isi (n : Nat)
inductive Mt where
  | index | get | join | bitlen
inductive Tg where
  | nm (i : Nat)
  | tp (ts : List Tg)

mutual
def toPy : D → PyData
  | .non => .none
  | .bl b => .bool b
  | .int i => .int i
  | .str x => .str x
  | .tup xs => .tuple (toPyL xs)
  | .lst xs => .list (toPyL xs)
  | .scr ns => .list (ns.map .int)
  | _ => .none
def toPyL : List D → List PyData
  | [] => []
  | d :: ds => toPy d :: toPyL ds
end
theorem toPyL_map : ∀ ds : List D, toPyL ds = ds.map toPy
  | [] => by simp [toPyL]
  | d :: ds => by simp [toPyL, toPyL_map ds]
/-- plain data, nested less than k deep -/
def okN : Nat → D → Bool
  | 0, _ => false
  | k + 1, .tup xs => xs.all (okN k)
  | k + 1, .lst xs => xs.all (okN k)
  | _ + 1, .non => true
  | _ + 1, .bl _ => true
  | _ + 1, .int _ => true
  | _ + 1, .str _ => true
  | _ + 1, _ => false
def eqD (a b : D) : Bool := PyData.eqv (toPy a) (toPy b)
def alk : Ty → D → Bool
  | .i, .int _ => true
  | .s, .str _ => true
  | .h t, .tup xs => !xs.isEmpty && xs.all (alk t)
  | .p a b, .tup [x, y] => alk a x && alk b y
  | _, _ => false
def sortD (ds : List D) : List D := ds.mergeSort (PySem.W.dataLe false toPy)
def sm (i : Int) : Bool := decide (-(2 ^ 64) < i) && decide (i < 2 ^ 64)

def binD : Bo → D → D → Rs (D × Nat)
  | .add, .int i, .int j => .ok (.int (i + j), 9)
  | .add, .str x, .str y => if x.length + y.length ≤ lim then .ok (.str (x ++ y), 9) else .bad
  | .add, .lst xs, .lst ys => if xs.length + ys.length ≤ lim then .ok (.lst (xs ++ ys), 1) else .bad
  | .add, .tup xs, .tup ys => if xs.length + ys.length ≤ lim then .ok (.tup (xs ++ ys), 9) else .bad
  | .sub, .int i, .int j => .ok (.int (i - j), 9)
  | .mul, .int i, .int j => if sm i || sm j then .ok (.int (i * j), 9) else .bad
  | .mul, .lst xs, .int k => if decide (0 ≤ k) && decide (k ≤ 1000000) && decide (xs.length * k.toNat ≤ lim) then .ok (.lst (List.replicate k.toNat xs).flatten, 1) else .bad
  | .fdiv, .int i, .int j => if decide (0 < j) && decide (j < 1073741824) then .ok (.int (i / j), 9) else .bad
  | .mod, .int i, .int j => if 0 < j then .ok (.int (i % j), 9) else .bad
  | .pow, .int i, .int j => if decide (0 ≤ j) && decide (j ≤ 1000000) && sm i then .ok (.int (i ^ j.toNat), 9) else .bad
  | .shl, .int i, .int j => if decide (0 ≤ j) && decide (j ≤ 1000000) && sm i then .ok (.int (i * 2 ^ j.toNat), 9) else .bad
  | .shr, .int i, .int j => if 0 ≤ j then .ok (.int (i / 2 ^ j.toNat), 9) else .bad
  | .band, .int i, .int j => .ok (.int (Builtin.bitAnd i j), 9)
  | .bor, .int i, .int j => .ok (.int (Builtin.bitOr i j), 9)
  | _, _, _ => .bad

def keyOf : D → Option Key
  | .int i => some (.inl i)
  | .str x => some (.inr x)
  | _ => none
/-- the place of a key -/
def keyAt (k : D) : List D → Option Nat
  | [] => none
  | d :: ds => if eqD d k then some 0 else (keyAt k ds).map (· + 1)
def isKeyT : D → Bool
  | .tup xs => xs.all fun d => (keyOf d).isSome
  | _ => false
/-- a key that a dict of this kind takes -/
def keyOk : Bool → D → Bool
  | false, d => (keyOf d).isSome
  | true, d => isKeyT d
/-- the place of a key of a dict -/
def ki (k : Key) : List D → Option Nat
  | [] => none
  | d :: ds => if keyOf d = some k then some 0 else (ki k ds).map (· + 1)
def putV (k : Key) (d : D) : List D → List D → List D
  | kk :: ks, v :: vs => (if keyOf kk = some k then d else v) :: putV k d ks vs
  | _, vs => vs
def putD (k : Key) (d : D) (ks vs : List D) : List D × List D := if (ki k ks).isSome = true then (ks, putV k d ks vs) else (ks ++ [keyD k], vs ++ [d])
def inD (x : D) : D → Rs Bool
  | .lst ys => if okN 40 x && okN 40 (.lst ys) then .ok (ys.any fun y => eqD y x) else .bad
  | .tup ys => if okN 40 x && okN 40 (.tup ys) then .ok (ys.any fun y => eqD y x) else .bad
  | .str z => match x with
    | .str y => match y.cps.toList with
      | [c] => .ok (decide (c ∈ z.cps.toList))
      | _ => .bad
    | _ => .bad
  | .dct false ks _ => match keyOf x with
    | some k => .ok (ki k ks).isSome
    | none => .bad
  | _ => .bad
def eqR : D → D → Rs Bool
  | .int i, .int j => .ok (decide (i = j))
  | .str x, .str y => .ok (decide (x = y))
  | a, b => if okN 40 a && okN 40 b then .ok (eqD a b) else .bad
def isR : D → D → Rs Bool
  | a, .non => .ok (match a with | .non => true | _ => false)
  | a, .bl c => .ok (match a with | .bl b => b == c | _ => false)
  | _, _ => .bad
def ordR (f : Int → Int → Bool) (g : List Nat → List Nat → Bool) : D → D → Rs Bool
  | .int i, .int j => .ok (f i j)
  | .str x, .str y => .ok (g x.cps.toList y.cps.toList)
  | _, _ => .bad
def cmpB : Co → D → D → Rs Bool
  | .eq, a, b => eqR a b
  | .ne, a, b => (eqR a b).bind fun c => .ok (!c)
  | .lt, a, b => ordR (fun i j => decide (i < j)) (fun x y => decide (x < y)) a b
  | .le, a, b => ordR (fun i j => decide (i ≤ j)) (fun x y => !decide (y < x)) a b
  | .gt, a, b => ordR (fun i j => decide (j < i)) (fun x y => decide (y < x)) a b
  | .ge, a, b => ordR (fun i j => decide (j ≤ i)) (fun x y => !decide (x < y)) a b
  | .isin, a, b => inD a b
  | .nin, a, b => (inD a b).bind fun c => .ok (!c)
  | .is, a, b => isR a b
  | .isn, a, b => (isR a b).bind fun c => .ok (!c)

def ixD : D → D → Rs (D × Nat)
  | .lst xs, .int i => Rs.of ((atI xs i).map fun d => (d, 0))
  | .tup xs, .int i => Rs.of ((atI xs i).map fun d => (d, 0))
  | .scr ns, .int i => Rs.of ((atI ns i).map fun d => (.int d, 0))
  | .str x, .int i => if x.length ≤ lim then Rs.of ((atI x.cps.toList i).map fun c => (.str ⟨#[c]⟩, 9)) else .bad
  | .dct false ks vs, x => match keyOf x with
    | some k => Rs.of (((ki k ks).bind fun j => vs[j]?).map fun d => (d, 0))
    | none => .bad
  | _, _ => .bad
def cutD (xs : List D) (lo hi : Option Int) : List D := (xs.drop (HT.sIx xs.length 0 lo)).take (HT.sIx xs.length xs.length hi - HT.sIx xs.length 0 lo)
def bndD : D → Rs (Option Int)
  | .int i => .ok (some i)
  | _ => .bad
def slD : D → Option Int → Option Int → Rs (D × Nat)
  | .lst xs, lo, hi => .ok (.lst (cutD xs lo hi), 1)
  | .tup xs, lo, hi => .ok (.tup (cutD xs lo hi), 9)
  | .str x, lo, hi => if x.length ≤ lim then .ok (.str (cutS x lo hi), 9) else .bad
  | _, _, _ => .bad

/-- what a loop walks -/
def items : D → Rs (List D)
  | .lst xs => .ok xs
  | .tup xs => .ok xs
  | .str x => .ok (x.cps.toList.map fun c => .str ⟨#[c]⟩)
  | _ => .bad
def rngL (lo hi : Int) : List D := (List.range (hi - lo).toNat).map fun i => .int (lo + (i : Nat))
def rngOk (lo hi : Int) : Bool := decide (-(2 ^ 62) ≤ lo) && decide (lo < 2 ^ 62) && decide (-(2 ^ 62) ≤ hi) && decide (hi < 2 ^ 62)
def enumL : Nat → List D → List D
  | _, [] => []
  | k, d :: ds => .tup [.int (k : Nat), d] :: enumL (k + 1) ds

def intsOf : List D → Option (List Int)
  | [] => some []
  | .int i :: ds => (intsOf ds).map (i :: ·)
  | _ => none
def boolsOf : List D → Option (List Bool)
  | [] => some []
  | .bl i :: ds => (boolsOf ds).map (i :: ·)
  | _ => none
def best (f : Int → Int → Bool) (a : Int) : List Int → Int
  | [] => a
  | b :: r => best f (if f b a then b else a) r
def isiD : Nat → D → Option Bool
  | 0, .int _ => some true
  | 0, .bl _ => some true
  | 0, .obj _ _ _ => none
  | 0, .own _ _ _ => none
  | 0, .scr _ => none
  | 0, _ => some false
  | 1, .str _ => some true
  | 1, .obj _ _ _ => none
  | 1, .own _ _ _ => none
  | 1, .scr _ => none
  | 1, _ => some false
  | 2, .lst _ => some true
  | 2, .obj _ _ _ => none
  | 2, .own _ _ _ => none
  | 2, .scr _ => none
  | 2, _ => some false
  | 3, .tup _ => some true
  | 3, .obj _ _ _ => none
  | 3, .own _ _ _ => none
  | 3, .scr _ => none
  | 3, _ => some false
  | 4, .bl _ => some true
  | 4, .obj _ _ _ => none
  | 4, .own _ _ _ => none
  | 4, .scr _ => none
  | 4, _ => some false
  | _, _ => none
def biD : Bi → List D → Rs (D × Nat)
  | .len, [.lst xs] => .ok (.int xs.length, 9)
  | .len, [.tup xs] => .ok (.int xs.length, 9)
  | .len, [.scr xs] => .ok (.int xs.length, 9)
  | .len, [.str x] => if x.length ≤ lim then .ok (.int x.length, 9) else .bad
  | .int, [.int i] => .ok (.int i, 9)
  | .int, [.bl b] => .ok (.int (if b then 1 else 0), 9)
  | .abs, [.int i] => .ok (.int (if i < 0 then -i else i), 9)
  | .min, [.int i, .int j] => .ok (.int (if j < i then j else i), 9)
  | .max, [.int i, .int j] => .ok (.int (if j > i then j else i), 9)
  | .list, [.lst xs] => .ok (.lst xs, 1)
  | .list, [.tup xs] => .ok (.lst xs, 1)
  | .tuple, [.lst xs] => .ok (.tup xs, 9)
  | .tuple, [.tup xs] => .ok (.tup xs, 9)
  | .sorted t, [.lst xs] => if xs.all (alk t) then .ok (.lst (sortD xs), 1) else .bad
  | .str, [.int i] => if i.natAbs.log2 < 1920 then .ok (.str (toString i : String), 9) else .bad
  | .sum, [.lst xs] => Rs.of ((intsOf xs).map fun ns => (.int ns.sum, 9))
  | .any, [.lst xs] => Rs.of ((boolsOf xs).map fun ns => (.bl (ns.any id), 9))
  | .all, [.lst xs] => Rs.of ((boolsOf xs).map fun ns => (.bl (ns.all id), 9))
  | .minL, [.lst xs] => match intsOf xs with
    | some (n :: ns) => .ok (.int (best (fun b a => decide (b < a)) n ns), 9)
    | _ => .bad
  | .maxL, [.lst xs] => match intsOf xs with
    | some (n :: ns) => .ok (.int (best (fun b a => decide (a < b)) n ns), 9)
    | _ => .bad
  | .isi n, [d] => Rs.of ((isiD n d).map fun b => (.bl b, 9))
  | _, _ => .bad
def mtD : Mt → D → List D → Rs (D × Nat)
  | .bitlen, .int i, [] => .ok (.int (Builtin.Int.intBits i : Nat), 9)
  | _, _, _ => .bad

/-! ### expressions -/
mutual
inductive E where
  | var (i : Nat) | non | bl (b : Bool) | int (i : Int) | str (x : Str) | nop
  | bin (o : Bo) (a b : E) | neg (a : E) | inv (a : E) | nt (a : E)
  | cmp (o : Co) (a b : E) | chain (o p : Co) (a b c : E)
  | andL (es : Es) | orL (es : Es) | ite (c a b : E)
  | tup (es : Es) | lst (es : Es) | lsn (m : Nat) (es : Es) | emp (n : Nat) | dnew (t : Bool) (n : Nat)
  | idx (a b : E) | slc (a l h : E)
  | call (f : Nat) (es : Es) | bi (b : Bi) (es : Es) | mth (m : Mt) (a : E) (es : Es)
  | rng (a b : E) | enm (a : E) | lrng (a b : E)
  | comp (m : Nat) (t : Tg) (src cnd elt : E)
  | rvd (a : E) | pget (a : E) (m : Nat) | cv (c j : Nat)
  | fld (a : E) (j : Nat) | mcall (a : E) (m : Nat) (es : Es) | make (z : Bool) (c n : Nat) (es : Es)
inductive Es where
  | nil
  | cons (e : E) (es : Es)
end

structure Ev where
  /-- a def: the owned depth of its first argument, the arguments; its answer, how deep it is owned, the first argument behind it -/
  call : Nat → Nat → List D → Rs (D × Nat × D)
  /-- the def of a method -/
  meth : Nat → Nat → Option Nat
  /-- the def of a class's __init__ -/
  init : Nat → Option Nat
  fuel : Nat
  /-- names that are not stored to -/
  keep : List Nat
  /-- an attribute that is read of such an instance -/
  has : Nat → Nat → Bool
  /-- the def of a property -/
  prop : Nat → Nat → Option Nat
  /-- a constant of a class -/
  cval : Nat → Nat → Option D

mutual
def bindT : Tg → D → List (Option D) → Option (List (Option D))
  | .nm i, d, r => if i < r.length then some (r.set i (some d)) else none
  | .tp ts, .tup ds, r => bindTs ts ds r
  | .tp ts, .lst ds, r => bindTs ts ds r
  | _, _, _ => none
def bindTs : List Tg → List D → List (Option D) → Option (List (Option D))
  | [], [], r => some r
  | t :: ts, d :: ds, r => (bindT t d r).bind fun r' => bindTs ts ds r'
  | _, _, _ => none
end
mutual
def tgs : Tg → List Nat
  | .nm i => [i]
  | .tp ts => tgsL ts
def tgsL : List Tg → List Nat
  | [] => []
  | t :: ts => tgs t ++ tgsL ts
end
def fit (m : Nat) (d : D) (n : Nat) : Bool := m == 0 || n == m || scal d
def compL (m : Nat) (f : D → Rs (Option (D × Nat))) : List D → Rs (List D)
  | [] => .ok []
  | d :: ds => (f d).bind fun o => match o with
    | none => compL m f ds
    | some (x, n) => if fit m x n then (compL m f ds).bind fun r => .ok (x :: r) else .bad
def boolR : D × Nat → Rs Bool
  | (.bl b, _) => .ok b
  | _ => .bad
def fldD (has : Nat → Nat → Bool) : D → Nat → Rs D
  | .obj c fs vs, j => if has c j then Rs.of ((fs.idxOf? j).bind fun k => vs[k]?) else .bad
  | .own c fs vs, j => if has c j then Rs.of ((fs.idxOf? j).bind fun k => vs[k]?) else .bad
  | _, _ => .bad
def clsD : D → Option Nat
  | .obj c _ _ => some c
  | .own c _ _ => some c
  | _ => none
def frzD : D → D
  | .own c fs vs => .obj c fs vs
  | d => d
mutual
def evE (ev : Ev) : E → List (Option D) → Rs (D × Nat)
  | .var i, r => match r[i]? with
    | some (some d) => .ok (d, 0)
    | _ => .bad
  | .non, _ => .ok (.non, 9)
  | .nop, _ => .bad
  | .bl b, _ => .ok (.bl b, 9)
  | .int i, _ => .ok (.int i, 9)
  | .str x, _ => .ok (.str x, 9)
  | .bin o a b, r => (evE ev a r).bind fun x => (evE ev b r).bind fun y => binD o x.1 y.1
  | .neg a, r => (evE ev a r).bind fun x => match x.1 with
    | .int i => .ok (.int (-i), 9)
    | _ => .bad
  | .inv a, r => (evE ev a r).bind fun x => match x.1 with
    | .int i => .ok (.int (Builtin.bitNot i), 9)
    | _ => .bad
  | .nt a, r => (evE ev a r).bind fun x => (boolR x).bind fun c => .ok (.bl (!c), 9)
  | .cmp o a b, r => (evE ev a r).bind fun x => (evE ev b r).bind fun y => (cmpB o x.1 y.1).bind fun c => .ok (.bl c, 9)
  | .chain o p a b c, r => (evE ev a r).bind fun x => (evE ev b r).bind fun y => (cmpB o x.1 y.1).bind fun k => if k = true then (evE ev c r).bind fun z => (cmpB p y.1 z.1).bind fun l => .ok (.bl l, 9) else .ok (.bl false, 9)
  | .andL es, r => (evAnd ev es r).bind fun c => .ok (.bl c, 9)
  | .orL es, r => (evOr ev es r).bind fun c => .ok (.bl c, 9)
  | .ite c a b, r => (evE ev c r).bind fun x => (boolR x).bind fun k => if k = true then evE ev a r else evE ev b r
  | .tup es, r => (evEs ev es r).bind fun ds => .ok (.tup ds, 9)
  | .lst es, r => (evEs ev es r).bind fun ds => .ok (.lst ds, 1)
  | .lsn m es, r => (evEn ev m es r).bind fun ds => .ok (.lst ds, m + 1)
  | .emp n, _ => .ok (.lst [], n + 1)
  | .dnew t n, _ => .ok (.dct t [] [], n + 1)
  | .idx a b, r => (evE ev a r).bind fun x => (evE ev b r).bind fun y => ixD x.1 y.1
  | .slc a l h, r => (evE ev a r).bind fun x => (match l with
      | .nop => Rs.ok none
      | _ => (evE ev l r).bind fun y => bndD y.1).bind fun lo => (match h with
      | .nop => Rs.ok none
      | _ => (evE ev h r).bind fun z => bndD z.1).bind fun hi => slD x.1 lo hi
  | .call f es, r => (evEs ev es r).bind fun ds => (ev.call f 0 ds).bind fun x => .ok (x.1, x.2.1)
  | .bi b es, r => (evEs ev es r).bind fun ds => biD b ds
  | .mth m a es, r => (evE ev a r).bind fun x => (evEs ev es r).bind fun ds => mtD m x.1 ds
  | .rng a b, r => (evE ev a r).bind fun x => (evE ev b r).bind fun y => match x.1, y.1 with
    | .int lo, .int hi => if rngOk lo hi then .ok (.lst (rngL lo hi), 1) else .bad
    | _, _ => .bad
  | .lrng a b, r => (evE ev a r).bind fun x => (evE ev b r).bind fun y => match x.1, y.1 with
    | .int lo, .int hi => if rngOk lo hi && decide ((hi - lo).toNat ≤ 1000000) then .ok (.lst (rngL lo hi), 1) else .bad
    | _, _ => .bad
  | .enm a, r => (evE ev a r).bind fun x => match x.1 with
    | .lst ds => .ok (.lst (enumL 0 ds), 0)
    | _ => .bad
  | .rvd a, r => (evE ev a r).bind fun x => match x.1 with
    | .lst ds => .ok (.lst ds.reverse, 0)
    | .tup ds => .ok (.lst ds.reverse, 0)
    | _ => .bad
  | .comp m t src cnd elt, r => (evE ev src r).bind fun s => (items s.1).bind fun ds => if ds.length ≤ lim then
      (compL m (fun d => (Rs.of (bindT t d r)).bind fun r' => (match cnd with
        | .nop => Rs.ok true
        | _ => (evE ev cnd r').bind boolR).bind fun b => if b = true then (evE ev elt r').bind fun x => .ok (some x) else .ok none) ds).bind fun out => .ok (.lst out, m + 1)
    else .bad
  | .fld a j, r => (evE ev a r).bind fun x => (fldD ev.has x.1 j).bind fun d => .ok (d, 0)
  | .mcall a m es, r => (evE ev a r).bind fun x => (evEs ev es r).bind fun ds => (Rs.of ((clsD x.1).bind fun c => ev.meth c m)).bind fun f => (ev.call f 0 (x.1 :: ds)).bind fun y => .ok (y.1, y.2.1)
  | .pget a m, r => (evE ev a r).bind fun x => (Rs.of ((clsD x.1).bind fun c => ev.prop c m)).bind fun f => (ev.call f 0 [x.1]).bind fun y => .ok (y.1, y.2.1)
  | .cv c j, _ => (Rs.of (ev.cval c j)).bind fun d => .ok (d, 9)
  | .make z c n es, r => (evEs ev es r).bind fun ds => (Rs.of (ev.init c)).bind fun f => (ev.call f (n + 1) (.own c [] [] :: ds)).bind fun y => match y.1 with
    | .non => if z then .ok (frzD y.2.2, 0) else .ok (y.2.2, n + 1)
    | _ => .bad
def evEs (ev : Ev) : Es → List (Option D) → Rs (List D)
  | .nil, _ => .ok []
  | .cons e es, r => (evE ev e r).bind fun x => (evEs ev es r).bind fun ds => .ok (x.1 :: ds)
/-- items that are owned, m deep -/
def evEn (ev : Ev) (m : Nat) : Es → List (Option D) → Rs (List D)
  | .nil, _ => .ok []
  | .cons e es, r => (evE ev e r).bind fun x => if fit m x.1 x.2 then (evEn ev m es r).bind fun ds => .ok (x.1 :: ds) else .bad
def evAnd (ev : Ev) : Es → List (Option D) → Rs Bool
  | .nil, _ => .ok true
  | .cons e es, r => (evE ev e r).bind fun x => (boolR x).bind fun c => if c = true then evAnd ev es r else .ok false
def evOr (ev : Ev) : Es → List (Option D) → Rs Bool
  | .nil, _ => .ok false
  | .cons e es, r => (evE ev e r).bind fun x => (boolR x).bind fun c => if c = true then .ok true else evOr ev es r
end
mutual
def vars : E → List Nat
  | .var i => [i]
  | .bin _ a b => vars a ++ vars b
  | .neg a => vars a
  | .inv a => vars a
  | .nt a => vars a
  | .cmp _ a b => vars a ++ vars b
  | .chain _ _ a b c => vars a ++ (vars b ++ vars c)
  | .andL es => varsL es
  | .orL es => varsL es
  | .ite c a b => vars c ++ (vars a ++ vars b)
  | .tup es => varsL es
  | .lst es => varsL es
  | .lsn _ es => varsL es
  | .idx a b => vars a ++ vars b
  | .slc a l h => vars a ++ (vars l ++ vars h)
  | .call _ es => varsL es
  | .bi _ es => varsL es
  | .mth _ a es => vars a ++ varsL es
  | .rng a b => vars a ++ vars b
  | .lrng a b => vars a ++ vars b
  | .enm a => vars a
  | .rvd a => vars a
  | .comp _ t src cnd elt => vars src ++ (vars cnd ++ vars elt)
  | .fld a _ => vars a
  | .mcall a _ es => vars a ++ varsL es
  | .pget a _ => vars a
  | .make _ _ _ es => varsL es
  | _ => []
def varsL : Es → List Nat
  | .nil => []
  | .cons e es => vars e ++ varsL es
end
end Hc
set_option Elab.async false
set_option linter.all false
set_option maxRecDepth 100000
set_option maxHeartbeats 4000000
/-! Which of the model's expressions one of ours stands for. -/
namespace Hc
open PySem PySem.Spec PyProof.Rows L2

structure Cc where
  N : List Str
  fname : Nat → Str
  cname : Nat → Str
  fnm : Nat → Str
  mnm : Nat → Str
  knm : Nat → Str

def vis (sc : Scope) (x : Str) : Bool := match sc.names.lookup x with
  | some .local => true
  | some .cell => true
  | some .free => true
  | _ => false
def loc (sc : Scope) (x : Str) : Bool := match sc.names.lookup x with
  | some .local => true
  | some .cell => true
  | _ => false
def glb (sc : Scope) (x : Str) : Bool := match sc.names.lookup x with
  | some .globalImplicit => true
  | _ => false
def isName (sc : Scope) (n : Str) : Expr → Bool
  | .Name x _ => decide (x = n) && glb sc n
  | _ => false
def boIs : Bo → Operator → Bool
  | .add, .Add => true
  | .sub, .Sub => true
  | .mul, .Mult => true
  | .fdiv, .FloorDiv => true
  | .mod, .Mod => true
  | .pow, .Pow => true
  | .shl, .LShift => true
  | .shr, .RShift => true
  | .band, .BitAnd => true
  | .bor, .BitOr => true
  | _, _ => false
def coIs : Co → CmpOp → Bool
  | .eq, .Eq => true
  | .ne, .NotEq => true
  | .lt, .Lt => true
  | .le, .LtE => true
  | .gt, .Gt => true
  | .ge, .GtE => true
  | .isin, .In => true
  | .nin, .NotIn => true
  | .is, .Is => true
  | .isn, .IsNot => true
  | _, _ => false
def sStr (x : String) : Str := Str.ofString x
def biNm : Bi → Str
  | .len => sStr "len" | .int => sStr "int" | .list => sStr "list" | .tuple => sStr "tuple" | .sorted _ => sStr "sorted" | .abs => sStr "abs"
  | .min => sStr "min" | .max => sStr "max" | .sum => sStr "sum" | .any => sStr "any" | .all => sStr "all" | .str => sStr "str"
  | .minL => sStr "min" | .maxL => sStr "max" | .dmaxL => sStr "max" | .isi _ => sStr "isinstance"
def bNames : List Str := ["len", "int", "list", "tuple", "sorted", "abs", "min", "max", "sum", "any", "all", "str", "range", "isinstance", "enumerate", "bool", "reversed", "set", "dict"].map sStr
def biOk : Bi → Bool
  | .sorted t => decide (td t ≤ 40)
  | _ => true
def noStar : Expr → Bool
  | .Starred _ _ => false
  | _ => true
/-- not a call without arguments -/
def nBase : Expr → Bool
  | .Call (.Name _ _) [] [] _ => false
  | _ => true
def ixPl : Expr → Bool
  | .Name _ _ => true
  | .Constant _ _ _ => true
  | .BinOp _ _ _ _ => true
  | .UnaryOp _ _ _ => true
  | .Call _ _ _ _ => true
  | .Subscript _ _ _ => true
  | .Tuple _ _ _ => true
  | .Attribute _ _ _ => true
  | _ => false
theorem ixPl_ok {b : Expr} (h : ixPl b = true) : PlainIx b := by
  cases b <;> first | (intro _ _; rfl) | cases h
def own (c : Cc) (t : Tg) : List (Str × Nat) := (tgs t).map fun i => (c.N.getD i Str.empty, i)
mutual
def cvT (c : Cc) (sc : Scope) : Tg → Expr → Bool
  | .nm i, .Name x _ => decide (c.N[i]? = some x) && loc sc x
  | .tp ts, .Tuple xs _ _ => cvTs c sc ts xs
  | _, _ => false
def cvTs (c : Cc) (sc : Scope) : List Tg → List Expr → Bool
  | [], [] => true
  | t :: ts, x :: xs => noStar x && cvT c sc t x && cvTs c sc ts xs
  | _, _ => false
end
/-- there is something -/
def nn : E → Bool
  | .nop => false
  | _ => true
def isTup : Expr → Bool
  | .Tuple _ _ _ => true
  | _ => false
def isiNm : Nat → Str
  | 0 => sStr "int"
  | 1 => sStr "str"
  | 2 => sStr "list"
  | 3 => sStr "tuple"
  | _ => sStr "bool"
mutual
/-- may stand as a test -/
def tst : E → Bool
  | .ite _ _ _ => false
  | .nt a => tst a
  | .andL es => tstL es
  | .orL es => tstL es
  | _ => true
def tstL : Es → Bool
  | .nil => true
  | .cons e es => tst e && tstL es
end
mutual
def cvE (c : Cc) (sc : Scope) : E → Expr → Bool
  | .var i, .Name x _ => decide (c.N[i]? = some x) && vis sc x && (x == (sStr "__debug__")) == false && (x == (sStr "__classdict__")) == false
  | .non, .Constant .none _ _ => true
  | .bl b, .Constant (.bool b') _ _ => decide (b' = b)
  | .int i, .Constant (.int j) _ _ => decide (j = i)
  | .str x, .Constant (.str y) _ _ => decide (y = x)
  | .bin o a b, .BinOp l op r _ => boIs o op && cvE c sc a l && cvE c sc b r
  | .neg a, .UnaryOp .USub x _ => cvE c sc a x
  | .inv a, .UnaryOp .Invert x _ => cvE c sc a x
  | .nt a, .UnaryOp .Not x _ => cvE c sc a x
  | .cmp o a b, .Compare l [op] [r] _ => coIs o op && cvE c sc a l && cvE c sc b r && (behindInMarks op r == false)
  | .chain o p a b d, .Compare l [op, op'] [m, r] _ => coIs o op && coIs p op' && cvE c sc a l && cvE c sc b m && cvE c sc d r && (lastMarks [op, op'] [m, r] == false)
  | .andL es, .BoolOp .And xs _ => !xs.isEmpty && cvEs c sc es xs
  | .orL es, .BoolOp .Or xs _ => !xs.isEmpty && cvEs c sc es xs
  | .ite t a b, .IfExp x y z _ => tst t && cvE c sc t x && cvE c sc a y && cvE c sc b z
  | .tup es, .Tuple xs _ _ => decide (xs.length ≤ 1000) && cvEs c sc es xs
  | .lst es, .List xs _ => decide (xs.length ≤ 1000) && cvEs c sc es xs
  | .lsn _ es, .List xs _ => decide (xs.length ≤ 1000) && cvEs c sc es xs
  | .emp _, .List [] _ => true
  | .dnew _ _, .Dict [] [] _ => true
  | .idx a b, .Subscript x y _ => ixPl y && cvE c sc a x && cvE c sc b y
  | .slc a l h, .Subscript x (.Slice lo hi none _) _ => cvE c sc a x && (match lo with
    | none => (match l with | .nop => true | _ => false)
    | some z => nn l && cvE c sc l z) && (match hi with
    | none => (match h with | .nop => true | _ => false)
    | some z => nn h && cvE c sc h z)
  | .call f es, .Call (.Name x _) (y :: ys) [] _ => decide (c.fname f = x) && !(x == Str.empty) && glb sc x && (x == (sStr "__debug__")) == false && cvEs c sc es (y :: ys)
  | .bi (.isi n) (.cons e .nil), .Call g [y, .Name t _] [] _ => isName sc (sStr "isinstance") g && decide (t = isiNm n) && glb sc t && noStar y && cvE c sc e y
  | .bi (.isi _) _, _ => false
  | .bi b es, .Call g (y :: ys) [] _ => biOk b && isName sc (biNm b) g && cvEs c sc es (y :: ys)
  | .lrng a b, .Call g [.Call g2 ys [] _] [] _ => isName sc (sStr "list") g && isName sc (sStr "range") g2 && (match ys with
    | [y] => (match a with | .int i => decide (i = 0) | _ => false) && noStar y && cvE c sc b y
    | [x, y] => noStar x && noStar y && cvE c sc a x && cvE c sc b y
    | _ => false)
  | .mth .bitlen a .nil, .Call (.Attribute o nm ap) [] [] cp => decide (nm = sStr "bit_length") && nBase o && (ap.endLine == cp.line) && cvE c sc a o
  | .fld a j, .Attribute x f _ => decide (c.fnm j = f) && nBase x && cvE c sc a x
  | .pget a m, .Attribute x f _ => decide (c.mnm m = f) && nBase x && cvE c sc a x
  | .cv cl j, .Attribute (.Name x _) f _ => decide (c.knm j = f) && decide (c.cname cl = x) && glb sc x && (x == (sStr "__debug__")) == false
  | .mcall a m es, .Call (.Attribute o nm ap) ys [] cp => decide (c.mnm m = nm) && nBase o && (ap.endLine == cp.line) && decide (ys.length < 20) && cvE c sc a o && cvEs c sc es ys
  | .make _ cl _ es, .Call (.Name x _) (y :: ys) [] _ => decide (c.cname cl = x) && glb sc x && (x == (sStr "__debug__")) == false && cvEs c sc es (y :: ys)
  | .comp _ t src cnd elt, .ListComp ex [⟨tg, it, ifs, 0⟩] scp _ => cvT c scp t tg && blkC c.N sc scp (own c t) && (match src with
      | .rng a b => (match it with
        | .Call g ys [] _ => isName sc (sStr "range") g && (match ys with
          | [y] => (match a with | .int i => decide (i = 0) | _ => false) && noStar y && cvE c sc b y
          | [x, y] => noStar x && noStar y && cvE c sc a x && cvE c sc b y
          | _ => false)
        | _ => false)
      | .enm a => (match isTup tg, it with
        | true, .Call g [y] [] _ => isName sc (sStr "enumerate") g && noStar y && cvE c sc a y
        | _, _ => false)
      | .rvd a => (match it with
        | .Call g [y] [] _ => isName sc (sStr "reversed") g && noStar y && cvE c sc a y
        | _ => false)
      | e => cvE c sc e it) && (match ifs with
      | [] => (match cnd with | .nop => true | _ => false)
      | [x] => nn cnd && tst cnd && cvE c (relS scp sc) cnd x
      | _ => false) && cvE c (relS scp sc) elt ex
  | _, _ => false
def cvEs (c : Cc) (sc : Scope) : Es → List Expr → Bool
  | .nil, [] => true
  | .cons e es, x :: xs => noStar x && cvE c sc e x && cvEs c sc es xs
  | _, _ => false
end
/-- what is walked (b: by a target of several names) -/
def cvS (c : Cc) (sc : Scope) (e : E) (b : Bool) (x : Expr) : Bool := match e with
  | .rng a b => (match x with
    | .Call g ys [] _ => isName sc (sStr "range") g && (match ys with
      | [y] => (match a with | .int i => decide (i = 0) | _ => false) && noStar y && cvE c sc b y
      | [x, y] => noStar x && noStar y && cvE c sc a x && cvE c sc b y
      | _ => false)
    | _ => false)
  | .enm a => (match b, x with
    | true, .Call g [y] [] _ => isName sc (sStr "enumerate") g && noStar y && cvE c sc a y
    | _, _ => false)
  | .rvd a => (match x with
    | .Call g [y] [] _ => isName sc (sStr "reversed") g && noStar y && cvE c sc a y
    | _ => false)
  | e => cvE c sc e x
end Hc
set_option Elab.async false
set_option linter.all false
set_option maxRecDepth 100000
set_option maxHeartbeats 4000000
/-! What an expression of ours computes is what the model's gives. -/
namespace Hc
open PySem PySem.Spec PyProof.Rows L2

abbrev Avd := Addr → Prop
/-- A and the places F -/
abbrev Avd.more (A : Avd) (F : List Addr) : Avd := fun b => A b ∨ b ∈ F
abbrev All (A : Avd) (H : Hp) : Prop := ∀ b, A b → H b ≠ none
abbrev Frs (F : List Addr) (H : Hp) : Prop := ∀ b ∈ F, H b = none

section
variable {T : Tab} {H H' : Hp} {A A' : Avd} {v w : V} {d e : D} {n m : Nat} {F G : List Addr} {vs ws : List V} {ds es : List D}

theorem Rep.same (r : Rep T H A v d n F) (s : Same H H') : Rep T H' A v d n F := r.keep (E := F) (fun _ h => h) fun b o h _ => s b o h
theorem RepL.same (r : RepL T H A vs ds n F) (s : Same H H') : RepL T H' A vs ds n F := r.keep (E := F) (fun _ h => h) fun b o h _ => s b o h
theorem Rep.low0 (r : Rep T H (A.more F) v d n F) (al : ∀ b ∈ F, ¬ A b) : Rep T H A v d 0 [] := r.low (fun b h => .inl h) al
theorem RepL.inv (r : RepL T H A (v :: vs) (d :: ds) n []) : Rep T H A v d n [] ∧ RepL T H A vs ds n [] := by
  generalize hF : ([] : List Addr) = F' at r
  cases r with
  | cons a b c =>
    obtain ⟨e1, e2⟩ := List.append_eq_nil_iff.mp hF.symm
    subst e1; subst e2
    exact ⟨a, b⟩
theorem RepL.mk (a : Rep T H A v d n []) (b : RepL T H A vs ds n []) : RepL T H A (v :: vs) (d :: ds) n [] := .cons (F := []) (G := []) a b fun _ h => absurd h (by simp)
theorem RepL.append (b : RepL T H A ws es n []) : ∀ {vs : List V} {ds : List D}, RepL T H A vs ds n [] → RepL T H A (vs ++ ws) (ds ++ es) n []
  | [], [], _ => b
  | [], _ :: _, r => nomatch r
  | _ :: _, [], r => nomatch r
  | _ :: _, _ :: _, r => .mk r.inv.1 (RepL.append b r.inv.2)
theorem RepL.get : ∀ {vs : List V} {ds : List D} {i : Nat} {d : D}, RepL T H A vs ds n [] → ds[i]? = some d → ∃ v, vs[i]? = some v ∧ Rep T H A v d n []
  | [], [], _, _, _, h => by simp at h
  | [], _ :: _, _, _, r, _ => nomatch r
  | _ :: _, [], _, _, r, _ => nomatch r
  | v :: _, _ :: _, 0, _, r, h => ⟨v, rfl, by simp at h; subst h; exact r.inv.1⟩
  | _ :: _, _ :: _, i + 1, _, r, h => RepL.get (i := i) r.inv.2 (by simpa using h)
theorem RepL.drop : ∀ {vs : List V} {ds : List D} (i : Nat), RepL T H A vs ds n [] → RepL T H A (vs.drop i) (ds.drop i) n []
  | _, _, 0, r => r
  | [], [], _ + 1, r => r
  | [], _ :: _, _, r => nomatch r
  | _ :: _, [], _, r => nomatch r
  | _ :: _, _ :: _, i + 1, r => RepL.drop i r.inv.2
theorem RepL.take : ∀ {vs : List V} {ds : List D} (i : Nat), RepL T H A vs ds n [] → RepL T H A (vs.take i) (ds.take i) n []
  | _, _, 0, r => .nil
  | [], [], _ + 1, r => r
  | [], _ :: _, _, r => nomatch r
  | _ :: _, [], _, r => nomatch r
  | _ :: _, _ :: _, i + 1, r => .mk r.inv.1 (RepL.take i r.inv.2)
theorem RepL.rep (r : RepL T H A vs ds n []) : ∀ k : Nat, RepL T H A (List.replicate k vs).flatten (List.replicate k ds).flatten n []
  | 0 => .nil
  | k + 1 => by
    rw [List.replicate_succ, List.replicate_succ, List.flatten_cons, List.flatten_cons]
    exact RepL.append (RepL.rep r k) r
theorem RepL.ints : ∀ ns : List Int, RepL T H A (ns.map V.int) (ns.map D.int) n []
  | [] => .nil
  | i :: ns => .mk .int (RepL.ints ns)
/-- one more at the end -/
theorem RepL.snoc : ∀ {vs : List V} {ds : List D} {F : List Addr}, RepL T H A vs ds n F → Rep T H A v d n G → (∀ b ∈ F, b ∉ G) → RepL T H A (vs ++ [v]) (ds ++ [d]) n (F ++ G)
  | [], [], _, r, q, _ => by
    cases r
    have := RepL.cons q (RepL.nil (T := T) (H := H) (A := A) (n := n)) fun _ _ z => absurd z (by simp)
    simpa using this
  | [], _ :: _, _, r, _, _ => nomatch r
  | _ :: _, [], _, r, _, _ => nomatch r
  | _ :: _, _ :: _, _, .cons a b c, q, dj => by
    have := RepL.snoc b q fun x hx => dj x (List.mem_append_right _ hx)
    rw [List.append_assoc]
    exact .cons a this fun x hx z => by
      rcases List.mem_append.mp z with z | z
      · exact c x hx z
      · exact dj x (List.mem_append_left _ hx) z
theorem same_new {p : Addr} {o : HO} (h : H p = none) : Same H (upd H p o) := fun b x e => by
  rw [upd_ne (ne_of_none e h)]
  exact e
end

/-! ### states -/
def ShOk (T : Tab) (H : Hp) (A : Avd) (r : List (Option D)) (σ : L2.St) (S : List Nat) : Prop := ∀ i ∈ S, ∀ d, r[i]? = some (some d) → ∃ v, σ[i]? = some (some v) ∧ Rep T H A v d 0 []
theorem ShOk.sub {T : Tab} {H : Hp} {A : Avd} {r : List (Option D)} {σ : L2.St} {S S' : List Nat} (h : ShOk T H A r σ S) (s : ∀ i ∈ S', i ∈ S) : ShOk T H A r σ S' := fun i hi => h i (s i hi)
theorem ShOk.same {T : Tab} {H H' : Hp} {A : Avd} {r : List (Option D)} {σ : L2.St} {S : List Nat} (h : ShOk T H A r σ S) (s : Same H H') : ShOk T H' A r σ S := fun i hi d e => by
  obtain ⟨v, h1, h2⟩ := h i hi d e
  exact ⟨v, h1, h2.same s⟩
theorem All.same {H H' : Hp} {A : Avd} (a : All A H) (s : Same H H') : All A H' := fun b h z => by
  cases q : H b with
  | none => exact a b h q
  | some o => rw [s b o q] at z; cases z
theorem All.not {H : Hp} {A : Avd} (a : All A H) {F : List Addr} (f : Frs F H) : ∀ b ∈ F, ¬ A b := fun b hb h => a b h (f b hb)

/-- what is told of a value that an expression gave -/
def Post (T : Tab) (A : Avd) (H : Hp) (d : D) (n : Nat) (Q : VK) : Prop := ∀ v H' F, Same H H' → Frs F H → Rep T H' (A.more F) v d n F → Q v H'
def tE (T : Tab) (ev : Ev) (e : E) : TE := fun σ H Q => ∃ A r d n, All A H ∧ ShOk T H A r σ (vars e) ∧ evE ev e r = .ok (d, n) ∧ Post T A H d n Q
/-- .. where nothing of it is kept as one's own -/
def PostS (T : Tab) (A : Avd) (H : Hp) (d : D) (Q : VK) : Prop := ∀ v H', Same H H' → Rep T H' A v d 0 [] → Q v H'
theorem PostS.post {T : Tab} {A : Avd} {H : Hp} {d : D} {n : Nat} {Q : VK} (al : All A H) (p : PostS T A H d Q) : Post T A H d n Q := fun v H' F s f r => p v H' s (r.low0 (al.not f))
theorem Post.later {T : Tab} {A : Avd} {H H1 : Hp} {d : D} {n : Nat} {Q : VK} (p : Post T A H d n Q) (s : Same H H1) : Post T A H1 d n Q := fun v H' F s' f r => p v H' F (s.trans s') (fun b hb => by
  cases q : H b with
  | none => rfl
  | some o => have := f b hb; rw [s b o q] at this; cases this) r
theorem Post.now {T : Tab} {A : Avd} {H : Hp} {d : D} {n : Nat} {Q : VK} {v : V} (p : Post T A H d n Q) (r : Rep T H A v d n []) : Q v H := p v H [] (Same.refl H) (fun b h => absurd h (by simp)) (r.avoid fun b _ h => by rcases h with h | h; exact h; simp at h)
theorem Post.int {T : Tab} {A : Avd} {H : Hp} {i : Int} {n : Nat} {Q : VK} (p : Post T A H (.int i) n Q) : Q (.int i) H := p.now .int
theorem Post.str {T : Tab} {A : Avd} {H : Hp} {i : Str} {n : Nat} {Q : VK} (p : Post T A H (.str i) n Q) : Q (.str i) H := p.now .str
theorem Post.bl {T : Tab} {A : Avd} {H : Hp} {i : Bool} {n : Nat} {Q : VK} (p : Post T A H (.bl i) n Q) : Q (.bl i) H := p.now .bl
theorem Post.non {T : Tab} {A : Avd} {H : Hp} {n : Nat} {Q : VK} (p : Post T A H .non n Q) : Q .non H := p.now .non
theorem more_new {H : Hp} {A : Avd} {q b : Addr} (h : H q = none) (hb : H b ≠ none) (z : (A.more [q]) b) : A b := by
  rcases z with z | z
  · exact z
  · rw [show b = q by simpa using z] at hb
    exact absurd h hb
/-- a new list -/
theorem Post.lst {T : Tab} {A : Avd} {H : Hp} {ds : List D} {vs : List V} {Q : VK} (p : Post T A H (.lst ds) 1 Q) (r : RepL T H A vs ds 0 []) {q : Addr} (h : H q = none) : Q (.ref q) (upd H q (.lst vs)) := by
  refine p _ _ [q] (same_new h) (fun b hb => by have e : b = q := by simpa using hb
                                                rw [e]; exact h) ?_
  refine .lstO upd_same (by simp) ?_
  exact (r.avoid fun b hb z => more_new h hb z).same (same_new h)
/-- a new tuple -/
theorem Post.tup {T : Tab} {A : Avd} {H : Hp} {ds : List D} {vs : List V} {n : Nat} {Q : VK} (p : Post T A H (.tup ds) n Q) (r : RepL T H A vs ds 0 []) {q : Addr} (h : H q = none) : Q (.ref q) (upd H q (.tup vs)) :=
  (p.later (same_new h)).now (.tup (SqT.of upd_same) (r.same (same_new h)))
theorem Post.dct {T : Tab} {A : Avd} {H : Hp} {n : Nat} {Q : VK} (p : Post T A H (.dct false [] []) (n + 1) Q) {q : Addr} (h : H q = none) : Q (.ref q) (upd H q (.dK [])) := by
  refine p _ _ [q] (same_new h) (fun b hb => by rw [show b = q by simpa using hb]; exact h) ?_
  exact .dctO (kvs := []) upd_same (by simp) .nil
theorem Post.dctT {T : Tab} {A : Avd} {H : Hp} {n : Nat} {Q : VK} (p : Post T A H (.dct true [] []) (n + 1) Q) {q : Addr} (h : H q = none) : Q (.ref q) (upd H q (.dT [])) := by
  refine p _ _ [q] (same_new h) (fun b hb => by rw [show b = q by simpa using hb]; exact h) ?_
  exact .dctTO (kvs := []) upd_same (by simp) .nil
theorem Post.emp {T : Tab} {A : Avd} {H : Hp} {n : Nat} {Q : VK} (p : Post T A H (.lst []) (n + 1) Q) {q : Addr} (h : H q = none) : Q (.ref q) (upd H q (.lst [])) := by
  refine p _ _ [q] (same_new h) (fun b hb => by rw [show b = q by simpa using hb]; exact h) ?_
  exact .lstO upd_same (by simp) .nil

/-! ### reps read -/
section
variable {T : Tab} {H : Hp} {A : Avd} {v : V} {n : Nat} {ds : List D}
theorem Rep.lst_inv (r : Rep T H A v (.lst ds) 0 []) : ∃ a vs, v = .ref a ∧ H a = some (.lst vs) ∧ ¬ A a ∧ RepL T H A vs ds 0 [] := by
  cases r with
  | lstS h n r => exact ⟨_, _, rfl, h, n, r⟩
theorem Rep.tup_inv (r : Rep T H A v (.tup ds) n []) : ∃ a vs, v = .ref a ∧ SqT T.K H a vs ∧ RepL T H A vs ds 0 [] := by
  cases r with
  | tup h r => exact ⟨_, _, rfl, h, r⟩
theorem Rep.int_inv {i : Int} {F : List Addr} (r : Rep T H A v (.int i) n F) : v = .int i := by cases r; rfl
theorem Rep.str_inv {i : Str} {F : List Addr} (r : Rep T H A v (.str i) n F) : v = .str i := by cases r; rfl
theorem Rep.bl_inv {i : Bool} {F : List Addr} (r : Rep T H A v (.bl i) n F) : v = .bl i := by cases r; rfl
theorem Rep.non_inv {F : List Addr} (r : Rep T H A v .non n F) : v = .non := by cases r; rfl
end

/-! ### the context -/
/-- a def's promise: what the call of it computes -/
def spG (T : Tab) (ev : Ev) (f : Nat) : Sp := fun vs H Q _ => ∃ (A : Avd) (n0 : Nat) (F0 : List Addr) (ds : List D) (d : D) (n : Nat) (x : D), All A H ∧ (∀ b ∈ F0, ¬ A b) ∧
  (match vs, ds with
    | [], [] => F0 = []
    | v0 :: vr, d0 :: dr => Rep T H (A.more F0) v0 d0 n0 F0 ∧ RepL T H (A.more F0) vr dr 0 []
    | _, _ => False) ∧
  ev.call f n0 ds = .ok (d, n, x) ∧
  ∀ v H' F F', (∀ b o, H b = some o → b ∉ F0 → H' b = some o) → (∀ b, H' b = none → H b = none) → Frs F H → (∀ b ∈ F', b ∈ F0 ∨ H b = none) → (∀ b ∈ F, b ∉ F') → Rep T H' ((A.more F').more F) v d n F →
    (∀ v0 vr, vs = v0 :: vr → Rep T H' ((A.more F').more F) v0 x n0 F') → Q v H'

/-- a def at g keeps it -/
structure FnAt (T : Tab) (ev : Ev) (k : Nat) (X : Cx) (g : Addr) (f : Nat) : Prop where
  ex : ∃ (fd : FuncData) (ps : List Str), Binds X.K fd ps [] ∧ FnOk X.prog X.w X.K X.mg X.base CX0 k g fd ps (spG T ev f)
structure FnHas (T : Tab) (ev : Ev) (k : Nat) (X : Cx) (x : Str) (f : Nat) : Prop where
  ex : ∃ (a : Addr) (fd : FuncData) (ps : List Str), X.mg x = some (.ref a) ∧ PySem.W.keepIn X.K (.ref a) = true ∧ Binds X.K fd ps [] ∧ FnOk X.prog X.w X.K X.mg X.base CX0 k a fd ps (spG T ev f)
structure Ctx (T : Tab) (c : Cc) (ev : Ev) (k : Nat) (X : Cx) : Prop where
  calm : X.calm = true
  nd : X.N.Nodup
  N : X.N = c.N
  K : X.K = T.K
  bn : ∀ x ∈ bNames, X.mg x = none
  room : Room (k + 1) X.A
  call : ∀ f, c.fname f ≠ Str.empty → FnHas T ev k X (c.fname f) f
  fnm : c.fnm = T.fnm
  cls : ∀ cl, cl < T.nc → Cls X.K (T.cls cl)
  noat : ∀ cl j, cl < T.nc → ev.has cl j = true → NoAttr X.K (T.cls cl) (T.fnm j)
  meth : ∀ cl m f, ev.meth cl m = some f → cl < T.nc ∧ (∀ j, T.fnm j ≠ c.mnm m) ∧ ∃ g, Meth X.K (T.cls cl) (c.mnm m) g ∧ FnAt T ev k X g f
  prop : ∀ cl m f, ev.prop cl m = some f → cl < T.nc ∧ ∃ p g, PropOf X.K (T.cls cl) (c.mnm m) p g ∧ FnAt T ev k X g f
  made : ∀ cl f, ev.init cl = some f → cl < T.nc ∧ X.mg (c.cname cl) = some (.ref (T.cls cl)) ∧ ∃ g, Mk X.K (T.cls cl) g ∧ FnAt T ev k X g f
  cval : ∀ cl j d, ev.cval cl j = some d → X.mg (c.cname cl) = some (.ref (T.cls cl)) ∧ ∃ mc v u, ClX.CRead X.K (T.cls cl) mc ∧ ClX.CVal X.K (T.cls cl) mc (c.knm j) v u ∧ PySem.W.keepIn X.K (.ref (T.cls cl)) = true ∧ ∀ H A m, Rep T H A v d m []
theorem Ctx.room' {T : Tab} {c : Cc} {ev : Ev} {k : Nat} {X : Cx} (C : Ctx T c ev k X) : Room k X.A := C.room.mono (Nat.le_succ _)
section
variable {T : Tab} {c : Cc} {ev : Ev} {k : Nat} {X : Cx}
theorem Ctx.vis (C : Ctx T c ev k X) {sc : Scope} {x : Str} (h : Hc.vis sc x = true) : Vis sc x := by
  unfold Hc.vis at h
  split at h
  · exact .inl (by assumption)
  · exact .inr (.inl (by assumption))
  · exact .inr (.inr (by assumption))
  · cases h
theorem Ctx.loc {sc : Scope} {x : Str} (h : Hc.loc sc x = true) : Loc sc x := by
  unfold Hc.loc at h
  split at h
  · exact .inl (by assumption)
  · exact .inr (by assumption)
  · cases h
/-- a name that this scope calls its own may be stored -/
def TOk (raw : Scope) (X : Cx) : Prop := ∀ x, Hc.loc raw x = true → Loc X.env.scope x ∧ (X.fn x = true ∨ X.env.scope.names.lookup x = some .local)
theorem Ctx.glb {x : Str} (h : Hc.glb X.env.scope x = true) : Gl X x := by
  unfold Hc.glb at h
  split at h
  · assumption
  · cases h
theorem isName_ok {n : Str} {g : Expr} (h : isName X.env.scope n g = true) : ∃ p, g = .Name n p ∧ Gl X n := by
  cases g with
  | Name x p =>
    simp only [isName, Bool.and_eq_true, decide_eq_true_eq] at h
    obtain ⟨e, h⟩ := h
    subst e
    exact ⟨p, rfl, Ctx.glb h⟩
  | _ => cases h
end

/-! ### argument lists -/
theorem star_cons {e : Expr} (h : noStar e = true) (es : List Expr) (env : Env) : starEach (e :: es) env = (false, eval e env) :: starEach es env := by
  cases e <;> first | rfl | cases h
theorem star_plain (pos : Pos) (env : Env) : ∀ es : List Expr, (∀ e ∈ es, noStar e = true) → (backTo pos (starEach es env)).any (·.1) = false
  | [], _ => rfl
  | e :: es, h => by
    rw [star_cons (h e List.mem_cons_self)]
    have ih := star_plain pos env es fun x hx => h x (List.mem_cons_of_mem _ hx)
    show (false || (backTo pos (starEach es env)).any (·.1)) = false
    rw [ih]; rfl
theorem cvEs_star {c : Cc} {sc : Scope} : ∀ {es : Es} {xs : List Expr}, cvEs c sc es xs = true → ∀ x ∈ xs, noStar x = true
  | .nil, [], _, x, hx => absurd hx (by simp)
  | .nil, _ :: _, h, _, _ => by simp [cvEs] at h
  | .cons _ _, [], h, _, _ => by simp [cvEs] at h
  | .cons e es, y :: ys, h, x, hx => by
    simp only [cvEs, Bool.and_eq_true] at h
    rcases List.mem_cons.mp hx with e | hx
    · rw [e]; exact h.1.1
    · exact cvEs_star h.2 x hx
def tEs (T : Tab) (ev : Ev) (es : Es) : TA := fun σ H Q => ∃ A r ds, All A H ∧ ShOk T H A r σ (varsL es) ∧ evEs ev es r = .ok ds ∧ ∀ vs H', Same H H' → RepL T H' A vs ds 0 [] → Q vs H'
end Hc
set_option Elab.async false
set_option linter.all false
set_option maxRecDepth 100000
set_option maxHeartbeats 4000000
/-! Names, constants, operators, comparisons. -/
namespace Hc
open PySem PySem.Spec PyProof.Rows L2

/-! ### two parts -/
theorem inL {a b : List Nat} : ∀ i ∈ a, i ∈ a ++ b := fun _ h => List.mem_append_left _ h
theorem inR {a b : List Nat} : ∀ i ∈ b, i ∈ a ++ b := fun _ h => List.mem_append_right _ h
section
variable {T : Tab} {ev : Ev} {A : Avd} {H : Hp} {r : List (Option D)} {σ : L2.St} {a b c : E} {da db dc : D} {na nb nc : Nat}
theorem rd1 {Q : VK} {S : List Nat} (al : All A H) (sh : ShOk T H A r σ S) (sa : ∀ i ∈ vars a, i ∈ S) (ea : evE ev a r = .ok (da, na)) (h : ∀ x H1, Same H H1 → Rep T H1 A x da 0 [] → Q x H1) : tE T ev a σ H Q :=
  ⟨A, r, da, na, al, sh.sub sa, ea, fun v H' F s f q => h v H' s (q.low0 (al.not f))⟩
theorem rd2 {R : V → V → Hp → Prop} {S : List Nat} (al : All A H) (sh : ShOk T H A r σ S) (sa : ∀ i ∈ vars a, i ∈ S) (sb : ∀ i ∈ vars b, i ∈ S) (ea : evE ev a r = .ok (da, na)) (eb : evE ev b r = .ok (db, nb))
    (h : ∀ x y H2, Same H H2 → Rep T H2 A x da 0 [] → Rep T H2 A y db 0 [] → R x y H2) : tE T ev a σ H fun x H1 => tE T ev b σ H1 fun y H2 => R x y H2 :=
  rd1 al sh sa ea fun x H1 s1 r1 => rd1 (al.same s1) (sh.same s1) sb eb fun y H2 s2 r2 => h x y H2 (s1.trans s2) (r1.same s2) r2
end
section
variable {T : Tab} {ev : Ev} {X : Cx} {x y z : Expr} {a b c : E} {pos : Pos}

theorem e_const {v : V} {d : D} {n : Nat} {e : E} (h : PE X x (tC v)) (ee : ∀ r, evE ev e r = .ok (d, n)) (q : ∀ A H m, Rep T H A v d m []) : PE X x (tE T ev e) := ⟨fun pins s σ H Q I w => by
  obtain ⟨A, r, d', n', al, sh, e1, p⟩ := w
  rw [ee] at e1
  cases e1
  exact h.run pins s σ H Q I (p.now (q A H _))⟩
theorem e_var {i : Nat} {nm : Str} (hN : X.N[i]? = some nm) (hv : Vis X.env.scope nm) (h1 : (nm == ("__debug__" : Str)) = false) (h2 : (nm == ("__classdict__" : Str)) = false) : PE X (.Name nm pos) (tE T ev (.var i)) := ⟨fun pins s σ H Q I w => by
  obtain ⟨A, r, d, n, al, sh, e1, p⟩ := w
  rw [evE] at e1
  split at e1
  · rename_i d' hd
    cases e1
    obtain ⟨v, hv', rp⟩ := sh i (by simp [vars]) _ hd
    exact (pe_var hN hv h1 h2).run pins s σ H Q I ⟨v, hv', p.now rp⟩
  · cases e1⟩

/-! ### operators -/
def CSm (i j : Int) : Prop := sm i = true ∨ sm j = true
theorem sm_bits {i : Int} (h : sm i = true) : Builtin.Int.intBits i ≤ 64 := by
  simp only [sm, Bool.and_eq_true, decide_eq_true_eq] at h
  exact intBits_le_64 h.1 h.2
theorem op_mulS : OpR X (binaryOp .Mult) (rI CSm fun i j => .int (i * j)) := opI fun _ _ _ _ _ _ _ hc q => mul_int q (by
  rcases hc with h | h
  · exact .of_left (sm_bits h)
  · exact .of_right (sm_bits h))
def rBin (K : PySem.W.Frag) : Bo → R2
  | .add => fun x y H Q => ((rI0 fun i j => .int (i + j)) x y H Q ∨ ∃ i j, x = .str i ∧ y = .str j ∧ i.length + j.length ≤ sizeLine ∧ Q (.str (i ++ j)) H) ∨ (rCat x y H Q ∨ rCatA K x y H Q)
  | .sub => rI0 fun i j => .int (i - j)
  | .mul => fun x y H Q => (rI CSm fun i j => .int (i * j)) x y H Q ∨ rRep x y H Q
  | .fdiv => rI CDivN fun i j => .int (i.fdiv j)
  | .mod => rI (fun _ j => 0 < j) fun i j => .int (i % j)
  | .pow => rI CPow fun i j => .int (i ^ j.toNat)
  | .shl => rI CPow fun i j => .int (i * 2 ^ j.toNat)
  | .shr => rI (fun _ j => 0 ≤ j) fun i j => .int (i / 2 ^ j.toNat)
  | .band => rI0 fun i j => .int (Builtin.bitAnd i j)
  | .bor => rI0 fun i j => .int (Builtin.bitOr i j)
theorem rBin_ok {o : Bo} {op : Operator} (h : boIs o op = true) : OpR X (binaryOp op) (rBin X.K o) := by
  cases o <;> cases op <;> first | (simp [boIs] at h; done) | skip
  · exact (op_add.or op_add_str).or (op_cat.or op_catA)
  · exact op_sub
  · exact op_mulS.or op_rep
  · exact op_fdivN
  · exact op_mod
  · exact op_pow
  · exact op_shl
  · exact op_shr
  · exact op_and
  · exact op_or
theorem lim_le {n : Nat} (h : n ≤ lim) : n ≤ sizeLine := Nat.le_trans h (by decide)
theorem sm_pow {i : Int} (h : sm i = true) : i.natAbs < 2 ^ 64 := by
  simp only [sm, Bool.and_eq_true, decide_eq_true_eq] at h
  omega
theorem rBin_do {K : PySem.W.Frag} {o : Bo} {da db d : D} {n : Nat} {A : Avd} {H : Hp} {v w : V} {Q : VK} (tk : T.K = K) (al : All A H) (ra : Rep T H A v da 0 []) (rb : Rep T H A w db 0 []) (e : binD o da db = .ok (d, n)) (p : Post T A H d n Q) : rBin K o v w H Q := by
  subst tk
  unfold binD at e
  split at e <;> (first | (cases e; done) | skip)
  · cases e; exact .inl (.inl ⟨_, _, ra.int_inv, rb.int_inv, p.int⟩)
  · split at e
    · cases e; exact .inl (.inr ⟨_, _, ra.str_inv, rb.str_inv, lim_le (by assumption), p.str⟩)
    · cases e
  · split at e
    · cases e
      obtain ⟨a1, v1, e1, h1, _, r1⟩ := ra.lst_inv
      obtain ⟨a2, v2, e2, h2, _, r2⟩ := rb.lst_inv
      exact .inr (.inl ⟨a1, a2, v1, v2, e1, e2, h1, h2, by rw [r1.length, r2.length]; exact lim_le (by assumption), fun q hq => p.lst (RepL.append r2 r1) hq⟩)
    · cases e
  · split at e
    · cases e
      obtain ⟨a1, v1, e1, h1, r1⟩ := ra.tup_inv
      obtain ⟨a2, v2, e2, h2, r2⟩ := rb.tup_inv
      refine .inr (.inr ⟨a1, a2, v1, v2, e1, e2, h1, h2, by rw [r1.length, r2.length]; exact lim_le (by assumption), fun z => ?_, fun _ z => ?_, fun _ _ q hq => p.tup (RepL.append r2 r1) hq⟩)
      · subst z
        cases r1
        rw [← e2]
        refine p.now ?_
        rw [e2]
        exact .tup h2 r2
      · subst z
        cases r2
        rw [← e1]
        refine p.now ?_
        rw [e1, List.append_nil]
        exact .tup h1 r1
    · cases e
  · cases e; exact ⟨_, _, ra.int_inv, rb.int_inv, p.int⟩
  · split at e
    · rename_i h
      cases e; exact .inl ⟨_, _, ra.int_inv, rb.int_inv, by simpa [CSm] using h, p.int⟩
    · cases e
  · split at e
    · rename_i h
      simp only [Bool.and_eq_true, decide_eq_true_eq] at h
      cases e
      obtain ⟨a1, v1, e1, h1, _, r1⟩ := ra.lst_inv
      exact .inr ⟨a1, _, v1, e1, rb.int_inv, h1, by omega, by omega, by rw [r1.length]; exact lim_le h.2, fun q hq => p.lst (RepL.rep r1 _) hq⟩
    · cases e
  · split at e
    · rename_i i j h
      simp only [Bool.and_eq_true, decide_eq_true_eq] at h
      cases e
      refine ⟨_, _, ra.int_inv, rb.int_inv, ⟨by omega, by omega⟩, ?_⟩
      show Q (V.int (i.fdiv j)) H
      rw [Int.fdiv_eq_ediv_of_nonneg i (show 0 ≤ j by omega)]
      exact p.int
    · cases e
  · split at e
    · cases e; exact ⟨_, _, ra.int_inv, rb.int_inv, by assumption, p.int⟩
    · cases e
  · split at e
    · rename_i h
      simp only [Bool.and_eq_true, decide_eq_true_eq] at h
      cases e; exact ⟨_, _, ra.int_inv, rb.int_inv, ⟨h.1.1, h.1.2, sm_pow h.2⟩, p.int⟩
    · cases e
  · split at e
    · rename_i h
      simp only [Bool.and_eq_true, decide_eq_true_eq] at h
      cases e; exact ⟨_, _, ra.int_inv, rb.int_inv, ⟨h.1.1, h.1.2, sm_pow h.2⟩, p.int⟩
    · cases e
  · split at e
    · cases e; exact ⟨_, _, ra.int_inv, rb.int_inv, by assumption, p.int⟩
    · cases e
  · cases e; exact ⟨_, _, ra.int_inv, rb.int_inv, p.int⟩
  · cases e; exact ⟨_, _, ra.int_inv, rb.int_inv, p.int⟩
theorem e_bin {o : Bo} {op : Operator} (tk : X.K = T.K) (ho : boIs o op = true) (ha : PE X x (tE T ev a)) (hb : PE X y (tE T ev b)) : PE X (.BinOp x op y pos) (tE T ev (.bin o a b)) := ⟨fun pins s σ H Q I w => by
  obtain ⟨A, r, d, n, al, sh, e1, p⟩ := w
  rw [evE] at e1
  obtain ⟨⟨da, na⟩, ea, e1⟩ := Rs.bind_ok e1
  obtain ⟨⟨db, nb⟩, eb, e1⟩ := Rs.bind_ok e1
  refine (pe_op (rBin_ok ho) ha hb).run pins s σ H Q I ?_
  exact rd2 al sh inL inR ea eb fun v w H2 s2 r1 r2 => rBin_do tk.symm (al.same s2) r1 r2 e1 (p.later s2)⟩
theorem e_neg (ha : PE X x (tE T ev a)) : PE X (.UnaryOp .USub x pos) (tE T ev (.neg a)) := ⟨fun pins s σ H Q I w => by
  obtain ⟨A, r, d, n, al, sh, e1, p⟩ := w
  rw [evE] at e1
  obtain ⟨⟨da, na⟩, ea, e1⟩ := Rs.bind_ok e1
  dsimp only at e1
  split at e1
  · cases e1
    exact (pe_un un_neg ha).run pins s σ H Q I (rd1 al sh (fun _ h => h) ea fun v H2 s2 r1 => ⟨_, r1.int_inv, (p.later s2).int⟩)
  · cases e1⟩
theorem e_inv (ha : PE X x (tE T ev a)) : PE X (.UnaryOp .Invert x pos) (tE T ev (.inv a)) := ⟨fun pins s σ H Q I w => by
  obtain ⟨A, r, d, n, al, sh, e1, p⟩ := w
  rw [evE] at e1
  obtain ⟨⟨da, na⟩, ea, e1⟩ := Rs.bind_ok e1
  dsimp only at e1
  split at e1
  · cases e1
    exact (pe_un un_inv ha).run pins s σ H Q I (rd1 al sh (fun _ h => h) ea fun v H2 s2 r1 => ⟨_, r1.int_inv, (p.later s2).int⟩)
  · cases e1⟩
theorem boolR_ok {x : D × Nat} {c : Bool} (h : boolR x = .ok c) : x.1 = .bl c := by
  unfold boolR at h
  split at h <;> cases h
  rfl
theorem e_nt (ha : PE X x (tE T ev a)) : PE X (.UnaryOp .Not x pos) (tE T ev (.nt a)) := ⟨fun pins s σ H Q I w => by
  obtain ⟨A, r, d, n, al, sh, e1, p⟩ := w
  rw [evE] at e1
  obtain ⟨⟨da, na⟩, ea, e1⟩ := Rs.bind_ok e1
  obtain ⟨k, ek, e1⟩ := Rs.bind_ok e1
  cases boolR_ok ek
  cases e1
  exact (pe_not ha).run pins s σ H Q I (rd1 al sh (fun _ h => h) ea fun v H2 s2 r1 => ⟨_, r1.bl_inv, (p.later s2).bl⟩)⟩

/-! ### comparisons -/
theorem is_bool {v : Value} {b : Bool} {x : V} (r : RelV x v) : (v == Value.bool b) = decide (x = .bl b) := by
  cases x with
  | non => cases r; rfl
  | bl c => cases r; cases b <;> cases c <;> rfl
  | int _ => obtain ⟨t, rfl⟩ := r; rfl
  | str _ => obtain ⟨t, rfl⟩ := r; rfl
  | byt _ => obtain ⟨t, rfl⟩ := r; rfl
  | flt _ => obtain ⟨t, rfl⟩ := r; rfl
  | ref _ => cases r; rfl
  | ty _ => cases r; rfl
theorem is_bool_gen {M : Model} {B : Around} {F : Value → Shared → Prop} {Q : Value → Shared → Prop} {s : Shared} {x : V} {v : Value} {b : Bool} (r : RelV x v) (h : Q (.bool (v == .bool b)) s) : wpAny M B (compareOp .Is v (.bool b)) Q F s := by
  cases x <;> first | (cases r; exact wpAny_pure h) | (obtain ⟨t, rfl⟩ := r; exact wpAny_pure h)
theorem isn_bool_gen {M : Model} {B : Around} {F : Value → Shared → Prop} {Q : Value → Shared → Prop} {s : Shared} {x : V} {v : Value} {b : Bool} (r : RelV x v) (h : Q (.bool (!(v == .bool b))) s) : wpAny M B (compareOp .IsNot v (.bool b)) Q F s := by
  cases x <;> first | (cases r; exact wpAny_pure h) | (obtain ⟨t, rfl⟩ := r; exact wpAny_pure h)
/-- x is None, x is True, x is False -/
def rIs (neg : Bool) : R2 := fun v w H Q => (w = .non ∨ ∃ b, w = .bl b) ∧ Q (.bl (if neg then !decide (v = w) else decide (v = w))) H
theorem rIs_ok : OpR X (compareOp .Is) (rIs false) := by
  intro pins s σ H x y v u Q I rx ry h
  obtain ⟨hy, q⟩ := h
  rcases hy with rfl | ⟨b, rfl⟩
  · cases ry
    exact is_none_gen ⟨_, H, I, by rw [rx.none_iff]; rfl, q⟩
  · cases ry
    exact is_bool_gen rx ⟨_, H, I, by rw [is_bool rx]; rfl, q⟩
theorem rIsn_ok : OpR X (compareOp .IsNot) (rIs true) := by
  intro pins s σ H x y v u Q I rx ry h
  obtain ⟨hy, q⟩ := h
  rcases hy with rfl | ⟨b, rfl⟩
  · cases ry
    exact isnot_none_gen ⟨_, H, I, by rw [rx.none_iff]; rfl, q⟩
  · cases ry
    exact isn_bool_gen rx ⟨_, H, I, by rw [is_bool rx]; rfl, q⟩
theorem isR_ok {A : Avd} {H : Hp} {v w : V} {da db : D} {n m : Nat} {F G : List Addr} {k : Bool} (ra : Rep T H A v da n F) (rb : Rep T H A w db m G) (e : isR da db = .ok k) : (w = .non ∨ ∃ b, w = .bl b) ∧ decide (v = w) = k := by
  unfold isR at e
  split at e
  · cases e
    cases rb
    refine ⟨.inl rfl, ?_⟩
    cases ra <;> rfl
  · cases e
    cases rb
    refine ⟨.inr ⟨_, rfl⟩, ?_⟩
    cases ra with
    | bl => rename_i b c; cases b <;> cases c <;> rfl
    | _ => rfl
  · cases e

/-! data -/
mutual
theorem Rep.dp {H : Hp} {A : Avd} {k : Nat} : ∀ {v : V} {d : D} {n : Nat} {F : List Addr}, Rep T H A v d n F → okN k d = true → Dp T.K H v (toPy d) ∧ PyData.plain (toPy d) = true ∧ (toPy d).depth ≤ k
  | _, _, _, _, .non, _ => ⟨by rw [toPy]; exact .non, by simp [toPy, PyData.plain], by simp [toPy, PyData.depth]⟩
  | _, _, _, _, .bl, _ => ⟨by rw [toPy]; exact .bl _, by simp [toPy, PyData.plain], by simp [toPy, PyData.depth]⟩
  | _, _, _, _, .int, _ => ⟨by rw [toPy]; exact .int _, by simp [toPy, PyData.plain], by simp [toPy, PyData.depth]⟩
  | _, _, _, _, .str, _ => ⟨by rw [toPy]; exact .str _, by simp [toPy, PyData.plain], by simp [toPy, PyData.depth]⟩
  | _, _, _, _, .scr _ _, h => by cases k <;> simp [okN] at h
  | _, _, _, _, .tup (ds := ds) h r, o => by
    cases k with
    | zero => simp [okN] at o
    | succ k =>
      have o' : ∀ d ∈ ds, okN k d = true := by simpa [okN] using o
      obtain ⟨h1, h2, h3⟩ := RepL.dp r o'
      rw [toPy]
      exact ⟨.tup h h1, by simpa [PyData.plain] using h2, by simp only [PyData.depth]; omega⟩
  | _, _, _, _, .lstS (ds := ds) h _ r, o => by
    cases k with
    | zero => simp [okN] at o
    | succ k =>
      have o' : ∀ d ∈ ds, okN k d = true := by simpa [okN] using o
      obtain ⟨h1, h2, h3⟩ := RepL.dp r o'
      rw [toPy]
      exact ⟨.lst (SqL.of h) h1, by simpa [PyData.plain] using h2, by simp only [PyData.depth]; omega⟩
  | _, _, _, _, .lstO (ds := ds) h _ r, o => by
    cases k with
    | zero => simp [okN] at o
    | succ k =>
      have o' : ∀ d ∈ ds, okN k d = true := by simpa [okN] using o
      obtain ⟨h1, h2, h3⟩ := RepL.dp r o'
      rw [toPy]
      exact ⟨.lst (SqL.of h) h1, by simpa [PyData.plain] using h2, by simp only [PyData.depth]; omega⟩
  | _, _, _, _, .dctS _ _ _, h => by cases k <;> simp [okN] at h
  | _, _, _, _, .dctO _ _ _, h => by cases k <;> simp [okN] at h
  | _, _, _, _, .dctTS _ _ _, h => by cases k <;> simp [okN] at h
  | _, _, _, _, .dctTO _ _ _, h => by cases k <;> simp [okN] at h
  | _, _, _, _, .objS _ _ _ _, h => by cases k <;> simp [okN] at h
  | _, _, _, _, .ownS _ _ _ _, h => by cases k <;> simp [okN] at h
  | _, _, _, _, .ownO _ _ _ _, h => by cases k <;> simp [okN] at h
theorem RepL.dp {H : Hp} {A : Avd} {k : Nat} : ∀ {v : List V} {d : List D} {n : Nat} {F : List Addr}, RepL T H A v d n F → (∀ x ∈ d, okN k x = true) → DpAll T.K H v (toPyL d) ∧ PyData.plainAll (toPyL d) = true ∧ PyData.depthAll (toPyL d) ≤ k
  | _, _, _, _, .nil, _ => ⟨by rw [toPyL]; exact .nil, by simp [toPyL, PyData.plainAll], by simp [toPyL, PyData.depthAll]⟩
  | _, _, _, _, .cons r rs _, o => by
    obtain ⟨a1, a2, a3⟩ := Rep.dp r (o _ List.mem_cons_self)
    obtain ⟨b1, b2, b3⟩ := RepL.dp rs fun x hx => o x (List.mem_cons_of_mem _ hx)
    rw [toPyL]
    exact ⟨.cons a1 b1, by simp [PyData.plainAll, a2, b2], by simp only [PyData.depthAll]; omega⟩
end
end
end Hc
set_option Elab.async false
set_option linter.all false
set_option maxRecDepth 100000
set_option maxHeartbeats 4000000
/-! Comparisons, tests, displays, subscripts. -/
namespace Hc
open PySem PySem.Spec PyProof.Rows L2
section
variable {T : Tab} {ev : Ev} {X : Cx} {x y z : Expr} {a b c : E} {pos : Pos}

def rEqP (K : PySem.W.Frag) (neg : Bool) : R2 := fun x y H Q => ∃ d e, Dp K H x d ∧ Dp K H y e ∧ d.plain = true ∧ e.plain = true ∧ d.depth ≤ 40 ∧ e.depth ≤ 40 ∧ Q (.bl (if neg then !PyData.eqv d e else PyData.eqv d e)) H
theorem rEqP_ok (hu : X.A.units + 64 < cLine) : OpR X (compareOp .Eq) (rEqP X.K false) := by
  intro pins s σ H x y v u Q I rx ry h
  obtain ⟨d, e, hd, he, sd, se, ld, le, q⟩ := h
  obtain ⟨as, r1⟩ := Dp.reads I d x v hd rx
  obtain ⟨bs, r2⟩ := Dp.reads I e y u he ry
  have hm : min d.depth e.depth ≤ d.depth := Nat.min_le_left _ _
  exact SeqAt.eq_plain r1 r2 sd se (by omega) ⟨.bl _, H, I, rfl, q⟩
theorem rNeP_ok (hu : X.A.units + 64 < cLine) : OpR X (compareOp .NotEq) (rEqP X.K true) := by
  intro pins s σ H x y v u Q I rx ry h
  obtain ⟨d, e, hd, he, sd, se, ld, le, q⟩ := h
  obtain ⟨as, r1⟩ := Dp.reads I d x v hd rx
  obtain ⟨bs, r2⟩ := Dp.reads I e y u he ry
  have hm : min d.depth e.depth ≤ d.depth := Nat.min_le_left _ _
  exact SeqAt.ne_plain r1 r2 sd se (by omega) ⟨.bl _, H, I, rfl, q⟩
def rInP (K : PySem.W.Frag) (neg : Bool) : R2 := fun x y H Q => ∃ d ds, Dp K H x d ∧ (Dp K H y (.list ds) ∨ Dp K H y (.tuple ds)) ∧ d.plain = true ∧ PyData.plainAll ds = true ∧ d.depth ≤ 40 ∧ Q (.bl (if neg then !(ds.any fun z => PyData.eqv z d) else ds.any fun z => PyData.eqv z d)) H
theorem rInP_ok (hu : X.A.units + 64 < cLine) : OpR X (compareOp .In) (rInP X.K false) := by
  intro pins s σ H x y v u Q I rx ry h
  obtain ⟨d, ds, hd, he, sd, se, ld, q⟩ := h
  obtain ⟨as, r1⟩ := Dp.reads I d x v hd rx
  have hm : min (PyData.depthAll ds) d.depth ≤ d.depth := Nat.min_le_right _ _
  rcases he with he | he
  · obtain ⟨bs, r2⟩ := Dp.reads I _ y u he ry
    exact SeqAt.in_list_data r2 r1 se sd (by omega) ⟨.bl _, H, I, rfl, q⟩
  · obtain ⟨bs, r2⟩ := Dp.reads I _ y u he ry
    exact SeqAt.in_tuple_data r2 r1 se sd (by omega) ⟨.bl _, H, I, rfl, q⟩
theorem rNinP_ok (hu : X.A.units + 64 < cLine) : OpR X (compareOp .NotIn) (rInP X.K true) := by
  intro pins s σ H x y v u Q I rx ry h
  obtain ⟨d, ds, hd, he, sd, se, ld, q⟩ := h
  obtain ⟨as, r1⟩ := Dp.reads I d x v hd rx
  have hm : min (PyData.depthAll ds) d.depth ≤ d.depth := Nat.min_le_right _ _
  rcases he with he | he
  · obtain ⟨bs, r2⟩ := Dp.reads I _ y u he ry
    exact SeqAt.notIn_list_data r2 r1 se sd (by omega) ⟨.bl _, H, I, rfl, q⟩
  · obtain ⟨bs, r2⟩ := Dp.reads I _ y u he ry
    exact SeqAt.notIn_tuple_data r2 r1 se sd (by omega) ⟨.bl _, H, I, rfl, q⟩
/-- a sign in a text -/
def rInC (neg : Bool) : R2 := fun x y H Q => ∃ (c : Nat) (z : Str), x = .str ⟨#[c]⟩ ∧ y = .str z ∧ Q (.bl (if neg then !decide (c ∈ z.cps.toList) else decide (c ∈ z.cps.toList))) H
def rOrd (f : Int → Int → Bool) (g : List Nat → List Nat → Bool) : R2 := fun x y H Q => (∃ i j, x = .int i ∧ y = .int j ∧ Q (.bl (f i j)) H) ∨ ∃ i j, x = .str i ∧ y = .str j ∧ Q (.bl (g i.cps.toList j.cps.toList)) H
def rInD (neg : Bool) : R2 := fun x y H Q => ∃ (a : Addr) (o : Option V), y = .ref a ∧ DGet H a x o ∧ Q (.bl (if neg then !o.isSome else o.isSome)) H
theorem rInD_ok (hu : X.A.units + 64 < cLine) : OpR X (compareOp .In) (rInD false) := by
  intro pins s σ H x y v u Q I rx ry h
  obtain ⟨a, o, rfl, g, q⟩ := h
  cases ry
  exact d_in (by omega) I g rx fun s' I' => ⟨.bl _, H, I', rfl, q⟩
theorem rNinD_ok (hu : X.A.units + 64 < cLine) : OpR X (compareOp .NotIn) (rInD true) := by
  intro pins s σ H x y v u Q I rx ry h
  obtain ⟨a, o, rfl, g, q⟩ := h
  cases ry
  exact d_notIn (by omega) I g rx fun s' I' => ⟨.bl _, H, I', rfl, q⟩
theorem keyOf_keyD (k : Key) : keyOf (keyD k) = some k := by cases k <;> rfl
theorem keyOf_rep {A : Avd} {H : Hp} {v : V} {d : D} {n : Nat} {F : List Addr} {k : Key} (r : Rep T H A v d n F) (h : keyOf d = some k) : v = kV k := by
  cases d <;> (first | (cases h; done) | skip)
  · cases h; exact r.int_inv
  · cases h; exact r.str_inv
theorem valV_ki (k : Key) : ∀ kvs : List (Key × V), valV kvs k = (ki k (kvs.map fun p => keyD p.1)).bind fun j => (kvs.map (·.2))[j]?
  | [] => rfl
  | p :: r => by
    by_cases e : p.1 = k
    · rw [valV_pos e, List.map_cons, ki, if_pos (by rw [keyOf_keyD, e])]
      rfl
    · rw [valV_neg e, valV_ki k r, List.map_cons, ki, if_neg (by rw [keyOf_keyD]; exact fun z => e (Option.some.inj z))]
      cases ki k (r.map fun p => keyD p.1) <;> rfl
theorem ki_lt (k : Key) : ∀ {ks : List D} {j : Nat}, ki k ks = some j → j < ks.length
  | [], _, h => by cases h
  | d :: ds, j, h => by
    rw [ki] at h
    split at h
    · cases h; simp
    · obtain ⟨i, h1, rfl⟩ := Option.map_eq_some_iff.mp h
      have := ki_lt k h1
      simp; omega
theorem valV_some (k : Key) (kvs : List (Key × V)) : (valV kvs k).isSome = (ki k (kvs.map fun p => keyD p.1)).isSome := by
  rw [valV_ki]
  cases h : ki k (kvs.map fun p => keyD p.1) with
  | none => rfl
  | some j =>
    have hj : j < kvs.length := by simpa using ki_lt k h
    simp [hj]
theorem Rep.dct_inv {A : Avd} {H : Hp} {v : V} {ks ds : List D} (r : Rep T H A v (.dct false ks ds) 0 []) : ∃ a kvs, v = .ref a ∧ H a = some (.dK kvs) ∧ ks = kvs.map (fun p => keyD p.1) ∧ RepL T H A (kvs.map (·.2)) ds 0 [] := by
  cases r with
  | dctS h n r => exact ⟨_, _, rfl, h, rfl, r⟩
/-- a comparison with its answer -/
def rCmp (K : PySem.W.Frag) : Co → R2
  | .eq => fun x y H Q => rEqP K false x y H Q
  | .ne => fun x y H Q => rEqP K true x y H Q
  | .lt => rOrd (fun i j => decide (i < j)) (fun x y => decide (x < y))
  | .le => rOrd (fun i j => decide (i ≤ j)) (fun x y => !decide (y < x))
  | .gt => rOrd (fun i j => decide (j < i)) (fun x y => decide (y < x))
  | .ge => rOrd (fun i j => decide (j ≤ i)) (fun x y => !decide (x < y))
  | .isin => fun x y H Q => rInP K false x y H Q ∨ (rInC false x y H Q ∨ rInD false x y H Q)
  | .nin => fun x y H Q => rInP K true x y H Q ∨ (rInC true x y H Q ∨ rInD true x y H Q)
  | .is => rIs false
  | .isn => rIs true
theorem rCmp_ok {o : Co} {op : CmpOp} (hu : X.A.units + 64 < cLine) (h : coIs o op = true) : OpR X (compareOp op) (rCmp X.K o) := by
  cases o <;> cases op <;> first | (simp [coIs] at h; done) | skip
  · exact rEqP_ok hu
  · exact rNeP_ok hu
  · exact op_lt.or op_lt_str
  · exact op_le.or op_le_str
  · exact op_gt.or op_gt_str
  · exact op_ge.or op_ge_str
  · exact (rInP_ok hu).or (op_in_sign.or (rInD_ok hu))
  · exact (rNinP_ok hu).or (op_notIn_sign.or (rNinD_ok hu))
  · exact rIs_ok
  · exact rIsn_ok
theorem eqR_ok {A : Avd} {H : Hp} {v w : V} {da db : D} {k : Bool} (ra : Rep T H A v da 0 []) (rb : Rep T H A w db 0 []) (e : eqR da db = .ok k) :
    ∃ d1 d2, Dp T.K H v d1 ∧ Dp T.K H w d2 ∧ d1.plain = true ∧ d2.plain = true ∧ d1.depth ≤ 40 ∧ d2.depth ≤ 40 ∧ PyData.eqv d1 d2 = k := by
  unfold eqR at e
  split at e
  · cases e
    cases ra; cases rb
    refine ⟨_, _, .int _, .int _, rfl, rfl, by simp [PyData.depth], by simp [PyData.depth], ?_⟩
    rw [PyData.eqv, Bool.beq_eq_decide_eq]
  · cases e
    cases ra; cases rb
    refine ⟨_, _, .str _, .str _, rfl, rfl, by simp [PyData.depth], by simp [PyData.depth], ?_⟩
    rw [PyData.eqv, Bool.beq_eq_decide_eq]
  · split at e
    · rename_i h
      simp only [Bool.and_eq_true] at h
      cases e
      obtain ⟨a1, a2, a3⟩ := ra.dp h.1
      obtain ⟨b1, b2, b3⟩ := rb.dp h.2
      exact ⟨_, _, a1, b1, a2, b2, a3, b3, rfl⟩
    · cases e
theorem inD_ok {A : Avd} {H : Hp} {v w : V} {da db : D} {k : Bool} (ra : Rep T H A v da 0 []) (rb : Rep T H A w db 0 []) (e : inD da db = .ok k) :
    (∃ d ds, Dp T.K H v d ∧ (Dp T.K H w (.list ds) ∨ Dp T.K H w (.tuple ds)) ∧ d.plain = true ∧ PyData.plainAll ds = true ∧ d.depth ≤ 40 ∧ (ds.any fun z => PyData.eqv z d) = k) ∨
    (∃ (c : Nat) (z : Str), v = .str ⟨#[c]⟩ ∧ w = .str z ∧ decide (c ∈ z.cps.toList) = k) ∨ ∃ (a : Addr) (o : Option V), w = .ref a ∧ DGet H a v o ∧ o.isSome = k := by
  have key : ∀ ys : List D, ((toPyL ys).any fun z => PyData.eqv z (toPy da)) = ys.any fun y => eqD y da := fun ys => by
    rw [toPyL_map, List.any_map]; rfl
  unfold inD at e
  split at e
  · split at e
    · rename_i h
      simp only [Bool.and_eq_true] at h
      cases e
      obtain ⟨a1, a2, a3⟩ := ra.dp h.1
      obtain ⟨b1, b2, b3⟩ := rb.dp h.2
      rw [toPy] at b1 b2
      exact .inl ⟨_, _, a1, .inl b1, a2, by simpa [PyData.plain] using b2, a3, key _⟩
    · cases e
  · split at e
    · rename_i h
      simp only [Bool.and_eq_true] at h
      cases e
      obtain ⟨a1, a2, a3⟩ := ra.dp h.1
      obtain ⟨b1, b2, b3⟩ := rb.dp h.2
      rw [toPy] at b1 b2
      exact .inl ⟨_, _, a1, .inr b1, a2, by simpa [PyData.plain] using b2, a3, key _⟩
    · cases e
  · split at e
    · split at e
      · rename_i z _ y _ c hc
        cases e
        refine .inr (.inl ⟨c, z, ?_, rb.str_inv, rfl⟩)
        rw [ra.str_inv]
        congr 1
        obtain ⟨⟨l⟩⟩ := y
        simp only at hc
        subst hc
        rfl
      · cases e
    · cases e
  · split at e
    · rename_i kk hk
      cases e
      obtain ⟨a, kvs, rfl, h, rfl, _⟩ := rb.dct_inv
      rw [keyOf_rep ra hk]
      exact .inr (.inr ⟨a, _, rfl, .k h, valV_some _ _⟩)
    · cases e
  · cases e
theorem ordR_ok {A : Avd} {H : Hp} {v w : V} {da db : D} {k : Bool} {f : Int → Int → Bool} {g : List Nat → List Nat → Bool} {Q : VK} (ra : Rep T H A v da 0 []) (rb : Rep T H A w db 0 []) (e : ordR f g da db = .ok k) (q : Q (.bl k) H) : rOrd f g v w H Q := by
  unfold ordR at e
  split at e
  · cases e; exact .inl ⟨_, _, ra.int_inv, rb.int_inv, q⟩
  · cases e; exact .inr ⟨_, _, ra.str_inv, rb.str_inv, q⟩
  · cases e
theorem rCmp_do {o : Co} {da db : D} {A : Avd} {H : Hp} {v w : V} {k : Bool} {Q : VK} (ra : Rep T H A v da 0 []) (rb : Rep T H A w db 0 []) (e : cmpB o da db = .ok k) (q : Q (.bl k) H) : rCmp T.K o v w H Q := by
  cases o with
  | eq =>
    obtain ⟨d1, d2, h1, h2, h3, h4, h5, h6, h7⟩ := eqR_ok ra rb e
    exact ⟨d1, d2, h1, h2, h3, h4, h5, h6, by rw [h7]; exact q⟩
  | ne =>
    obtain ⟨c, e1, e2⟩ := Rs.bind_ok e
    obtain ⟨d1, d2, h1, h2, h3, h4, h5, h6, h7⟩ := eqR_ok ra rb e1
    cases e2
    exact ⟨d1, d2, h1, h2, h3, h4, h5, h6, by rw [h7]; exact q⟩
  | lt => exact ordR_ok (f := fun i j => decide (i < j)) (g := fun x y => decide (x < y)) ra rb e q
  | le => exact ordR_ok (f := fun i j => decide (i ≤ j)) (g := fun x y => !decide (y < x)) ra rb e q
  | gt => exact ordR_ok (f := fun i j => decide (j < i)) (g := fun x y => decide (y < x)) ra rb e q
  | ge => exact ordR_ok (f := fun i j => decide (j ≤ i)) (g := fun x y => !decide (x < y)) ra rb e q
  | isin =>
    rcases inD_ok ra rb e with ⟨d, ds, h1, h2, h3, h4, h5, h6⟩ | ⟨c, z, h1, h2, h3⟩ | ⟨a, o, h1, h2, h3⟩
    · exact .inl ⟨d, ds, h1, h2, h3, h4, h5, by rw [h6]; exact q⟩
    · exact .inr (.inl ⟨c, z, h1, h2, by rw [h3]; exact q⟩)
    · exact .inr (.inr ⟨a, o, h1, h2, by rw [h3]; exact q⟩)
  | nin =>
    obtain ⟨c, e1, e2⟩ := Rs.bind_ok e
    cases e2
    rcases inD_ok ra rb e1 with ⟨d, ds, h1, h2, h3, h4, h5, h6⟩ | ⟨c, z, h1, h2, h3⟩ | ⟨a, o, h1, h2, h3⟩
    · exact .inl ⟨d, ds, h1, h2, h3, h4, h5, by rw [h6]; exact q⟩
    · exact .inr (.inl ⟨c, z, h1, h2, by rw [h3]; exact q⟩)
    · exact .inr (.inr ⟨a, o, h1, h2, by rw [h3]; exact q⟩)
  | is =>
    obtain ⟨h1, h2⟩ := isR_ok ra rb e
    exact ⟨h1, by rw [h2]; exact q⟩
  | isn =>
    obtain ⟨c, e1, e2⟩ := Rs.bind_ok e
    cases e2
    obtain ⟨h1, h2⟩ := isR_ok ra rb e1
    exact ⟨h1, by rw [h2]; exact q⟩
theorem e_cmp {o : Co} {op : CmpOp} (hu : X.A.units + 64 < cLine) (tk : X.K = T.K) (ho : coIs o op = true) (hm : behindInMarks op y = false) (ha : PE X x (tE T ev a)) (hb : PE X y (tE T ev b)) : PE X (.Compare x [op] [y] pos) (tE T ev (.cmp o a b)) := ⟨fun pins s σ H Q I w => by
  obtain ⟨A, r, d, n, al, sh, e1, p⟩ := w
  rw [evE] at e1
  obtain ⟨⟨da, na⟩, ea, e1⟩ := Rs.bind_ok e1
  obtain ⟨⟨db, nb⟩, eb, e1⟩ := Rs.bind_ok e1
  obtain ⟨k, ek, e1⟩ := Rs.bind_ok e1
  cases e1
  refine (pe_cmpR (rCmp_ok hu ho) ha hb hm).run pins s σ H Q I ?_
  exact rd2 al sh inL inR ea eb fun v w H2 s2 r1 r2 => by rw [tk]; exact rCmp_do r1 r2 ek (p.later s2).bl⟩
theorem e_chain {o o' : Co} {op op' : CmpOp} (hu : X.A.units + 64 < cLine) (tk : X.K = T.K) (ho : coIs o op = true) (ho' : coIs o' op' = true) (hm : lastMarks [op, op'] [y, z] = false) (ha : PE X x (tE T ev a)) (hb : PE X y (tE T ev b)) (hc : PE X z (tE T ev c)) :
    PE X (.Compare x [op, op'] [y, z] pos) (tE T ev (.chain o o' a b c)) := ⟨fun pins s σ H Q I w => by
  obtain ⟨A, r, d, n, al, sh, e1, p⟩ := w
  rw [evE] at e1
  obtain ⟨⟨da, na⟩, ea, e1⟩ := Rs.bind_ok e1
  obtain ⟨⟨db, nb⟩, eb, e1⟩ := Rs.bind_ok e1
  obtain ⟨k, ek, e1⟩ := Rs.bind_ok e1
  refine (pe_chain (rCmp_ok hu ho) (rCmp_ok hu ho') ha hb hc hm).run pins s σ H Q I ?_
  refine rd2 al sh inL (fun i h => inR i (inL i h)) ea eb fun v w H2 s2 r1 r2 => ?_
  rw [tk]
  refine rCmp_do r1 r2 ek ⟨k, rfl, ?_⟩
  cases k with
  | false =>
    rw [if_neg Bool.false_ne_true] at e1 ⊢
    cases e1
    exact (p.later s2).bl
  | true =>
    rw [if_pos rfl] at e1 ⊢
    obtain ⟨⟨dc, nc⟩, ec, e1⟩ := Rs.bind_ok e1
    obtain ⟨l, el, e1⟩ := Rs.bind_ok e1
    cases e1
    exact rd1 (al.same s2) (sh.same s2) (fun i h => inR i (inR i h)) ec fun u H3 s3 r3 => rCmp_do (r2.same s3) r3 el ((p.later s2).later s3).bl⟩
/-! ### and, or, if -/
theorem e_andL {x : Expr} {es : Es} {e : E} (ha : PE X x (tE T ev e)) : ∀ {xs : List Expr}, (xs = [] ∧ es = .nil) ∨ (xs ≠ [] ∧ PE X (.BoolOp .And xs pos) (tE T ev (.andL es))) → PE X (.BoolOp .And (x :: xs) pos) (tE T ev (.andL (.cons e es)))
  | [], h => ⟨fun pins s σ H Q I w => by
    obtain ⟨A, r, d, n, al, sh, e1, p⟩ := w
    rcases h with ⟨_, rfl⟩ | ⟨h, _⟩
    · simp only [evE, evAnd] at e1
      obtain ⟨k, g1, g0⟩ := Rs.bind_ok e1
      obtain ⟨⟨da, na⟩, ea, g2⟩ := Rs.bind_ok g1
      obtain ⟨c, ec, e2⟩ := Rs.bind_ok g2
      clear e1 g1 g2
      cases boolR_ok ec
      cases g0
      refine (pe_one ha).run pins s σ H Q I (rd1 al sh (fun i h => by simp [vars, varsL, h]) ea fun v H2 s2 r1 => ?_)
      rw [r1.bl_inv]
      cases c with
      | true => rw [if_pos rfl] at e2; cases e2; exact (p.later s2).bl
      | false => rw [if_neg Bool.false_ne_true] at e2; cases e2; exact (p.later s2).bl
    · exact absurd rfl h⟩
  | y :: ys, h => ⟨fun pins s σ H Q I w => by
    obtain ⟨A, r, d, n, al, sh, e1, p⟩ := w
    rcases h with ⟨h, _⟩ | ⟨_, h⟩
    · cases h
    · simp only [evE, evAnd] at e1
      obtain ⟨k, g1, g0⟩ := Rs.bind_ok e1
      obtain ⟨⟨da, na⟩, ea, g2⟩ := Rs.bind_ok g1
      obtain ⟨c, ec, e2⟩ := Rs.bind_ok g2
      clear e1 g1 g2
      cases boolR_ok ec
      cases g0
      refine (pe_and ha h).run pins s σ H Q I (rd1 al sh (fun i h => by simp [vars, varsL, h]) ea fun v H2 s2 r1 => ⟨c, r1.bl_inv, ?_⟩)
      cases c with
      | true =>
        rw [if_pos rfl] at e2 ⊢
        exact ⟨A, r, .bl k, 9, al.same s2, (sh.same s2).sub fun i h => by simp [vars, varsL] at h ⊢; exact .inr h, by simp [evE, e2], p.later s2⟩
      | false =>
        rw [if_neg Bool.false_ne_true] at e2 ⊢
        cases e2
        exact (p.later s2).bl⟩
theorem e_orL {x : Expr} {es : Es} {e : E} (ha : PE X x (tE T ev e)) : ∀ {xs : List Expr}, (xs = [] ∧ es = .nil) ∨ (xs ≠ [] ∧ PE X (.BoolOp .Or xs pos) (tE T ev (.orL es))) → PE X (.BoolOp .Or (x :: xs) pos) (tE T ev (.orL (.cons e es)))
  | [], h => ⟨fun pins s σ H Q I w => by
    obtain ⟨A, r, d, n, al, sh, e1, p⟩ := w
    rcases h with ⟨_, rfl⟩ | ⟨h, _⟩
    · simp only [evE, evOr] at e1
      obtain ⟨k, g1, g0⟩ := Rs.bind_ok e1
      obtain ⟨⟨da, na⟩, ea, g2⟩ := Rs.bind_ok g1
      obtain ⟨c, ec, e2⟩ := Rs.bind_ok g2
      clear e1 g1 g2
      cases boolR_ok ec
      cases g0
      refine (pe_one ha).run pins s σ H Q I (rd1 al sh (fun i h => by simp [vars, varsL, h]) ea fun v H2 s2 r1 => ?_)
      rw [r1.bl_inv]
      cases c with
      | true => rw [if_pos rfl] at e2; cases e2; exact (p.later s2).bl
      | false => rw [if_neg Bool.false_ne_true] at e2; cases e2; exact (p.later s2).bl
    · exact absurd rfl h⟩
  | y :: ys, h => ⟨fun pins s σ H Q I w => by
    obtain ⟨A, r, d, n, al, sh, e1, p⟩ := w
    rcases h with ⟨h, _⟩ | ⟨_, h⟩
    · cases h
    · simp only [evE, evOr] at e1
      obtain ⟨k, g1, g0⟩ := Rs.bind_ok e1
      obtain ⟨⟨da, na⟩, ea, g2⟩ := Rs.bind_ok g1
      obtain ⟨c, ec, e2⟩ := Rs.bind_ok g2
      clear e1 g1 g2
      cases boolR_ok ec
      cases g0
      refine (pe_or ha h).run pins s σ H Q I (rd1 al sh (fun i h => by simp [vars, varsL, h]) ea fun v H2 s2 r1 => ⟨c, r1.bl_inv, ?_⟩)
      cases c with
      | false =>
        rw [if_neg Bool.false_ne_true] at e2 ⊢
        exact ⟨A, r, .bl k, 9, al.same s2, (sh.same s2).sub fun i h => by simp [vars, varsL] at h ⊢; exact .inr h, by simp [evE, e2], p.later s2⟩
      | true =>
        rw [if_pos rfl] at e2 ⊢
        cases e2
        exact (p.later s2).bl⟩
/-- a test -/
def tT (T : Tab) (ev : Ev) (e : E) : TT := fun σ H Q => ∃ A r k, All A H ∧ ShOk T H A r σ (vars e) ∧ (evE ev e r).bind boolR = .ok k ∧ ∀ H', Same H H' → Q k H'
/-- from a value to a test -/
theorem t_of {x : Expr} {e : E} (h : PE X x (tE T ev e)) (he : ∀ whole, isTrue x X.env whole = (do let v ← whole; standAt x.pos; holding [v] (truthy v))) : PT X x (tT T ev e) := ⟨fun pins s σ H Q I w => by
  obtain ⟨A, r, k, al, sh, e1, p⟩ := w
  obtain ⟨⟨da, na⟩, ea, e1⟩ := Rs.bind_ok e1
  cases boolR_ok e1
  exact (pt_val h he).run pins s σ H Q I (rd1 al sh (fun _ h => h) ea fun v H2 s2 r1 => ⟨_, r1.bl_inv, p H2 s2⟩)⟩
theorem e_ite (hc : PT X x (tT T ev c)) (ha : PE X y (tE T ev a)) (hb : PE X z (tE T ev b)) : PE X (.IfExp x y z pos) (tE T ev (.ite c a b)) := ⟨fun pins s σ H Q I w => by
  obtain ⟨A, r, d, n, al, sh, e1, p⟩ := w
  rw [evE] at e1
  obtain ⟨⟨dc, nc⟩, ec, e1⟩ := Rs.bind_ok e1
  obtain ⟨k, ek, e1⟩ := Rs.bind_ok e1
  refine (pe_ifExp hc ha hb).run pins s σ H Q I ⟨A, r, k, al, sh.sub inL, by rw [ec]; exact ek, fun H' s' => ?_⟩
  cases k with
  | true =>
    rw [if_pos rfl] at e1 ⊢
    exact ⟨A, r, d, n, al.same s', (sh.same s').sub fun i h => inR i (inL i h), e1, p.later s'⟩
  | false =>
    rw [if_neg Bool.false_ne_true] at e1 ⊢
    exact ⟨A, r, d, n, al.same s', (sh.same s').sub fun i h => inR i (inR i h), e1, p.later s'⟩⟩
theorem t_not {e : E} (h : PT X x (tT T ev e)) : PT X (.UnaryOp .Not x pos) (tT T ev (.nt e)) := ⟨fun pins s σ H Q I w => by
  obtain ⟨A, r, k, al, sh, e1, p⟩ := w
  rw [evE] at e1
  obtain ⟨⟨da, na⟩, ea, e1⟩ := Rs.bind_ok e1
  obtain ⟨⟨db, nb⟩, eb, ea⟩ := Rs.bind_ok ea
  obtain ⟨l, el, ea⟩ := Rs.bind_ok ea
  cases ea
  cases e1
  exact (pt_not h).run pins s σ H Q I ⟨A, r, l, al, sh, by rw [eb]; exact el, p⟩⟩
theorem t_cmp {o : Co} {op : CmpOp} (hu : X.A.units + 64 < cLine) (tk : X.K = T.K) (ho : coIs o op = true) (hm : behindInMarks op y = false) (ha : PE X x (tE T ev a)) (hb : PE X y (tE T ev b)) : PT X (.Compare x [op] [y] pos) (tT T ev (.cmp o a b)) := ⟨fun pins s σ H Q I w => by
  obtain ⟨A, r, k, al, sh, e1, p⟩ := w
  rw [evE] at e1
  obtain ⟨⟨dd, nd⟩, e2, e1⟩ := Rs.bind_ok e1
  obtain ⟨⟨da, na⟩, ea, e2⟩ := Rs.bind_ok e2
  obtain ⟨⟨db, nb⟩, eb, e2⟩ := Rs.bind_ok e2
  obtain ⟨l, ek, e2⟩ := Rs.bind_ok e2
  cases e2
  cases boolR_ok e1
  refine (pt_cmpR (rCmp_ok hu ho) ha hb hm).run pins s σ H Q I ?_
  exact rd2 al sh inL inR ea eb fun v w H2 s2 r1 r2 => by rw [tk]; exact rCmp_do r1 r2 ek ⟨k, rfl, p H2 s2⟩⟩
theorem t_chain {o o' : Co} {op op' : CmpOp} (hu : X.A.units + 64 < cLine) (tk : X.K = T.K) (ho : coIs o op = true) (ho' : coIs o' op' = true) (hm : lastMarks [op, op'] [y, z] = false) (ha : PE X x (tE T ev a)) (hb : PE X y (tE T ev b)) (hc : PE X z (tE T ev c)) :
    PT X (.Compare x [op, op'] [y, z] pos) (tT T ev (.chain o o' a b c)) := ⟨fun pins s σ H Q I w => by
  obtain ⟨A, r, k0, al, sh, e0, p⟩ := w
  rw [evE] at e0
  obtain ⟨⟨dd, nd⟩, e1, e0⟩ := Rs.bind_ok e0
  obtain ⟨⟨da, na⟩, ea, e1⟩ := Rs.bind_ok e1
  obtain ⟨⟨db, nb⟩, eb, e1⟩ := Rs.bind_ok e1
  obtain ⟨k, ek, e1⟩ := Rs.bind_ok e1
  cases boolR_ok e0
  refine (pt_chain (rCmp_ok hu ho) (rCmp_ok hu ho') ha hb hc hm).run pins s σ H Q I ?_
  refine rd2 al sh inL (fun i h => inR i (inL i h)) ea eb fun v w H2 s2 r1 r2 => ?_
  rw [tk]
  refine rCmp_do r1 r2 ek ⟨k, rfl, ?_⟩
  cases k with
  | false =>
    rw [if_neg Bool.false_ne_true] at e1 ⊢
    cases e1
    exact ⟨_, rfl, p _ s2⟩
  | true =>
    rw [if_pos rfl] at e1 ⊢
    obtain ⟨⟨dc, nc⟩, ec, e1⟩ := Rs.bind_ok e1
    obtain ⟨l, el, e1⟩ := Rs.bind_ok e1
    cases e1
    exact rd1 (al.same s2) (sh.same s2) (fun i h => inR i (inR i h)) ec fun u H3 s3 r3 => rCmp_do (r2.same s3) r3 el ⟨_, rfl, p _ (s2.trans s3)⟩⟩
theorem t_andL {x : Expr} {es : Es} {e : E} (ha : PT X x (tT T ev e)) : ∀ {xs : List Expr}, (xs = [] ∧ es = .nil) ∨ (xs ≠ [] ∧ PW X (.BoolOp .And xs pos) (tT T ev (.andL es))) → PW X (.BoolOp .And (x :: xs) pos) (tT T ev (.andL (.cons e es)))
  | [], h => ⟨fun wh pins s σ H Q I w => by
    obtain ⟨A, r, k, al, sh, e0, p⟩ := w
    rcases h with ⟨_, rfl⟩ | ⟨h, _⟩
    · rw [evE, evAnd] at e0
      obtain ⟨⟨dd, nd⟩, g1, g0⟩ := Rs.bind_ok e0
      obtain ⟨k', g2, g3⟩ := Rs.bind_ok g1
      obtain ⟨⟨da, na⟩, ea, g4⟩ := Rs.bind_ok g2
      obtain ⟨c, ec, e2⟩ := Rs.bind_ok g4
      clear e0 g1 g2 g4
      cases g3
      cases boolR_ok g0
      refine (pw_and1 ha).run wh pins s σ H Q I ⟨A, r, c, al, sh.sub fun i h => by simp [vars, varsL, h], by rw [ea]; exact ec, fun H' s' => ?_⟩
      cases c with
      | true => rw [if_pos rfl, evAnd] at e2; cases e2; exact p _ s'
      | false => rw [if_neg Bool.false_ne_true] at e2; cases e2; exact p _ s'
    · exact absurd rfl h⟩
  | y :: ys, h => ⟨fun wh pins s σ H Q I w => by
    obtain ⟨A, r, k, al, sh, e0, p⟩ := w
    rcases h with ⟨h, _⟩ | ⟨_, h⟩
    · cases h
    · rw [evE, evAnd] at e0
      obtain ⟨⟨dd, nd⟩, g1, g0⟩ := Rs.bind_ok e0
      obtain ⟨k', g2, g3⟩ := Rs.bind_ok g1
      obtain ⟨⟨da, na⟩, ea, g4⟩ := Rs.bind_ok g2
      obtain ⟨c, ec, e2⟩ := Rs.bind_ok g4
      clear e0 g1 g2 g4
      cases g3
      cases boolR_ok g0
      refine (pw_and ha h).run wh pins s σ H Q I ⟨A, r, c, al, sh.sub fun i h => by simp [vars, varsL, h], by rw [ea]; exact ec, fun H' s' => ?_⟩
      cases c with
      | true =>
        rw [if_pos rfl] at e2 ⊢
        exact ⟨A, r, k, al.same s', (sh.same s').sub fun i h => by simp [vars, varsL] at h ⊢; exact .inr h, by rw [evE, e2]; rfl, fun H2 s2 => p H2 (s'.trans s2)⟩
      | false =>
        rw [if_neg Bool.false_ne_true] at e2 ⊢
        cases e2
        exact p _ s'⟩
theorem t_orL {x : Expr} {es : Es} {e : E} (ha : PT X x (tT T ev e)) : ∀ {xs : List Expr}, (xs = [] ∧ es = .nil) ∨ (xs ≠ [] ∧ PW X (.BoolOp .Or xs pos) (tT T ev (.orL es))) → PW X (.BoolOp .Or (x :: xs) pos) (tT T ev (.orL (.cons e es)))
  | [], h => ⟨fun wh pins s σ H Q I w => by
    obtain ⟨A, r, k, al, sh, e0, p⟩ := w
    rcases h with ⟨_, rfl⟩ | ⟨h, _⟩
    · rw [evE, evOr] at e0
      obtain ⟨⟨dd, nd⟩, g1, g0⟩ := Rs.bind_ok e0
      obtain ⟨k', g2, g3⟩ := Rs.bind_ok g1
      obtain ⟨⟨da, na⟩, ea, g4⟩ := Rs.bind_ok g2
      obtain ⟨c, ec, e2⟩ := Rs.bind_ok g4
      clear e0 g1 g2 g4
      cases g3
      cases boolR_ok g0
      refine (pw_or1 ha).run wh pins s σ H Q I ⟨A, r, c, al, sh.sub fun i h => by simp [vars, varsL, h], by rw [ea]; exact ec, fun H' s' => ?_⟩
      cases c with
      | true => rw [if_pos rfl] at e2; cases e2; exact p _ s'
      | false => rw [if_neg Bool.false_ne_true, evOr] at e2; cases e2; exact p _ s'
    · exact absurd rfl h⟩
  | y :: ys, h => ⟨fun wh pins s σ H Q I w => by
    obtain ⟨A, r, k, al, sh, e0, p⟩ := w
    rcases h with ⟨h, _⟩ | ⟨_, h⟩
    · cases h
    · rw [evE, evOr] at e0
      obtain ⟨⟨dd, nd⟩, g1, g0⟩ := Rs.bind_ok e0
      obtain ⟨k', g2, g3⟩ := Rs.bind_ok g1
      obtain ⟨⟨da, na⟩, ea, g4⟩ := Rs.bind_ok g2
      obtain ⟨c, ec, e2⟩ := Rs.bind_ok g4
      clear e0 g1 g2 g4
      cases g3
      cases boolR_ok g0
      refine (pw_or ha h).run wh pins s σ H Q I ⟨A, r, c, al, sh.sub fun i h => by simp [vars, varsL, h], by rw [ea]; exact ec, fun H' s' => ?_⟩
      cases c with
      | false =>
        rw [if_neg Bool.false_ne_true] at e2 ⊢
        exact ⟨A, r, k, al.same s', (sh.same s').sub fun i h => by simp [vars, varsL] at h ⊢; exact .inr h, by rw [evE, e2]; rfl, fun H2 s2 => p H2 (s'.trans s2)⟩
      | true =>
        rw [if_pos rfl] at e2 ⊢
        cases e2
        exact p _ s'⟩
end
end Hc
set_option Elab.async false
set_option linter.all false
set_option maxRecDepth 100000
set_option maxHeartbeats 4000000
/-! Displays, subscripts, slices, calls. -/
namespace Hc
open PySem PySem.Spec PyProof.Rows L2
section
variable {T : Tab} {ev : Ev} {X : Cx} {x y z : Expr} {a b c : E} {es : Es} {xs : List Expr} {pos : Pos}

theorem evEs_len {cc : Cc} {sc : Scope} : ∀ {es : Es} {xs : List Expr} {r : List (Option D)} {ds : List D}, cvEs cc sc es xs = true → evEs ev es r = .ok ds → ds.length = xs.length
  | .nil, [], _, _, _, h => by rw [evEs] at h; cases h; rfl
  | .nil, _ :: _, _, _, h, _ => by simp [cvEs] at h
  | .cons _ _, [], _, _, h, _ => by simp [cvEs] at h
  | .cons e es, y :: ys, r, ds, h, k => by
    rw [evEs] at k
    obtain ⟨d, e1, k⟩ := Rs.bind_ok k
    obtain ⟨dr, e2, k⟩ := Rs.bind_ok k
    cases k
    simp only [cvEs, Bool.and_eq_true] at h
    simp [evEs_len h.2 e2]
theorem a_nil : PA X [] (tEs T ev .nil) := ⟨fun pos pins s σ H Q I w => by
  obtain ⟨A, r, ds, al, sh, e1, p⟩ := w
  rw [evEs] at e1
  cases e1
  exact pa_nil.run pos pins s σ H Q I (p [] H (Same.refl H) .nil)⟩
theorem a_cons {e : E} (hs : noStar x = true) (he : PE X x (tE T ev e)) (hr : PA X xs (tEs T ev es)) : PA X (x :: xs) (tEs T ev (.cons e es)) := ⟨fun pos pins s σ H Q I w => by
  obtain ⟨A, r, ds, al, sh, e1, p⟩ := w
  rw [evEs] at e1
  obtain ⟨⟨d, n⟩, e2, e1⟩ := Rs.bind_ok e1
  obtain ⟨dr, e3, e1⟩ := Rs.bind_ok e1
  cases e1
  refine (pa_cons he hr (star_cons hs _ _)).run pos pins s σ H Q I ?_
  exact rd1 al sh inL e2 fun v H1 s1 r1 => ⟨A, r, dr, al.same s1, (sh.same s1).sub inR, e3, fun vs H2 s2 r2 => p _ H2 (s1.trans s2) (.mk (r1.same s2) r2)⟩⟩
theorem small_lim {n : Nat} (h : n ≤ 1000) : n ≤ sizeLine := Nat.le_trans h (by decide)
theorem e_tup {k : Nat} {cc : Cc} {sc : Scope} (hl : xs.length ≤ 1000) (hc : cvEs cc sc es xs = true) (h : PA X xs (tEs T ev es)) : PE X (.Tuple xs k pos) (tE T ev (.tup es)) := ⟨fun pins s σ H Q I w => by
  obtain ⟨A, r, d, n, al, sh, e1, p⟩ := w
  rw [evE] at e1
  obtain ⟨ds, e2, e1⟩ := Rs.bind_ok e1
  cases e1
  refine (pe_tup h).run pins s σ H Q I ⟨A, r, ds, al, sh, e2, fun vs H1 s1 r1 => ⟨?_, fun q hq => (p.later s1).tup r1 hq⟩⟩
  rw [r1.length, evEs_len hc e2]
  exact small_lim hl⟩
theorem e_lst {cc : Cc} {sc : Scope} (hl : xs.length ≤ 1000) (hc : cvEs cc sc es xs = true) (h : PA X xs (tEs T ev es)) : PE X (.List xs pos) (tE T ev (.lst es)) := ⟨fun pins s σ H Q I w => by
  obtain ⟨A, r, d, n, al, sh, e1, p⟩ := w
  rw [evE] at e1
  obtain ⟨ds, e2, e1⟩ := Rs.bind_ok e1
  cases e1
  refine (pe_lst h).run pins s σ H Q I ⟨A, r, ds, al, sh, e2, fun vs H1 s1 r1 => ⟨?_, fun q hq => (p.later s1).lst r1 hq⟩⟩
  rw [r1.length, evEs_len hc e2]
  exact small_lim hl⟩
section
variable {H : Hp}
theorem Rep.more0 {B : Avd} {v : V} {d : D} {n : Nat} {F : List Addr} (r : Rep T H B v d n F) : Rep T H (B.more []) v d n F := r.avoid fun b _ z => by
  rcases z with z | z
  · exact z
  · simp at z
theorem fit_rep {B : Avd} {v : V} {d : D} {n m : Nat} {F : List Addr} (h : fit m d n = true) (r : Rep T H (B.more F) v d n F) (f : ∀ b ∈ F, ¬ B b) : ∃ F', (∀ b ∈ F', b ∈ F) ∧ Rep T H (B.more F') v d m F' := by
  unfold fit at h
  simp only [Bool.or_eq_true, beq_iff_eq] at h
  rcases h with (h | h) | h
  · subst h
    exact ⟨[], by simp, (r.low0 f).more0⟩
  · subst h
    exact ⟨F, fun _ h => h, r⟩
  · exact ⟨[], by simp, (r.scal h).2⟩

end
theorem rif_ok0 {α : Type} {c : Prop} [Decidable c] {x : Rs α} {a : α} (h : (if c then x else .bad) = .ok a) : c ∧ x = .ok a := by
  by_cases hc : c
  · rw [if_pos hc] at h; exact ⟨hc, h⟩
  · rw [if_neg hc] at h; cases h
/-- items that are owned -/
def tEn (T : Tab) (ev : Ev) (m : Nat) (es : Es) : TA := fun σ H Q => ∃ A r ds, All A H ∧ ShOk T H A r σ (varsL es) ∧ evEn ev m es r = .ok ds ∧ ∀ vs H' F, Same H H' → Frs F H → RepL T H' (A.more F) vs ds m F → Q vs H'
theorem n_nil {m : Nat} : PA X [] (tEn T ev m .nil) := ⟨fun pos pins s σ H Q I w => by
  obtain ⟨A, r, ds, al, sh, e1, p⟩ := w
  rw [evEn] at e1
  cases e1
  exact pa_nil.run pos pins s σ H Q I (p [] H [] (Same.refl H) (fun b hb => absurd hb (by simp)) .nil)⟩
theorem n_cons {m : Nat} {e : E} (hs : noStar x = true) (he : PE X x (tE T ev e)) (hr : PA X xs (tEn T ev m es)) : PA X (x :: xs) (tEn T ev m (.cons e es)) := ⟨fun pos pins s σ H Q I w => by
  obtain ⟨A, r, ds, al, sh, e1, p⟩ := w
  rw [evEn] at e1
  obtain ⟨⟨d, n⟩, e2, e1⟩ := Rs.bind_ok e1
  obtain ⟨hf, e1⟩ := rif_ok0 e1
  obtain ⟨dr, e3, e1⟩ := Rs.bind_ok e1
  cases e1
  refine (pa_cons he hr (star_cons hs _ _)).run pos pins s σ H Q I ?_
  refine ⟨A, r, d, n, al, sh.sub inL, e2, fun v H1 F s1 f r1 => ?_⟩
  obtain ⟨F1, h1, r2⟩ := fit_rep hf r1 (al.not f)
  have f1 : Frs F1 H := fun b hb => f b (h1 b hb)
  refine ⟨A.more F1, r, dr, fun b hb => ?_, fun i hi d' hd => ?_, e3, fun vs H2 F2 s2 f2 r3 => ?_⟩
  · rcases hb with hb | hb
    · exact al.same s1 b hb
    · exact r2.there b hb
  · obtain ⟨w, q1, q2⟩ := sh i (inR i hi) d' hd
    refine ⟨w, q1, (q2.avoid fun b hb z => ?_).same s1⟩
    rcases z with z | z
    · exact z
    · exact absurd (f1 b z) hb
  · refine p (v :: vs) H2 (F1 ++ F2) (s1.trans s2) (fun b hb => ?_) (.cons ((r2.avoid fun b hb z => ?_).same s2) (r3.avoid fun b _ z => ?_) fun b hb z => r2.there b hb (f2 b z))
    · rcases List.mem_append.mp hb with h | h
      · exact f1 b h
      · cases q : H b with
        | none => rfl
        | some o => have := f2 b h; rw [s1 b o q] at this; cases this
    · rcases z with z | z
      · exact .inl z
      · rcases List.mem_append.mp z with z | z
        · exact .inr z
        · exact absurd (f2 b z) hb
    · rcases z with z | z
      · exact .inl (.inl z)
      · rcases List.mem_append.mp z with z | z
        · exact .inl (.inr z)
        · exact .inr z⟩
theorem evEn_len {m : Nat} {cc : Cc} {sc : Scope} : ∀ {es : Es} {xs : List Expr} {r : List (Option D)} {ds : List D}, cvEs cc sc es xs = true → evEn ev m es r = .ok ds → ds.length = xs.length
  | .nil, [], r, ds, _, h => by rw [evEn] at h; cases h; rfl
  | .nil, _ :: _, _, _, h, _ => by simp [cvEs] at h
  | .cons _ _, [], _, _, h, _ => by simp [cvEs] at h
  | .cons e es, y :: ys, r, ds, hc, h => by
    simp only [cvEs, Bool.and_eq_true] at hc
    rw [evEn] at h
    obtain ⟨x, e1, h⟩ := Rs.bind_ok h
    obtain ⟨_, h⟩ := rif_ok0 h
    obtain ⟨dr, e2, h⟩ := Rs.bind_ok h
    cases h
    simp [evEn_len hc.2 e2]
theorem e_lsn {m : Nat} {cc : Cc} {sc : Scope} (hl : xs.length ≤ 1000) (hc : cvEs cc sc es xs = true) (h : PA X xs (tEn T ev m es)) : PE X (.List xs pos) (tE T ev (.lsn m es)) := ⟨fun pins s σ H Q I w => by
  obtain ⟨A, r, d, n, al, sh, e1, p⟩ := w
  rw [evE] at e1
  obtain ⟨ds, e2, e1⟩ := Rs.bind_ok e1
  cases e1
  refine (pe_lst h).run pins s σ H Q I ⟨A, r, ds, al, sh, e2, fun vs H1 F s1 f r1 => ⟨?_, fun q hq => ?_⟩⟩
  · rw [r1.length, evEn_len hc e2]
    exact small_lim hl
  · have qn : q ∉ F := fun z => r1.there q z hq
    refine p (.ref q) _ (q :: F) (s1.trans (same_new hq)) (fun b hb => ?_) (.lstO upd_same qn ((r1.avoid fun b hb z => ?_).same (same_new hq)))
    · rcases List.mem_cons.mp hb with e | hb
      · rw [e]
        cases z : H q with
        | none => rfl
        | some o => rw [s1 q o z] at hq; cases hq
      · exact f b hb
    · rcases z with z | z
      · exact .inl z
      · rcases List.mem_cons.mp z with e | z
        · rw [e] at hb; exact absurd hq hb
        · exact .inr z⟩
theorem e_emp {n : Nat} : PE X (.List [] pos) (tE T ev (.emp n)) := ⟨fun pins s σ H Q I w => by
  obtain ⟨A, r, d, m, al, sh, e1, p⟩ := w
  rw [evE] at e1
  cases e1
  exact (pe_lst pa_nil).run pins s σ H Q I ⟨Nat.zero_le _, fun q hq => p.emp hq⟩⟩
theorem e_dnew {n : Nat} {t : Bool} : PE X (.Dict [] [] pos) (tE T ev (.dnew t n)) := ⟨fun pins s σ H Q I w => by
  obtain ⟨A, r, d, m, al, sh, e1, p⟩ := w
  rw [evE] at e1
  cases e1
  cases t with
  | false => exact pe_dnewK.run pins s σ H Q I fun q hq => p.dct hq
  | true => exact pe_dnewT.run pins s σ H Q I fun q hq => p.dctT hq⟩

/-! ### subscripts -/
theorem atI_map {α β : Type} (f : α → β) (xs : List α) (i : Int) : atI (xs.map f) i = (atI xs i).map f := by
  unfold atI
  rw [List.length_map]
  cases ixN xs.length i with
  | none => rfl
  | some j => simp
theorem RepL.atI {A : Avd} {H : Hp} {vs : List V} {ds : List D} {i : Int} {d : D} (r : RepL T H A vs ds 0 []) (h : L2.atI ds i = some d) : ∃ v, L2.atI vs i = some v ∧ Rep T H A v d 0 [] := by
  unfold L2.atI at h ⊢
  rw [r.length]
  cases e : ixN ds.length i with
  | none => rw [e] at h; cases h
  | some j =>
    rw [e] at h
    exact r.get h
theorem of_ok {α : Type} {o : Option α} {a : α} (h : Rs.of o = .ok a) : o = some a := by
  cases o with
  | none => cases h
  | some b => cases h; rfl
theorem ixD_do {da : D} (nd : ∀ ks vs, da ≠ .dct false ks vs) {A : Avd} {H : Hp} {v w : V} {db d : D} {n : Nat} {Q : VK} (ra : Rep T H A v da 0 []) (rb : Rep T H A w db 0 []) (e : ixD da db = .ok (d, n)) (p : Post T A H d n Q) : rIx T.K v w H Q := by
  unfold ixD at e
  split at e
  · obtain ⟨d', e1, e2⟩ := Option.map_eq_some_iff.mp (of_ok e)
    cases e2
    obtain ⟨q, vs, e3, h, _, r⟩ := ra.lst_inv
    obtain ⟨u, e4, ru⟩ := r.atI e1
    exact .inl ⟨q, vs, _, u, e3, rb.int_inv, SqL.of h, e4, p.now ru⟩
  · obtain ⟨d', e1, e2⟩ := Option.map_eq_some_iff.mp (of_ok e)
    cases e2
    obtain ⟨q, vs, e3, h, r⟩ := ra.tup_inv
    obtain ⟨u, e4, ru⟩ := r.atI e1
    exact .inr (.inl ⟨q, vs, _, u, e3, rb.int_inv, h, e4, p.now ru⟩)
  · obtain ⟨d', e1, e2⟩ := Option.map_eq_some_iff.mp (of_ok e)
    cases e2
    cases ra with
    | scr h _ => exact .inl ⟨_, _, _, .int d', rfl, rb.int_inv, h, by rw [atI_map, e1]; rfl, p.int⟩
  · split at e
    · rename_i x i h
      obtain ⟨d', e1, e2⟩ := Option.map_eq_some_iff.mp (of_ok e)
      cases e2
      exact .inr (.inr ⟨x, i, d', ra.str_inv, rb.int_inv, lim_le h, e1, p.str⟩)
    · cases e
  · exact absurd rfl (nd _ _)
  · cases e
theorem ixPl_no {b : Expr} (h : ixPl b = true) : NoSl b := by
  cases b <;> first | (intro _ _ _; rfl) | (intro _ _; rfl) | (intro _; rfl) | cases h | trivial
theorem e_idx (hu : X.A.units + 64 < cLine) (tk : X.K = T.K) (hp : ixPl y = true) (ha : PE X x (tE T ev a)) (hb : PE X y (tE T ev b)) : PE X (.Subscript x y pos) (tE T ev (.idx a b)) := ⟨fun pins s σ H Q I w => by
  obtain ⟨A, r, d, n, al, sh, e1, p⟩ := w
  rw [evE] at e1
  obtain ⟨⟨da, na⟩, ea, e1⟩ := Rs.bind_ok e1
  obtain ⟨⟨db, nb⟩, eb, e1⟩ := Rs.bind_ok e1
  by_cases nd : ∃ ks vs, da = .dct false ks vs
  · obtain ⟨ks, vs, rfl⟩ := nd
    refine (pe_dget (by omega) ha hb (ixPl_no hp)).run pins s σ H Q I ?_
    refine rd2 al sh inL inR ea eb fun v w H2 s2 r1 r2 => ?_
    have e1 : (match keyOf db with
      | some k => Rs.of (((ki k ks).bind fun j => vs[j]?).map fun d => (d, 0))
      | none => Rs.bad) = .ok (d, n) := by
      cases db <;> exact e1
    cases hk : keyOf db with
    | none => rw [hk] at e1; cases e1
    | some hh =>
      rw [hk] at e1
      obtain ⟨d', e2, e3⟩ := Option.map_eq_some_iff.mp (of_ok e1)
      cases e3
      obtain ⟨j, e4, e5⟩ := Option.bind_eq_some_iff.mp e2
      obtain ⟨a, kvs, rfl, h, rfl, rr⟩ := r1.dct_inv
      obtain ⟨v, hv, rv⟩ := rr.get e5
      rw [keyOf_rep r2 hk]
      refine ⟨a, v, rfl, ?_, (p.later s2).now rv⟩
      have g := DGet.k (k := hh) h
      rw [valV_ki, e4] at g
      have g : DGet H2 a (kV hh) ((kvs.map (·.2))[j]?) := g
      rw [hv] at g
      exact g
  · refine (pe_ix ix_seq ha hb (ixPl_ok hp)).run pins s σ H Q I ?_
    exact rd2 al sh inL inR ea eb fun v w H2 s2 r1 r2 => by rw [tk]; exact ixD_do (fun ks vs z => nd ⟨ks, vs, z⟩) r1 r2 e1 (p.later s2)⟩

/-! ### slices -/
theorem cut_rep {A : Avd} {H : Hp} {vs : List V} {ds : List D} (lo hi : Option Int) (r : RepL T H A vs ds 0 []) : RepL T H A (cutV vs lo hi) (cutD ds lo hi) 0 [] := by
  unfold cutV cutD
  rw [r.length]
  exact RepL.take _ (RepL.drop _ r)
theorem slD_do {A : Avd} {H : Hp} {v : V} {da d : D} {n : Nat} {lo hi : Option Int} {Q : VK} (ra : Rep T H A v da 0 []) (e : slD da lo hi = .ok (d, n)) (p : Post T A H d n Q) : rSlL T.K v lo hi H Q ∨ rSlA T.K v lo hi H Q ∨ rSlS v lo hi H Q := by
  unfold slD at e
  split at e
  · cases e
    obtain ⟨q, vs, e3, h, _, r⟩ := ra.lst_inv
    exact .inl ⟨q, vs, e3, SqL.of h, fun a ha => p.lst (cut_rep _ _ r) ha⟩
  · cases e
    obtain ⟨q, vs, e3, h, r⟩ := ra.tup_inv
    refine .inr (.inl ⟨q, vs, e3, h, fun z => ?_, fun _ a ha => p.tup (cut_rep _ _ r) ha⟩)
    have hw : cutV vs lo hi = vs := by
      unfold cutV
      rw [z.1, z.2]
      simp
    refine p.now (.tup h ?_)
    have := cut_rep lo hi r
    rw [hw] at this
    exact this
  · split at e
    · cases e
      exact .inr (.inr ⟨_, ra.str_inv, lim_le (by assumption), p.str⟩)
    · cases e
  · cases e
/-- a bound of a slice -/
def tB1 (T : Tab) (ev : Ev) (l : E) : TO := fun σ H Q => ∃ A r lo, All A H ∧ ShOk T H A r σ (vars l) ∧ (match l with
      | .nop => Rs.ok none
      | _ => (evE ev l r).bind fun y => bndD y.1) = .ok lo ∧ ∀ H', Same H H' → Q lo H'
theorem bndD_ok {d : D} {lo : Option Int} (h : bndD d = .ok lo) : ∃ i, d = .int i ∧ lo = some i := by
  unfold bndD at h
  split at h <;> cases h
  exact ⟨_, rfl, rfl⟩
theorem o_none : PO X none (tB1 T ev .nop) := ⟨fun pins s σ H Q I w => by
  obtain ⟨A, r, lo, al, sh, e1, p⟩ := w
  cases e1
  exact po_none.run pins s σ H Q I (p H (Same.refl H))⟩
theorem o_some {l : E} (hn : nn l = true) (h : PE X x (tE T ev l)) : PO X (some x) (tB1 T ev l) := ⟨fun pins s σ H Q I w => by
  obtain ⟨A, r, lo, al, sh, e1, p⟩ := w
  have e2 : ((evE ev l r).bind fun y => bndD y.1) = .ok lo := by
    split at e1
    · cases hn
    · exact e1
  obtain ⟨⟨dl, nl⟩, el, e2⟩ := Rs.bind_ok e2
  obtain ⟨i, rfl, rfl⟩ := bndD_ok e2
  exact (po_some h).run pins s σ H Q I (rd1 al sh (fun _ h => h) el fun v H1 s1 r1 => ⟨i, r1.int_inv, p H1 s1⟩)⟩
theorem e_slc {l h : E} {lo hi : Option Expr} {p2 : Pos} (tk : X.K = T.K) (ha : PE X x (tE T ev a)) (hl : PO X lo (tB1 T ev l)) (hh : PO X hi (tB1 T ev h)) : PE X (.Subscript x (.Slice lo hi none p2) pos) (tE T ev (.slc a l h)) := ⟨fun pins s σ H Q I w => by
  obtain ⟨A, r, d, n, al, sh, e1, p⟩ := w
  simp only [evE] at e1
  obtain ⟨⟨da, na⟩, ea, e1⟩ := Rs.bind_ok e1
  obtain ⟨lo', el, e1⟩ := Rs.bind_ok e1
  obtain ⟨hi', eh, e1⟩ := Rs.bind_ok e1
  refine (pe_slice (sl_list.or (sl_tupA.or sl_str)) ha hl hh).run pins s σ H Q I ?_
  exact rd1 al sh inL ea fun v H1 s1 r1 => ⟨A, r, lo', al.same s1, (sh.same s1).sub fun i h => inR i (inL i h), el, fun H2 s2 => ⟨A, r, hi', (al.same s1).same s2, ((sh.same s1).same s2).sub fun i h => inR i (inR i h), eh, fun H3 s3 => by
    rw [tk]
    exact slD_do ((r1.same s2).same s3) e1 (((p.later s1).later s2).later s3)⟩⟩⟩

/-! ### calls -/
theorem e_call {c : Cc} {k f : Nat} {nm : Str} {p : Pos} (C : Ctx T c ev k X) (hn : c.fname f = nm) (h0 : (nm == Str.empty) = false) (hg : Gl X nm) (hd : (nm == ("__debug__" : Str)) = false) (hs : ∀ e ∈ x :: xs, noStar e = true) (h : PA X (x :: xs) (tEs T ev es)) : PE X (.Call (.Name nm p) (x :: xs) [] pos) (tE T ev (.call f es)) := ⟨fun pins s σ H Q I w => by
  obtain ⟨A, r, d, n, al, sh, e1, p⟩ := w
  rw [evE] at e1
  obtain ⟨ds, e2, e1⟩ := Rs.bind_ok e1
  obtain ⟨⟨d', n', x'⟩, e3, e1⟩ := Rs.bind_ok e1
  cases e1
  subst hn
  obtain ⟨fa, fd, ps, hm, hk, hb, F⟩ := (C.call f (by simpa using h0)).ex
  refine (pe_call F C.room' hg hm hk hb .nil pass0 h hd (star_cons (hs _ List.mem_cons_self) _ _) (star_plain _ _ _ fun e he => hs e (List.mem_cons_of_mem _ he))).run pins s σ H Q I ?_
  refine ⟨A, r, ds, al, sh, e2, fun vs H1 s1 r1 => ?_⟩
  show spG T ev f (vs ++ []) H1 Q E0
  rw [List.append_nil]
  refine ⟨A, 0, [], ds, d', n', x', al.same s1, fun b hb => absurd hb (by simp), ?_, e3, fun v H2 F F' k1 kd k2 k3 k4 k5 k6 => ?_⟩
  · have noE : ∀ b, (Avd.more A []) b → A b := fun b hb => by
      rcases hb with hb | hb
      · exact hb
      · simp at hb
    cases vs with
    | nil =>
      cases ds with
      | nil => rfl
      | cons d ds => exact nomatch r1
    | cons v vs =>
      cases ds with
      | nil => exact nomatch r1
      | cons d ds => exact ⟨r1.inv.1.avoid fun b _ hb => noE b hb, r1.inv.2.avoid fun b _ hb => noE b hb⟩
  · have s2 : Same H1 H2 := fun b o hb => k1 b o hb (by simp)
    refine (p.later s1) v H2 F s2 k2 (k5.avoid fun b _ hb => ?_)
    rcases hb with hb | hb
    · exact .inl (.inl hb)
    · exact .inr hb⟩
end
end Hc
set_option Elab.async false
set_option linter.all false
set_option maxRecDepth 100000
set_option maxHeartbeats 4000000
/-! Built-in functions. -/
namespace Hc
open PySem PySem.Spec PyProof.Rows L2

theorem alk_p {t u : Ty} : ∀ {a : D}, alk (.p t u) a = true → ∃ x y, a = .tup [x, y] ∧ alk t x = true ∧ alk u y = true
  | .tup [x, y], h => by
    simp only [alk, Bool.and_eq_true] at h
    exact ⟨x, y, rfl, h⟩
  | .tup [], h => by simp [alk] at h
  | .tup [_], h => by simp [alk] at h
  | .tup (_ :: _ :: _ :: _), h => by simp [alk] at h
  | .non, h => by simp [alk] at h
  | .bl _, h => by simp [alk] at h
  | .int _, h => by simp [alk] at h
  | .str _, h => by simp [alk] at h
  | .lst _, h => by simp [alk] at h
  | .scr _, h => by simp [alk] at h
  | .dct _ _ _, h => by simp [alk] at h
  | .obj _ _ _, h => by simp [alk] at h
  | .own _ _ _, h => by simp [alk] at h
theorem alk_h {t : Ty} : ∀ {a : D}, alk (.h t) a = true → ∃ x xs, a = .tup (x :: xs) ∧ ∀ y ∈ x :: xs, alk t y = true
  | .tup (x :: xs), h => by
    simp only [alk, Bool.and_eq_true, List.all_eq_true] at h
    exact ⟨x, xs, rfl, h.2⟩
  | .tup [], h => by simp [alk] at h
  | .non, h => by simp [alk] at h
  | .bl _, h => by simp [alk] at h
  | .int _, h => by simp [alk] at h
  | .str _, h => by simp [alk] at h
  | .lst _, h => by simp [alk] at h
  | .scr _, h => by simp [alk] at h
  | .dct _ _ _, h => by simp [alk] at h
  | .obj _ _ _, h => by simp [alk] at h
  | .own _ _ _, h => by simp [alk] at h
theorem alk_i {a : D} (h : alk .i a = true) : ∃ i, a = .int i := by
  cases a <;> simp [alk] at h
  exact ⟨_, rfl⟩
theorem alk_s {a : D} (h : alk .s a = true) : ∃ i, a = .str i := by
  cases a <;> simp [alk] at h
  exact ⟨_, rfl⟩
/-! ### sorted -/
theorem alk_alike : ∀ (t : Ty) (a b : D), alk t a = true → alk t b = true → PySem.W.alike (toPy a) (toPy b) = true
  | .i, a, b, h, k => by
    obtain ⟨i, rfl⟩ := alk_i h
    obtain ⟨j, rfl⟩ := alk_i k
    simp [toPy, PySem.W.alike]
  | .s, a, b, h, k => by
    obtain ⟨i, rfl⟩ := alk_s h
    obtain ⟨j, rfl⟩ := alk_s k
    simp [toPy, PySem.W.alike]
  | .h t, a, b, h, k => by
    obtain ⟨x, xs, rfl, hx⟩ := alk_h h
    obtain ⟨y, ys, rfl, hy⟩ := alk_h k
    rw [toPy, toPy, PySem.W.alike, toPyL_map, toPyL_map]
    have key : ∀ xs ys : List D, (∀ x ∈ xs, alk t x = true) → (∀ y ∈ ys, alk t y = true) → PySem.W.alikeAll (xs.map toPy) (ys.map toPy) = true := by
      intro xs
      induction xs with
      | nil => intro ys _ _; simp [PySem.W.alikeAll]
      | cons x xs ih =>
        intro ys hx hy
        cases ys with
        | nil => simp [PySem.W.alikeAll]
        | cons y ys =>
          rw [List.map_cons, List.map_cons, PySem.W.alikeAll, alk_alike t x y (hx x List.mem_cons_self) (hy y List.mem_cons_self), ih ys (fun z hz => hx z (List.mem_cons_of_mem _ hz)) fun z hz => hy z (List.mem_cons_of_mem _ hz)]
          rfl
    exact key _ _ hx hy
  | .p t u, a, b, h, k => by
    obtain ⟨x, y, rfl, h1, h2⟩ := alk_p h
    obtain ⟨x', y', rfl, k1, k2⟩ := alk_p k
    simp [toPy, toPyL, PySem.W.alike, PySem.W.alikeAll, alk_alike t x x' h1 k1, alk_alike u y y' h2 k2]
theorem alk_depth : ∀ (t : Ty) (a : D), alk t a = true → (toPy a).depth ≤ td t
  | .i, a, h => by obtain ⟨i, rfl⟩ := alk_i h; simp [toPy, PyData.depth]
  | .s, a, h => by obtain ⟨i, rfl⟩ := alk_s h; simp [toPy, PyData.depth]
  | .h t, a, h => by
    obtain ⟨x, xs, rfl, hx⟩ := alk_h h
    rw [toPy, PyData.depth, toPyL_map]
    have key : ∀ xs : List D, (∀ x ∈ xs, alk t x = true) → PyData.depthAll (xs.map toPy) ≤ td t := by
      intro xs
      induction xs with
      | nil => intro _; simp [PyData.depthAll]
      | cons x xs ih =>
        intro hx
        rw [List.map_cons, PyData.depthAll]
        have h1 := alk_depth t x (hx x List.mem_cons_self)
        have h2 := ih fun z hz => hx z (List.mem_cons_of_mem _ hz)
        omega
    have := key _ hx
    simp only [td]
    omega
  | .p t u, a, h => by
    obtain ⟨x, y, rfl, h1, h2⟩ := alk_p h
    have h3 := alk_depth t x h1
    have h4 := alk_depth u y h2
    have h5 : td t ≤ Nat.max (td t) (td u) := Nat.le_max_left _ _
    have h6 : td u ≤ Nat.max (td t) (td u) := Nat.le_max_right _ _
    simp only [toPy, toPyL, PyData.depth, PyData.depthAll, td]
    omega
theorem alk_ok : ∀ (t : Ty) (a : D) (k : Nat), alk t a = true → td t ≤ k → okN k a = true
  | .i, a, k, h, l => by obtain ⟨i, rfl⟩ := alk_i h; cases k with | zero => simp [td] at l | succ k => rfl
  | .s, a, k, h, l => by obtain ⟨i, rfl⟩ := alk_s h; cases k with | zero => simp [td] at l | succ k => rfl
  | .h t, a, k, h, l => by
    obtain ⟨x, xs, rfl, hx⟩ := alk_h h
    cases k with
    | zero => simp [td] at l
    | succ k =>
      rw [okN, List.all_eq_true]
      exact fun y hy => alk_ok t y k (hx y hy) (by simp only [td] at l; omega)
  | .p t u, a, k, h, l => by
    obtain ⟨x, y, rfl, h1, h2⟩ := alk_p h
    have h5 : td t ≤ Nat.max (td t) (td u) := Nat.le_max_left _ _
    have h6 : td u ≤ Nat.max (td t) (td u) := Nat.le_max_right _ _
    cases k with
    | zero => simp [td] at l
    | succ k =>
      simp only [td] at l
      simp [okN, alk_ok t x k h1 (by omega), alk_ok u y k h2 (by omega)]
section
variable {X : Cx}
def rSrt (K : PySem.W.Frag) : List V → Hp → VK → Prop := fun vs H Q => ∃ (a : Addr) (ps : List (V × D)), vs = [V.ref a] ∧ SqL K H a (ps.map (·.1)) ∧ (∀ p ∈ ps, Dp K H p.1 (toPy p.2)) ∧ PySem.W.AllAlike (ps.map fun p => toPy p.2) ∧ PySem.W.Sortable (ps.map fun p => toPy p.2) ∧
  (∀ p ∈ ps, (toPy p.2).depth ≤ 40) ∧ ∀ q, H q = none → Q (.ref q) (upd H q (.lst ((ps.mergeSort (PySem.W.dataLe false fun p => toPy p.2)).map (·.1))))
theorem each_vals : ∀ {ps : List (V × D)} {its : List Value}, Vals (ps.map (·.1)) its → PySem.W.EachIs (fun u p => RelV p.1 u) its ps
  | [], [], _ => .nil
  | [], _ :: _, r => nomatch r
  | _ :: _, [], r => nomatch r
  | _ :: _, _ :: _, .cons r t => .cons r (each_vals t)
theorem vals_each : ∀ {ps : List (V × D)} {its : List Value}, PySem.W.EachIs (fun u p => RelV p.1 u) its ps → Vals (ps.map (·.1)) its
  | _, _, .nil => .nil
  | _, _, .cons r t => .cons r (vals_each t)
theorem each_reads {pins : List (Addr × Obj)} {σ : L2.St} {H : Hp} {s : Shared} (I : L2.Inv X pins σ H s) : ∀ {ps : List (V × D)} {its : List Value}, Vals (ps.map (·.1)) its → (∀ p ∈ ps, Dp X.K H p.1 (toPy p.2)) → PySem.W.EachIs (fun u p => ∃ as, Reads s.heap u (toPy p.2) as) its ps
  | [], [], _, _ => .nil
  | [], _ :: _, r, _ => nomatch r
  | _ :: _, [], r, _ => nomatch r
  | p :: _, _ :: _, .cons r t, h => .cons (Dp.reads I _ _ _ (h p List.mem_cons_self) r) (each_reads I t fun q hq => h q (List.mem_cons_of_mem _ hq))
theorem rSrt_ok (hu : X.A.units + 64 < cLine) : CallR X (.builtin "sorted") (rSrt X.K) := by
  intro pins s σ H vs us Q I r h
  obtain ⟨a, ps, rfl, hs, hd, hal, hso, hdp, q⟩ := h
  obtain ⟨its, rv, hl, hz⟩ := I.list hs
  rw [Vals.ref1 r]
  have hz' : ps.length ≤ sizeLine := by simpa using hz
  refine PySem.W.sorted_data (R := fun u p => RelV p.1 u) (enc := fun p : V × D => toPy p.2) hl.isList (each_vals rv) (each_reads I rv hd) hal hso hz' (fun p hp => by have := hdp p hp; omega) fun out h1 h2 => ?_
  obtain ⟨ep, he'⟩ := PyProof.Rows.sortedAll_at s.heap its out.toArray
  have hlen : ((ps.mergeSort (PySem.W.dataLe false fun p => toPy p.2)).map (·.1)).length ≤ sizeLine := by simpa using hz'
  exact ⟨.ref _, upd H (s.heap.objs.size + 1) (.lst ((ps.mergeSort (PySem.W.dataLe false fun p => toPy p.2)).map (·.1))), I.laid (t' := s.toks) (fun _ _ => PyProof.Rows.sortedAll_old) (Nat.le_succ _) ⟨hlen, out, ep, vals_each h2, he'⟩, rfl, q _ (I.hok.fresh (Nat.le_succ _))⟩
end
theorem RepL.zip {T : Tab} {H : Hp} {A : Avd} {n : Nat} : ∀ {vs : List V} {ds : List D}, RepL T H A vs ds n [] → ∃ ps : List (V × D), vs = ps.map (·.1) ∧ ds = ps.map (·.2) ∧ ∀ p ∈ ps, Rep T H A p.1 p.2 n []
  | [], [], _ => ⟨[], rfl, rfl, fun p hp => absurd hp (by simp)⟩
  | [], _ :: _, r => nomatch r
  | _ :: _, [], r => nomatch r
  | v :: _, d :: _, r => by
    obtain ⟨ps, h1, h2, h3⟩ := RepL.zip r.inv.2
    refine ⟨(v, d) :: ps, by rw [h1]; rfl, by rw [h2]; rfl, fun p hp => ?_⟩
    rcases List.mem_cons.mp hp with e | hp
    · rw [e]; exact r.inv.1
    · exact h3 p hp
theorem RepL.unzip {T : Tab} {H : Hp} {A : Avd} {n : Nat} : ∀ {ps : List (V × D)}, (∀ p ∈ ps, Rep T H A p.1 p.2 n []) → RepL T H A (ps.map (·.1)) (ps.map (·.2)) n []
  | [], _ => .nil
  | p :: ps, h => .mk (h p List.mem_cons_self) (RepL.unzip fun q hq => h q (List.mem_cons_of_mem _ hq))
theorem srt_do {T : Tab} {H : Hp} {A : Avd} {v : V} {t : Ty} {xs : List D} {Q : VK} (ht : td t ≤ 40) (r : Rep T H A v (.lst xs) 0 []) (h : xs.all (alk t) = true) (p : Post T A H (.lst (sortD xs)) 1 Q) : rSrt T.K [v] H Q := by
  obtain ⟨a, vs, rfl, ha, _, rl⟩ := r.lst_inv
  obtain ⟨ps, rfl, rfl, hp⟩ := rl.zip
  have hk : ∀ q ∈ ps, alk t q.2 = true := fun q hq => (List.all_eq_true.mp h) q.2 (List.mem_map.mpr ⟨q, hq, rfl⟩)
  refine ⟨a, ps, rfl, SqL.of ha, fun q hq => (hp q hq).dp (alk_ok t q.2 40 (hk q hq) ht) |>.1, ?_, ?_, fun q hq => Nat.le_trans (alk_depth t q.2 (hk q hq)) ht, fun q hq => ?_⟩
  · intro d hd d' hd'
    obtain ⟨b, hb, rfl⟩ := List.mem_map.mp hd
    obtain ⟨b', hb', rfl⟩ := List.mem_map.mp hd'
    exact alk_alike t _ _ (hk b hb) (hk b' hb')
  · cases t with
    | i =>
      refine .inr fun d hd => ?_
      obtain ⟨b, hb, rfl⟩ := List.mem_map.mp hd
      obtain ⟨i, e⟩ := alk_i (hk b hb)
      rw [e, toPy]
      exact ⟨fun z => (nomatch z), fun _ z => (nomatch z)⟩
    | s =>
      refine .inr fun d hd => ?_
      obtain ⟨b, hb, rfl⟩ := List.mem_map.mp hd
      obtain ⟨i, e⟩ := alk_s (hk b hb)
      rw [e, toPy]
      exact ⟨fun z => (nomatch z), fun _ z => (nomatch z)⟩
    | h u =>
      refine .inl fun d hd => ?_
      obtain ⟨b, hb, rfl⟩ := List.mem_map.mp hd
      obtain ⟨x, xs, e, _⟩ := alk_h (hk b hb)
      rw [e, toPy, toPyL]
      exact ⟨_, _, rfl⟩
    | p u w =>
      refine .inl fun d hd => ?_
      obtain ⟨b, hb, rfl⟩ := List.mem_map.mp hd
      obtain ⟨x, y, e, _⟩ := alk_p (hk b hb)
      rw [e, toPy, toPyL]
      exact ⟨_, _, rfl⟩
  · have e : sortD (ps.map (·.2)) = (ps.mergeSort (PySem.W.dataLe false fun p => toPy p.2)).map (·.2) := by
      unfold sortD
      rw [List.map_mergeSort]
      intro a _ b _
      rfl
    rw [e] at p
    exact p.lst (RepL.unzip fun z hz => hp z ((List.mergeSort_perm _ _).mem_iff.mp hz)) hq

/-! ### sums, least and greatest -/
theorem ints_vs {T : Tab} {H : Hp} {A : Avd} : ∀ {vs : List V} {ds : List D} {ns : List Int}, RepL T H A vs ds 0 [] → intsOf ds = some ns → vs = ns.map V.int
  | [], [], _, _, h => by simp [intsOf] at h; subst h; rfl
  | [], _ :: _, _, r, _ => nomatch r
  | _ :: _, [], _, r, _ => nomatch r
  | v :: _, d :: _, ns, r, h => by
    cases d <;> simp [intsOf] at h
    obtain ⟨ms, h1, rfl⟩ := h
    rw [r.inv.1.int_inv, ints_vs r.inv.2 h1]
    rfl
theorem bools_vs {T : Tab} {H : Hp} {A : Avd} : ∀ {vs : List V} {ds : List D} {ns : List Bool}, RepL T H A vs ds 0 [] → boolsOf ds = some ns → vs = ns.map V.bl
  | [], [], _, _, h => by simp [boolsOf] at h; subst h; rfl
  | [], _ :: _, _, r, _ => nomatch r
  | _ :: _, [], _, r, _ => nomatch r
  | v :: _, d :: _, ns, r, h => by
    cases d <;> simp [boolsOf] at h
    obtain ⟨ms, h1, rfl⟩ := h
    rw [r.inv.1.bl_inv, bools_vs r.inv.2 h1]
    rfl
theorem best_min : ∀ (ns : List Int) (n : Int), best (fun b a => decide (b < a)) n ns ∈ n :: ns ∧ ∀ y ∈ n :: ns, best (fun b a => decide (b < a)) n ns ≤ y
  | [], n => by simp [best]
  | m :: ns, n => by
    rw [best]
    by_cases h : m < n
    · rw [if_pos (by simpa using h)]
      obtain ⟨h1, h2⟩ := best_min ns m
      refine ⟨List.mem_cons_of_mem _ h1, fun y hy => ?_⟩
      rcases List.mem_cons.mp hy with rfl | hy
      · have := h2 m List.mem_cons_self; omega
      · exact h2 y hy
    · rw [if_neg (by simpa using h)]
      obtain ⟨h1, h2⟩ := best_min ns n
      refine ⟨?_, fun y hy => ?_⟩
      · rcases List.mem_cons.mp h1 with e | h1
        · rw [e]; exact List.mem_cons_self
        · exact List.mem_cons_of_mem _ (List.mem_cons_of_mem _ h1)
      · rcases List.mem_cons.mp hy with rfl | hy
        · exact h2 _ List.mem_cons_self
        · rcases List.mem_cons.mp hy with rfl | hy
          · have := h2 n List.mem_cons_self; omega
          · exact h2 y (List.mem_cons_of_mem _ hy)
theorem best_max : ∀ (ns : List Int) (n : Int), best (fun b a => decide (a < b)) n ns ∈ n :: ns ∧ ∀ y ∈ n :: ns, y ≤ best (fun b a => decide (a < b)) n ns
  | [], n => by simp [best]
  | m :: ns, n => by
    rw [best]
    by_cases h : n < m
    · rw [if_pos (by simpa using h)]
      obtain ⟨h1, h2⟩ := best_max ns m
      refine ⟨List.mem_cons_of_mem _ h1, fun y hy => ?_⟩
      rcases List.mem_cons.mp hy with rfl | hy
      · have := h2 m List.mem_cons_self; omega
      · exact h2 y hy
    · rw [if_neg (by simpa using h)]
      obtain ⟨h1, h2⟩ := best_max ns n
      refine ⟨?_, fun y hy => ?_⟩
      · rcases List.mem_cons.mp h1 with e | h1
        · rw [e]; exact List.mem_cons_self
        · exact List.mem_cons_of_mem _ (List.mem_cons_of_mem _ h1)
      · rcases List.mem_cons.mp hy with rfl | hy
        · exact h2 _ List.mem_cons_self
        · rcases List.mem_cons.mp hy with rfl | hy
          · have := h2 n List.mem_cons_self; omega
          · exact h2 y (List.mem_cons_of_mem _ hy)
end Hc
set_option Elab.async false
set_option linter.all false
set_option maxRecDepth 100000
set_option maxHeartbeats 4000000
/-! Built-in functions by their names. -/
namespace Hc
open PySem PySem.Spec PyProof.Rows L2
section
variable {T : Tab} {ev : Ev} {X : Cx} {x y z : Expr} {a b c : E} {es : Es} {xs : List Expr} {pos : Pos}
theorem rep1 {H : Hp} {A : Avd} {n : Nat} {vs : List V} {d : D} (r : RepL T H A vs [d] n []) : ∃ v, vs = [v] ∧ Rep T H A v d n [] := by
  match vs, r with
  | [], r => exact nomatch r
  | v :: vs, r =>
    cases vs with
    | nil => exact ⟨v, rfl, r.inv.1⟩
    | cons w ws => exact nomatch r.inv.2
theorem rep2 {H : Hp} {A : Avd} {n : Nat} {vs : List V} {d e : D} (r : RepL T H A vs [d, e] n []) : ∃ v w, vs = [v, w] ∧ Rep T H A v d n [] ∧ Rep T H A w e n [] := by
  match vs, r with
  | [], r => exact nomatch r
  | v :: vs, r =>
    obtain ⟨w, rfl, h⟩ := rep1 r.inv.2
    exact ⟨v, w, rfl, r.inv.1, h⟩
/-- a built-in def, a built-in class -/
theorem e_bf {bi : Bi} {nm : Str} {p : Pos} {rr : List V → Hp → VK → Prop} {id : String} (hr : CallR X (.builtin id) rr) (hg : Gl X nm) (hm : X.mg nm = none) (hv : bootBuiltins nm = some (.builtin id)) (hn : nm ≠ "__name__") (hd : (nm == ("__debug__" : Str)) = false) (hs : ∀ e ∈ x :: xs, noStar e = true) (h : PA X (x :: xs) (tEs T ev es))
    (hdo : ∀ A H vs ds d n Q, RepL T H A vs ds 0 [] → biD bi ds = .ok (d, n) → Post T A H d n Q → rr vs H Q) : PE X (.Call (.Name nm p) (x :: xs) [] pos) (tE T ev (.bi bi es)) := ⟨fun pins s σ H Q I w => by
  obtain ⟨A, r, d, n, al, sh, e1, pp⟩ := w
  rw [evE] at e1
  obtain ⟨ds, e2, e1⟩ := Rs.bind_ok e1
  refine (pe_callB hr hg hm hv h hn hd (star_cons (hs _ List.mem_cons_self) _ _) (star_plain _ _ _ fun e he => hs e (List.mem_cons_of_mem _ he))).run pins s σ H Q I ?_
  exact ⟨A, r, ds, al, sh, e2, fun vs H1 s1 r1 => hdo A H1 vs ds d n Q r1 e1 (pp.later s1)⟩⟩
theorem e_bt {bi : Bi} {nm : Str} {p : Pos} {rr : List V → Hp → VK → Prop} {id : String} (hr : CallR X (.type id) rr) (hg : Gl X nm) (hm : X.mg nm = none) (hv : bootBuiltins nm = some (.type id)) (hn : nm ≠ "__name__") (hd : (nm == ("__debug__" : Str)) = false) (hs : ∀ e ∈ x :: xs, noStar e = true) (h : PA X (x :: xs) (tEs T ev es))
    (hdo : ∀ A H vs ds d n Q, RepL T H A vs ds 0 [] → biD bi ds = .ok (d, n) → Post T A H d n Q → rr vs H Q) : PE X (.Call (.Name nm p) (x :: xs) [] pos) (tE T ev (.bi bi es)) := ⟨fun pins s σ H Q I w => by
  obtain ⟨A, r, d, n, al, sh, e1, pp⟩ := w
  rw [evE] at e1
  obtain ⟨ds, e2, e1⟩ := Rs.bind_ok e1
  refine (pe_callTy hr hg hm hv h hn hd (star_cons (hs _ List.mem_cons_self) _ _) (star_plain _ _ _ fun e he => hs e (List.mem_cons_of_mem _ he))).run pins s σ H Q I ?_
  exact ⟨A, r, ds, al, sh, e2, fun vs H1 s1 r1 => hdo A H1 vs ds d n Q r1 e1 (pp.later s1)⟩⟩

theorem len_do {A : Avd} {H : Hp} {vs : List V} {ds : List D} {d : D} {n : Nat} {Q : VK} (r : RepL T H A vs ds 0 []) (e : biD .len ds = .ok (d, n)) (p : Post T A H d n Q) : ∃ x n, vs = [x] ∧ LenV T.K x H n ∧ Q (.int (n : Nat)) H := by
  unfold biD at e
  split at e <;> (first | (cases e; done) | (rename_i h _; cases h; done) | skip)
  all_goals (first | (rename_i hb; cases hb; done) | skip)
  · cases e
    obtain ⟨v, rfl, rv⟩ := rep1 r
    obtain ⟨q, ws, rfl, h, _, rl⟩ := rv.lst_inv
    exact ⟨_, _, rfl, .inl ⟨ws, SqL.of h, rfl⟩, by rw [rl.length]; exact p.int⟩
  · cases e
    obtain ⟨v, rfl, rv⟩ := rep1 r
    obtain ⟨q, ws, rfl, h, rl⟩ := rv.tup_inv
    exact ⟨_, _, rfl, .inr ⟨ws, h, rfl⟩, by rw [rl.length]; exact p.int⟩
  · cases e
    obtain ⟨v, rfl, rv⟩ := rep1 r
    cases rv with
    | scr h _ => exact ⟨_, _, rfl, .inl ⟨_, h, rfl⟩, by rw [List.length_map]; exact p.int⟩
  · split at e
    · cases e
      obtain ⟨v, rfl, rv⟩ := rep1 r
      rw [rv.str_inv]
      exact ⟨_, _, rfl, ⟨lim_le (by assumption), rfl⟩, p.int⟩
    · cases e
theorem int_do {A : Avd} {H : Hp} {vs : List V} {ds : List D} {d : D} {n : Nat} {Q : VK} (r : RepL T H A vs ds 0 []) (e : biD .int ds = .ok (d, n)) (p : Post T A H d n Q) : (fun xs H Q => (∃ i, xs = [V.int i] ∧ Q (.int i) H) ∨ ∃ k, xs = [V.bl k] ∧ Q (.int (if k then 1 else 0)) H) vs H Q := by
  unfold biD at e
  split at e <;> (first | (cases e; done) | (rename_i h _; cases h; done) | skip)
  all_goals (first | (rename_i hb; cases hb; done) | skip)
  · cases e
    obtain ⟨v, rfl, rv⟩ := rep1 r
    rw [rv.int_inv]
    exact .inl ⟨_, rfl, p.int⟩
  · cases e
    obtain ⟨v, rfl, rv⟩ := rep1 r
    rw [rv.bl_inv]
    exact .inr ⟨_, rfl, p.int⟩
theorem abs_do {A : Avd} {H : Hp} {vs : List V} {ds : List D} {d : D} {n : Nat} {Q : VK} (r : RepL T H A vs ds 0 []) (e : biD .abs ds = .ok (d, n)) (p : Post T A H d n Q) : (fun xs H Q => ∃ i, xs = [V.int i] ∧ Q (.int (if i < 0 then -i else i)) H) vs H Q := by
  unfold biD at e
  split at e <;> (first | (cases e; done) | (rename_i h _; cases h; done) | skip)
  all_goals (first | (rename_i hb; cases hb; done) | skip)
  · cases e
    obtain ⟨v, rfl, rv⟩ := rep1 r
    rw [rv.int_inv]
    exact ⟨_, rfl, p.int⟩
theorem min_do {A : Avd} {H : Hp} {vs : List V} {ds : List D} {d : D} {n : Nat} {Q : VK} (r : RepL T H A vs ds 0 []) (e : biD .min ds = .ok (d, n)) (p : Post T A H d n Q) : (fun xs H Q => ∃ i j, xs = [V.int i, V.int j] ∧ Q (.int (if j < i then j else i)) H) vs H Q := by
  unfold biD at e
  split at e <;> (first | (cases e; done) | (rename_i h _; cases h; done) | skip)
  all_goals (first | (rename_i hb; cases hb; done) | skip)
  · cases e
    obtain ⟨v, w, rfl, rv, rw'⟩ := rep2 r
    rw [rv.int_inv, rw'.int_inv]
    exact ⟨_, _, rfl, p.int⟩
theorem max_do {A : Avd} {H : Hp} {vs : List V} {ds : List D} {d : D} {n : Nat} {Q : VK} (r : RepL T H A vs ds 0 []) (e : biD .max ds = .ok (d, n)) (p : Post T A H d n Q) : (fun xs H Q => ∃ i j, xs = [V.int i, V.int j] ∧ Q (.int (if j > i then j else i)) H) vs H Q := by
  unfold biD at e
  split at e <;> (first | (cases e; done) | (rename_i h _; cases h; done) | skip)
  all_goals (first | (rename_i hb; cases hb; done) | skip)
  · cases e
    obtain ⟨v, w, rfl, rv, rw'⟩ := rep2 r
    rw [rv.int_inv, rw'.int_inv]
    exact ⟨_, _, rfl, p.int⟩
theorem list_do {A : Avd} {H : Hp} {vs : List V} {ds : List D} {d : D} {n : Nat} {Q : VK} (r : RepL T H A vs ds 0 []) (e : biD .list ds = .ok (d, n)) (p : Post T A H d n Q) : (fun xs H Q => ∃ p ys, xs = [V.ref p] ∧ (SqL T.K H p ys ∨ SqT T.K H p ys) ∧ ∀ l, H l = none → Q (.ref l) (upd H l (.lst ys))) vs H Q := by
  unfold biD at e
  split at e <;> (first | (cases e; done) | (rename_i h _; cases h; done) | skip)
  all_goals (first | (rename_i hb; cases hb; done) | skip)
  · cases e
    obtain ⟨v, rfl, rv⟩ := rep1 r
    obtain ⟨q, ws, rfl, h, _, rl⟩ := rv.lst_inv
    exact ⟨_, _, rfl, .inl (SqL.of h), fun l hl => p.lst rl hl⟩
  · cases e
    obtain ⟨v, rfl, rv⟩ := rep1 r
    obtain ⟨q, ws, rfl, h, rl⟩ := rv.tup_inv
    exact ⟨_, _, rfl, .inr h, fun l hl => p.lst rl hl⟩
theorem tuple_do {A : Avd} {H : Hp} {vs : List V} {ds : List D} {d : D} {n : Nat} {Q : VK} (r : RepL T H A vs ds 0 []) (e : biD .tuple ds = .ok (d, n)) (p : Post T A H d n Q) : (fun xs H Q => ∃ p ys, xs = [V.ref p] ∧ ((SqL T.K H p ys ∧ ∀ l, H l = none → Q (.ref l) (upd H l (.tup ys))) ∨ (SqT T.K H p ys ∧ Q (.ref p) H))) vs H Q := by
  unfold biD at e
  split at e <;> (first | (cases e; done) | (rename_i h _; cases h; done) | skip)
  all_goals (first | (rename_i hb; cases hb; done) | skip)
  · cases e
    obtain ⟨v, rfl, rv⟩ := rep1 r
    obtain ⟨q, ws, rfl, h, _, rl⟩ := rv.lst_inv
    exact ⟨_, _, rfl, .inl ⟨SqL.of h, fun l hl => p.tup rl hl⟩⟩
  · cases e
    obtain ⟨v, rfl, rv⟩ := rep1 r
    obtain ⟨q, ws, rfl, h, rl⟩ := rv.tup_inv
    exact ⟨_, _, rfl, .inr ⟨h, p.now (.tup h rl)⟩⟩
theorem sorted_do {t : Ty} {A : Avd} {H : Hp} {vs : List V} {ds : List D} {d : D} {n : Nat} {Q : VK} (r : RepL T H A vs ds 0 []) (e : biD (.sorted t) ds = .ok (d, n)) (p : Post T A H d n Q) (ht : td t ≤ 40) : rSrt T.K vs H Q := by
  unfold biD at e
  split at e <;> (first | contradiction | skip)
  rename_i t' xs hb
  cases hb
  split at e
  · cases e
    obtain ⟨v, rfl, rv⟩ := rep1 r
    exact srt_do ht rv (by assumption) p
  · cases e
theorem str_do {A : Avd} {H : Hp} {vs : List V} {ds : List D} {d : D} {n : Nat} {Q : VK} (r : RepL T H A vs ds 0 []) (e : biD .str ds = .ok (d, n)) (p : Post T A H d n Q) : (fun xs H Q => ∃ i : Int, xs = [V.int i] ∧ i.natAbs.log2 < 1920 ∧ Q (.str (toString i : String)) H) vs H Q := by
  unfold biD at e
  split at e <;> (first | (cases e; done) | (rename_i h _; cases h; done) | skip)
  all_goals (first | (rename_i hb; cases hb; done) | skip)
  · split at e
    · cases e
      obtain ⟨v, rfl, rv⟩ := rep1 r
      rw [rv.int_inv]
      exact ⟨_, rfl, by assumption, p.str⟩
    · cases e
theorem sum_do {A : Avd} {H : Hp} {vs : List V} {ds : List D} {d : D} {n : Nat} {Q : VK} (r : RepL T H A vs ds 0 []) (e : biD .sum ds = .ok (d, n)) (p : Post T A H d n Q) : rSum T.K vs H Q := by
  unfold biD at e
  split at e <;> (first | (cases e; done) | (rename_i h _; cases h; done) | skip)
  all_goals (first | (rename_i hb; cases hb; done) | skip)
  · obtain ⟨ns, e1, e2⟩ := Option.map_eq_some_iff.mp (of_ok e)
    cases e2
    obtain ⟨v, rfl, rv⟩ := rep1 r
    obtain ⟨q, ws, rfl, h, _, rl⟩ := rv.lst_inv
    exact ⟨q, ns, rfl, by rw [← ints_vs rl e1]; exact SqL.of h, p.int⟩
theorem any_do {A : Avd} {H : Hp} {vs : List V} {ds : List D} {d : D} {n : Nat} {Q : VK} (r : RepL T H A vs ds 0 []) (e : biD .any ds = .ok (d, n)) (p : Post T A H d n Q) : rAny T.K vs H Q := by
  unfold biD at e
  split at e <;> (first | (cases e; done) | (rename_i h _; cases h; done) | skip)
  all_goals (first | (rename_i hb; cases hb; done) | skip)
  · obtain ⟨ns, e1, e2⟩ := Option.map_eq_some_iff.mp (of_ok e)
    cases e2
    obtain ⟨v, rfl, rv⟩ := rep1 r
    obtain ⟨q, ws, rfl, h, _, rl⟩ := rv.lst_inv
    exact ⟨q, ns, rfl, by rw [← bools_vs rl e1]; exact SqL.of h, p.bl⟩
theorem all_do {A : Avd} {H : Hp} {vs : List V} {ds : List D} {d : D} {n : Nat} {Q : VK} (r : RepL T H A vs ds 0 []) (e : biD .all ds = .ok (d, n)) (p : Post T A H d n Q) : rAll T.K vs H Q := by
  unfold biD at e
  split at e <;> (first | (cases e; done) | (rename_i h _; cases h; done) | skip)
  all_goals (first | (rename_i hb; cases hb; done) | skip)
  · obtain ⟨ns, e1, e2⟩ := Option.map_eq_some_iff.mp (of_ok e)
    cases e2
    obtain ⟨v, rfl, rv⟩ := rep1 r
    obtain ⟨q, ws, rfl, h, _, rl⟩ := rv.lst_inv
    exact ⟨q, ns, rfl, by rw [← bools_vs rl e1]; exact SqL.of h, p.bl⟩
theorem minL_do {A : Avd} {H : Hp} {vs : List V} {ds : List D} {d : D} {n : Nat} {Q : VK} (r : RepL T H A vs ds 0 []) (e : biD .minL ds = .ok (d, n)) (p : Post T A H d n Q) : rMin T.K vs H Q := by
  unfold biD at e
  split at e <;> (first | (cases e; done) | (rename_i h _; cases h; done) | skip)
  all_goals (first | (rename_i hb; cases hb; done) | skip)
  · split at e
    · rename_i n' ns hi
      cases e
      obtain ⟨v, rfl, rv⟩ := rep1 r
      obtain ⟨q, ws, rfl, h, _, rl⟩ := rv.lst_inv
      obtain ⟨h1, h2⟩ := best_min ns n'
      refine ⟨q, n' :: ns, rfl, by rw [← ints_vs rl hi]; exact SqL.of h, by simp, fun m hm1 hm2 => ?_⟩
      have h3 := hm2 _ h1
      have h4 := h2 _ hm1
      have h5 : m = _ := Int.le_antisymm h3 h4
      rw [h5]; exact p.int
    · cases e
theorem maxL_do {A : Avd} {H : Hp} {vs : List V} {ds : List D} {d : D} {n : Nat} {Q : VK} (r : RepL T H A vs ds 0 []) (e : biD .maxL ds = .ok (d, n)) (p : Post T A H d n Q) : rMax T.K vs H Q := by
  unfold biD at e
  split at e <;> (first | (cases e; done) | (rename_i h _; cases h; done) | skip)
  all_goals (first | (rename_i hb; cases hb; done) | skip)
  · split at e
    · rename_i n' ns hi
      cases e
      obtain ⟨v, rfl, rv⟩ := rep1 r
      obtain ⟨q, ws, rfl, h, _, rl⟩ := rv.lst_inv
      obtain ⟨h1, h2⟩ := best_max ns n'
      refine ⟨q, n' :: ns, rfl, by rw [← ints_vs rl hi]; exact SqL.of h, by simp, fun m hm1 hm2 => ?_⟩
      have h3 := hm2 _ h1
      have h4 := h2 _ hm1
      have h5 : m = _ := Int.le_antisymm h4 h3
      rw [h5]; exact p.int
    · cases e
/-- any built-in but isinstance -/
theorem e_bi {cc : Cc} {k : Nat} {bi : Bi} {g : Expr} (C : Ctx T cc ev k X) (tk : X.K = T.K) (hu : X.A.units + 64 < cLine) (ho : biOk bi = true) (hn : ∀ n, bi ≠ .isi n) (hg : isName X.env.scope (biNm bi) g = true) (hs : ∀ e ∈ x :: xs, noStar e = true) (h : PA X (x :: xs) (tEs T ev es)) :
    PE X (.Call g (x :: xs) [] pos) (tE T ev (.bi bi es)) := by
  obtain ⟨gp, rfl, hgl⟩ := isName_ok hg
  cases bi with
  | isi n => exact absurd rfl (hn n)
  | len => exact e_bf call_len hgl (C.bn _ (by decide +kernel)) boot_len (by decide +kernel) (by decide +kernel) hs h fun A H vs ds d n Q r e p => by rw [tk]; exact len_do r e p
  | int => exact e_bt call_int1 hgl (C.bn _ (by decide +kernel)) boot_int (by decide +kernel) (by decide +kernel) hs h fun A H vs ds d n Q r e p => int_do r e p
  | list => exact e_bt call_list_of hgl (C.bn _ (by decide +kernel)) boot_list (by decide +kernel) (by decide +kernel) hs h fun A H vs ds d n Q r e p => by rw [tk]; exact list_do r e p
  | tuple => exact e_bt call_tuple_of hgl (C.bn _ (by decide +kernel)) boot_tuple (by decide +kernel) (by decide +kernel) hs h fun A H vs ds d n Q r e p => by rw [tk]; exact tuple_do r e p
  | sorted t => exact e_bf (rSrt_ok hu) hgl (C.bn _ (show sStr "sorted" ∈ bNames by decide +kernel)) (show bootBuiltins "sorted" = some (.builtin "sorted") by decide +kernel) (show sStr "sorted" ≠ "__name__" by decide +kernel) (show (sStr "sorted" == ("__debug__" : Str)) = false by decide +kernel) hs h fun A H vs ds d n Q r e p => by rw [tk]; exact sorted_do r e p (by simpa [biOk] using ho)
  | abs => exact e_bf call_abs hgl (C.bn _ (by decide +kernel)) boot_abs (by decide +kernel) (by decide +kernel) hs h fun A H vs ds d n Q r e p => abs_do r e p
  | min => exact e_bf (call_min2 C.calm) hgl (C.bn _ (by decide +kernel)) (show bootBuiltins "min" = some (.builtin "min") by decide +kernel) (by decide +kernel) (by decide +kernel) hs h fun A H vs ds d n Q r e p => min_do r e p
  | max => exact e_bf (call_max2 C.calm) hgl (C.bn _ (by decide +kernel)) (show bootBuiltins "max" = some (.builtin "max") by decide +kernel) (by decide +kernel) (by decide +kernel) hs h fun A H vs ds d n Q r e p => max_do r e p
  | sum => exact e_bf (cr_sum C.calm) hgl (C.bn _ (by decide +kernel)) (show bootBuiltins "sum" = some (.builtin "sum") by decide +kernel) (by decide +kernel) (by decide +kernel) hs h fun A H vs ds d n Q r e p => by rw [tk]; exact sum_do r e p
  | any => exact e_bf (cr_any C.calm) hgl (C.bn _ (by decide +kernel)) (show bootBuiltins "any" = some (.builtin "any") by decide +kernel) (by decide +kernel) (by decide +kernel) hs h fun A H vs ds d n Q r e p => by rw [tk]; exact any_do r e p
  | all => exact e_bf (cr_all C.calm) hgl (C.bn _ (by decide +kernel)) (show bootBuiltins "all" = some (.builtin "all") by decide +kernel) (by decide +kernel) (by decide +kernel) hs h fun A H vs ds d n Q r e p => by rw [tk]; exact all_do r e p
  | str => exact e_bt call_str_int hgl (C.bn _ (by decide +kernel)) boot_str (by decide +kernel) (by decide +kernel) hs h fun A H vs ds d n Q r e p => str_do r e p
  | minL => exact e_bf (cr_min C.calm) hgl (C.bn _ (by decide +kernel)) (show bootBuiltins "min" = some (.builtin "min") by decide +kernel) (by decide +kernel) (by decide +kernel) hs h fun A H vs ds d n Q r e p => by rw [tk]; exact minL_do r e p
  | maxL => exact e_bf (cr_max C.calm) hgl (C.bn _ (by decide +kernel)) (show bootBuiltins "max" = some (.builtin "max") by decide +kernel) (by decide +kernel) (by decide +kernel) hs h fun A H vs ds d n Q r e p => by rw [tk]; exact maxL_do r e p
  | dmaxL => exact ⟨fun pins s σ H Q I w => by
      obtain ⟨A, r, d, n, al, sh, e1, pp⟩ := w
      rw [evE] at e1
      obtain ⟨ds, e2, e1⟩ := Rs.bind_ok e1
      unfold biD at e1
      split at e1 <;> (first | (cases e1; done) | (rename_i h _; cases h; done) | (rename_i h; cases h; done))⟩

/-! isinstance -/
def isiTy : Nat → String
  | 0 => "int"
  | 1 => "str"
  | 2 => "list"
  | 3 => "tuple"
  | _ => "bool"
theorem isi_base {A : Avd} {H : Hp} {v : V} {d : D} {k : Nat} {b : Bool} (r : Rep T H A v d 0 []) (e : isiD k d = some b) : ∃ t, TyX T.K H v (.type t) ∧ kitB t (isiTy k) = some b := by
  have hk : k = 0 ∨ k = 1 ∨ k = 2 ∨ k = 3 ∨ k = 4 := by
    match k, e with
    | 0, _ => simp
    | 1, _ => simp
    | 2, _ => simp
    | 3, _ => simp
    | 4, _ => simp
    | k + 5, e => cases d <;> simp [isiD] at e
  cases r with
  | non => rcases hk with rfl | rfl | rfl | rfl | rfl <;> (simp [isiD] at e; subst e; exact ⟨"NoneType", .base .non, by decide +kernel⟩)
  | bl => rcases hk with rfl | rfl | rfl | rfl | rfl <;> (simp [isiD] at e; subst e; exact ⟨"bool", .base (.bl _), by decide +kernel⟩)
  | int => rcases hk with rfl | rfl | rfl | rfl | rfl <;> (simp [isiD] at e; subst e; exact ⟨"int", .base (.int _), by decide +kernel⟩)
  | str => rcases hk with rfl | rfl | rfl | rfl | rfl <;> (simp [isiD] at e; subst e; exact ⟨"str", .base (.str _), by decide +kernel⟩)
  | @tup _ ta _ _ h _ =>
    have ht : TyX T.K H (.ref ta) (.type "tuple") := by
      rcases h with (h | ⟨o, h⟩) | ⟨o, its, n, h, h2, _⟩
      · exact .base (.tup h)
      · exact .fTuple h
      · exact .kTuple h h2
    rcases hk with rfl | rfl | rfl | rfl | rfl <;> (simp [isiD] at e; subst e; exact ⟨"tuple", ht, by decide +kernel⟩)
  | scr _ _ => rcases hk with rfl | rfl | rfl | rfl | rfl <;> simp [isiD] at e
  | lstS h _ _ => rcases hk with rfl | rfl | rfl | rfl | rfl <;> (simp [isiD] at e; subst e; exact ⟨"list", .base (.lst h), by decide +kernel⟩)
  | dctS h _ _ => rcases hk with rfl | rfl | rfl | rfl | rfl <;> (simp [isiD] at e; subst e; exact ⟨"dict", .base (.dK h), by decide +kernel⟩)
  | dctTS h _ _ => rcases hk with rfl | rfl | rfl | rfl | rfl <;> (simp [isiD] at e; subst e; exact ⟨"dict", .base (.dT h), by decide +kernel⟩)
  | objS _ _ _ _ => rcases hk with rfl | rfl | rfl | rfl | rfl <;> simp [isiD] at e
  | ownS _ _ _ _ => rcases hk with rfl | rfl | rfl | rfl | rfl <;> simp [isiD] at e
theorem e_ty {k : Nat} {nm : Str} {p : Pos} (hn : nm = isiNm k) (hg : Gl X nm) (hm : X.mg nm = none) : PE X (.Name nm p) (tC (.ty (isiTy k))) := by
  subst hn
  match k with
  | 0 => exact pe_bltn hg hm boot_int rfl (by decide +kernel) (by decide +kernel)
  | 1 => exact pe_bltn hg hm boot_str rfl (by decide +kernel) (by decide +kernel)
  | 2 => exact pe_bltn hg hm boot_list rfl (by decide +kernel) (by decide +kernel)
  | 3 => exact pe_bltn hg hm boot_tuple rfl (by decide +kernel) (by decide +kernel)
  | k + 4 => exact pe_bltn hg hm boot_bool rfl (show isiNm 4 ≠ "__name__" by decide +kernel) (show (isiNm 4 == ("__debug__" : Str)) = false by decide +kernel)
theorem isiNm_mem (k : Nat) : isiNm k ∈ bNames := by
  match k with
  | 0 => decide +kernel
  | 1 => decide +kernel
  | 2 => decide +kernel
  | 3 => decide +kernel
  | k + 4 => show isiNm 4 ∈ bNames; decide +kernel
theorem e_isi {cc : Cc} {k kk : Nat} {g : Expr} {nm : Str} {p : Pos} {e : E} (C : Ctx T cc ev kk X) (tk : X.K = T.K) (hg : isName X.env.scope (sStr "isinstance") g = true) (hn : nm = isiNm k) (hgn : Gl X nm) (hs : noStar x = true) (h : PE X x (tE T ev e)) :
    PE X (.Call g [x, .Name nm p] [] pos) (tE T ev (.bi (.isi k) (.cons e .nil))) := by
  obtain ⟨gp, rfl, hgl⟩ := isName_ok hg
  refine ⟨fun pins s σ H Q I w => ?_⟩
  obtain ⟨A, r, d, n, al, sh, e1, pp⟩ := w
  rw [evE] at e1
  obtain ⟨ds, e2, e1⟩ := Rs.bind_ok e1
  rw [evEs] at e2
  obtain ⟨⟨d1, n1⟩, ee, e2⟩ := Rs.bind_ok e2
  obtain ⟨dr, e3, e2⟩ := Rs.bind_ok e2
  rw [evEs] at e3
  cases e3
  cases e2
  have e4 : (isiD k d1).map (fun b => (D.bl b, 9)) = some (d, n) := of_ok e1
  obtain ⟨b, e5, e6⟩ := Option.map_eq_some_iff.mp e4
  cases e6
  refine (pe_callB call_isi hgl (C.bn _ (by decide +kernel)) boot_isinstance (pa_cons h (pa_cons (e_ty (p := p) hn hgn (by rw [hn]; exact C.bn _ (isiNm_mem k))) pa_nil (by rfl)) (star_cons hs _ _)) (by decide +kernel) (by decide +kernel) (star_cons hs _ _) (by rfl)).run pins s σ H Q I ?_
  refine rd1 al sh (fun i hi => by simp [vars, varsL, hi]) ee fun v H1 s1 r1 => ?_
  obtain ⟨t, h1, h2⟩ := isi_base r1 e5
  exact ⟨v, .ty (isiTy k), .type t, .type (isiTy k), b, rfl, .ty _, by rw [tk]; exact h1, kit_ty h2, (pp.later s1).bl⟩
end
end Hc
set_option Elab.async false
set_option linter.all false
set_option maxRecDepth 100000
set_option maxHeartbeats 4000000
/-! Targets, what is walked, comprehensions. -/
namespace Hc
open PySem PySem.Spec PyProof.Rows L2

/-! ### targets -/
structure Bnd (T : Tab) (H : Hp) (A : Avd) (S : List Nat) (r r' : List (Option D)) (σ σ' : L2.St) : Prop where
  len : σ'.length = σ.length
  off : ∀ i, i ∉ S → r'[i]? = r[i]? ∧ σ'[i]? = σ[i]?
  on : ∀ i ∈ S, ∀ d, r'[i]? = some (some d) → ∃ v, σ'[i]? = some (some v) ∧ Rep T H A v d 0 []
def gT (T : Tab) (t : Tg) : TG := fun v σ H Q => ∃ A r r' d, Rep T H A v d 0 [] ∧ bindT t d r = some r' ∧ ∀ σ', Bnd T H A (tgs t) r r' σ σ' → Q σ' H
def gTs (T : Tab) (ts : List Tg) : TGs := fun vs σ H Q => ∃ A r r' ds, RepL T H A vs ds 0 [] ∧ bindTs ts ds r = some r' ∧ ∀ σ', Bnd T H A (tgsL ts) r r' σ σ' → Q σ' H
section
variable {T : Tab} {ev : Ev} {X : Cx} {x y z : Expr} {pos : Pos}
theorem g_nm {cc : Cc} {raw : Scope} {k i : Nat} {nm : Str} (C : Ctx T cc ev k X) (tk : TOk raw X) (hi : X.N[i]? = some nm) (hl : loc raw nm = true) : PG X (.Name nm pos) (gT T (.nm i)) := ⟨fun pins s σ H v u Q I r w => by
  obtain ⟨A, ra, r', d, rp, hb, q⟩ := w
  have hlt : i < σ.length := by
    rw [I.len]
    exact (List.getElem?_eq_some_iff.mp hi).1
  rw [bindT] at hb
  split at hb
  · rename_i hr
    cases hb
    refine (pg_name C.nd hi (tk _ hl).1 (tk _ hl).2).run pins s σ H v u Q I r (q _ ⟨by simp, fun j hj => ?_, fun j hj d' hd => ?_⟩)
    · have hij : i ≠ j := fun e => hj (by simp [tgs, e])
      exact ⟨List.getElem?_set_ne hij, List.getElem?_set_ne hij⟩
    · have hij : j = i := by simpa [tgs] using hj
      subst hij
      rw [List.getElem?_set_self hr] at hd
      cases hd
      exact ⟨v, List.getElem?_set_self hlt, rp⟩
  · cases hb⟩
theorem ea_cons {e : Expr} (h : noStar e = true) (es : List Expr) (env : Env) : assignEach (e :: es) env = (false, assign e env) :: assignEach es env := by
  cases e <;> first | rfl | cases h
theorem ea_len (env : Env) : ∀ es : List Expr, (∀ e ∈ es, noStar e = true) → (assignEach es env).length = es.length
  | [], _ => rfl
  | e :: es, h => by
    rw [ea_cons (h e List.mem_cons_self), List.length_cons, List.length_cons, ea_len env es fun x hx => h x (List.mem_cons_of_mem _ hx)]
theorem ea_star (env : Env) : ∀ es : List Expr, (∀ e ∈ es, noStar e = true) → (assignEach es env).findIdx? (·.1) = none
  | [], _ => rfl
  | e :: es, h => by
    rw [ea_cons (h e List.mem_cons_self), List.findIdx?_cons, ea_star env es fun x hx => h x (List.mem_cons_of_mem _ hx)]
    rfl
theorem cvTs_star {c : Cc} {sc : Scope} : ∀ {ts : List Tg} {xs : List Expr}, cvTs c sc ts xs = true → (∀ x ∈ xs, noStar x = true) ∧ xs.length = ts.length
  | [], [], _ => ⟨fun x hx => absurd hx (by simp), rfl⟩
  | [], _ :: _, h => by simp [cvTs] at h
  | _ :: _, [], h => by simp [cvTs] at h
  | t :: ts, y :: ys, h => by
    simp only [cvTs, Bool.and_eq_true] at h
    obtain ⟨h1, h2⟩ := cvTs_star h.2
    refine ⟨fun x hx => ?_, by simp [h2]⟩
    rcases List.mem_cons.mp hx with e | hx
    · rw [e]; exact h.1.1
    · exact h1 x hx
theorem bindTs_len : ∀ {ts : List Tg} {ds : List D} {r r' : List (Option D)}, bindTs ts ds r = some r' → ds.length = ts.length
  | [], [], _, _, _ => rfl
  | [], _ :: _, _, _, h => by simp [bindTs] at h
  | _ :: _, [], _, _, h => by simp [bindTs] at h
  | t :: ts, d :: ds, r, r', h => by
    rw [bindTs] at h
    obtain ⟨r1, _, h2⟩ := Option.bind_eq_some_iff.mp h
    simp [bindTs_len h2]
mutual
theorem g_ok {cc : Cc} {raw : Scope} {k : Nat} (C : Ctx T cc ev k X) (tk : TOk raw X) : ∀ {t : Tg} {x : Expr}, cvT cc raw t x = true → PG X x (gT T t)
  | .nm i, x, h => by
    cases x with
    | Name nm p =>
      simp only [cvT, Bool.and_eq_true, decide_eq_true_eq] at h
      exact g_nm C tk (by rw [C.N]; exact h.1) h.2
    | _ => simp [cvT] at h
  | .tp ts, x, h => by
    cases x with
    | Tuple xs kk p =>
      simp only [cvT] at h
      obtain ⟨hs, hl⟩ := cvTs_star h
      have G := gs_ok C tk h
      refine ⟨fun pins s σ H v u Q I r w => ?_⟩
      obtain ⟨A, ra, r', d, rp, hb, q⟩ := w
      cases d with
      | tup ds =>
        rw [bindT] at hb
        obtain ⟨a, vs, rfl, h1, h2⟩ := rp.tup_inv
        refine (pg_tup C.calm G (ea_len _ _ hs) (ea_star _ _ hs)).run pins s σ H _ u Q I r ⟨a, vs, rfl, by rw [C.K]; exact h1, ?_, A, ra, r', ds, h2, hb, fun σ' hb' => q σ' hb'⟩
        rw [h2.length, bindTs_len hb, hl]
      | lst ds =>
        rw [bindT] at hb
        obtain ⟨a, vs, rfl, h1, _, h2⟩ := rp.lst_inv
        refine (pg_unl C.calm G (ea_len _ _ hs) (ea_star _ _ hs)).run pins s σ H _ u Q I r ⟨a, vs, rfl, SqL.of h1, ?_, A, ra, r', ds, h2, hb, fun σ' hb' => q σ' hb'⟩
        rw [h2.length, bindTs_len hb, hl]
      | _ => simp [bindT] at hb
    | _ => simp [cvT] at h
theorem gs_ok {cc : Cc} {raw : Scope} {k : Nat} (C : Ctx T cc ev k X) (tk : TOk raw X) : ∀ {ts : List Tg} {xs : List Expr}, cvTs cc raw ts xs = true → PGs X xs (gTs T ts)
  | [], [], _ => ⟨fun pins s σ H vs us Q I r w => by
    obtain ⟨A, ra, r', ds, rp, hb, q⟩ := w
    cases ds with
    | nil =>
      rw [bindTs] at hb
      cases hb
      cases rp
      exact pgs_nil.run pins s σ H _ us Q I r ⟨rfl, q σ ⟨rfl, fun i _ => ⟨rfl, rfl⟩, fun i hi => absurd hi (by simp [tgsL])⟩⟩
    | cons d ds => simp [bindTs] at hb⟩
  | [], _ :: _, h => by simp [cvTs] at h
  | _ :: _, [], h => by simp [cvTs] at h
  | t :: ts, y :: ys, h => by
    simp only [cvTs, Bool.and_eq_true] at h
    have G1 := g_ok C tk h.1.2
    have G2 := gs_ok C tk h.2
    refine ⟨fun pins s σ H vs us Q I r w => ?_⟩
    obtain ⟨A, ra, r', ds, rp, hb, q⟩ := w
    cases ds with
    | nil => simp [bindTs] at hb
    | cons d ds =>
      cases vs with
      | nil => exact nomatch rp
      | cons v vs =>
        rw [bindTs] at hb
        obtain ⟨r1, hb1, hb2⟩ := Option.bind_eq_some_iff.mp hb
        refine (pgs_cons G1 G2 (by rw [ea_cons h.1.1]; rfl)).run pins s σ H _ us Q I r ⟨v, vs, rfl, A, ra, r1, d, rp.inv.1, hb1, fun σ1 b1 => ⟨A, r1, r', ds, rp.inv.2, hb2, fun σ2 b2 => q σ2 ⟨b2.len.trans b1.len, fun i hi => ?_, fun i hi d' hd => ?_⟩⟩⟩
        · have hi1 : i ∉ tgs t := fun z => hi (by simp [tgsL, z])
          have hi2 : i ∉ tgsL ts := fun z => hi (by simp [tgsL, z])
          exact ⟨(b2.off i hi2).1.trans (b1.off i hi1).1, (b2.off i hi2).2.trans (b1.off i hi1).2⟩
        · by_cases hi2 : i ∈ tgsL ts
          · exact b2.on i hi2 d' hd
          · have hi1 : i ∈ tgs t := by
              rcases List.mem_append.mp (show i ∈ tgs t ++ tgsL ts from hi) with z | z
              · exact z
              · exact absurd z hi2
            rw [(b2.off i hi2).1] at hd
            rw [(b2.off i hi2).2]
            exact b1.on i hi1 d' hd
end

/-! ### what is walked -/
/-- what may not be touched while it is walked -/
def Kp (A : Avd) (H H' : Hp) : Prop := ∀ b o, H b = some o → (Mut (some o) → ¬ A b) → H' b = some o
theorem Kp.same {A : Avd} {H H' : Hp} (s : Same H H') : Kp A H H' := fun b o h _ => s b o h
structure WalkOk (T : Tab) (A : Avd) (J : It) (ds : List D) (H0 : Hp) : Prop where
  go : ∀ i H, Kp A H0 H → i < ds.length → J.go i H
  stop : ∀ i H, Kp A H0 H → ds.length ≤ i → J.stop i H
  yld : ∀ i H x H' d (A' : Avd), Kp A H0 H → ds[i]? = some d → J.yld i H x H' → (∀ b, H0 b ≠ none → A' b → A b) → Same H H' ∧ Rep T H' A' x d 0 []
def wS (T : Tab) (ev : Ev) (e : E) : TI := fun σ H R => ∃ A r s n ds, All A H ∧ ShOk T H A r σ (vars e) ∧ evE ev e r = .ok (s, n) ∧ items s = .ok ds ∧ ∀ J H1, Same H H1 → (∀ A1, All A1 H → (A1 = A ∨ clean s n = true) → WalkOk T A1 J ds H1) → R J H1
theorem Rep.kp {A A' : Avd} {H H' : Hp} {v : V} {d : D} (r : Rep T H A v d 0 []) (k : Kp A H H') (ha : ∀ b, H b ≠ none → A' b → A b) : Rep T H' A' v d 0 [] := by
  have h1 : Rep T H (fun b => A b ∨ A' b) v d 0 [] := r.avoid fun b hb z => by
    rcases z with z | z
    · exact z
    · exact ha b hb z
  have h2 : Rep T H' (fun b => A b ∨ A' b) v d 0 [] := h1.keep (E := []) (fun b hb => absurd hb (by simp)) fun b o h q => k b o h fun m z => by
    rcases q m with q | q
    · exact q (.inl z)
    · simp at q
  exact h2.avoid fun b _ z => .inr z
theorem RepL.atx {A : Avd} {H : Hp} {vs : List V} {ds : List D} {i : Nat} {d : D} {v : V} (r : RepL T H A vs ds 0 []) (h : ds[i]? = some d) (hv : vs[i]? = some v) : Rep T H A v d 0 [] := by
  obtain ⟨w, h1, h2⟩ := r.get h
  rw [hv] at h1
  cases h1
  exact h2
theorem walk_list {A : Avd} {H : Hp} {a : Addr} {vs : List V} {ds : List D} (h : H a = some (.lst vs)) (na : ¬ A a) (r : RepL T H A vs ds 0 []) : WalkOk T A (Itl T.K a) ds H where
  go := fun i H' k hi => by
    have h' := k _ _ h fun _ => na
    have hl : i < vs.length := by rw [r.length]; exact hi
    exact ⟨vs, vs[i], SqL.of h', List.getElem?_eq_getElem hl⟩
  stop := fun i H' k hi => ⟨vs, SqL.of (k _ _ h fun _ => na), by rw [r.length]; exact hi⟩
  yld := fun i H' v H'' d A' k hd y ha => by
    have h' := k _ _ h fun _ => na
    obtain ⟨rfl, y⟩ := y
    exact ⟨Same.refl _, (r.atx hd (y vs (SqL.of h'))).kp k ha⟩
theorem walk_tup {A : Avd} {H : Hp} {a : Addr} {vs : List V} {ds : List D} (h : SqT T.K H a vs) (r : RepL T H A vs ds 0 []) : WalkOk T A (Itt T.K a) ds H where
  go := fun i H' k hi => by
    have h' : SqT T.K H' a vs := sqt_keep (A := A) (F := []) (fun b o hb q => k b o hb fun m z => by rcases q m with q | q; exact q z; simp at q) h
    have hl : i < vs.length := by rw [r.length]; exact hi
    exact ⟨vs, vs[i], h', List.getElem?_eq_getElem hl⟩
  stop := fun i H' k hi => ⟨vs, sqt_keep (A := A) (F := []) (fun b o hb q => k b o hb fun m z => by rcases q m with q | q; exact q z; simp at q) h, by rw [r.length]; exact hi⟩
  yld := fun i H' v H'' d A' k hd y ha => by
    have h' : SqT T.K H' a vs := sqt_keep (A := A) (F := []) (fun b o hb q => k b o hb fun m z => by rcases q m with q | q; exact q z; simp at q) h
    obtain ⟨rfl, y⟩ := y
    exact ⟨Same.refl _, (r.atx hd (y vs h')).kp k ha⟩
theorem walk_str {A : Avd} {H : Hp} {z : Str} : WalkOk T A (Its z) (z.cps.toList.map fun c => .str ⟨#[c]⟩) H where
  go := fun i H' k hi => show i < z.cps.size by simpa using hi
  stop := fun i H' k hi => show z.cps.size ≤ i by simpa using hi
  yld := fun i H' v H'' d A' k hd y ha => by
    obtain ⟨rfl, c, hc, rfl⟩ := y
    have e : d = .str ⟨#[c]⟩ := by
      rw [List.getElem?_map, Array.getElem?_toList, hc] at hd
      exact (Option.some.inj hd).symm
    rw [e]
    exact ⟨Same.refl _, .str⟩
theorem walk_rng {A : Avd} {H : Hp} {lo hi : Int} : WalkOk T A (Itr lo (hi - lo).toNat) (rngL lo hi) H where
  go := fun i H' k h => show i < (hi - lo).toNat by rwa [rngL, List.length_map, List.length_range] at h
  stop := fun i H' k h => show (hi - lo).toNat ≤ i by rwa [rngL, List.length_map, List.length_range] at h
  yld := fun i H' v H'' d A' k hd y ha => by
    obtain ⟨rfl, rfl⟩ := y
    have e : d = .int (lo + i) := by
      unfold rngL at hd
      rw [List.getElem?_map] at hd
      cases q : (List.range (hi - lo).toNat)[i]? with
      | none => rw [q] at hd; cases hd
      | some j =>
        have hj : i = j := by
          obtain ⟨h1, h2⟩ := List.getElem?_eq_some_iff.mp q
          rw [List.getElem_range] at h2
          exact h2
        rw [q, ← hj] at hd
        exact (Option.some.inj hd).symm
    rw [e]
    exact ⟨Same.refl _, .int⟩
theorem enumL_get : ∀ (ds : List D) (k i : Nat), (enumL k ds)[i]? = ds[i]?.map fun d => .tup [.int ((k + i : Nat) : Int), d]
  | [], k, i => by simp [enumL]
  | d :: ds, k, 0 => by simp [enumL]
  | d :: ds, k, i + 1 => by
    rw [enumL, List.getElem?_cons_succ, List.getElem?_cons_succ, enumL_get ds (k + 1) i, show k + 1 + i = k + (i + 1) by omega]
theorem enumL_len : ∀ (ds : List D) (k : Nat), (enumL k ds).length = ds.length
  | [], _ => rfl
  | d :: ds, k => by rw [enumL, List.length_cons, enumL_len ds, List.length_cons]
theorem walk_enum {A : Avd} {H : Hp} {a : Addr} {vs : List V} {ds : List D} (h : H a = some (.lst vs)) (na : ¬ A a) (r : RepL T H A vs ds 0 []) : WalkOk T A (Ite T.K a) (enumL 0 ds) H where
  go := fun i H' k hi => by
    rw [enumL_len] at hi
    have h' := k _ _ h fun _ => na
    have hl : i < vs.length := by rw [r.length]; exact hi
    exact ⟨vs, vs[i], SqL.of h', List.getElem?_eq_getElem hl⟩
  stop := fun i H' k hi => by
    rw [enumL_len] at hi
    exact ⟨vs, SqL.of (k _ _ h fun _ => na), by rw [r.length]; exact hi⟩
  yld := fun i H' v H'' d A' k hd y ha => by
    have h' := k _ _ h fun _ => na
    obtain ⟨p, x, rfl, hp, rfl, y⟩ := y
    rw [enumL_get] at hd
    obtain ⟨d', hd', rfl⟩ := Option.map_eq_some_iff.mp hd
    have s := same_new (o := .tup [.int (i : Nat), x]) hp
    refine ⟨s, .tup (SqT.of upd_same) (.mk ?_ (.mk ((RepL.atx r hd' (y vs (SqL.of h'))).kp k ha |>.same s) .nil))⟩
    rw [Nat.zero_add]
    exact .int
theorem rdP {A : Avd} {H : Hp} {r : List (Option D)} {σ : L2.St} {a : E} {da : D} {na : Nat} {Q : VK} (al : All A H) (sh : ShOk T H A r σ (vars a)) (ea : evE ev a r = .ok (da, na)) (h : ∀ x H1, Same H H1 → (∀ A1, All A1 H → (A1 = A ∨ clean da na = true) → Rep T H1 A1 x da 0 []) → Q x H1) : tE T ev a σ H Q :=
  ⟨A, r, da, na, al, sh, ea, fun v H' F s f q => h v H' s fun A1 al1 hc => by
    rcases hc with rfl | hc
    · exact q.low0 (al1.not f)
    · exact (q.clean (A' := A1.more F) hc).low0 (al1.not f)⟩
theorem s_of {cc : Cc} {k : Nat} {tg : Expr} {e : E} (C : Ctx T cc ev k X) (h : PE X x (tE T ev e)) : PI X tg x (wS T ev e) := ⟨fun pins s σ H R I w => by
  obtain ⟨A, r, d, n, ds, al, sh, e1, e2, p⟩ := w
  cases d with
  | lst xs =>
    cases e2
    refine (pi_list h).run pins s σ H R I (rdP al sh e1 fun v H1 s1 r1 => ?_)
    obtain ⟨a, vs, rfl, h1, h2, h3⟩ := (r1 A al (.inl rfl)).lst_inv
    rw [C.K]
    refine ⟨a, rfl, ⟨vs, SqL.of h1⟩, p _ H1 s1 fun A1 al1 hc => ?_⟩
    obtain ⟨a', vs', e, h1', h2', h3'⟩ := (r1 A1 al1 hc).lst_inv
    cases e
    exact walk_list h1' h2' h3'
  | tup xs =>
    cases e2
    refine (pi_tup h).run pins s σ H R I (rdP al sh e1 fun v H1 s1 r1 => ?_)
    obtain ⟨a, vs, rfl, h1, h3⟩ := (r1 A al (.inl rfl)).tup_inv
    rw [C.K]
    refine ⟨a, rfl, ⟨vs, h1⟩, p _ H1 s1 fun A1 al1 hc => ?_⟩
    obtain ⟨a', vs', e, h1', h3'⟩ := (r1 A1 al1 hc).tup_inv
    cases e
    exact walk_tup h1' h3'
  | str z =>
    cases e2
    exact (pi_str h).run pins s σ H R I (rd1 al sh (fun _ h => h) e1 fun v H1 s1 r1 => ⟨z, r1.str_inv, p _ H1 s1 fun _ _ _ => walk_str⟩)
  | _ => cases e2⟩
theorem rngOk_ok {lo hi : Int} (h : rngOk lo hi = true) : -(2 ^ 62) ≤ lo ∧ lo < 2 ^ 62 ∧ -(2 ^ 62) ≤ hi ∧ hi < 2 ^ 62 := by
  simp only [rngOk, Bool.and_eq_true, decide_eq_true_eq] at h
  exact ⟨h.1.1.1, h.1.1.2, h.1.2, h.2⟩
theorem rng_ok {a b : E} {r : List (Option D)} {d : D} {n : Nat} (h : evE ev (.rng a b) r = .ok (d, n)) : ∃ lo hi na nb, evE ev a r = .ok (.int lo, na) ∧ evE ev b r = .ok (.int hi, nb) ∧ rngOk lo hi = true ∧ d = .lst (rngL lo hi) := by
  rw [evE] at h
  obtain ⟨⟨da, na⟩, ea, h⟩ := Rs.bind_ok h
  obtain ⟨⟨db, nb⟩, eb, h⟩ := Rs.bind_ok h
  dsimp only at h
  split at h
  · split at h
    · rename_i ho
      cases h
      exact ⟨_, _, _, _, ea, eb, ho, rfl⟩
    · cases h
  · cases h
theorem s_rng1 {cc : Cc} {k : Nat} {tg g : Expr} {b : E} (C : Ctx T cc ev k X) (hg : isName X.env.scope (sStr "range") g = true) (hs : noStar x = true) (h : PE X x (tE T ev b)) : PI X tg (.Call g [x] [] pos) (wS T ev (.rng (.int 0) b)) := by
  obtain ⟨gp, rfl, hgl⟩ := isName_ok hg
  refine ⟨fun pins s σ H R I w => ?_⟩
  obtain ⟨A, r, d, n, ds, al, sh, e1, e2, p⟩ := w
  obtain ⟨lo, hi, na, nb, ea, eb, ho, rfl⟩ := rng_ok e1
  rw [evE] at ea
  cases ea
  cases e2
  obtain ⟨h1, h2, h3, h4⟩ := rngOk_ok ho
  refine (pi_range1 hgl (C.bn _ (by decide +kernel)) (pa_cons h pa_nil (star_cons hs _ _)) (star_cons hs _ _)).run pins s σ H R I ?_
  refine rd1 al sh (fun i hi => by simp [vars, hi]) eb fun v H1 s1 r1 => ⟨hi, by rw [r1.int_inv], h3, h4, ?_⟩
  have := p (Itr 0 (hi - 0).toNat) H1 s1 fun _ _ _ => walk_rng
  rwa [Int.sub_zero] at this
theorem s_rng2 {cc : Cc} {k : Nat} {tg g : Expr} {a b : E} (C : Ctx T cc ev k X) (hg : isName X.env.scope (sStr "range") g = true) (hs : noStar x = true) (hs2 : noStar y = true) (h : PE X x (tE T ev a)) (h' : PE X y (tE T ev b)) : PI X tg (.Call g [x, y] [] pos) (wS T ev (.rng a b)) := by
  obtain ⟨gp, rfl, hgl⟩ := isName_ok hg
  refine ⟨fun pins s σ H R I w => ?_⟩
  obtain ⟨A, r, d, n, ds, al, sh, e1, e2, p⟩ := w
  obtain ⟨lo, hi, na, nb, ea, eb, ho, rfl⟩ := rng_ok e1
  cases e2
  obtain ⟨h1, h2, h3, h4⟩ := rngOk_ok ho
  refine (pi_range2 hgl (C.bn _ (by decide +kernel)) (pa_cons h (pa_cons h' pa_nil (star_cons hs2 _ _)) (star_cons hs _ _)) (by rw [star_cons hs, star_cons hs2]; rfl) (star_cons hs2 _ _)).run pins s σ H R I ?_
  exact rd2 al sh inL inR ea eb fun v w H1 s1 r1 r2 => ⟨lo, hi, by rw [r1.int_inv, r2.int_inv], ⟨h1, h2, h3, h4⟩, p _ H1 s1 fun _ _ _ => walk_rng⟩
theorem s_enum {cc : Cc} {k kk : Nat} {g : Expr} {elts : List Expr} {tp : Pos} {a : E} (C : Ctx T cc ev k X) (hg : isName X.env.scope (sStr "enumerate") g = true) (hs : noStar x = true) (h : PE X x (tE T ev a)) : PI X (.Tuple elts kk tp) (.Call g [x] [] pos) (wS T ev (.enm a)) := by
  obtain ⟨gp, rfl, hgl⟩ := isName_ok hg
  refine ⟨fun pins s σ H R I w => ?_⟩
  obtain ⟨A, r, d, n, ds, al, sh, e1, e2, p⟩ := w
  rw [evE] at e1
  obtain ⟨⟨da, na⟩, ea, e1⟩ := Rs.bind_ok e1
  dsimp only at e1
  split at e1
  · cases e1
    cases e2
    refine (pi_enum hgl (C.bn _ (by decide +kernel)) (pa_cons h pa_nil (star_cons hs _ _)) (star_cons hs _ _)).run pins s σ H R I ?_
    refine rd1 al sh (fun _ h => h) ea fun v H1 s1 r1 => ?_
    obtain ⟨a, vs, rfl, h1, h2, h3⟩ := r1.lst_inv
    rw [C.K]
    exact ⟨a, vs, rfl, SqL.of h1, p _ H1 s1 fun A1 al1 hc => by
      rcases hc with rfl | hc
      · exact walk_enum h1 h2 h3
      · simp [clean, cleanN, scal] at hc⟩
  · cases e1
theorem FnHas.blk {k : Nat} {nm : Str} {f : Nat} {s : Shared} {H : Hp} {scope : Scope} {ce : Env} {fp : List Addr} (h : FnHas T ev k X nm f) : FnHas T ev k (X.blk s H scope ce fp) nm f := ⟨h.ex⟩
theorem FnAt.blk {k : Nat} {g : Addr} {f : Nat} {s : Shared} {H : Hp} {scope : Scope} {ce : Env} {fp : List Addr} (h : FnAt T ev k X g f) : FnAt T ev k (X.blk s H scope ce fp) g f := ⟨h.ex⟩
theorem Ctx.blk {cc : Cc} {k : Nat} {s : Shared} {H : Hp} {scope : Scope} {C : Addr} {cl : List (Str × Addr)} {fp : List Addr} (h : Ctx T cc ev k X) : Ctx T cc ev k (X.blk s H scope (compEnvC scope cl C X.env) fp) where
  calm := h.calm
  nd := h.nd
  N := h.N
  K := h.K
  bn := h.bn
  room := h.room
  call := fun f hf => (h.call f hf).blk
  fnm := h.fnm
  cls := h.cls
  noat := h.noat
  meth := fun cl m f h2 => by
    obtain ⟨h1, q, g, h3, h4⟩ := h.meth cl m f h2
    exact ⟨h1, q, g, h3, h4.blk⟩
  prop := fun cl m f h2 => by
    obtain ⟨h1, p, g, h3, h4⟩ := h.prop cl m f h2
    exact ⟨h1, p, g, h3, h4.blk⟩
  made := fun cl f h1 => by
    obtain ⟨h2, h3, g, h4, h5⟩ := h.made cl f h1
    exact ⟨h2, h3, g, h4, h5.blk⟩
  cval := h.cval
theorem TOk.blk {s : Shared} {H : Hp} {scope : Scope} {C : Addr} {cl : List (Str × Addr)} {fp : List Addr} : TOk scope (X.blk s H scope (compEnvC scope cl C X.env) fp) := fun x hx => by
  have key : ∀ k, k ≠ .free → scope.names.lookup x = some k → (X.blk s H scope (compEnvC scope cl C X.env) fp).env.scope.names.lookup x = some k := fun k hk h => lookup_relS_keep (sc := X.env.scope) hk h
  unfold Hc.loc at hx
  split at hx
  · rename_i h
    have := key _ (by simp) h
    exact ⟨.inl this, .inr this⟩
  · rename_i h
    refine ⟨.inr (key _ (by simp) h), .inl ?_⟩
    show (scope.names.lookup x == some .cell) = true
    rw [h]
    rfl
  · cases hx
/-- a comprehension's test -/
def tW (T : Tab) (ev : Ev) (cnd : E) : TT := fun σ H Q => ∃ A r k, All A H ∧ ShOk T H A r σ (vars cnd) ∧ (match cnd with
        | .nop => Rs.ok true
        | _ => (evE ev cnd r).bind boolR) = .ok k ∧ ∀ H', Same H H' → Q k H'
theorem w_none : PTs X [] (tW T ev .nop) := ⟨fun pins s σ H Q I w => by
  obtain ⟨A, r, k, al, sh, e1, p⟩ := w
  cases e1
  exact pts_nil.run pins s σ H Q I (p H (Same.refl H))⟩
theorem w_some {cnd : E} (hn : nn cnd = true) (h : PT X x (tT T ev cnd)) : PTs X [x] (tW T ev cnd) := ⟨fun pins s σ H Q I w => by
  obtain ⟨A, r, k, al, sh, e1, p⟩ := w
  have e2 : ((evE ev cnd r).bind boolR) = .ok k := by
    split at e1
    · cases hn
    · exact e1
  exact (pts_one h).run pins s σ H Q I ⟨A, r, k, al, sh, e2, p⟩⟩
theorem wipe_off : ∀ {vs : List Nat} {σ : L2.St} {i : Nat}, i ∉ vs → (wipe σ vs)[i]? = σ[i]?
  | [], _, _, _ => rfl
  | v :: vs, σ, i, h => by
    unfold wipe
    rw [List.getElem?_set_ne (fun e => h (by simp [e])), wipe_off fun z => h (by simp [z])]
theorem wipe_on : ∀ {vs : List Nat} {σ : L2.St} {i : Nat}, i ∈ vs → i < σ.length → (wipe σ vs)[i]? = some none
  | [], _, _, h, _ => absurd h (by simp)
  | v :: vs, σ, i, h, hl => by
    unfold wipe
    by_cases e : v = i
    · subst e
      rw [List.getElem?_set_self (by rw [wipe_length]; exact hl)]
    · rw [List.getElem?_set_ne e]
      refine wipe_on ?_ hl
      rcases List.mem_cons.mp h with z | z
      · exact absurd z.symm e
      · exact z
theorem wipe_eq {vs : List Nat} {σ σ2 : L2.St} (hl : σ2.length = σ.length) (h : ∀ i, i ∉ vs → σ2[i]? = σ[i]?) : wipe σ2 vs = wipe σ vs := by
  apply List.ext_getElem?
  intro i
  by_cases hi : i ∈ vs
  · by_cases hb : i < σ.length
    · rw [wipe_on hi hb, wipe_on hi (by omega)]
    · rw [List.getElem?_eq_none (by rw [wipe_length]; omega), List.getElem?_eq_none (by rw [wipe_length]; omega)]
  · rw [wipe_off hi, wipe_off hi, h i hi]
theorem own_ix (cc : Cc) (t : Tg) : (own cc t).map (·.2) = tgs t := by
  unfold own
  rw [List.map_map]
  exact List.map_id' _
/-- the reading of a comprehension -/
theorem comp_read {A : Avd} {H H1 : Hp} {r : List (Option D)} {σ : L2.St} {ds out : List D} {m : Nat} {t : Tg} {cnd elt : E} {J : It} {Q : VK} (al : All A H) (sh : ShOk T H A r σ (vars cnd ++ vars elt)) (hl : ds.length ≤ lim) (s1 : Same H H1) (wk : WalkOk T A J ds H1)
    (e : compL m (fun d => (Rs.of (bindT t d r)).bind fun r' => (match cnd with
        | .nop => Rs.ok true
        | _ => (evE ev cnd r').bind boolR).bind fun b => if b = true then (evE ev elt r').bind fun x => .ok (some x) else .ok none) ds = .ok out) (p : Post T A H (.lst out) (m + 1) Q) (Da : Addr) (hD : H1 Da = none) :
    ∃ W : Nat → Nat → Hp → Prop, (∃ m, W 0 m (upd H1 Da (.lst []))) ∧ ∀ i m H, W i m H →
      (J.stop i H ∧ Q (.ref Da) H) ∨ (J.go i H ∧ ∃ Nx : Hp → Prop, (∀ H', Nx H' → ∃ m', m' < m ∧ W (i + 1) m' H') ∧ ∀ x H', J.yld i H x H' → gT T t x (wipe σ (tgs t)) H' fun σ2 H2 => wipe σ2 (tgs t) = wipe σ (tgs t) ∧ tW T ev cnd σ2 H2 fun b H3 =>
        if b = true then tE T ev elt σ2 H3 fun y H4 => ∃ acc, H4 Da = some (.lst acc) ∧ acc.length < sizeLine ∧ Nx (upd H4 Da (.lst (acc ++ [y]))) else Nx H3) := by
  generalize hf : (fun d => (Rs.of (bindT t d r)).bind fun r' => (match cnd with
        | .nop => Rs.ok true
        | _ => (evE ev cnd r').bind boolR).bind fun b => if b = true then (evE ev elt r').bind fun x => .ok (some x) else .ok none) = f at e
  -- the state between two turns
  refine ⟨fun i k H2 => k = ds.length - i ∧ i ≤ ds.length ∧ Same H1 H2 ∧ ∃ acc done rest G, H2 Da = some (.lst acc) ∧ Da ∉ G ∧ (∀ b ∈ G, H1 b = none) ∧ RepL T H2 (A.more (Da :: G)) acc done m G ∧ done.length ≤ i ∧ compL m f (ds.drop i) = .ok rest ∧ out = done ++ rest,
    ⟨ds.length, by simp, Nat.zero_le _, same_new hD, [], [], out, [], upd_same, by simp, fun b hb => absurd hb (by simp), .nil, by simp, e, rfl⟩, ?_⟩
  rintro i k H2 ⟨rfl, hi, s2, acc, done, rest, G, hA, hDG, hG, hR, hdl, hc, ho⟩
  have kp : Kp A H1 H2 := Kp.same s2
  by_cases hlt : i < ds.length
  · refine .inr ⟨wk.go i H2 kp hlt, fun H3 => Same H1 H3 ∧ ∃ acc done rest G, H3 Da = some (.lst acc) ∧ Da ∉ G ∧ (∀ b ∈ G, H1 b = none) ∧ RepL T H3 (A.more (Da :: G)) acc done m G ∧ done.length ≤ i + 1 ∧ compL m f (ds.drop (i + 1)) = .ok rest ∧ out = done ++ rest,
      fun H' h => ⟨ds.length - (i + 1), by omega, rfl, hlt, h⟩, fun x H3 hy => ?_⟩
    have hd : ds[i]? = some ds[i] := List.getElem?_eq_getElem hlt
    rw [List.drop_eq_getElem_cons hlt, compL] at hc
    obtain ⟨o, ef, hc⟩ := Rs.bind_ok hc
    rw [← hf] at ef
    obtain ⟨r', eb, ef⟩ := Rs.bind_ok ef
    obtain ⟨bk, ec, ef⟩ := Rs.bind_ok ef
    -- what is avoided from here on
    have hA2 : ∀ b, H1 b ≠ none → (A.more (Da :: G)) b → A b := fun b hb z => by
      rcases z with z | z
      · exact z
      · rcases List.mem_cons.mp z with z | z
        · rw [z] at hb; exact absurd hD hb
        · exact absurd (hG b z) hb
    obtain ⟨s3, rx⟩ := wk.yld i H2 x H3 _ (A.more (Da :: G)) kp hd hy hA2
    have s13 : Same H1 H3 := s2.trans s3
    have hA3 : H3 Da = some (.lst acc) := s3 _ _ hA
    have al3 : All (A.more (Da :: G)) H3 := fun b z => by
      rcases z with z | z
      · exact ((al.same s1).same s13) b z
      · rcases List.mem_cons.mp z with z | z
        · rw [z, hA3]; simp
        · exact hR.same s3 |>.there b z
    refine ⟨A.more (Da :: G), r, r', ds[i], rx, of_ok eb, fun σ2 bd => ⟨?_, ?_⟩⟩
    · have := wipe_eq (vs := tgs t) (σ := wipe σ (tgs t)) bd.len fun j hj => (bd.off j hj).2
      rw [this]
      exact wipe_eq (wipe_length σ _) fun j hj => wipe_off hj
    · have sh1 : ShOk T H1 (A.more (Da :: G)) r σ (vars cnd ++ vars elt) := fun j hj d' hd' => by
        obtain ⟨v, h1, h2⟩ := (sh.same s1) j hj d' hd'
        exact ⟨v, h1, h2.avoid hA2⟩
      have sh3 : ShOk T H3 (A.more (Da :: G)) r' σ2 (vars cnd ++ vars elt) := fun j hj d' hd' => by
        by_cases hjt : j ∈ tgs t
        · exact bd.on j hjt d' hd'
        · obtain ⟨h1, h2⟩ := bd.off j hjt
          rw [h1] at hd'
          obtain ⟨v, h3, h4⟩ := sh1 j hj d' hd'
          exact ⟨v, by rw [h2, wipe_off hjt]; exact h3, h4.same s13⟩
      refine ⟨A.more (Da :: G), r', bk, al3, sh3.sub inL, ec, fun H4 s4 => ?_⟩
      have s14 : Same H1 H4 := s13.trans s4
      cases bk with
      | false =>
        rw [if_neg Bool.false_ne_true] at ef
        show (if false = true then _ else _)
        rw [if_neg Bool.false_ne_true]
        cases ef
        exact ⟨s14, acc, done, rest, G, s4 _ _ hA3, hDG, hG, (hR.same s3).same s4, by omega, hc, ho⟩
      | true =>
        rw [if_pos rfl] at ef
        show (if true = true then _ else _)
        rw [if_pos rfl]
        obtain ⟨⟨d', n'⟩, ee, ef⟩ := Rs.bind_ok ef
        cases ef
        dsimp only at hc
        split at hc
        · rename_i hfit
          obtain ⟨rest', hc', hr'⟩ := Rs.bind_ok hc
          cases hr'
          refine ⟨A.more (Da :: G), r', d', n', al3.same s4, (sh3.same s4).sub inR, ee, fun y H5 F s5 fF ry => ?_⟩
          have hA5 : H5 Da = some (.lst acc) := s5 _ _ (s4 _ _ hA3)
          have hR5 : RepL T H5 (A.more (Da :: G)) acc done m G := ((hR.same s3).same s4).same s5
          have hFn : ∀ b ∈ F, ¬ (A.more (Da :: G)) b := (al3.same s4).not fF
          have s15 : Same H1 (upd H5 Da (.lst (acc ++ [y]))) := fun b o hb => by
            have hne : b ≠ Da := fun z => by rw [z, hD] at hb; cases hb
            rw [upd_ne hne]
            exact s5 _ _ (s14 _ _ hb)
          have hF1 : ∀ b ∈ F, H1 b = none := fun b hb => by
            cases q : H1 b with
            | none => rfl
            | some o => have := fF b hb; rw [s14 _ _ q] at this; cases this
          -- a change at Da leaves what avoids it
          have mv : ∀ {vs : List V} {es : List D} {G' : List Addr}, Da ∉ G' → RepL T H5 (A.more (Da :: G')) vs es m G' → RepL T (upd H5 Da (.lst (acc ++ [y]))) (A.more (Da :: G')) vs es m G' := fun {vs es G'} hn q => q.keep (E := G') (fun _ h => h) fun b o hb q => by
            by_cases hbD : b = Da
            · subst hbD
              rw [hA5] at hb
              cases hb
              rcases q trivial with z | z
              · exact absurd (.inr List.mem_cons_self) z
              · exact absurd z hn
            · rw [upd_ne hbD]; exact hb
          refine ⟨acc, hA5, ?_, s15, ?_⟩
          · have h1 := hR5.length
            have h2 : lim < sizeLine := by decide
            omega
          by_cases hm : scal d' = true ∨ m = 0
          · have ry0 : Rep T H5 (A.more (Da :: G)) y d' m [] := by
              rcases hm with hs | hm
              · exact (ry.scal hs).2
              · rw [hm]; exact ry.low0 hFn
            refine ⟨acc ++ [y], done ++ [d'], rest', G, upd_same, hDG, hG, mv hDG ?_, by simp; omega, hc', by rw [ho, List.append_assoc]; rfl⟩
            have := RepL.snoc hR5 ry0 fun b _ z => absurd z (by simp)
            rwa [List.append_nil] at this
          · have hn : n' = m := by
              have hx : (m == 0 || n' == m || scal d') = true := hfit
              have h1 : ¬ scal d' = true := fun z => hm (.inl z)
              have h2 : ¬ m = 0 := fun z => hm (.inr z)
              simpa [h1, h2] using hx
            subst hn
            have hDF : Da ∉ F := fun z => hFn Da z (.inr List.mem_cons_self)
            have hDG' : Da ∉ G ++ F := fun z => by
              rcases List.mem_append.mp z with z | z
              · exact hDG z
              · exact hDF z
            have h4n : ∀ b, H5 b ≠ none → True := fun _ _ => trivial
            refine ⟨acc ++ [y], done ++ [d'], rest', G ++ F, upd_same, hDG', fun b hb => ?_, mv hDG' (RepL.snoc ?_ ?_ fun b hb z => ?_), by simp; omega, hc', by rw [ho, List.append_assoc]; rfl⟩
            · rcases List.mem_append.mp hb with z | z
              · exact hG b z
              · exact hF1 b z
            · refine RepL.same (RepL.avoid ((hR.same s3).same s4) fun b hb z => ?_) s5
              rcases z with z | z
              · exact .inl z
              · rcases List.mem_cons.mp z with z | z
                · exact .inr (by rw [z]; exact List.mem_cons_self)
                · rcases List.mem_append.mp z with z | z
                  · exact .inr (List.mem_cons_of_mem _ z)
                  · exact absurd (fF b z) hb
            · refine ry.avoid fun b hb z => ?_
              rcases z with z | z
              · exact .inl (.inl z)
              · rcases List.mem_cons.mp z with z | z
                · exact .inl (.inr (by rw [z]; exact List.mem_cons_self))
                · rcases List.mem_append.mp z with z | z
                  · exact .inl (.inr (List.mem_cons_of_mem _ z))
                  · exact .inr z
            · exact hFn b z (.inr (List.mem_cons_of_mem _ hb))
        · cases hc
  · have hi2 : i = ds.length := by omega
    refine .inl ⟨wk.stop i H2 kp (by omega), ?_⟩
    rw [hi2, List.drop_length, compL] at hc
    cases hc
    rw [List.append_nil] at ho
    subst ho
    have nn : ∀ b, H1 b = none → H b = none := fun b hb => by
      cases q : H b with
      | none => rfl
      | some o => rw [s1 _ _ q] at hb; cases hb
    refine p (.ref Da) H2 (Da :: G) (s1.trans s2) (fun b hb => ?_) (.lstO hA hDG hR)
    rcases List.mem_cons.mp hb with z | z
    · rw [z]; exact nn _ hD
    · exact nn b (hG b z)
end
end Hc
set_option Elab.async false
set_option linter.all false
set_option maxRecDepth 100000
set_option maxHeartbeats 4000000
/-! Every expression. -/
namespace Hc
open PySem PySem.Spec PyProof.Rows L2
section
variable {T : Tab} {ev : Ev} {X : Cx} {x y z : Expr} {a b c : E} {es : Es} {xs : List Expr} {pos : Pos}
theorem nBase_ok {o : Expr} {nm : Str} {env : Env} {w : Sem Value} (h : nBase o = true) : attributeBase o nm env w = w := by
  cases o with
  | Call f args kws p => cases f <;> cases args <;> cases kws <;> first | rfl | cases h
  | _ => rfl
theorem e_bits {ap cp : Pos} (hb : nBase x = true) (hl : (ap.endLine == cp.line) = true) (h : PE X x (tE T ev a)) : PE X (.Call (.Attribute x (sStr "bit_length") ap) [] [] cp) (tE T ev (.mth .bitlen a .nil)) := ⟨fun pins s σ H Q I w => by
  obtain ⟨A, r, d, n, al, sh, e1, pp⟩ := w
  rw [evE] at e1
  obtain ⟨⟨da, na⟩, ea, e1⟩ := Rs.bind_ok e1
  obtain ⟨ds, e2, e1⟩ := Rs.bind_ok e1
  rw [evEs] at e2
  cases e2
  refine (pe_bits h (nBase_ok hb) hl).run pins s σ H Q I ?_
  refine rd1 al sh inL ea fun v H1 s1 r1 => ?_
  cases da <;> simp only [mtD] at e1 <;> (first | (cases e1; done) | skip)
  cases e1
  exact ⟨_, r1.int_inv, (pp.later s1).int⟩⟩
theorem lrng_ok {r : List (Option D)} {d : D} {n : Nat} (h : evE ev (.lrng a b) r = .ok (d, n)) : ∃ lo hi na nb, evE ev a r = .ok (.int lo, na) ∧ evE ev b r = .ok (.int hi, nb) ∧ rngOk lo hi = true ∧ (hi - lo).toNat ≤ 1000000 ∧ d = .lst (rngL lo hi) ∧ n = 1 := by
  rw [evE] at h
  obtain ⟨⟨da, na⟩, ea, h⟩ := Rs.bind_ok h
  obtain ⟨⟨db, nb⟩, eb, h⟩ := Rs.bind_ok h
  dsimp only at h
  split at h
  · split at h
    · rename_i ho
      cases h
      simp only [Bool.and_eq_true, decide_eq_true_eq] at ho
      exact ⟨_, _, _, _, ea, eb, ho.1, ho.2, rfl, rfl⟩
    · cases h
  · cases h
theorem rgV_rep {H : Hp} {A : Avd} {lo hi : Int} : RepL T H A (rgV lo hi) (rngL lo hi) 0 [] := by
  have e1 : rgV lo hi = ((List.range (hi - lo).toNat).map fun (i : Nat) => lo + (i : Int)).map V.int := by
    unfold rgV
    rw [List.map_map]
    rfl
  have e2 : rngL lo hi = ((List.range (hi - lo).toNat).map fun (i : Nat) => lo + (i : Int)).map D.int := by
    unfold rngL
    rw [List.map_map]
    rfl
  rw [e1, e2]
  exact RepL.ints _
theorem e_lrng1 {cc : Cc} {k : Nat} {g g2 : Expr} {p2 : Pos} (C : Ctx T cc ev k X) (hg : isName X.env.scope (sStr "list") g = true) (hg2 : isName X.env.scope (sStr "range") g2 = true) (hs : noStar x = true) (h : PE X x (tE T ev b)) : PE X (.Call g [.Call g2 [x] [] p2] [] pos) (tE T ev (.lrng (.int 0) b)) := by
  obtain ⟨gp, rfl, hgl⟩ := isName_ok hg
  obtain ⟨gp2, rfl, hgl2⟩ := isName_ok hg2
  refine ⟨fun pins s σ H Q I w => ?_⟩
  obtain ⟨A, r, d, n, al, sh, e1, pp⟩ := w
  obtain ⟨lo, hi, na, nb, ea, eb, ho, hl, rfl, rfl⟩ := lrng_ok e1
  rw [evE] at ea
  cases ea
  obtain ⟨h1, h2, h3, h4⟩ := rngOk_ok ho
  refine (pe_listRg C.calm hgl (C.bn _ (by decide +kernel)) (prg_1 hgl2 (C.bn _ (by decide +kernel)) h (star_cons hs _ _)) (by rfl)).run pins s σ H Q I ?_
  exact rd1 al sh (fun i hi => by simp [vars, hi]) eb fun v H1 s1 r1 => ⟨hi, r1.int_inv, ⟨h1, h2, h3, h4, by omega⟩, fun q hq => (pp.later s1).lst rgV_rep hq⟩
theorem e_lrng2 {cc : Cc} {k : Nat} {g g2 : Expr} {p2 : Pos} (C : Ctx T cc ev k X) (hg : isName X.env.scope (sStr "list") g = true) (hg2 : isName X.env.scope (sStr "range") g2 = true) (hs : noStar x = true) (hs2 : noStar y = true) (h : PE X x (tE T ev a)) (h' : PE X y (tE T ev b)) : PE X (.Call g [.Call g2 [x, y] [] p2] [] pos) (tE T ev (.lrng a b)) := by
  obtain ⟨gp, rfl, hgl⟩ := isName_ok hg
  obtain ⟨gp2, rfl, hgl2⟩ := isName_ok hg2
  refine ⟨fun pins s σ H Q I w => ?_⟩
  obtain ⟨A, r, d, n, al, sh, e1, pp⟩ := w
  obtain ⟨lo, hi, na, nb, ea, eb, ho, hl, rfl, rfl⟩ := lrng_ok e1
  obtain ⟨h1, h2, h3, h4⟩ := rngOk_ok ho
  refine (pe_listRg C.calm hgl (C.bn _ (by decide +kernel)) (prg_2 hgl2 (C.bn _ (by decide +kernel)) h h' (star_cons hs _ _) (star_cons hs2 _ _) (star_plain _ _ _ (fun e he => by rw [show e = y by simpa using he]; exact hs2))) (by rfl)).run pins s σ H Q I ?_
  exact rd2 al sh inL inR ea eb fun v w H1 s1 r1 r2 => ⟨lo, hi, r1.int_inv, r2.int_inv, ⟨h1, h2, h3, h4, by omega⟩, fun q hq => (pp.later s1).lst rgV_rep hq⟩
theorem e_comp {cc : Cc} {k m : Nat} {t : Tg} {src cnd elt : E} {ex tg it : Expr} {ifs : List Expr} {scp : Scope} (C : Ctx T cc ev k X) (hi : PI X tg it (wS T ev src)) (hf : ∀ v, foldedSetIterable it X.env v = pure v) (hb : blkC cc.N X.env.scope scp (own cc t) = true) (ht : cvT cc scp t tg = true)
    (hc : ∀ (s : Shared) (H : Hp) (C : Addr) (cl : List (Str × Addr)) (fp : List Addr), PTs (X.blk s H scp (compEnvC scp cl C X.env) fp) ifs (tW T ev cnd))
    (he : ∀ (s : Shared) (H : Hp) (C : Addr) (cl : List (Str × Addr)) (fp : List Addr), PE (X.blk s H scp (compEnvC scp cl C X.env) fp) ex (tE T ev elt)) : PE X (.ListComp ex [⟨tg, it, ifs, 0⟩] scp pos) (tE T ev (.comp m t src cnd elt)) := ⟨fun pins s σ H Q I w => by
  obtain ⟨A, r, d, n, al, sh, e1, pp⟩ := w
  rw [evE] at e1
  obtain ⟨⟨sv, sn⟩, es, e1⟩ := Rs.bind_ok e1
  obtain ⟨ds, ei, e1⟩ := Rs.bind_ok e1
  split at e1
  · rename_i hl
    obtain ⟨out, eo, e1⟩ := Rs.bind_ok e1
    cases e1
    refine (pe_lc C.calm C.nd hi (blkOk_by (own := own cc t) (by rw [C.N]; exact hb)) (fun s H Ca cl fp => g_ok (raw := scp) C.blk TOk.blk ht) hc he hf).run pins s σ H Q I ?_
    rw [own_ix]
    exact ⟨A, r, sv, sn, ds, al, sh.sub inL, es, ei, fun J H1 s1 wk Da hD => comp_read al (sh.sub inR) hl s1 (wk A al (.inl rfl)) eo pp Da hD⟩
  · cases e1⟩
theorem cvS_fold {cc : Cc} {sc : Scope} {e : E} {b : Bool} {it : Expr} (h : cvS cc sc e b it = true) (env : Env) (v : Value) : foldedSetIterable it env v = pure v := by
  cases it <;> first | rfl | (cases e <;> first | (simp [cvS, cvE] at h; done) | (cases b <;> simp [cvS] at h; done) | (rename_i bi _; cases bi <;> simp [cvS, cvE] at h))
/-- tests by their kind -/
theorem t_other {e : E} {x : Expr} (h : PE X x (tE T ev e)) (hk : ∀ op u p, x ≠ .UnaryOp op u p) (hb : ∀ op vs p, x ≠ .BoolOp op vs p) (hi : ∀ u v w p, x ≠ .IfExp u v w p) (hc : ∀ l ops cs p, x ≠ .Compare l ops cs p) : PT X x (tT T ev e) := by
  cases x with
  | UnaryOp op u p => exact absurd rfl (hk op u p)
  | BoolOp op vs p => exact absurd rfl (hb op vs p)
  | IfExp u v w p => exact absurd rfl (hi u v w p)
  | Compare l ops cs p => exact absurd rfl (hc l ops cs p)
  | _ => exact t_of h (by intro _; rfl)
end

/-- what is shown of an expression -/
structure Snd (T : Tab) (cc : Cc) (ev : Ev) (e : E) : Prop where
  pe : ∀ {k : Nat} {X : Cx} {x : Expr}, Ctx T cc ev k X → cvE cc X.env.scope e x = true → PE X x (tE T ev e)
  pt : ∀ {k : Nat} {X : Cx} {x : Expr}, Ctx T cc ev k X → cvE cc X.env.scope e x = true → tst e = true → PT X x (tT T ev e)
inductive Each (T : Tab) (ev : Ev) (X : Cx) : Es → List Expr → Prop
  | nil : Each T ev X .nil []
  | cons {e : E} {es : Es} {x : Expr} {xs : List Expr} : noStar x = true → PE X x (tE T ev e) → (tst e = true → PT X x (tT T ev e)) → Each T ev X es xs → Each T ev X (.cons e es) (x :: xs)
structure SndL (T : Tab) (cc : Cc) (ev : Ev) (es : Es) : Prop where
  each : ∀ {k : Nat} {X : Cx} {xs : List Expr}, Ctx T cc ev k X → cvEs cc X.env.scope es xs = true → Each T ev X es xs
section
variable {T : Tab} {ev : Ev} {X : Cx} {pos : Pos}
theorem Each.pa : ∀ {es : Es} {xs : List Expr}, Each T ev X es xs → PA X xs (tEs T ev es)
  | _, _, .nil => a_nil
  | _, _, .cons h p _ r => a_cons h p r.pa
theorem Each.pn {m : Nat} : ∀ {es : Es} {xs : List Expr}, Each T ev X es xs → PA X xs (tEn T ev m es)
  | _, _, .nil => n_nil
  | _, _, .cons h1 h2 _ h4 => n_cons h1 h2 h4.pn
theorem Each.star : ∀ {es : Es} {xs : List Expr}, Each T ev X es xs → ∀ x ∈ xs, noStar x = true
  | _, _, .nil, x, hx => absurd hx (by simp)
  | _, _, .cons h _ _ r, x, hx => by
    rcases List.mem_cons.mp hx with e | hx
    · rw [e]; exact h
    · exact r.star x hx
theorem Each.nil_iff : ∀ {es : Es} {xs : List Expr}, Each T ev X es xs → xs = [] → es = .nil
  | _, _, .nil, _ => rfl
theorem Each.and : ∀ {es : Es} {xs : List Expr}, Each T ev X es xs → xs ≠ [] → PE X (.BoolOp .And xs pos) (tE T ev (.andL es))
  | _, _, .nil, h => absurd rfl h
  | _, _, .cons (xs := xs) _ p _ r, _ => e_andL p (by
    by_cases hx : xs = []
    · exact .inl ⟨hx, r.nil_iff hx⟩
    · exact .inr ⟨hx, r.and hx⟩)
theorem Each.or : ∀ {es : Es} {xs : List Expr}, Each T ev X es xs → xs ≠ [] → PE X (.BoolOp .Or xs pos) (tE T ev (.orL es))
  | _, _, .nil, h => absurd rfl h
  | _, _, .cons (xs := xs) _ p _ r, _ => e_orL p (by
    by_cases hx : xs = []
    · exact .inl ⟨hx, r.nil_iff hx⟩
    · exact .inr ⟨hx, r.or hx⟩)
theorem Each.andT : ∀ {es : Es} {xs : List Expr}, Each T ev X es xs → xs ≠ [] → tstL es = true → PW X (.BoolOp .And xs pos) (tT T ev (.andL es))
  | _, _, .nil, h, _ => absurd rfl h
  | _, _, .cons (xs := xs) _ _ p r, _, ht => by
    have ht' := Bool.and_eq_true_iff.mp (show (tst _ && tstL _) = true from ht)
    refine t_andL (p ht'.1) ?_
    by_cases hx : xs = []
    · exact .inl ⟨hx, r.nil_iff hx⟩
    · exact .inr ⟨hx, r.andT hx ht'.2⟩
theorem Each.orT : ∀ {es : Es} {xs : List Expr}, Each T ev X es xs → xs ≠ [] → tstL es = true → PW X (.BoolOp .Or xs pos) (tT T ev (.orL es))
  | _, _, .nil, h, _ => absurd rfl h
  | _, _, .cons (xs := xs) _ _ p r, _, ht => by
    have ht' := Bool.and_eq_true_iff.mp (show (tst _ && tstL _) = true from ht)
    refine t_orL (p ht'.1) ?_
    by_cases hx : xs = []
    · exact .inl ⟨hx, r.nil_iff hx⟩
    · exact .inr ⟨hx, r.orT hx ht'.2⟩
end
section
variable {T : Tab} {cc : Cc} {ev : Ev}
/-- where the test is the value's truth -/
theorem Snd.mk1 {e : E} (h : ∀ {k : Nat} {X : Cx} {x : Expr}, Ctx T cc ev k X → cvE cc X.env.scope e x = true → PE X x (tE T ev e)) (hk : ∀ sc x, cvE cc sc e x = true → (∀ op u p, x ≠ .UnaryOp op u p) ∧ (∀ op vs p, x ≠ .BoolOp op vs p) ∧ (∀ u v w p, x ≠ .IfExp u v w p) ∧ (∀ l ops cs p, x ≠ .Compare l ops cs p)) : Snd T cc ev e :=
  ⟨h, fun C hx _ => t_other (h C hx) (hk _ _ hx).1 (hk _ _ hx).2.1 (hk _ _ hx).2.2.1 (hk _ _ hx).2.2.2⟩
theorem hu_ctx {k : Nat} {X : Cx} (C : Ctx T cc ev k X) : X.A.units + 64 < cLine := C.room.units
theorem kinds {sc : Scope} {e : E} {x : Expr} (h : cvE cc sc e x = true) (he : ∀ op u p, cvE cc sc e (.UnaryOp op u p) = false) (hb : ∀ op vs p, cvE cc sc e (.BoolOp op vs p) = false) (hi : ∀ u v w p, cvE cc sc e (.IfExp u v w p) = false) (hc : ∀ l ops cs p, cvE cc sc e (.Compare l ops cs p) = false) :
    (∀ op u p, x ≠ .UnaryOp op u p) ∧ (∀ op vs p, x ≠ .BoolOp op vs p) ∧ (∀ u v w p, x ≠ .IfExp u v w p) ∧ (∀ l ops cs p, x ≠ .Compare l ops cs p) :=
  ⟨fun op u p z => (by rw [z, he] at h; cases h), fun op vs p z => (by rw [z, hb] at h; cases h), fun u v w p z => (by rw [z, hi] at h; cases h), fun l ops cs p z => (by rw [z, hc] at h; cases h)⟩
theorem bv {b : Bool} (h : (b == false) = true) : b = false := by simpa using h
end
end Hc
set_option Elab.async false
set_option linter.all false
set_option maxRecDepth 100000
set_option maxHeartbeats 4000000
/-! Instances: attributes, methods, properties, makings, constants of classes; reversed(..). -/
namespace Hc
open PySem PySem.Spec PyProof.Rows L2
section
variable {T : Tab} {ev : Ev} {X : Cx} {x y : Expr} {xs : List Expr} {pos : Pos} {cc : Cc} {k : Nat} {a : E} {es : Es}
theorem star_all (pos : Pos) (env : Env) : ∀ es : List Expr, (∀ e ∈ es, noStar e = true) → (backTo pos (starEach es env)).all (fun x => !x.1) = true
  | [], _ => rfl
  | e :: es, h => by
    rw [star_cons (h e List.mem_cons_self)]
    have ih := star_all pos env es fun x hx => h x (List.mem_cons_of_mem _ hx)
    show (!false && (backTo pos (starEach es env)).all (fun x => !x.1)) = true
    rw [ih]; rfl
theorem form_ok {es : List Expr} {env : Env} (h : ∀ e ∈ es, noStar e = true) (hl : es.length < 20) : methodCallForm (es.length + ([] : List Keyword).length) (backTo pos (starEach es env)) (backToKw pos (keywordEach [] env)) = true := by
  unfold methodCallForm
  rw [star_all pos env es h]
  simp [backToKw, keywordEach]
  omega
theorem meth_eq {o : Expr} {m : Str} {apos : Pos} {es : List Expr} {env : Env} (hb : nBase o = true) (hl : (apos.endLine == pos.line) = true) (hs : ∀ e ∈ es, noStar e = true) (hn : es.length < 20) : eval (.Call (.Attribute o m apos) es [] pos) env = (do
      let ov ← eval o env
      standAt apos.atName
      let (f, first) ← holding [ov] (getMethod ov m (do return (← importBound o env).getD true))
      callWith pos f first (backTo pos (starEach es env)) (backToKw pos (keywordEach [] env))) := by
  rw [arm_eval_Call, nBase_ok hb]
  unfold methodCall calleeOf methodCallPos
  rw [form_ok hs hn, hl]
  rfl
theorem lookup_zip : ∀ {fs : List Nat} {vs : List V} {j k : Nat} {v : V}, fs.idxOf? j = some k → vs[k]? = some v → ((fs.map T.fnm).zip vs).lookup (T.fnm j) = some v
  | [], _, _, _, _, h, _ => by simp at h
  | f :: fs, [], _, _, _, _, h => by simp at h
  | f :: fs, w :: vs, j, k, v, h, h2 => by
    rw [List.map_cons, List.zip_cons_cons, List.lookup_cons]
    rw [List.idxOf?_cons] at h
    by_cases e : (f == j) = true
    · rw [if_pos e] at h
      cases h
      have e' : f = j := by simpa using e
      subst e'
      simp at h2
      simp [h2]
    · rw [if_neg e] at h
      have ne : (T.fnm j == T.fnm f) = false := by
        simp only [beq_eq_false_iff_ne]
        intro z
        exact e (by rw [T.inj _ _ z]; simp)
      rw [ne]
      obtain ⟨k', h3, rfl⟩ := Option.map_eq_some_iff.mp h
      exact lookup_zip h3 (by simpa using h2)
theorem ins_inv {A : Avd} {H : Hp} {v : V} {d : D} {c : Nat} (r : Rep T H A v d 0 []) (h : clsD d = some c) : ∃ a dx fs vs ds, v = .ref a ∧ H a = some (.ins (T.cls c) dx ((fs.map T.fnm).zip vs)) ∧ vs.length = fs.length ∧ c < T.nc ∧ RepL T H A vs ds 0 [] ∧ ¬ A a ∧ (d = .obj c fs ds ∨ d = .own c fs ds) := by
  cases r with
  | objS h1 h2 h3 h4 => cases h; exact ⟨_, _, _, _, _, rfl, h1, h3.1, h3.2, h4, h2, .inl rfl⟩
  | ownS h1 h2 h3 h4 => cases h; exact ⟨_, _, _, _, _, rfl, h1, h3.1, h3.2, h4, h2, .inr rfl⟩
  | _ => cases h
theorem fld_1 {b : Bool} {fs : List Nat} {ds : List D} {j : Nat} {e : D} (h : (if b = true then Rs.of ((fs.idxOf? j).bind fun k => ds[k]?) else Rs.bad) = .ok e) : b = true ∧ ∃ k, fs.idxOf? j = some k ∧ ds[k]? = some e := by
  cases b with
  | false => cases h
  | true =>
    obtain ⟨k, h1, h2⟩ := Option.bind_eq_some_iff.mp (of_ok h)
    exact ⟨rfl, k, h1, h2⟩
theorem fld_cls {has : Nat → Nat → Bool} {d e : D} {j : Nat} (h : fldD has d j = .ok e) : ∃ c fs ds k, (d = .obj c fs ds ∨ d = .own c fs ds) ∧ has c j = true ∧ fs.idxOf? j = some k ∧ ds[k]? = some e := by
  cases d with
  | obj c fs ds =>
    obtain ⟨h1, k, h2, h3⟩ := fld_1 h
    exact ⟨c, fs, ds, k, .inl rfl, h1, h2, h3⟩
  | own c fs ds =>
    obtain ⟨h1, k, h2, h3⟩ := fld_1 h
    exact ⟨c, fs, ds, k, .inr rfl, h1, h2, h3⟩
  | _ => cases h
theorem e_fld {j : Nat} {f : Str} (C : Ctx T cc ev k X) (hf : cc.fnm j = f) (hb : nBase x = true) (h : PE X x (tE T ev a)) : PE X (.Attribute x f pos) (tE T ev (.fld a j)) := ⟨fun pins s σ H Q I w => by
  obtain ⟨A, r, d, n, al, sh, e1, p⟩ := w
  rw [evE] at e1
  obtain ⟨⟨da, na⟩, ea, e1⟩ := Rs.bind_ok e1
  obtain ⟨dk, e2, e1⟩ := Rs.bind_ok e1
  cases e1
  obtain ⟨c, fs, ds, kk, hd, hh, h1, h2⟩ := fld_cls e2
  refine (pe_fld h (nBase_ok hb)).run pins s σ H Q I (rd1 al sh (fun _ h => h) ea fun v H1 s1 r1 => ?_)
  obtain ⟨ad, dx, fs', vs, ds', rfl, g1, g2, g3, g4, g5, g6⟩ := ins_inv (c := c) r1 (by rcases hd with rfl | rfl <;> rfl)
  have e3 : fs' = fs ∧ ds' = ds := by
    rcases hd with rfl | rfl <;> rcases g6 with g6 | g6 <;> cases g6 <;> exact ⟨rfl, rfl⟩
  obtain ⟨rfl, rfl⟩ := e3
  obtain ⟨v, hv, rv⟩ := g4.get h2
  subst hf
  rw [C.fnm]
  refine ⟨ad, _, dx, _, v, rfl, g1, C.cls c g3, C.noat c j g3 hh, lookup_zip h1 hv, ?_⟩
  exact (p.later s1).now rv⟩
theorem lookup_no {m : Str} : ∀ {fs : List Nat} {vs : List V}, (∀ j, T.fnm j ≠ m) → ((fs.map T.fnm).zip vs).lookup m = none
  | [], _, _ => by simp
  | f :: fs, [], _ => by simp
  | f :: fs, w :: vs, h => by
    rw [List.map_cons, List.zip_cons_cons, List.lookup_cons]
    have ne : (m == T.fnm f) = false := by
      simp only [beq_eq_false_iff_ne]
      exact fun z => h f z.symm
    rw [ne]
    exact lookup_no h
theorem noE {A : Avd} {b : Addr} (h : (Avd.more A []) b) : A b := by
  rcases h with h | h
  · exact h
  · simp at h
/-- the end of a call of which nothing is owned -/
theorem call_end {A : Avd} {H1 : Hp} {d : D} {n : Nat} {x : D} {Q : VK} {vs : List V} (p : Post T A H1 d n Q) : ∀ v H' F F', (∀ b o, H1 b = some o → b ∉ ([] : List Addr) → H' b = some o) → (∀ b, H' b = none → H1 b = none) → Frs F H1 → (∀ b ∈ F', b ∈ ([] : List Addr) ∨ H1 b = none) → (∀ b ∈ F, b ∉ F') → Rep T H' ((A.more F').more F) v d n F →
    (∀ v0 vr, vs = v0 :: vr → Rep T H' ((A.more F').more F) v0 x 0 F') → Q v H' := fun v H2 F F' k1 kd k2 k3 k4 k5 k6 => by
  have s2 : Same H1 H2 := fun b o hb => k1 b o hb (by simp)
  refine p v H2 F s2 k2 (k5.avoid fun b _ hb => ?_)
  rcases hb with hb | hb
  · exact .inl (.inl hb)
  · exact .inr hb
theorem own_of {A : Avd} {H : Hp} {v : V} {d : D} (r : Rep T H A v d 0 []) {c : Nat} (h : clsD d = some c) : ∃ a dx fs, v = .ref a ∧ H a = some (.ins (T.cls c) dx fs) ∧ c < T.nc ∧ ∀ m, (∀ j, T.fnm j ≠ m) → fs.lookup m = none := by
  obtain ⟨a, dx, fs, vs, ds, h1, h2, h3, h4, h5, h6⟩ := ins_inv r h
  exact ⟨a, dx, _, h1, h2, h4, fun m hm => lookup_no hm⟩
theorem _root_.L2.Same.dom {H H' : Hp} (s : Same H H') : ∀ b, H' b = none → H b = none := fun b h => by
  cases q : H b with
  | none => rfl
  | some o => rw [s b o q] at h; cases h
theorem Rep.more0' {H : Hp} {B : Avd} {v : V} {d : D} {n : Nat} {F : List Addr} (r : Rep T H B v d n F) : Rep T H (B.more []) v d n F := r.avoid fun b _ z => noE z
theorem frz_rep {H : Hp} {B : Avd} {v : V} {d : D} (r : Rep T H B v d 0 []) : Rep T H B v (frzD d) 0 [] := by
  cases r with
  | ownS h1 h2 h3 h4 => exact .objS h1 h2 h3 h4
  | non => exact .non
  | bl => exact .bl
  | int => exact .int
  | str => exact .str
  | tup h r => exact .tup h r
  | scr h r => exact .scr h r
  | lstS h1 h2 h3 => exact .lstS h1 h2 h3
  | dctS h1 h2 h3 => exact .dctS h1 h2 h3
  | dctTS h1 h2 h3 => exact .dctTS h1 h2 h3
  | objS h1 h2 h3 h4 => exact .objS h1 h2 h3 h4
theorem e_mcall {m : Nat} {nm : Str} {o : Expr} {ys : List Expr} {ap cp : Pos} (C : Ctx T cc ev k X) (hm : cc.mnm m = nm) (hb : nBase o = true) (hl : (ap.endLine == cp.line) = true) (hn : ys.length < 20) (ho : PE X o (tE T ev a)) (hs : ∀ e ∈ ys, noStar e = true) (hnil : ys = [] → es = .nil) (h : PA X ys (tEs T ev es)) : PE X (.Call (.Attribute o nm ap) ys [] cp) (tE T ev (.mcall a m es)) := ⟨fun pins s σ H Q I w => by
  obtain ⟨A, r, d, n, al, sh, e1, p⟩ := w
  rw [evE] at e1
  obtain ⟨⟨da, na⟩, ea, e1⟩ := Rs.bind_ok e1
  obtain ⟨ds, e2, e1⟩ := Rs.bind_ok e1
  obtain ⟨f, ef, e1⟩ := Rs.bind_ok e1
  obtain ⟨⟨d', n', x'⟩, e3, e1⟩ := Rs.bind_ok e1
  cases e1
  subst hm
  obtain ⟨c, hc, hf⟩ := Option.bind_eq_some_iff.mp (of_ok ef)
  obtain ⟨hc2, hj, g, M, fd, ps, bnd, F⟩ := C.meth c m f hf
  have red : tMeth (T.cls c) (cc.mnm m) (spG T ev f) [] E0 (tE T ev a) (tEs T ev es) σ H Q := by
    refine rd1 al sh inL ea fun v H1 s1 r1 => ?_
    obtain ⟨ad, dx, fs, rfl, g1, g2, g3⟩ := own_of r1 hc
    refine ⟨ad, dx, fs, rfl, g1, g3 _ hj, A, r, ds, al.same s1, (sh.sub inR).same s1, e2, fun vs H2 s2 rv => ?_⟩
    show spG T ev f (.ref ad :: (vs ++ [])) H2 Q E0
    rw [List.append_nil]
    exact ⟨A, 0, [], da :: ds, _, _, x', (al.same s1).same s2, fun b hb => absurd hb (by simp), ⟨(r1.same s2).avoid fun b _ hb => noE hb, rv.avoid fun b _ hb => noE hb⟩, e3, call_end ((p.later s1).later s2)⟩
  cases ys with
  | nil =>
    refine (pe_meth0 ho (C.cls c hc2) M F C.room' bnd .nil pass0 (meth_eq hb hl hs hn)).run pins s σ H Q I ?_
    have he : es = .nil := hnil rfl
    subst he
    obtain ⟨A', r', d2, n2, al2, sh2, ea2, p2⟩ := red
    refine ⟨A', r', d2, n2, al2, sh2, ea2, fun v H1 F1 s1 f1 r1 => ?_⟩
    obtain ⟨ad, dx, fs, q1, q2, q3, q4⟩ := p2 v H1 F1 s1 f1 r1
    refine ⟨ad, dx, fs, q1, q2, q3, ?_⟩
    obtain ⟨A3, r3, d3, al3, sh3, e3, q5⟩ := q4
    rw [evEs] at e3
    cases e3
    exact q5 [] H1 (Same.refl H1) .nil
  | cons y ys =>
    exact (pe_meth ho (C.cls c hc2) M F C.room' bnd .nil pass0 h (star_cons (hs _ List.mem_cons_self) _ _) (star_plain _ _ _ fun e he => hs e (List.mem_cons_of_mem _ he)) (meth_eq hb hl hs hn)).run pins s σ H Q I red⟩
theorem e_pget {m : Nat} {nm : Str} (C : Ctx T cc ev k X) (hm : cc.mnm m = nm) (hb : nBase x = true) (h : PE X x (tE T ev a)) : PE X (.Attribute x nm pos) (tE T ev (.pget a m)) := ⟨fun pins s σ H Q I w => by
  obtain ⟨A, r, d, n, al, sh, e1, p⟩ := w
  rw [evE] at e1
  obtain ⟨⟨da, na⟩, ea, e1⟩ := Rs.bind_ok e1
  obtain ⟨f, ef, e1⟩ := Rs.bind_ok e1
  obtain ⟨⟨d', n', x'⟩, e3, e1⟩ := Rs.bind_ok e1
  cases e1
  subst hm
  obtain ⟨c, hc, hf⟩ := Option.bind_eq_some_iff.mp (of_ok ef)
  obtain ⟨hc2, pp, g, M, fd, ps, bnd, F⟩ := C.prop c m f hf
  refine (pe_prop h (C.cls c hc2) M F C.room bnd .nil pass0 (nBase_ok hb)).run pins s σ H Q I (rd1 al sh (fun _ h => h) ea fun v H1 s1 r1 => ?_)
  obtain ⟨ad, dx, fs, rfl, g1, g2, g3⟩ := own_of r1 hc
  refine ⟨ad, dx, fs, rfl, g1, ?_⟩
  exact ⟨A, 0, [], [da], _, _, x', al.same s1, fun b hb => absurd hb (by simp), ⟨r1.avoid fun b _ hb => noE hb, .nil⟩, e3, call_end (p.later s1)⟩⟩
theorem e_cv {cl j : Nat} {nm f : Str} {p2 : Pos} (C : Ctx T cc ev k X) (hn : cc.cname cl = nm) (hf : cc.knm j = f) (hg : Gl X nm) (hd : (nm == ("__debug__" : Str)) = false) : PE X (.Attribute (.Name nm p2) f pos) (tE T ev (.cv cl j)) := ⟨fun pins s σ H Q I w => by
  obtain ⟨A, r, d, n, al, sh, e1, p⟩ := w
  rw [evE] at e1
  obtain ⟨d', e2, e1⟩ := Rs.bind_ok e1
  cases e1
  subst hn hf
  obtain ⟨h1, mc, v, u, h2, h3, h4, h5⟩ := C.cval cl j d (of_ok e2)
  refine (ClX.pe_cval (pe_glob (v := .ref (T.cls cl)) hg h1 rfl hd) rfl).run pins s σ H Q I ?_
  exact ⟨T.cls cl, mc, v, u, rfl, h2, h3, p.now (h5 _ _ _)⟩⟩
theorem e_make {z : Bool} {cl m : Nat} {nm : Str} {p2 : Pos} {y : Expr} {ys : List Expr} (C : Ctx T cc ev k X) (hn : cc.cname cl = nm) (hg : Gl X nm) (hd : (nm == ("__debug__" : Str)) = false) (hs : ∀ e ∈ y :: ys, noStar e = true) (h : PA X (y :: ys) (tEs T ev es)) : PE X (.Call (.Name nm p2) (y :: ys) [] pos) (tE T ev (.make z cl m es)) := ⟨fun pins s σ H Q I w => by
  obtain ⟨A, r, d, n, al, sh, e1, p⟩ := w
  rw [evE] at e1
  obtain ⟨ds, e2, e1⟩ := Rs.bind_ok e1
  obtain ⟨f, ef, e1⟩ := Rs.bind_ok e1
  obtain ⟨⟨d', n', x'⟩, e3, e1⟩ := Rs.bind_ok e1
  subst hn
  obtain ⟨hc, hm, g, M, fd, ps, bnd, F⟩ := C.made cl f (of_ok ef)
  refine (pe_make M F C.room hg hm bnd .nil pass0 h hd (star_cons (hs _ List.mem_cons_self) _ _) (star_plain _ _ _ fun e he => hs e (List.mem_cons_of_mem _ he))).run pins s σ H Q I ?_
  refine ⟨A, r, ds, al, sh, e2, fun vs H1 s1 r1 xa dx hx hdx hne => ?_⟩
  have s2 : Same H1 (upd (upd H1 dx (.own xa)) xa (.ins (T.cls cl) dx [])) := (same_new hdx).trans (same_new (by rw [upd_ne hne.symm]; exact hx))
  have s3 := s1.trans s2
  have nx : ¬ A xa := fun h => (al.same s1) xa h hx
  show spG T ev f (.ref xa :: (vs ++ [])) _ _ E0
  rw [List.append_nil]
  refine ⟨A, m + 1, [xa], .own cl [] [] :: ds, d', n', x', al.same s3, fun b hb => ?_, ⟨.ownO (dx := dx) (vs := []) upd_same (by simp) ⟨rfl, hc⟩ .nil, (r1.avoid fun b hb z => ?_).same s2⟩, e3, fun v H' F1 F' k1 kd k2 k3 k4 k5 k6 => ?_⟩
  · rw [show b = xa by simpa using hb]; exact nx
  · rcases z with z | z
    · exact z
    · rw [show b = xa by simpa using z] at hb
      exact absurd hx hb
  · dsimp only at e1
    split at e1
    · refine ⟨k5.non_inv, ?_⟩
      have rx := k6 (.ref xa) vs rfl
      have s4 : Same H H' := fun b o hb => k1 b o (s3 b o hb) fun hb' => by
        have e : b = xa := by simpa using hb'
        subst e
        rw [s1 _ _ hb] at hx
        cases hx
      have hF' : Frs F' H := fun b hb => by
        rcases k3 b hb with h | h
        · have e : b = xa := by simpa using h
          subst e
          exact s1.dom b hx
        · exact s3.dom b h
      have hF1 : Frs F1 H := fun b hb => s3.dom b (k2 b hb)
      cases z with
      | false =>
        cases e1
        exact p (.ref xa) H' F' s4 hF' (rx.avoid fun b _ hb => .inl hb)
      | true =>
        cases e1
        refine p (.ref xa) H' [] s4 (fun b hb => absurd hb (by simp)) ?_
        refine frz_rep (rx.low (A' := A) (fun b hb => .inl (.inl hb)) fun b hb z => al b z (hF' b hb)) |>.more0'
    · cases e1⟩
theorem sqt_kp {A : Avd} {H H' : Hp} {a : Addr} {vs : List V} (k : Kp A H H') (h : SqT T.K H a vs) : SqT T.K H' a vs := sqt_keep (A := A) (F := []) (fun b o hb q => k b o hb fun m z => by rcases q m with q | q; exact q z; simp at q) h
theorem walk_rev {A : Avd} {H : Hp} {a : Addr} {vs : List V} {ds : List D} (h : H a = some (.lst vs)) (na : ¬ A a) (r : RepL T H A vs ds 0 []) : WalkOk T A (Itv T.K a vs.length) ds.reverse H where
  go := fun i H' k hi => by
    have hl := r.length
    have hi' : i < ds.length := by simpa using hi
    refine ⟨by omega, vs, vs[vs.length - 1 - i]'(by omega), SqL.of (k a _ h fun _ => na), List.getElem?_eq_getElem _⟩
  stop := fun i H' k hi => by
    have hl := r.length
    have hi' : ds.length ≤ i := by simpa using hi
    show vs.length ≤ i
    omega
  yld := fun i H' x H'' d A' k hd hy ha => by
    have hl := r.length
    have hi' : i < ds.length := by
      have := (List.getElem?_eq_some_iff.mp hd).1
      simpa using this
    obtain ⟨rfl, hy⟩ := hy
    have hx := hy vs (SqL.of (k a _ h fun _ => na))
    rw [List.getElem?_reverse hi'] at hd
    exact ⟨Same.refl _, (r.atx hd (by rw [← hl]; exact hx)).kp k ha⟩
theorem walk_revT {A : Avd} {H : Hp} {a : Addr} {vs : List V} {ds : List D} (h : SqT T.K H a vs) (r : RepL T H A vs ds 0 []) : WalkOk T A (RT.ItvT T.K a vs.length) ds.reverse H where
  go := fun i H' k hi => by
    have hl := r.length
    have hi' : i < ds.length := by simpa using hi
    refine ⟨by omega, vs, vs[vs.length - 1 - i]'(by omega), sqt_kp k h, List.getElem?_eq_getElem _⟩
  stop := fun i H' k hi => by
    have hl := r.length
    have hi' : ds.length ≤ i := by simpa using hi
    show vs.length ≤ i
    omega
  yld := fun i H' x H'' d A' k hd hy ha => by
    have hl := r.length
    have hi' : i < ds.length := by
      have := (List.getElem?_eq_some_iff.mp hd).1
      simpa using this
    obtain ⟨rfl, hy⟩ := hy
    have hx := hy vs (sqt_kp k h)
    rw [List.getElem?_reverse hi'] at hd
    exact ⟨Same.refl _, (r.atx hd (by rw [← hl]; exact hx)).kp k ha⟩
theorem s_rvd {g tg : Expr} (C : Ctx T cc ev k X) (hg : isName X.env.scope (sStr "reversed") g = true) (hs : noStar x = true) (h : PE X x (tE T ev a)) : PI X tg (.Call g [x] [] pos) (wS T ev (.rvd a)) := by
  obtain ⟨gp, rfl, hgl⟩ := isName_ok hg
  refine ⟨fun pins s σ H R I w => ?_⟩
  obtain ⟨A, r, d, n, ds, al, sh, e1, e2, p⟩ := w
  rw [evE] at e1
  obtain ⟨⟨da, na⟩, ea, e1⟩ := Rs.bind_ok e1
  refine (RT.pi_revA hgl (C.bn _ (by decide +kernel)) h (star_cons hs _ _)).run pins s σ H R I (rd1 al sh (fun _ h => h) ea fun v H1 s1 r1 => ?_)
  dsimp only at e1
  split at e1
  · cases e1
    cases e2
    obtain ⟨b, vs, rfl, h1, h2, h3⟩ := r1.lst_inv
    rw [C.K]
    refine ⟨b, vs, rfl, .inl ⟨SqL.of h1, p _ H1 s1 fun A1 al1 hc => ?_⟩⟩
    rcases hc with rfl | hc
    · exact walk_rev h1 h2 h3
    · simp [clean, cleanN, scal] at hc
  · cases e1
    cases e2
    obtain ⟨b, vs, rfl, h1, h3⟩ := r1.tup_inv
    rw [C.K]
    refine ⟨b, vs, rfl, .inr ⟨h1, p _ H1 s1 fun A1 al1 hc => ?_⟩⟩
    rcases hc with rfl | hc
    · exact walk_revT h1 h3
    · simp [clean, cleanN, scal] at hc
  · cases e1
end
end Hc
set_option Elab.async false
set_option linter.all false
set_option maxRecDepth 100000
set_option maxHeartbeats 16000000
/-! Every expression, by induction. -/
namespace Hc
open PySem PySem.Spec PyProof.Rows L2
section
variable {T : Tab} {cc : Cc} {ev : Ev}
theorem no_e {e : E} (h : ∀ sc x, cvE cc sc e x = false) : Snd T cc ev e := ⟨fun C hx => absurd hx (by rw [h]; simp), fun C hx _ => absurd hx (by rw [h]; simp)⟩
theorem src_ok {k : Nat} {X : Cx} {tg it : Expr} {e : E} (C : Ctx T cc ev k X) (h : Snd T cc ev e) (hr : ∀ a b, e = .rng a b → Snd T cc ev a ∧ Snd T cc ev b) (he : ∀ a, e = .enm a → Snd T cc ev a) (hv : ∀ a, e = .rvd a → Snd T cc ev a) (hc : cvS cc X.env.scope e (isTup tg) it = true) : PI X tg it (wS T ev e) := by
  cases e with
  | rng a b =>
    obtain ⟨h1, h2⟩ := hr _ _ rfl
    unfold cvS at hc
    dsimp only at hc
    split at hc
    · simp only [Bool.and_eq_true] at hc
      obtain ⟨hg, hc⟩ := hc
      split at hc
      · simp only [Bool.and_eq_true] at hc
        obtain ⟨⟨h3, h4⟩, h5⟩ := hc
        split at h3
        · have h3 := of_decide_eq_true h3
          subst h3
          exact s_rng1 C hg h4 (h2.pe C h5)
        · cases h3
      · simp only [Bool.and_eq_true] at hc
        obtain ⟨⟨⟨h3, h4⟩, h5⟩, h6⟩ := hc
        exact s_rng2 C hg h3 h4 (h1.pe C h5) (h2.pe C h6)
      · cases hc
    · cases hc
  | enm a =>
    unfold cvS at hc
    dsimp only at hc
    split at hc
    · rename_i hb
      simp only [Bool.and_eq_true] at hc
      obtain ⟨⟨hg, h3⟩, h4⟩ := hc
      cases tg with
      | Tuple xs kk tp => exact s_enum C hg h3 ((he _ rfl).pe C h4)
      | _ => cases hb
    · cases hc
  | rvd a =>
    unfold cvS at hc
    dsimp only at hc
    split at hc
    · simp only [Bool.and_eq_true] at hc
      exact s_rvd C hc.1.1 hc.1.2 ((hv _ rfl).pe C hc.2)
    · cases hc
  | _ => exact s_of C (h.pe C hc)
theorem cvS_of {sc : Scope} {src : E} {tg it : Expr} (h : (match src with
      | .rng a b => (match it with
        | .Call g ys [] _ => isName sc (sStr "range") g && (match ys with
          | [y] => (match a with | .int i => decide (i = 0) | _ => false) && noStar y && cvE cc sc b y
          | [x, y] => noStar x && noStar y && cvE cc sc a x && cvE cc sc b y
          | _ => false)
        | _ => false)
      | .enm a => (match isTup tg, it with
        | true, .Call g [y] [] _ => isName sc (sStr "enumerate") g && noStar y && cvE cc sc a y
        | _, _ => false)
      | .rvd a => (match it with
        | .Call g [y] [] _ => isName sc (sStr "reversed") g && noStar y && cvE cc sc a y
        | _ => false)
      | e => cvE cc sc e it) = true) : cvS cc sc src (isTup tg) it = true := by
  cases src <;> exact h
theorem sndIdx {a b : E} (ha : Snd T cc ev a) (hb : Snd T cc ev b) : Snd T cc ev (.idx a b) := Snd.mk1 (fun {k X x} C h => by
  cases x with
  | Subscript u w p =>
    simp only [cvE, Bool.and_eq_true] at h
    exact e_idx (hu_ctx C) C.K h.1.1 (ha.pe C h.1.2) (hb.pe C h.2)
  | _ => simp [cvE] at h) fun sc x h => kinds h (by simp [cvE]) (by simp [cvE]) (by simp [cvE]) (by simp [cvE])
theorem sndSlc {a l h : E} (ha : Snd T cc ev a) (hl : Snd T cc ev l) (hh : Snd T cc ev h) : Snd T cc ev (.slc a l h) := Snd.mk1 (fun {k X x} C hx => by
  cases x with
  | Subscript u w p =>
    cases w with
    | Slice lo hi st p2 =>
      cases st with
      | none =>
        unfold cvE at hx
        have hx' := Bool.and_eq_true_iff.mp hx
        obtain ⟨hx1, h3⟩ := hx'
        obtain ⟨h1, h2⟩ := Bool.and_eq_true_iff.mp hx1
        refine e_slc C.K (ha.pe C h1) ?_ ?_
        · cases lo with
          | none => cases l <;> first | exact o_none | exact Bool.noConfusion h2
          | some z =>
            obtain ⟨h4, h5⟩ := Bool.and_eq_true_iff.mp h2
            exact o_some h4 (hl.pe C h5)
        · cases hi with
          | none => cases h <;> first | exact o_none | exact Bool.noConfusion h3
          | some z =>
            obtain ⟨h4, h5⟩ := Bool.and_eq_true_iff.mp h3
            exact o_some h4 (hh.pe C h5)
      | some st => simp [cvE] at hx
    | _ => simp [cvE] at hx
  | _ => simp [cvE] at hx) fun sc x h => kinds h (by simp [cvE]) (by simp [cvE]) (by simp [cvE]) (by simp [cvE])
theorem sndCall {f : Nat} {es : Es} (he : SndL T cc ev es) : Snd T cc ev (.call f es) := Snd.mk1 (fun {k X x} C h => by
  cases x with
  | Call g ys kws p =>
    cases g with
    | Name nm gp =>
      cases ys with
      | nil => simp [cvE] at h
      | cons y ys =>
        cases kws with
        | nil =>
          simp only [cvE, Bool.and_eq_true, decide_eq_true_eq, Bool.not_eq_true'] at h
          obtain ⟨⟨⟨⟨h1, h2⟩, h3⟩, h4⟩, h5⟩ := h
          have E := he.each C h5
          exact e_call C h1 h2 (Ctx.glb h3) (bv h4) E.star E.pa
        | cons _ _ => simp [cvE] at h
    | _ => simp [cvE] at h
  | _ => simp [cvE] at h) fun sc x h => kinds h (by simp [cvE]) (by simp [cvE]) (by simp [cvE]) (by simp [cvE])
theorem sndBi {b : Bi} {es : Es} (hb : ∀ n, b ≠ .isi n) (he : SndL T cc ev es) : Snd T cc ev (.bi b es) := by
  have key : ∀ sc x, cvE cc sc (.bi b es) x = true → ∃ g y ys p, x = .Call g (y :: ys) [] p ∧ biOk b = true ∧ isName sc (biNm b) g = true ∧ cvEs cc sc es (y :: ys) = true := by
    intro sc x h
    cases x with
    | Call g ys kws p =>
      cases ys with
      | nil => cases b <;> first | (simp [cvE] at h; done) | exact absurd rfl (hb _)
      | cons y ys =>
        cases kws with
        | cons _ _ => cases b <;> first | (simp [cvE] at h; done) | exact absurd rfl (hb _)
        | nil =>
          cases b <;> first
            | exact absurd rfl (hb _)
            | (simp only [cvE, Bool.and_eq_true] at h
               exact ⟨g, y, ys, p, rfl, h.1.1, h.1.2, h.2⟩)
    | _ => cases b <;> first | (simp [cvE] at h; done) | exact absurd rfl (hb _)
  refine Snd.mk1 (fun {k X x} C h => ?_) fun sc x h => ?_
  · obtain ⟨g, y, ys, p, rfl, h1, h2, h3⟩ := key _ _ h
    have E := he.each C h3
    exact e_bi C C.K (hu_ctx C) h1 hb h2 E.star E.pa
  · obtain ⟨g, y, ys, p, rfl, _⟩ := key _ _ h
    exact ⟨fun _ _ _ z => (nomatch z), fun _ _ _ z => (nomatch z), fun _ _ _ _ z => (nomatch z), fun _ _ _ _ z => (nomatch z)⟩
theorem sndIsi {n : Nat} {e : E} (he : Snd T cc ev e) : Snd T cc ev (.bi (.isi n) (.cons e .nil)) := by
  have key : ∀ sc x, cvE cc sc (.bi (.isi n) (.cons e .nil)) x = true → ∃ g y nm tp p, x = .Call g [y, .Name nm tp] [] p ∧ isName sc (sStr "isinstance") g = true ∧ nm = isiNm n ∧ glb sc nm = true ∧ noStar y = true ∧ cvE cc sc e y = true := by
    intro sc x h
    unfold cvE at h
    split at h <;> (first | contradiction | skip)
    · rename_i n' e' g y t tp p hh
      cases hh
      simp only [Bool.and_eq_true, decide_eq_true_eq] at h
      exact ⟨g, y, t, tp, p, rfl, h.1.1.1.1, h.1.1.1.2, h.1.1.2, h.1.2, h.2⟩
    · exfalso
      rename_i h1 hh
      injection hh with h2 h3
      exact h1 n h2.symm
  refine Snd.mk1 (fun {k X x} C h => ?_) fun sc x h => ?_
  · obtain ⟨g, y, nm, tp, p, rfl, h1, h2, h3, h4, h5⟩ := key _ _ h
    exact e_isi C C.K h1 h2 (Ctx.glb h3) h4 (he.pe C h5)
  · obtain ⟨g, y, nm, tp, p, rfl, _⟩ := key _ _ h
    exact ⟨fun _ _ _ z => (nomatch z), fun _ _ _ z => (nomatch z), fun _ _ _ _ z => (nomatch z), fun _ _ _ _ z => (nomatch z)⟩
theorem sndLrng {a b : E} (ha : Snd T cc ev a) (hb : Snd T cc ev b) : Snd T cc ev (.lrng a b) := by
  have key : ∀ sc x, cvE cc sc (.lrng a b) x = true → ∃ g g2 ys p2 p, x = .Call g [.Call g2 ys [] p2] [] p ∧ isName sc (sStr "list") g = true ∧ isName sc (sStr "range") g2 = true ∧ ((∃ y, ys = [y] ∧ a = .int 0 ∧ noStar y = true ∧ cvE cc sc b y = true) ∨ ∃ x y, ys = [x, y] ∧ noStar x = true ∧ noStar y = true ∧ cvE cc sc a x = true ∧ cvE cc sc b y = true) := by
    intro sc x h
    unfold cvE at h
    split at h <;> (first | contradiction | skip)
    rename_i a' b' g g2 ys p2 p hh
    cases hh
    simp only [Bool.and_eq_true] at h
    refine ⟨g, g2, ys, p2, p, rfl, h.1.1, h.1.2, ?_⟩
    have h3 := h.2
    split at h3
    · simp only [Bool.and_eq_true] at h3
      obtain ⟨⟨h4, h5⟩, h6⟩ := h3
      split at h4
      · have h4 := of_decide_eq_true h4
        subst h4
        exact .inl ⟨_, rfl, rfl, h5, h6⟩
      · cases h4
    · simp only [Bool.and_eq_true] at h3
      exact .inr ⟨_, _, rfl, h3.1.1.1, h3.1.1.2, h3.1.2, h3.2⟩
    · cases h3
  refine Snd.mk1 (fun {k X x} C h => ?_) fun sc x h => ?_
  · obtain ⟨g, g2, ys, p2, p, rfl, h1, h2, h3⟩ := key _ _ h
    rcases h3 with ⟨y, rfl, rfl, h4, h5⟩ | ⟨x, y, rfl, h4, h5, h6, h7⟩
    · exact e_lrng1 C h1 h2 h4 (hb.pe C h5)
    · exact e_lrng2 C h1 h2 h4 h5 (ha.pe C h6) (hb.pe C h7)
  · obtain ⟨g, g2, ys, p2, p, rfl, _⟩ := key _ _ h
    exact ⟨fun _ _ _ z => (nomatch z), fun _ _ _ z => (nomatch z), fun _ _ _ _ z => (nomatch z), fun _ _ _ _ z => (nomatch z)⟩
theorem sndBits {a : E} {m : Mt} {es : Es} (ha : Snd T cc ev a) : Snd T cc ev (.mth m a es) := by
  have key : ∀ sc x, cvE cc sc (.mth m a es) x = true → ∃ o ap p, x = .Call (.Attribute o (sStr "bit_length") ap) [] [] p ∧ m = .bitlen ∧ es = .nil ∧ nBase o = true ∧ (ap.endLine == p.line) = true ∧ cvE cc sc a o = true := by
    intro sc x h
    unfold cvE at h
    split at h <;> (first | contradiction | skip)
    rename_i hh
    cases hh
    simp only [Bool.and_eq_true, decide_eq_true_eq] at h
    obtain ⟨⟨⟨h1, h2⟩, h3⟩, h4⟩ := h
    subst h1
    exact ⟨_, _, _, rfl, rfl, rfl, h2, h3, h4⟩
  refine Snd.mk1 (fun {k X x} C h => ?_) fun sc x h => ?_
  · obtain ⟨o, ap, p, rfl, rfl, rfl, h1, h2, h3⟩ := key _ _ h
    exact e_bits h1 h2 (ha.pe C h3)
  · obtain ⟨o, ap, p, rfl, _⟩ := key _ _ h
    exact ⟨fun _ _ _ z => (nomatch z), fun _ _ _ z => (nomatch z), fun _ _ _ _ z => (nomatch z), fun _ _ _ _ z => (nomatch z)⟩
theorem sndComp {m : Nat} {t : Tg} {src cnd elt : E} (hs : Snd T cc ev src) (hr : ∀ a b, src = .rng a b → Snd T cc ev a ∧ Snd T cc ev b) (hn : ∀ a, src = .enm a → Snd T cc ev a) (hv : ∀ a, src = .rvd a → Snd T cc ev a) (hc : Snd T cc ev cnd) (he : Snd T cc ev elt) : Snd T cc ev (.comp m t src cnd elt) := by
  have key : ∀ sc x, cvE cc sc (.comp m t src cnd elt) x = true → ∃ ex tg it ifs scp p, x = .ListComp ex [⟨tg, it, ifs, 0⟩] scp p ∧ cvT cc scp t tg = true ∧ blkC cc.N sc scp (own cc t) = true ∧ cvS cc sc src (isTup tg) it = true ∧ cvE cc (relS scp sc) elt ex = true ∧
      ((ifs = [] ∧ cnd = .nop) ∨ ∃ y, ifs = [y] ∧ nn cnd = true ∧ tst cnd = true ∧ cvE cc (relS scp sc) cnd y = true) := by
    intro sc x h
    unfold cvE at h
    split at h <;> (first | contradiction | skip)
    rename_i m' t' src' cnd' elt' ex tg it ifs scp p hh
    cases hh
    simp only [Bool.and_eq_true] at h
    obtain ⟨⟨⟨⟨h1, h2⟩, h3⟩, h4⟩, h5⟩ := h
    refine ⟨ex, tg, it, ifs, scp, p, rfl, h1, h2, cvS_of h3, h5, ?_⟩
    split at h4
    · split at h4
      · exact .inl ⟨rfl, rfl⟩
      · cases h4
    · simp only [Bool.and_eq_true] at h4
      exact .inr ⟨_, rfl, h4.1.1, h4.1.2, h4.2⟩
    · cases h4
  refine Snd.mk1 (fun {k X x} C h => ?_) fun sc x h => ?_
  · obtain ⟨ex, tg, it, ifs, scp, p, rfl, h1, h2, h3, h4, h5⟩ := key _ _ h
    refine e_comp C (src_ok C hs hr hn hv h3) (fun v => cvS_fold h3 _ v) h2 h1 (fun s H Ca cl fp => ?_) fun s H Ca cl fp => he.pe (X := X.blk s H scp (compEnvC scp cl Ca X.env) fp) C.blk h4
    rcases h5 with ⟨rfl, rfl⟩ | ⟨y, rfl, h5, h6, h7⟩
    · exact w_none
    · exact w_some h5 (hc.pt (X := X.blk s H scp (compEnvC scp cl Ca X.env) fp) C.blk h7 h6)
  · obtain ⟨ex, tg, it, ifs, scp, p, rfl, _⟩ := key _ _ h
    exact ⟨fun _ _ _ z => (nomatch z), fun _ _ _ z => (nomatch z), fun _ _ _ _ z => (nomatch z), fun _ _ _ _ z => (nomatch z)⟩
theorem sndNt {a : E} (ha : Snd T cc ev a) : Snd T cc ev (.nt a) := by
  have key : ∀ sc x, cvE cc sc (.nt a) x = true → ∃ y p, x = .UnaryOp .Not y p ∧ cvE cc sc a y = true := by
    intro sc x h
    cases x with
    | UnaryOp op y p => cases op <;> simp [cvE] at h; exact ⟨y, p, rfl, h⟩
    | _ => simp [cvE] at h
  refine ⟨fun {k X x} C h => ?_, fun {k X x} C h ht => ?_⟩
  · obtain ⟨y, p, rfl, h1⟩ := key _ _ h
    exact e_nt (ha.pe C h1)
  · obtain ⟨y, p, rfl, h1⟩ := key _ _ h
    exact t_not (ha.pt C h1 (by simpa [tst] using ht))
theorem sndCmp {o : Co} {a b : E} (ha : Snd T cc ev a) (hb : Snd T cc ev b) : Snd T cc ev (.cmp o a b) := by
  have key : ∀ sc x, cvE cc sc (.cmp o a b) x = true → ∃ l op r p, x = .Compare l [op] [r] p ∧ coIs o op = true ∧ cvE cc sc a l = true ∧ cvE cc sc b r = true ∧ behindInMarks op r = false := by
    intro sc x h
    unfold cvE at h
    split at h <;> (first | contradiction | skip)
    rename_i hh
    cases hh
    simp only [Bool.and_eq_true] at h
    exact ⟨_, _, _, _, rfl, h.1.1.1, h.1.1.2, h.1.2, bv h.2⟩
  refine ⟨fun {k X x} C h => ?_, fun {k X x} C h ht => ?_⟩
  · obtain ⟨l, op, r, p, rfl, h1, h2, h3, h4⟩ := key _ _ h
    exact e_cmp (hu_ctx C) C.K h1 h4 (ha.pe C h2) (hb.pe C h3)
  · obtain ⟨l, op, r, p, rfl, h1, h2, h3, h4⟩ := key _ _ h
    exact t_cmp (hu_ctx C) C.K h1 h4 (ha.pe C h2) (hb.pe C h3)
theorem sndChain {o p : Co} {a b d : E} (ha : Snd T cc ev a) (hb : Snd T cc ev b) (hd : Snd T cc ev d) : Snd T cc ev (.chain o p a b d) := by
  have key : ∀ sc x, cvE cc sc (.chain o p a b d) x = true → ∃ l op op' m r q, x = .Compare l [op, op'] [m, r] q ∧ coIs o op = true ∧ coIs p op' = true ∧ cvE cc sc a l = true ∧ cvE cc sc b m = true ∧ cvE cc sc d r = true ∧ lastMarks [op, op'] [m, r] = false := by
    intro sc x h
    unfold cvE at h
    split at h <;> (first | contradiction | skip)
    rename_i hh
    cases hh
    simp only [Bool.and_eq_true] at h
    exact ⟨_, _, _, _, _, _, rfl, h.1.1.1.1.1, h.1.1.1.1.2, h.1.1.1.2, h.1.1.2, h.1.2, bv h.2⟩
  refine ⟨fun {k X x} C h => ?_, fun {k X x} C h ht => ?_⟩
  · obtain ⟨l, op, op', m, r, q, rfl, h1, h2, h3, h4, h5, h6⟩ := key _ _ h
    exact e_chain (hu_ctx C) C.K h1 h2 h6 (ha.pe C h3) (hb.pe C h4) (hd.pe C h5)
  · obtain ⟨l, op, op', m, r, q, rfl, h1, h2, h3, h4, h5, h6⟩ := key _ _ h
    exact t_chain (hu_ctx C) C.K h1 h2 h6 (ha.pe C h3) (hb.pe C h4) (hd.pe C h5)
theorem sndAnd {es : Es} (he : SndL T cc ev es) : Snd T cc ev (.andL es) := by
  have key : ∀ sc x, cvE cc sc (.andL es) x = true → ∃ xs p, x = .BoolOp .And xs p ∧ xs ≠ [] ∧ cvEs cc sc es xs = true := by
    intro sc x h
    cases x with
    | BoolOp op xs p => cases op <;> simp [cvE] at h; exact ⟨xs, p, rfl, h.1, h.2⟩
    | _ => simp [cvE] at h
  refine ⟨fun {k X x} C h => ?_, fun {k X x} C h ht => ?_⟩
  · obtain ⟨xs, p, rfl, h1, h2⟩ := key _ _ h
    exact (he.each C h2).and h1
  · obtain ⟨xs, p, rfl, h1, h2⟩ := key _ _ h
    exact ((he.each C h2).andT h1 (by simpa [tst] using ht)).pt
theorem sndOr {es : Es} (he : SndL T cc ev es) : Snd T cc ev (.orL es) := by
  have key : ∀ sc x, cvE cc sc (.orL es) x = true → ∃ xs p, x = .BoolOp .Or xs p ∧ xs ≠ [] ∧ cvEs cc sc es xs = true := by
    intro sc x h
    cases x with
    | BoolOp op xs p => cases op <;> simp [cvE] at h; exact ⟨xs, p, rfl, h.1, h.2⟩
    | _ => simp [cvE] at h
  refine ⟨fun {k X x} C h => ?_, fun {k X x} C h ht => ?_⟩
  · obtain ⟨xs, p, rfl, h1, h2⟩ := key _ _ h
    exact (he.each C h2).or h1
  · obtain ⟨xs, p, rfl, h1, h2⟩ := key _ _ h
    exact ((he.each C h2).orT h1 (by simpa [tst] using ht)).pt
theorem sndIte {t a b : E} (ht : Snd T cc ev t) (ha : Snd T cc ev a) (hb : Snd T cc ev b) : Snd T cc ev (.ite t a b) := by
  refine ⟨fun {k X x} C h => ?_, fun {k X x} C h hx => by simp [tst] at hx⟩
  cases x with
  | IfExp u v w p =>
    simp only [cvE, Bool.and_eq_true] at h
    obtain ⟨⟨⟨h1, h2⟩, h3⟩, h4⟩ := h
    exact e_ite (ht.pt C h2 h1) (ha.pe C h3) (hb.pe C h4)
  | _ => simp [cvE] at h
theorem sndBin {o : Bo} {a b : E} (ha : Snd T cc ev a) (hb : Snd T cc ev b) : Snd T cc ev (.bin o a b) := Snd.mk1 (fun {k X x} C h => by
  cases x with
  | BinOp l op r p =>
    simp only [cvE, Bool.and_eq_true] at h
    exact e_bin C.K h.1.1 (ha.pe C h.1.2) (hb.pe C h.2)
  | _ => simp [cvE] at h) fun sc x h => kinds h (by simp [cvE]) (by simp [cvE]) (by simp [cvE]) (by simp [cvE])
theorem sndNeg {a : E} (ha : Snd T cc ev a) : Snd T cc ev (.neg a) := by
  refine ⟨fun {k X x} C h => ?_, fun {k X x} C h _ => ?_⟩
  · cases x with
    | UnaryOp op y p => cases op <;> simp [cvE] at h; exact e_neg (ha.pe C h)
    | _ => simp [cvE] at h
  · cases x with
    | UnaryOp op y p => cases op <;> simp [cvE] at h; exact t_of (e_neg (ha.pe C h)) (by intro _; rfl)
    | _ => simp [cvE] at h
theorem sndInv {a : E} (ha : Snd T cc ev a) : Snd T cc ev (.inv a) := by
  refine ⟨fun {k X x} C h => ?_, fun {k X x} C h _ => ?_⟩
  · cases x with
    | UnaryOp op y p => cases op <;> simp [cvE] at h; exact e_inv (ha.pe C h)
    | _ => simp [cvE] at h
  · cases x with
    | UnaryOp op y p => cases op <;> simp [cvE] at h; exact t_of (e_inv (ha.pe C h)) (by intro _; rfl)
    | _ => simp [cvE] at h
theorem sndTup {es : Es} (he : SndL T cc ev es) : Snd T cc ev (.tup es) := Snd.mk1 (fun {k X x} C h => by
  cases x with
  | Tuple xs kk p =>
    simp only [cvE, Bool.and_eq_true, decide_eq_true_eq] at h
    exact e_tup h.1 h.2 (he.each C h.2).pa
  | _ => simp [cvE] at h) fun sc x h => kinds h (by simp [cvE]) (by simp [cvE]) (by simp [cvE]) (by simp [cvE])
theorem sndLst {es : Es} (he : SndL T cc ev es) : Snd T cc ev (.lst es) := Snd.mk1 (fun {k X x} C h => by
  cases x with
  | List xs p =>
    simp only [cvE, Bool.and_eq_true, decide_eq_true_eq] at h
    exact e_lst h.1 h.2 (he.each C h.2).pa
  | _ => simp [cvE] at h) fun sc x h => kinds h (by simp [cvE]) (by simp [cvE]) (by simp [cvE]) (by simp [cvE])
theorem sndLsn {m : Nat} {es : Es} (he : SndL T cc ev es) : Snd T cc ev (.lsn m es) := Snd.mk1 (fun {k X x} C h => by
  cases x with
  | List xs p =>
    simp only [cvE, Bool.and_eq_true, decide_eq_true_eq] at h
    exact e_lsn h.1 h.2 (he.each C h.2).pn
  | _ => simp [cvE] at h) fun sc x h => kinds h (by simp [cvE]) (by simp [cvE]) (by simp [cvE]) (by simp [cvE])
theorem sndVar {i : Nat} : Snd T cc ev (.var i) := Snd.mk1 (fun {k X x} C h => by
  cases x with
  | Name nm p =>
    simp only [cvE, Bool.and_eq_true, decide_eq_true_eq] at h
    exact e_var (by rw [C.N]; exact h.1.1.1) (C.vis h.1.1.2) (bv h.1.2) (bv h.2)
  | _ => simp [cvE] at h) fun sc x h => kinds h (by simp [cvE]) (by simp [cvE]) (by simp [cvE]) (by simp [cvE])
theorem sndNon : Snd T cc ev .non := Snd.mk1 (fun {k X x} C h => by
  cases x with
  | Constant v kk p => cases v <;> simp [cvE] at h; exact e_const pe_non (fun r => by rw [evE]) fun A H m => .non
  | _ => simp [cvE] at h) fun sc x h => kinds h (by simp [cvE]) (by simp [cvE]) (by simp [cvE]) (by simp [cvE])
theorem sndBl {b : Bool} : Snd T cc ev (.bl b) := Snd.mk1 (fun {k X x} C h => by
  cases x with
  | Constant v kk p => cases v <;> simp [cvE] at h; subst h; exact e_const pe_bl (fun r => by rw [evE]) fun A H m => .bl
  | _ => simp [cvE] at h) fun sc x h => kinds h (by simp [cvE]) (by simp [cvE]) (by simp [cvE]) (by simp [cvE])
theorem sndInt {b : Int} : Snd T cc ev (.int b) := Snd.mk1 (fun {k X x} C h => by
  cases x with
  | Constant v kk p => cases v <;> simp [cvE] at h; subst h; exact e_const pe_int (fun r => by rw [evE]) fun A H m => .int
  | _ => simp [cvE] at h) fun sc x h => kinds h (by simp [cvE]) (by simp [cvE]) (by simp [cvE]) (by simp [cvE])
theorem sndStr {b : Str} : Snd T cc ev (.str b) := Snd.mk1 (fun {k X x} C h => by
  cases x with
  | Constant v kk p => cases v <;> simp [cvE] at h; subst h; exact e_const pe_str (fun r => by rw [evE]) fun A H m => .str
  | _ => simp [cvE] at h) fun sc x h => kinds h (by simp [cvE]) (by simp [cvE]) (by simp [cvE]) (by simp [cvE])
theorem sndEmp {n : Nat} : Snd T cc ev (.emp n) := Snd.mk1 (fun {k X x} C h => by
  cases x with
  | List xs p => cases xs <;> simp [cvE] at h; exact e_emp
  | _ => simp [cvE] at h) fun sc x h => kinds h (by simp [cvE]) (by simp [cvE]) (by simp [cvE]) (by simp [cvE])
theorem sndDnew {t : Bool} {n : Nat} : Snd T cc ev (.dnew t n) := Snd.mk1 (fun {k X x} C h => by
  cases x with
  | Dict ks vs p => cases ks <;> cases vs <;> simp [cvE] at h; exact e_dnew
  | _ => simp [cvE] at h) fun sc x h => kinds h (by simp [cvE]) (by simp [cvE]) (by simp [cvE]) (by simp [cvE])
theorem sndFld {a : E} {j : Nat} (ha : Snd T cc ev a) : Snd T cc ev (.fld a j) := Snd.mk1 (fun {k X x} C h => by
  cases x with
  | Attribute o f p =>
    simp only [cvE, Bool.and_eq_true, decide_eq_true_eq] at h
    exact e_fld C h.1.1 h.1.2 (ha.pe C h.2)
  | _ => simp [cvE] at h) fun sc x h => kinds h (by simp [cvE]) (by simp [cvE]) (by simp [cvE]) (by simp [cvE])
theorem sndPget {a : E} {j : Nat} (ha : Snd T cc ev a) : Snd T cc ev (.pget a j) := Snd.mk1 (fun {k X x} C h => by
  cases x with
  | Attribute o f p =>
    simp only [cvE, Bool.and_eq_true, decide_eq_true_eq] at h
    exact e_pget C h.1.1 h.1.2 (ha.pe C h.2)
  | _ => simp [cvE] at h) fun sc x h => kinds h (by simp [cvE]) (by simp [cvE]) (by simp [cvE]) (by simp [cvE])
theorem sndCv {cl j : Nat} : Snd T cc ev (.cv cl j) := Snd.mk1 (fun {k X x} C h => by
  cases x with
  | Attribute o f p =>
    cases o with
    | Name nm p2 =>
      simp only [cvE, Bool.and_eq_true, decide_eq_true_eq] at h
      exact e_cv C h.1.1.2 h.1.1.1 (Ctx.glb h.1.2) (bv h.2)
    | _ => simp [cvE] at h
  | _ => simp [cvE] at h) fun sc x h => kinds h (by simp [cvE]) (by simp [cvE]) (by simp [cvE]) (by simp [cvE])
theorem sndMcall {a : E} {m : Nat} {es : Es} (ha : Snd T cc ev a) (he : SndL T cc ev es) : Snd T cc ev (.mcall a m es) := Snd.mk1 (fun {k X x} C h => by
  cases x with
  | Call g ys kws p =>
    cases g with
    | Attribute o nm ap =>
      cases kws with
      | nil =>
        simp only [cvE, Bool.and_eq_true, decide_eq_true_eq] at h
        obtain ⟨⟨⟨⟨⟨h1, h2⟩, h3⟩, h4⟩, h5⟩, h6⟩ := h
        have E := he.each C h6
        exact e_mcall C h1 h2 h3 h4 (ha.pe C h5) E.star E.nil_iff E.pa
      | cons _ _ => simp [cvE] at h
    | _ => simp [cvE] at h
  | _ => simp [cvE] at h) fun sc x h => kinds h (by simp [cvE]) (by simp [cvE]) (by simp [cvE]) (by simp [cvE])
theorem sndMake {z : Bool} {cl m : Nat} {es : Es} (he : SndL T cc ev es) : Snd T cc ev (.make z cl m es) := Snd.mk1 (fun {k X x} C h => by
  cases x with
  | Call g ys kws p =>
    cases g with
    | Name nm gp =>
      cases ys with
      | nil => simp [cvE] at h
      | cons y ys =>
        cases kws with
        | nil =>
          simp only [cvE, Bool.and_eq_true, decide_eq_true_eq] at h
          obtain ⟨⟨⟨h1, h2⟩, h3⟩, h4⟩ := h
          have E := he.each C h4
          exact e_make C h1 (Ctx.glb h2) (bv h3) E.star E.pa
        | cons _ _ => simp [cvE] at h
    | _ => simp [cvE] at h
  | _ => simp [cvE] at h) fun sc x h => kinds h (by simp [cvE]) (by simp [cvE]) (by simp [cvE]) (by simp [cvE])
def Parts (T : Tab) (cc : Cc) (ev : Ev) : E → Prop
  | .rng a b => Snd T cc ev a ∧ Snd T cc ev b
  | .enm a => Snd T cc ev a
  | .rvd a => Snd T cc ev a
  | _ => True
mutual
theorem sndP : ∀ e : E, Snd T cc ev e ∧ Parts T cc ev e
  | .var _ => ⟨sndVar, trivial⟩
  | .non => ⟨sndNon, trivial⟩
  | .bl _ => ⟨sndBl, trivial⟩
  | .int _ => ⟨sndInt, trivial⟩
  | .str _ => ⟨sndStr, trivial⟩
  | .nop => ⟨no_e fun sc x => by simp [cvE], trivial⟩
  | .bin _ a b => ⟨sndBin (sndP a).1 (sndP b).1, trivial⟩
  | .neg a => ⟨sndNeg (sndP a).1, trivial⟩
  | .inv a => ⟨sndInv (sndP a).1, trivial⟩
  | .nt a => ⟨sndNt (sndP a).1, trivial⟩
  | .cmp _ a b => ⟨sndCmp (sndP a).1 (sndP b).1, trivial⟩
  | .chain _ _ a b d => ⟨sndChain (sndP a).1 (sndP b).1 (sndP d).1, trivial⟩
  | .andL es => ⟨sndAnd (sndL es), trivial⟩
  | .orL es => ⟨sndOr (sndL es), trivial⟩
  | .ite t a b => ⟨sndIte (sndP t).1 (sndP a).1 (sndP b).1, trivial⟩
  | .tup es => ⟨sndTup (sndL es), trivial⟩
  | .lst es => ⟨sndLst (sndL es), trivial⟩
  | .lsn _ es => ⟨sndLsn (sndL es), trivial⟩
  | .emp _ => ⟨sndEmp, trivial⟩
  | .dnew _ _ => ⟨sndDnew, trivial⟩
  | .idx a b => ⟨sndIdx (sndP a).1 (sndP b).1, trivial⟩
  | .slc a l h => ⟨sndSlc (sndP a).1 (sndP l).1 (sndP h).1, trivial⟩
  | .call _ es => ⟨sndCall (sndL es), trivial⟩
  | .bi (.isi _) (.cons e .nil) => ⟨sndIsi (sndP e).1, trivial⟩
  | .bi (.isi _) .nil => ⟨no_e fun sc x => by simp [cvE], trivial⟩
  | .bi (.isi _) (.cons _ (.cons _ _)) => ⟨no_e fun sc x => by simp [cvE], trivial⟩
  | .bi .len es => ⟨sndBi (fun _ z => nomatch z) (sndL es), trivial⟩
  | .bi .int es => ⟨sndBi (fun _ z => nomatch z) (sndL es), trivial⟩
  | .bi .list es => ⟨sndBi (fun _ z => nomatch z) (sndL es), trivial⟩
  | .bi .tuple es => ⟨sndBi (fun _ z => nomatch z) (sndL es), trivial⟩
  | .bi (.sorted _) es => ⟨sndBi (fun _ z => nomatch z) (sndL es), trivial⟩
  | .bi .abs es => ⟨sndBi (fun _ z => nomatch z) (sndL es), trivial⟩
  | .bi .min es => ⟨sndBi (fun _ z => nomatch z) (sndL es), trivial⟩
  | .bi .max es => ⟨sndBi (fun _ z => nomatch z) (sndL es), trivial⟩
  | .bi .sum es => ⟨sndBi (fun _ z => nomatch z) (sndL es), trivial⟩
  | .bi .any es => ⟨sndBi (fun _ z => nomatch z) (sndL es), trivial⟩
  | .bi .all es => ⟨sndBi (fun _ z => nomatch z) (sndL es), trivial⟩
  | .bi .str es => ⟨sndBi (fun _ z => nomatch z) (sndL es), trivial⟩
  | .bi .minL es => ⟨sndBi (fun _ z => nomatch z) (sndL es), trivial⟩
  | .bi .maxL es => ⟨sndBi (fun _ z => nomatch z) (sndL es), trivial⟩
  | .bi .dmaxL es => ⟨sndBi (fun _ z => nomatch z) (sndL es), trivial⟩
  | .mth _ a _ => ⟨sndBits (sndP a).1, trivial⟩
  | .rng a b => ⟨no_e fun sc x => by simp [cvE], (sndP a).1, (sndP b).1⟩
  | .enm a => ⟨no_e fun sc x => by simp [cvE], (sndP a).1⟩
  | .rvd a => ⟨no_e fun sc x => by simp [cvE], (sndP a).1⟩
  | .pget a _ => ⟨sndPget (sndP a).1, trivial⟩
  | .cv _ _ => ⟨sndCv, trivial⟩
  | .lrng a b => ⟨sndLrng (sndP a).1 (sndP b).1, trivial⟩
  | .fld a _ => ⟨sndFld (sndP a).1, trivial⟩
  | .mcall a _ es => ⟨sndMcall (sndP a).1 (sndL es), trivial⟩
  | .make _ _ _ es => ⟨sndMake (sndL es), trivial⟩
  | .comp _ _ src cnd elt => ⟨sndComp (sndP src).1 (fun a b h => by have := (sndP src).2; subst h; exact this) (fun a h => by have := (sndP src).2; subst h; exact this) (fun a h => by have := (sndP src).2; subst h; exact this) (sndP cnd).1 (sndP elt).1, trivial⟩
theorem sndL : ∀ es : Es, SndL T cc ev es
  | .nil => ⟨fun {k X xs} C h => by
    cases xs with
    | nil => exact .nil
    | cons _ _ => simp [cvEs] at h⟩
  | .cons e es => ⟨fun {k X xs} C h => by
    cases xs with
    | nil => simp [cvEs] at h
    | cons y ys =>
      simp only [cvEs, Bool.and_eq_true] at h
      exact .cons h.1.1 ((sndP e).1.pe C h.1.2) (fun ht => (sndP e).1.pt C h.1.2 ht) ((sndL es).each C h.2)⟩
end
theorem snd (e : E) : Snd T cc ev e := (sndP e).1
end
end Hc
set_option Elab.async false
set_option linter.all false
set_option maxRecDepth 100000
set_option maxHeartbeats 4000000
/-! Statements: what they compute, and which of the model's they stand for. -/
namespace Hc
open PySem PySem.Spec PyProof.Rows L2

/-- a place that is changed -/
inductive P where
  | v (i : Nat)
  | ix (p : P) (e : E)
  | fl (p : P) (j : Nat)
mutual
inductive S where
  | set (t : Tg) (e : E)
  | aug (i : Nat) (o : Bo) (e : E)
  | app (p : P) (e : E) | ext (p : P) (e : E) | pop (t : Tg) (p : P) | rev (p : P)
  | sto (p : P) (i e : E) | sta (p : P) (i : E) (o : Bo) (e : E)
  | sfl (p : P) (j : Nat) (e : E) | sfa (p : P) (j : Nat) (o : Bo) (e : E)
  | drop (e : E) | tap (a e : E)
  | msc (t : Option Tg) (p : P) (m : Nat) (es : Es)
  | ret (e : E) | retn
  /-- if not f(place, ..): a else: b -/
  | ifc (p : P) (f : Nat) (es : Es) (a b : Ss)
  | ite (c : E) (a b : Ss) | for (t : Tg) (src : E) (b : Ss) | whl (c : E) (b : Ss)
  | brk | cont | pass | raise (c : Nat) (es : Es) | never
inductive Ss where
  | nil
  | cons (s : S) (ss : Ss)
  /-- the part at a place goes to a name, for the rest of the block -/
  | loan (i : Nat) (p : P) (ss : Ss)
end

structure Sg where
  r : List (Option D)
  o : List Nat
def zero (o : List Nat) : List Nat → List Nat
  | [] => o
  | i :: is => zero (o.set i 0) is
def Sg.frz (s : Sg) (is : List Nat) : Sg := ⟨s.r, zero s.o is⟩
inductive Oc where
  | nx (s : Sg) | rt (d : D) (n : Nat) (s : Sg) | bk (s : Sg) | ct (s : Sg)
  | ex (c : Nat) (d : D)
  | bad
def Rs.oc {α : Type} : Rs α → (α → Oc) → Oc
  | .ok a, f => f a
  | .ex c d, _ => .ex c d
  | .bad, _ => .bad
theorem oc_ne {α : Type} {x : Rs α} {f : α → Oc} {o : Oc} (h : x.oc f = o) (h1 : o ≠ .bad) (h2 : ∀ c d, o ≠ .ex c d) : ∃ a, x = .ok a ∧ f a = o := by
  cases x with
  | ok a => exact ⟨a, rfl, h⟩
  | ex c d => exact absurd h.symm (h2 c d)
  | bad => exact absurd h.symm h1

/-- the value is taken over; what it may share is no longer one's own -/
def use (ev : Ev) (e : E) (s : Sg) : Rs (D × Nat × Sg) := (evE ev e s.r).bind fun x => .ok (x.1, x.2, if clean x.1 x.2 then s else s.frz (vars e))
def getP (ev : Ev) : P → Sg → Rs (D × Nat)
  | .v i, s => match s.r[i]? with
    | some (some d) => .ok (d, s.o.getD i 0)
    | _ => .bad
  | .ix p e, s => (getP ev p s).bind fun x => match x.1, x.2 with
    | .lst ds, n + 1 => (evE ev e s.r).bind fun y => match y.1 with
      | .int i => Rs.of ((L2.atI ds i).map fun d => (d, n))
      | _ => .bad
    | _, _ => .bad
  | .fl p j, s => (getP ev p s).bind fun x => match x.1, x.2 with
    | .own c fs ds, n + 1 => if ev.has c j then Rs.of (((fs.idxOf? j).bind fun k => ds[k]?).map fun d => (d, n)) else .bad
    | _, _ => .bad
def putP (ev : Ev) : P → D → Sg → Rs Sg
  | .v i, d, s => .ok ⟨s.r.set i (some d), s.o⟩
  | .ix p e, d, s => (getP ev p s).bind fun x => match x.1 with
    | .lst ds => (evE ev e s.r).bind fun y => match y.1 with
      | .int i => (Rs.of (ixN ds.length i)).bind fun k => putP ev p (.lst (ds.set k d)) s
      | _ => .bad
    | _ => .bad
  | .fl p j, d, s => (getP ev p s).bind fun x => match x.1 with
    | .own c fs ds => (Rs.of (fs.idxOf? j)).bind fun k => putP ev p (.own c fs (ds.set k d)) s
    | _ => .bad
def varsP : P → List Nat
  | .v _ => []
  | .ix p e => varsP p ++ vars e
  | .fl p _ => varsP p
def rootP : P → Nat
  | .v i => i
  | .ix p _ => rootP p
  | .fl p _ => rootP p
/-- fields of an instance: stored -/
def putFd (fs : List Nat) (ds : List D) (j : Nat) (d : D) : List Nat × List D := match fs.idxOf? j with
  | some k => (fs, ds.set k d)
  | none => (fs ++ [j], ds ++ [d])
def forL (f : D → Sg → Oc) : List D → Sg → Oc
  | [], s => .nx s
  | d :: ds, s => match f d s with
    | .nx s' => forL f ds s'
    | .ct s' => forL f ds s'
    | .bk s' => .nx s'
    | o => o
def whlL (c : Sg → Rs Bool) (f : Sg → Oc) : Nat → Sg → Oc
  | 0, _ => .bad
  | k + 1, s => (c s).oc fun b => if b = true then (match f s with
    | .nx s' => whlL c f k s'
    | .ct s' => whlL c f k s'
    | .bk s' => .nx s'
    | o => o) else .nx s
/-- names of a target take a value that stays as it is -/
def bindS (ev : Ev) (t : Tg) (d : D) (s : Sg) : Rs Sg := if (tgs t).any ev.keep.contains then .bad else (Rs.of (bindT t d s.r)).bind fun r' => .ok ⟨r', zero s.o (tgs t)⟩
def isFlat : D → Bool
  | .int _ => true
  | .str _ => true
  | _ => false
/-- what a method's answer is stored to -/
def mscE (ev : Ev) : Option Tg → D → Nat → Sg → Oc
  | none, _, _, s2 => .nx s2
  | some (.nm i), d, n, s2 => if decide (i < s2.r.length) && decide (i < s2.o.length) && !ev.keep.contains i then .nx ⟨s2.r.set i (some d), s2.o.set i n⟩ else .bad
  | some t, d, _, s2 => (bindS ev t d s2).oc .nx
/-- the part goes back to its place -/
def backS (ev : Ev) (i n : Nat) (p : P) (s s' : Sg) (k : Sg → Oc) : Oc := match s'.r[i]? with
  | some (some d) => if s'.o.getD i 0 = n then (putP ev p d s).oc fun s2 => match s2.r[rootP p]? with
    | some (some dr) => if rootP p < s'.r.length ∧ rootP p < s'.o.length then k ⟨(s'.r.set (rootP p) (some dr)).set i none, (s'.o.set (rootP p) (s.o.getD (rootP p) 0)).set i 0⟩ else .bad
    | _ => .bad else .bad
  | _ => .bad
def backO (ev : Ev) (i n : Nat) (p : P) (s : Sg) : Oc → Oc
  | .nx s' => backS ev i n p s s' .nx
  | .bk s' => backS ev i n p s s' .bk
  | .ct s' => backS ev i n p s s' .ct
  | .rt d m s' => .rt d m ⟨s'.r.set i none, s'.o.set i 0⟩
  | o => o
def Ev.hold (ev : Ev) (i j : Nat) : Ev := { ev with keep := i :: j :: ev.keep }
def lend (s : Sg) (i j : Nat) (d : D) (n : Nat) : Sg := ⟨(s.r.set j none).set i (some d), (s.o.set j 0).set i n⟩
mutual
def evS (ev : Ev) : S → Sg → Oc
  | .set t e, s => (use ev e s).oc fun x => match t with
    | .nm i => if i < s.r.length && decide (i < s.o.length) && !ev.keep.contains i then .nx ⟨x.2.2.r.set i (some x.1), x.2.2.o.set i x.2.1⟩ else .bad
    | _ => (bindS ev t x.1 x.2.2).oc .nx
  | .aug i o e, s => match s.r[i]? with
    | some (some d) => (evE ev e s.r).oc fun y => (binD o d y.1).oc fun z => if isFlat d && isFlat z.1 && decide (i < s.o.length) && !ev.keep.contains i then .nx ⟨s.r.set i (some z.1), s.o.set i 9⟩ else .bad
    | _ => .bad
  | .app p e, s => (use ev e s).oc fun x => (getP ev p x.2.2).oc fun y => match y.1, y.2 with
    | .lst ds, n + 1 => if fit n x.1 x.2.1 && decide (ds.length < lim) then (putP ev p (.lst (ds ++ [x.1])) x.2.2).oc .nx else .bad
    | _, _ => .bad
  | .ext p e, s => (use ev e s).oc fun x => (getP ev p x.2.2).oc fun y => match y.1, y.2, x.1 with
    | .lst ds, 1, .lst es => if ds.length + es.length ≤ lim then (putP ev p (.lst (ds ++ es)) x.2.2).oc .nx else .bad
    | _, _, _ => .bad
  | .pop t p, s => (getP ev p s).oc fun y => match y.1, y.2 with
    | .lst ds, 1 => match ds[ds.length - 1]? with
      | some d => (putP ev p (.lst ds.dropLast) s).oc fun s' => (bindS ev t d s').oc .nx
      | none => .bad
    | _, _ => .bad
  | .rev p, s => (getP ev p s).oc fun y => match y.1, y.2 with
    | .lst ds, 1 => (putP ev p (.lst ds.reverse) s).oc .nx
    | _, _ => .bad
  | .sto p i e, s => (use ev e s).oc fun x => (getP ev p x.2.2).oc fun y => (evE ev i s.r).oc fun z => match y.1, y.2, z.1 with
    | .lst ds, 1, .int k => (Rs.of (ixN ds.length k)).oc fun j => (putP ev p (.lst (ds.set j x.1)) x.2.2).oc .nx
    | .dct false ks ds, 1, kd => (Rs.of (keyOf kd)).oc fun k => if ks.length < lim then (putP ev p (.dct false (putD k x.1 ks ds).1 (putD k x.1 ks ds).2) x.2.2).oc .nx else .bad
    | _, _, _ => .bad
  | .sta p i o e, s => (getP ev p s).oc fun y => (evE ev i s.r).oc fun z => match y.1, y.2, z.1 with
    | .lst ds, 1, .int k => (Rs.of (ixN ds.length k)).oc fun j => (Rs.of ds[j]?).oc fun d => (evE ev e s.r).oc fun w => (binD o d w.1).oc fun q => if isFlat d && isFlat q.1 then (putP ev p (.lst (ds.set j q.1)) s).oc .nx else .bad
    | _, _, _ => .bad
  | .sfl p j e, s => (use ev e s).oc fun x => (getP ev p x.2.2).oc fun y => match y.1, y.2 with
    | .own c fs ds, n + 1 => if fit n x.1 x.2.1 && ev.has c j && decide (fs.length < 500) then (putP ev p (.own c (putFd fs ds j x.1).1 (putFd fs ds j x.1).2) x.2.2).oc .nx else .bad
    | _, _ => .bad
  | .sfa p j o e, s => (getP ev p s).oc fun y => match y.1, y.2 with
    | .own c fs ds, _ + 1 => (Rs.of (fs.idxOf? j)).oc fun k => (Rs.of ds[k]?).oc fun d => (evE ev e s.r).oc fun w => (binD o d w.1).oc fun q => if isFlat d && isFlat q.1 && ev.has c j && decide (fs.length < 500) then (putP ev p (.own c fs (ds.set k q.1)) s).oc .nx else .bad
    | _, _ => .bad
  | .msc t p m es, s => (evEs ev es s.r).oc fun ds => (Rs.ok (if scalL ds then s else s.frz (varsL es))).oc fun s1 => (getP ev p s1).oc fun y => match y.1, y.2 with
    | .own c fs vs, n + 1 => (Rs.of (ev.meth c m)).oc fun f => (ev.call f (n + 1) (.own c fs vs :: ds)).oc fun z => (putP ev p z.2.2 s1).oc fun s2 => mscE ev t z.1 z.2.1 s2
    | _, _ => .bad
  | .ifc p f es a b, s => (evEs ev es s.r).oc fun ds => (Rs.ok (if scalL ds then s else s.frz (varsL es))).oc fun s1 => (getP ev p s1).oc fun y => match y.2 with
    | n + 1 => (ev.call f (n + 1) (y.1 :: ds)).oc fun z => (putP ev p z.2.2 s1).oc fun s2 => (boolR (z.1, z.2.1)).oc fun k => if k = true then evSs ev b s2 else evSs ev a s2
    | 0 => .bad
  | .drop e, s => (evE ev e s.r).oc fun _ => .nx s
  | .tap a e, s => (evE ev a s.r).oc fun x => (evE ev e s.r).oc fun _ => match x.1, x.2 with
    | .lst ds, _ + 1 => if ds.length < lim then .nx s else .bad
    | _, _ => .bad
  | .ret e, s => match e with
    | .var i => match s.r[i]? with
      | some (some d) => if i == 0 && s.o.getD 0 0 != 0 then .bad else .rt d (s.o.getD i 0) s
      | _ => .bad
    | _ => (evE ev e s.r).oc fun x => if clean x.1 x.2 || s.o.getD 0 0 == 0 || !(vars e).contains 0 then .rt x.1 x.2 s else .bad
  | .retn, s => .rt .non 9 s
  | .ite c a b, s => ((evE ev c s.r).bind boolR).oc fun k => if k = true then evSs ev a s else evSs ev b s
  | .for t src b, s => (use ev src s).oc fun x => (items x.1).oc fun ds => forL (fun d s' => (bindS ev t d s').oc fun s2 => evSs ev b s2) ds x.2.2
  | .whl c b, s => whlL (fun s' => (evE ev c s'.r).bind boolR) (fun s' => evSs ev b s') ev.fuel s
  | .brk, s => .bk s
  | .cont, s => .ct s
  | .pass, s => .nx s
  | _, _ => .bad
def evSs (ev : Ev) : Ss → Sg → Oc
  | .nil, s => .nx s
  | .cons x xs, s => match evS ev x s with
    | .nx s' => evSs ev xs s'
    | o => o
  | .loan i p ss, s => (getP ev p s).oc fun y => if i ≠ rootP p ∧ i ≠ 0 ∧ rootP p ≠ 0 ∧ i < s.r.length ∧ i < s.o.length ∧ ev.keep.contains i = false then backO ev i y.2 p s (evSs (ev.hold i (rootP p)) ss (lend s i (rootP p) y.1 y.2)) else .bad
end

/-! ### which statements they stand for -/
def cvP (c : Cc) (sc : Scope) : P → Expr → Bool
  | .v i, .Name x _ => decide (c.N[i]? = some x) && vis sc x && (x == (sStr "__debug__")) == false && (x == (sStr "__classdict__")) == false
  | .fl p j, .Attribute x f _ => decide (c.fnm j = f) && nBase x && cvP c sc p x
  | .ix p e, .Subscript x y _ => ixPl y && cvP c sc p x && cvE c sc e y
  | _, _ => false
def isLc : Expr → Bool
  | .ListComp _ _ _ _ => true
  | _ => false
/-- no comprehension, as a value that is stored -/
def noSw : Expr → Bool
  | .ListComp _ _ _ _ => false
  | .SetComp _ _ _ _ => false
  | .DictComp _ _ _ _ _ => false
  | _ => true
/-- the model stores a comprehension's value of this kind in its own way -/
def swLc (sc : Scope) (i : Str) (py : Pos) (l : Nat) : Expr → Bool
  | .ListComp _ _ scope pos => (match sc.kind with | .function => true | _ => false) && (match sc.names.lookup i with | some .local => true | _ => false) && (py.line == pos.line) && !(scope.names.any fun (n, k) => n == i && (k == .local || k == .cell))
  | _ => false
def augOk : Bo → Bool
  | .add => true
  | .sub => true
  | .bor => true
  | _ => false
def ixAug (i : Expr) : Bool := match i with
  | .Slice _ _ _ _ => false
  | _ => true
mutual
def cvS1 (c : Cc) (sc : Scope) : S → Stmt → Bool
  | .set t e, .Assign [tg] x pos => cvT c sc t tg && cvE c sc e x && (match x, tg with
      | .Tuple _ _ _, .Tuple _ _ _ => false
      | .ListComp _ _ _ _, .Name y py => (match sc.names.lookup y with | some .local => swLc sc y py pos.line x | some .cell => true | _ => false)
      | .ListComp _ _ _ _, _ => true
      | _, _ => noSw x)
  | .aug i o e, .AugAssign (.Name x _) op y _ => decide (c.N[i]? = some x) && loc sc x && boIs o op && augOk o && cvE c sc e y
  | .app p e, .Expr (.Call (.Attribute o nm ap) [y] [] cp) _ => decide (nm = sStr "append") && nBase o && (ap.endLine == cp.line) && noStar y && cvP c sc p o && cvE c sc e y
  | .ext p e, .Expr (.Call (.Attribute o nm ap) [y] [] cp) _ => decide (nm = sStr "extend") && nBase o && (ap.endLine == cp.line) && noStar y && cvP c sc p o && cvE c sc e y
  | .pop t p, .Assign [tg] (.Call (.Attribute o nm ap) [] [] cp) _ => decide (nm = sStr "pop") && nBase o && (ap.endLine == cp.line) && cvP c sc p o && cvT c sc t tg
  | .rev p, .Expr (.Call (.Attribute o nm ap) [] [] cp) _ => decide (nm = sStr "reverse") && nBase o && (ap.endLine == cp.line) && cvP c sc p o
  | .sto p i e, .Assign [.Subscript o j _] x _ => ixPl j && cvP c sc p o && cvE c sc i j && cvE c sc e x && noSw x
  | .sta p i o e, .AugAssign (.Subscript q j _) op x _ => ixPl j && boIs o op && augOk o && cvP c sc p q && cvE c sc i j && cvE c sc e x
  | .sfl p j e, .Assign [.Attribute o f _] x _ => decide (c.fnm j = f) && cvP c sc p o && cvE c sc e x && noSw x
  | .sfa p j o e, .AugAssign (.Attribute q f _) op x _ => decide (c.fnm j = f) && boIs o op && augOk o && cvP c sc p q && cvE c sc e x
  | .msc none p m es, .Expr (.Call (.Attribute o nm ap) ys [] cp) _ => decide (c.mnm m = nm) && nBase o && (ap.endLine == cp.line) && decide (ys.length < 20) && cvP c sc p o && cvEs c sc es ys
  | .msc (some t) p m es, .Assign [tg] (.Call (.Attribute o nm ap) ys [] cp) _ => decide (c.mnm m = nm) && nBase o && (ap.endLine == cp.line) && decide (ys.length < 20) && cvP c sc p o && cvEs c sc es ys && cvT c sc t tg
  | .tap a e, .Expr (.Call (.Attribute o nm ap) [y] [] cp) _ => decide (nm = sStr "append") && nBase o && (ap.endLine == cp.line) && noStar y && cvE c sc a o && cvE c sc e y
  | .drop e, .Expr x _ => noSw x && cvE c sc e x
  | .ret e, .Return (some x) _ => cvE c sc e x
  | .retn, .Return none _ => true
  | .ifc p f es a b, .If (.UnaryOp .Not (.Call (.Name x _) (y :: ys) [] _) _) xs zs _ => decide (c.fname f = x) && !(x == Str.empty) && glb sc x && (x == (sStr "__debug__")) == false && noStar y && cvP c sc p y && cvEs c sc es ys && cvSs c sc a xs && cvSs c sc b zs
  | .ite t a b, .If x xs ys _ => tst t && cvE c sc t x && cvSs c sc a xs && cvSs c sc b ys
  | .for t src b, .For tg it xs [] _ => cvT c sc t tg && cvS c sc src (isTup tg) it && cvSs c sc b xs
  | .whl t b, .While x xs [] _ => tst t && cvE c sc t x && cvSs c sc b xs
  | .brk, .Break _ => true
  | .cont, .Continue _ => true
  | .pass, .Pass _ => true
  | .never, .Raise _ _ _ => true
  | _, _ => false
def cvSs (c : Cc) (sc : Scope) : Ss → List Stmt → Bool
  | .nil, [] => true
  | .cons s ss, x :: xs => cvS1 c sc s x && cvSs c sc ss xs
  | .loan i p ss, .Assign [.Name y _] x _ :: xs => decide (c.N[i]? = some y) && loc sc y && noSw x && cvP c sc p x && cvSs c sc ss xs
  | _, _ => false
end
end Hc
set_option Elab.async false
set_option linter.all false
set_option maxRecDepth 100000
set_option maxHeartbeats 4000000
/-! States with what they own; places within them. -/
namespace Hc
open PySem PySem.Spec PyProof.Rows L2
section
variable {T : Tab} {ev : Ev} {H H' : Hp} {A : Avd}

mutual
theorem Rep.mut {B : Avd} : ∀ {v : V} {d : D} {n : Nat} {F : List Addr}, Rep T H B v d n F → ∀ b ∈ F, Mut (H b)
  | _, _, _, _, .non, b, hb => absurd hb (by simp)
  | _, _, _, _, .bl, b, hb => absurd hb (by simp)
  | _, _, _, _, .int, b, hb => absurd hb (by simp)
  | _, _, _, _, .str, b, hb => absurd hb (by simp)
  | _, _, _, _, .scr _ _, b, hb => absurd hb (by simp)
  | _, _, _, _, .tup _ _, b, hb => absurd hb (by simp)
  | _, _, _, _, .lstS _ _ _, b, hb => absurd hb (by simp)
  | _, _, _, _, .lstO h _ r, b, hb => by
    rcases List.mem_cons.mp hb with e | hb
    · rw [e, h]; trivial
    · exact r.mut b hb
  | _, _, _, _, .dctS _ _ _, b, hb => absurd hb (by simp)
  | _, _, _, _, .dctO h _ r, b, hb => by
    rcases List.mem_cons.mp hb with e | hb
    · rw [e, h]; trivial
    · exact r.mut b hb
  | _, _, _, _, .dctTS _ _ _, b, hb => absurd hb (by simp)
  | _, _, _, _, .dctTO h _ r, b, hb => by
    rcases List.mem_cons.mp hb with e | hb
    · rw [e, h]; trivial
    · exact r.mut b hb
  | _, _, _, _, .objS _ _ _ _, b, hb => absurd hb (by simp)
  | _, _, _, _, .ownS _ _ _ _, b, hb => absurd hb (by simp)
  | _, _, _, _, .ownO h _ _ r, b, hb => by
    rcases List.mem_cons.mp hb with e | hb
    · rw [e, h]; trivial
    · exact r.mut b hb
theorem RepL.mut {B : Avd} : ∀ {v : List V} {d : List D} {n : Nat} {F : List Addr}, RepL T H B v d n F → ∀ b ∈ F, Mut (H b)
  | _, _, _, _, .nil, b, hb => absurd hb (by simp)
  | _, _, _, _, .cons r rs _, b, hb => by
    rcases List.mem_append.mp hb with hb | hb
    · exact r.mut b hb
    · exact rs.mut b hb
end

abbrev Own (A : Avd) (Φ : Nat → List Addr) : Avd := fun b => A b ∨ ∃ j, b ∈ Φ j
structure SOk (T : Tab) (H : Hp) (A : Avd) (s : Sg) (σ : L2.St) (Φ : Nat → List Addr) : Prop where
  al : All A H
  slot : ∀ i d, s.r[i]? = some (some d) → ∃ v, σ[i]? = some (some v) ∧ Rep T H (Own A Φ) v d (s.o.getD i 0) (Φ i)
  own : ∀ i b, b ∈ Φ i → ¬ A b
  dis : ∀ i j b, b ∈ Φ i → b ∈ Φ j → i = j
  non : ∀ i, (∀ d, s.r[i]? ≠ some (some d)) → Φ i = []
structure Step (H : Hp) (Φ : Nat → List Addr) (H' : Hp) (Φ' : Nat → List Addr) : Prop where
  keep : ∀ b o, H b = some o → (∀ j, b ∉ Φ j) → H' b = some o
  dom : ∀ b, H' b = none → H b = none
  come : ∀ j b, b ∈ Φ' j → b ∈ Φ j ∨ H b = none
theorem Step.same {Φ Φ' : Nat → List Addr} (s : Same H H') (h : ∀ j b, b ∈ Φ' j → b ∈ Φ j ∨ H b = none) : Step H Φ H' Φ' := ⟨fun b o hb _ => s b o hb, s.dom, h⟩
theorem Step.refl {Φ : Nat → List Addr} : Step H Φ H Φ := ⟨fun _ _ h _ => h, fun _ h => h, fun j _ h => .inl h⟩
theorem Step.trans {Φ Φ1 Φ2 : Nat → List Addr} {H1 H2 : Hp} (a : Step H Φ H1 Φ1) (b : Step H1 Φ1 H2 Φ2) : Step H Φ H2 Φ2 where
  keep := fun c o hc hn => b.keep c o (a.keep c o hc hn) fun j hj => by
    rcases a.come j c hj with h | h
    · exact hn j h
    · rw [hc] at h; cases h
  dom := fun c h => a.dom c (b.dom c h)
  come := fun j c hc => by
    rcases b.come j c hc with h | h
    · exact a.come j c h
    · exact .inr (a.dom c h)
theorem SOk.mut {s : Sg} {σ : L2.St} {Φ : Nat → List Addr} (k : SOk T H A s σ Φ) : ∀ i b, b ∈ Φ i → Mut (H b) := fun i b hb => by
  cases q : s.r[i]? with
  | none => rw [k.non i (by rw [q]; intro d z; cases z)] at hb; simp at hb
  | some x =>
    cases x with
    | none => rw [k.non i (by rw [q]; intro d z; cases z)] at hb; simp at hb
    | some d =>
      obtain ⟨v, _, r⟩ := k.slot i d q
      exact r.mut b hb
theorem SOk.there {s : Sg} {σ : L2.St} {Φ : Nat → List Addr} (k : SOk T H A s σ Φ) : ∀ i b, b ∈ Φ i → H b ≠ none := fun i b hb h => by
  have := k.mut i b hb
  rw [h] at this
  exact this
theorem SOk.allB {s : Sg} {σ : L2.St} {Φ : Nat → List Addr} (k : SOk T H A s σ Φ) : All (Own A Φ) H := fun b h => by
  rcases h with h | ⟨j, h⟩
  · exact k.al b h
  · exact k.there j b h
theorem SOk.same {s : Sg} {σ : L2.St} {Φ : Nat → List Addr} (k : SOk T H A s σ Φ) (e : Same H H') : SOk T H' A s σ Φ where
  al := k.al.same e
  slot := fun i d h => by
    obtain ⟨v, h1, h2⟩ := k.slot i d h
    exact ⟨v, h1, h2.same e⟩
  own := k.own
  dis := k.dis
  non := k.non
theorem All.step {s : Sg} {σ : L2.St} {Φ Φ' : Nat → List Addr} (k : SOk T H A s σ Φ) (e : Step H Φ H' Φ') : All A H' := fun b h z => by
  cases q : H b with
  | none => exact k.al b h q
  | some o => rw [e.keep b o q fun j hj => k.own j b hj h] at z; cases z
/-- everything looked at, nothing kept -/
theorem SOk.view0 {s : Sg} {σ : L2.St} {Φ : Nat → List Addr} (k : SOk T H A s σ Φ) (S : List Nat) : ShOk T H (fun _ => False) s.r σ S := fun i _ d h => by
  obtain ⟨v, h1, h2⟩ := k.slot i d h
  exact ⟨v, h1, h2.low (fun b z => z.elim) fun b _ z => z⟩
theorem all0 : All (fun _ => False) H := fun b h => h.elim
theorem zero_get : ∀ (is : List Nat) (o : List Nat) (i : Nat), (zero o is).getD i 0 = if i ∈ is then 0 else o.getD i 0
  | [], o, i => by simp [zero]
  | j :: is, o, i => by
    rw [zero, zero_get is (o.set j 0) i]
    by_cases h : i ∈ is
    · simp [h]
    · by_cases e : i = j
      · subst e
        simp [h, List.getD_eq_getElem?_getD]
        by_cases hl : i < o.length
        · rw [List.getElem?_set_self hl]; rfl
        · rw [List.getElem?_eq_none (by rw [List.length_set]; omega)]; rfl
      · have e' : j ≠ i := fun z => e z.symm
        simp [h, e, List.getD_eq_getElem?_getD, List.getElem?_set_ne e']
/-- some slots are only looked at from now on -/
theorem SOk.frz {s : Sg} {σ : L2.St} {Φ : Nat → List Addr} (k : SOk T H A s σ Φ) (is : List Nat) : SOk T H A (s.frz is) σ (fun i => if i ∈ is then [] else Φ i) where
  al := k.al
  slot := fun i d h => by
    obtain ⟨v, h1, h2⟩ := k.slot i d h
    refine ⟨v, h1, ?_⟩
    show Rep T H _ v d ((zero s.o is).getD i 0) _
    rw [zero_get]
    by_cases hi : i ∈ is
    · simp only [hi, if_true]
      refine h2.low (fun b z => ?_) fun b hb z => ?_
      · rcases z with z | ⟨j, z⟩
        · exact .inl z
        · by_cases hj : j ∈ is
          · simp [hj] at z
          · simp [hj] at z; exact .inr ⟨j, z⟩
      · rcases z with z | ⟨j, z⟩
        · exact k.own i b hb z
        · by_cases hj : j ∈ is
          · simp [hj] at z
          · simp [hj] at z
            have := k.dis i j b hb z
            rw [this] at hi
            exact hj hi
    · simp only [hi, if_false]
      refine h2.avoid fun b _ z => ?_
      rcases z with z | ⟨j, z⟩
      · exact .inl z
      · by_cases hj : j ∈ is
        · simp [hj] at z
        · simp [hj] at z; exact .inr ⟨j, z⟩
  own := fun i b hb => by
    by_cases hi : i ∈ is
    · simp [hi] at hb
    · simp [hi] at hb; exact k.own i b hb
  dis := fun i j b hb hb' => by
    by_cases hi : i ∈ is
    · simp [hi] at hb
    · by_cases hj : j ∈ is
      · simp [hj] at hb'
      · simp [hi] at hb; simp [hj] at hb'; exact k.dis i j b hb hb'
  non := fun i h => by
    by_cases hi : i ∈ is
    · simp [hi]
    · simp [hi]; exact k.non i h
theorem frz_come {Φ : Nat → List Addr} {is : List Nat} : ∀ j b, b ∈ (if j ∈ is then [] else Φ j) → b ∈ Φ j ∨ H b = none := fun j b h => by
  by_cases hj : j ∈ is
  · simp [hj] at h
  · simp [hj] at h; exact .inl h
/-- a value taken over -/
theorem use_read {e : E} {s s' : Sg} {σ : L2.St} {Φ : Nat → List Addr} {d : D} {n : Nat} {Q : VK} (k : SOk T H A s σ Φ) (h : use ev e s = .ok (d, n, s'))
    (q : ∀ v H' F Φ', Same H H' → Frs F H → (∀ j b, b ∈ Φ' j → b ∈ Φ j) → SOk T H A s' σ Φ' → Rep T H' ((Own A Φ').more F) v d n F → Q v H') : tE T ev e σ H Q := by
  unfold use at h
  obtain ⟨⟨d', n'⟩, h1, h2⟩ := Rs.bind_ok h
  by_cases hc : clean d' n' = true
  · have h3 : (d', n', s) = (d, n, s') := by simpa [hc] using h2
    cases h3
    exact ⟨fun _ => False, s.r, d, n, all0, k.view0 _, h1, fun v H' F s1 f r => q v H' F Φ s1 f (fun _ _ h => h) k (r.clean hc)⟩
  · have h3 : (d', n', s.frz (vars e)) = (d, n, s') := by simpa [hc] using h2
    cases h3
    have k' := k.frz (vars e)
    refine ⟨Own A _, s.r, d, n, k'.allB, fun i hi d' hd => ?_, h1, fun v H' F s1 f r => q v H' F _ s1 f (fun j b hb => ?_) k' r⟩
    · obtain ⟨v, h3, h4⟩ := k'.slot i d' hd
      refine ⟨v, h3, ?_⟩
      have e1 : (s.frz (vars e)).o.getD i 0 = 0 := by
        show (zero s.o (vars e)).getD i 0 = 0
        rw [zero_get, if_pos hi]
      rw [e1] at h4
      simpa [hi] using h4
    · by_cases hj : j ∈ vars e
      · simp [hj] at hb
      · simpa [hj] using hb
theorem SOk.cng {s s' : Sg} {σ : L2.St} {Φ : Nat → List Addr} (k : SOk T H A s σ Φ) (h1 : s'.r = s.r) (h2 : ∀ i, s'.o.getD i 0 = s.o.getD i 0) : SOk T H A s' σ Φ :=
  ⟨k.al, fun i d h => by rw [h2]; exact k.slot i d (by rw [← h1]; exact h), k.own, k.dis, fun i h => k.non i (by rw [← h1]; exact h)⟩

/-- a slot takes a value -/
theorem SOk.set {s : Sg} {σ : L2.St} {Φ : Nat → List Addr} {i n : Nat} {v : V} {d : D} {F : List Addr} (k : SOk T H A s σ Φ) (e : Same H H') (f : Frs F H) (r : Rep T H' ((Own A Φ).more F) v d n F) (h1 : i < s.r.length) (h2 : i < s.o.length) (h3 : i < σ.length) :
    SOk T H' A ⟨s.r.set i (some d), s.o.set i n⟩ (σ.set i (some v)) (fun j => if j = i then F else Φ j) where
  al := k.al.same e
  slot := fun j d' h => by
    by_cases hj : j = i
    · subst hj
      rw [List.getElem?_set_self h1] at h
      cases h
      refine ⟨v, List.getElem?_set_self h3, ?_⟩
      simp only [if_true]
      have : (s.o.set j n).getD j 0 = n := by simp [List.getD_eq_getElem?_getD, List.getElem?_set_self h2]
      rw [this]
      refine r.avoid fun b _ z => ?_
      rcases z with z | ⟨l, z⟩
      · exact .inl (.inl z)
      · by_cases hl : l = j
        · simp [hl] at z; exact .inr z
        · simp [hl] at z; exact .inl (.inr ⟨l, z⟩)
    · have hj' : i ≠ j := fun z => hj z.symm
      rw [List.getElem?_set_ne hj'] at h
      obtain ⟨w, h4, h5⟩ := k.slot j d' h
      refine ⟨w, by rw [List.getElem?_set_ne hj']; exact h4, ?_⟩
      simp only [hj, if_false]
      have : (s.o.set i n).getD j 0 = s.o.getD j 0 := by simp [List.getD_eq_getElem?_getD, List.getElem?_set_ne hj']
      rw [this]
      refine (h5.avoid fun b hb z => ?_).same e
      rcases z with z | ⟨l, z⟩
      · exact .inl z
      · by_cases hl : l = i
        · simp [hl] at z; exact absurd (f b z) hb
        · simp [hl] at z; exact .inr ⟨l, z⟩
  own := fun j b hb => by
    by_cases hj : j = i
    · simp [hj] at hb
      exact fun z => k.al b z (f b hb)
    · simp [hj] at hb
      exact k.own j b hb
  dis := fun j l b hb hb' => by
    by_cases hj : j = i
    · by_cases hl : l = i
      · rw [hj, hl]
      · simp [hj] at hb; simp [hl] at hb'
        exact absurd (f b hb) (k.there l b hb')
    · by_cases hl : l = i
      · simp [hj] at hb; simp [hl] at hb'
        exact absurd (f b hb') (k.there j b hb)
      · simp [hj] at hb; simp [hl] at hb'
        exact k.dis j l b hb hb'
  non := fun j h => by
    by_cases hj : j = i
    · subst hj
      exact absurd (List.getElem?_set_self h1) (h d)
    · have hj' : i ≠ j := fun z => hj z.symm
      simp only [hj, if_false]
      exact k.non j fun d' z => h d' (by rw [List.getElem?_set_ne hj']; exact z)
/-- names of a target take what is shared -/
theorem SOk.bind {s : Sg} {σ σ' : L2.St} {Φ : Nat → List Addr} {t : Tg} {r' : List (Option D)} (k : SOk T H A s σ Φ) (b : Bnd T H (Own A Φ) (tgs t) s.r r' σ σ') : SOk T H A ⟨r', zero s.o (tgs t)⟩ σ' (fun i => if i ∈ tgs t then [] else Φ i) where
  al := k.al
  slot := fun i d h => by
    by_cases hi : i ∈ tgs t
    · obtain ⟨v, h1, h2⟩ := b.on i hi d h
      refine ⟨v, h1, ?_⟩
      show Rep T H _ v d ((zero s.o (tgs t)).getD i 0) _
      rw [zero_get]
      simp only [hi, if_true]
      refine h2.avoid fun c _ z => ?_
      rcases z with z | ⟨j, z⟩
      · exact .inl z
      · by_cases hj : j ∈ tgs t
        · simp [hj] at z
        · simp [hj] at z; exact .inr ⟨j, z⟩
    · obtain ⟨h1, h2⟩ := b.off i hi
      rw [h1] at h
      obtain ⟨v, h3, h4⟩ := k.slot i d h
      refine ⟨v, by rw [h2]; exact h3, ?_⟩
      show Rep T H _ v d ((zero s.o (tgs t)).getD i 0) _
      rw [zero_get]
      simp only [hi, if_false]
      refine h4.avoid fun c _ z => ?_
      rcases z with z | ⟨j, z⟩
      · exact .inl z
      · by_cases hj : j ∈ tgs t
        · simp [hj] at z
        · simp [hj] at z; exact .inr ⟨j, z⟩
  own := fun i c hc => by
    by_cases hi : i ∈ tgs t
    · simp [hi] at hc
    · simp [hi] at hc; exact k.own i c hc
  dis := fun i j c hb hb' => by
    by_cases hi : i ∈ tgs t
    · simp [hi] at hb
    · by_cases hj : j ∈ tgs t
      · simp [hj] at hb'
      · simp [hi] at hb; simp [hj] at hb'; exact k.dis i j c hb hb'
  non := fun i h => by
    by_cases hi : i ∈ tgs t
    · simp [hi]
    · simp only [hi, if_false]
      exact k.non i fun d z => h d (by rw [(b.off i hi).1]; exact z)

/-! ### places -/
structure Foc (T : Tab) (H : Hp) (B : Avd) (v0 : V) (d0 : D) (n0 : Nat) (F0 : List Addr) (v : V) (d : D) (n : Nat) (F : List Addr) (put : D → D) : Prop where
  sub : ∀ b ∈ F, b ∈ F0
  rep : Rep T H B v d n F
  back : ∀ H' B' d' F', (∀ b o, H b = some o → (Mut (some o) → (¬ B b ∨ b ∈ F0) ∧ b ∉ F) → H' b = some o) → (∀ b, H b ≠ none → B' b → B b) → (∀ b ∈ F', b ∈ F ∨ H b = none) → Rep T H' B' v d' n F' → ∃ F0', Rep T H' B' v0 (put d') n0 F0' ∧ ∀ b, b ∈ F0' ↔ (b ∈ F0 ∧ b ∉ F) ∨ b ∈ F'
theorem Foc.refl {B : Avd} {v : V} {d : D} {n : Nat} {F : List Addr} (r : Rep T H B v d n F) : Foc T H B v d n F v d n F id :=
  ⟨fun _ h => h, r, fun H' B' d' F' _ _ _ r' => ⟨F', r', fun b => ⟨fun h => .inr h, fun h => by rcases h with ⟨h1, h2⟩ | h; exact absurd h1 h2; exact h⟩⟩⟩
theorem Foc.trans {B : Avd} {v0 v1 v2 : V} {d0 d1 d2 : D} {n0 n1 n2 : Nat} {F0 F1 F2 : List Addr} {p q : D → D} (a : Foc T H B v0 d0 n0 F0 v1 d1 n1 F1 p) (b : Foc T H B v1 d1 n1 F1 v2 d2 n2 F2 q) : Foc T H B v0 d0 n0 F0 v2 d2 n2 F2 (fun d => p (q d)) where
  sub := fun c hc => a.sub c (b.sub c hc)
  rep := b.rep
  back := fun H' B' d' F' k hb hf r => by
    obtain ⟨F1', r1, e1⟩ := b.back H' B' d' F' (fun c o hc hm => k c o hc fun m => ⟨(hm m).1.imp id (a.sub c), (hm m).2⟩) hb hf r
    obtain ⟨F0', r0, e0⟩ := a.back H' B' _ F1' (fun c o hc hm => k c o hc fun m => ⟨(hm m).1, fun z => (hm m).2 (b.sub c z)⟩) hb (fun c hc => by
      rcases (e1 c).mp hc with ⟨h1, _⟩ | h
      · exact .inl h1
      · rcases hf c h with h | h
        · exact .inl (b.sub c h)
        · exact .inr h) r1
    refine ⟨F0', r0, fun c => ?_⟩
    rw [e0 c, e1 c]
    constructor
    · rintro (⟨h1, h2⟩ | ⟨h1, h2⟩ | h)
      · exact .inl ⟨h1, fun z => h2 (b.sub c z)⟩
      · exact .inl ⟨a.sub c h1, h2⟩
      · exact .inr h
    · rintro (⟨h1, h2⟩ | h)
      · by_cases hc : c ∈ F1
        · exact .inr (.inl ⟨hc, h2⟩)
        · exact .inl ⟨h1, hc⟩
      · exact .inr (.inr h)
/-- what stands beside a change -/
theorem Rep.move {B B' : Avd} {Fx F : List Addr} {v : V} {d : D} {n : Nat} (r : Rep T H B v d n F) (hB : ∀ b ∈ Fx, B b) (dj : ∀ b ∈ Fx, b ∉ F) (k : ∀ b o, H b = some o → (Mut (some o) → (¬ B b ∨ b ∈ F) ∧ b ∉ Fx) → H' b = some o) (hb : ∀ b, H b ≠ none → B' b → B b) : Rep T H' B' v d n F :=
  ((r.avoid (A' := fun b => B b ∨ B' b) fun b h z => by rcases z with z | z; exact z; exact hb b h z).keep (E := F) (fun _ h => h) fun b o ho q => k b o ho fun m => by
    rcases q m with q | q
    · exact ⟨.inl fun y => q (.inl y), fun z => q (.inl (hB b z))⟩
    · exact ⟨.inr q, fun z => dj b z q⟩).avoid fun b _ z => .inr z
theorem RepL.move {B B' : Avd} {Fx F : List Addr} {v : List V} {d : List D} {n : Nat} (r : RepL T H B v d n F) (hB : ∀ b ∈ Fx, B b) (dj : ∀ b ∈ Fx, b ∉ F) (k : ∀ b o, H b = some o → (Mut (some o) → (¬ B b ∨ b ∈ F) ∧ b ∉ Fx) → H' b = some o) (hb : ∀ b, H b ≠ none → B' b → B b) : RepL T H' B' v d n F :=
  ((r.avoid (A' := fun b => B b ∨ B' b) fun b h z => by rcases z with z | z; exact z; exact hb b h z).keep (E := F) (fun _ h => h) fun b o ho q => k b o ho fun m => by
    rcases q m with q | q
    · exact ⟨.inl fun y => q (.inl y), fun z => q (.inl (hB b z))⟩
    · exact ⟨.inr q, fun z => dj b z q⟩).avoid fun b _ z => .inr z
theorem RepL.foc {B : Avd} {n : Nat} : ∀ {vs : List V} {ds : List D} {G : List Addr} {j : Nat} {d : D}, RepL T H B vs ds n G → (∀ b ∈ G, B b) → ds[j]? = some d → ∃ w Fj, vs[j]? = some w ∧ Rep T H B w d n Fj ∧ (∀ b ∈ Fj, b ∈ G) ∧
    ∀ H' B' d' F', (∀ b o, H b = some o → (Mut (some o) → (¬ B b ∨ b ∈ G) ∧ b ∉ Fj) → H' b = some o) → (∀ b, H b ≠ none → B' b → B b) → (∀ b ∈ F', b ∈ Fj ∨ H b = none) → Rep T H' B' w d' n F' → ∃ G', RepL T H' B' vs (ds.set j d') n G' ∧ ∀ b, b ∈ G' ↔ (b ∈ G ∧ b ∉ Fj) ∨ b ∈ F'
  | _, _, _, _, _, .nil, _, h => by simp at h
  | _, _, _, 0, _, .cons (F := F) (G := G) (v := v) r rs dj, hG, h => by
    simp at h
    subst h
    refine ⟨v, F, rfl, r, fun b hb => List.mem_append_left _ hb, fun H' B' d' F' k hb hf r' => ⟨F' ++ G, .cons r' (rs.move (fun b hb => hG b (List.mem_append_left _ hb)) dj (fun b o ho q => k b o ho fun m => ⟨(q m).1.imp id (List.mem_append_right _), (q m).2⟩) hb) (fun b hb' z => ?_), fun b => ?_⟩⟩
    · rcases hf b hb' with h | h
      · exact dj b h z
      · exact rs.there b z h
    · rw [List.mem_append, List.mem_append]
      constructor
      · rintro (h | h)
        · exact .inr h
        · exact .inl ⟨.inr h, fun z => dj b z h⟩
      · rintro (⟨h1 | h1, h2⟩ | h)
        · exact absurd h1 h2
        · exact .inr h1
        · exact .inl h
  | _, _, _, j + 1, d, .cons (F := F) (G := G) (v := v) r rs dj, hG, h => by
    obtain ⟨w, Fj, h1, h2, h3, h4⟩ := RepL.foc (j := j) rs (fun b hb => hG b (List.mem_append_right _ hb)) (by simpa using h)
    refine ⟨w, Fj, by simpa using h1, h2, fun b hb => List.mem_append_right _ (h3 b hb), fun H' B' d' F' k hb hf r' => ?_⟩
    obtain ⟨G', r1, e1⟩ := h4 H' B' d' F' (fun b o ho q => k b o ho fun m => ⟨(q m).1.imp id (List.mem_append_right _), (q m).2⟩) hb hf r'
    have djF : ∀ b ∈ Fj, b ∉ F := fun b hb z => dj b z (h3 b hb)
    refine ⟨F ++ G', .cons (r.move (fun b hb => hG b (List.mem_append_right _ (h3 b hb))) djF (fun b o ho q => k b o ho fun m => ⟨(q m).1.imp id (List.mem_append_left _), (q m).2⟩) hb) r1 (fun b hb' z => ?_), fun b => ?_⟩
    · rcases (e1 b).mp z with ⟨h, _⟩ | h
      · exact dj b hb' h
      · rcases hf b h with h | h
        · exact djF b h hb'
        · exact r.there b hb' h
    · rw [List.mem_append, List.mem_append, e1 b]
      constructor
      · rintro (h | ⟨h1, h2⟩ | h)
        · exact .inl ⟨.inl h, fun z => djF b z h⟩
        · exact .inl ⟨.inr h1, h2⟩
        · exact .inr h
      · rintro (⟨h1 | h1, h2⟩ | h)
        · exact .inl h1
        · exact .inr (.inl ⟨h1, h2⟩)
        · exact .inr (.inr h)
theorem Foc.ix {B : Avd} {v : V} {ds : List D} {n j : Nat} {F : List Addr} {d : D} (r : Rep T H B v (.lst ds) (n + 1) F) (hF : ∀ b ∈ F, B b) (h : ds[j]? = some d) : ∃ a vs w Fj, v = .ref a ∧ H a = some (.lst vs) ∧ vs.length = ds.length ∧ vs[j]? = some w ∧ Foc T H B v (.lst ds) (n + 1) F w d n Fj (fun d' => .lst (ds.set j d')) := by
  cases r with
  | @lstO _ G a vs _ ha na rl =>
    obtain ⟨w, Fj, h1, h2, h3, h4⟩ := rl.foc (fun b hb => hF b (List.mem_cons_of_mem _ hb)) h
    refine ⟨a, vs, w, Fj, rfl, ha, rl.length, h1, fun b hb => List.mem_cons_of_mem _ (h3 b hb), h2, fun H' B' d' F' k hb hf r' => ?_⟩
    obtain ⟨G', r1, e1⟩ := h4 H' B' d' F' (fun b o ho q => k b o ho fun m => ⟨(q m).1.imp id (List.mem_cons_of_mem _), (q m).2⟩) hb hf r'
    have naj : a ∉ Fj := fun z => na (h3 a z)
    have naF : a ∉ F' := fun z => by
      rcases hf a z with h | h
      · exact naj h
      · rw [ha] at h; cases h
    refine ⟨a :: G', .lstO (k a _ ha fun _ => ⟨.inr List.mem_cons_self, naj⟩) (fun z => ?_) r1, fun b => ?_⟩
    · rcases (e1 a).mp z with ⟨h, _⟩ | h
      · exact na h
      · exact naF h
    · rw [List.mem_cons, List.mem_cons, e1 b]
      constructor
      · rintro (h | ⟨h1, h2⟩ | h)
        · exact .inl ⟨.inl h, by rw [h]; exact naj⟩
        · exact .inl ⟨.inr h1, h2⟩
        · exact .inr h
      · rintro (⟨h1 | h1, h2⟩ | h)
        · exact .inl h1
        · exact .inr (.inl ⟨h1, h2⟩)
        · exact .inr (.inr h)
theorem Foc.fl {B : Avd} {v : V} {c : Nat} {fs : List Nat} {ds : List D} {n j : Nat} {F : List Addr} {d : D} (r : Rep T H B v (.own c fs ds) (n + 1) F) (hF : ∀ b ∈ F, B b) (h : ds[j]? = some d) : ∃ a dx vs w Fj, v = .ref a ∧ H a = some (.ins (T.cls c) dx ((fs.map T.fnm).zip vs)) ∧ vs.length = fs.length ∧ c < T.nc ∧ vs[j]? = some w ∧ Foc T H B v (.own c fs ds) (n + 1) F w d n Fj (fun d' => .own c fs (ds.set j d')) := by
  cases r with
  | @ownO _ G a dx _ _ vs _ ha na hl rl =>
    obtain ⟨w, Fj, h1, h2, h3, h4⟩ := rl.foc (fun b hb => hF b (List.mem_cons_of_mem _ hb)) h
    refine ⟨a, dx, vs, w, Fj, rfl, ha, hl.1, hl.2, h1, fun b hb => List.mem_cons_of_mem _ (h3 b hb), h2, fun H' B' d' F' k hb hf r' => ?_⟩
    obtain ⟨G', r1, e1⟩ := h4 H' B' d' F' (fun b o ho q => k b o ho fun m => ⟨(q m).1.imp id (List.mem_cons_of_mem _), (q m).2⟩) hb hf r'
    have naj : a ∉ Fj := fun z => na (h3 a z)
    have naF : a ∉ F' := fun z => by
      rcases hf a z with h | h
      · exact naj h
      · rw [ha] at h; cases h
    refine ⟨a :: G', .ownO (k a _ ha fun _ => ⟨.inr List.mem_cons_self, naj⟩) (fun z => ?_) hl r1, fun b => ?_⟩
    · rcases (e1 a).mp z with ⟨h, _⟩ | h
      · exact na h
      · exact naF h
    · rw [List.mem_cons, List.mem_cons, e1 b]
      constructor
      · rintro (h | ⟨h1, h2⟩ | h)
        · exact .inl ⟨.inl h, by rw [h]; exact naj⟩
        · exact .inl ⟨.inr h1, h2⟩
        · exact .inr h
      · rintro (⟨h1 | h1, h2⟩ | h)
        · exact .inl h1
        · exact .inr (.inl ⟨h1, h2⟩)
        · exact .inr (.inr h)

theorem rif_ok {α : Type} {c : Prop} [Decidable c] {x : Rs α} {a : α} (h : (if c then x else .bad) = .ok a) : c ∧ x = .ok a := by
  by_cases hc : c
  · rw [if_pos hc] at h; exact ⟨hc, h⟩
  · rw [if_neg hc] at h; cases h
/-- where a place lies -/
def AtP (T : Tab) (ev : Ev) (H : Hp) (σ : L2.St) (r : List (Option D)) : P → V → Prop
  | .v i, v => σ[i]? = some (some v)
  | .ix p e, v => ∃ a vs i n, AtP T ev H σ r p (.ref a) ∧ H a = some (.lst vs) ∧ evE ev e r = .ok (.int i, n) ∧ L2.atI vs i = some v
  | .fl p j, v => ∃ a c dx fs, (c < T.nc ∧ ev.has c j = true) ∧ AtP T ev H σ r p (.ref a) ∧ H a = some (.ins (T.cls c) dx fs) ∧ fs.lookup (T.fnm j) = some v
theorem AtP.same {σ : L2.St} {r : List (Option D)} (s : Same H H') : ∀ {p : P} {v : V}, AtP T ev H σ r p v → AtP T ev H' σ r p v
  | .v _, _, h => h
  | .ix _ _, _, ⟨a, vs, i, n, h1, h2, h3, h4⟩ => ⟨a, vs, i, n, AtP.same s h1, s _ _ h2, h3, h4⟩
  | .fl _ _, _, ⟨a, c, dx, fs, h0, h1, h2, h3⟩ => ⟨a, c, dx, fs, h0, AtP.same s h1, s _ _ h2, h3⟩
/-- a place of the state, looked at and changed -/
theorem SOk.foc {s : Sg} {σ : L2.St} {Φ : Nat → List Addr} (k : SOk T H A s σ Φ) : ∀ {p : P} {d : D} {n : Nat}, getP ev p s = .ok (d, n) → ∃ (v0 : V) (d0 : D) (v : V) (F : List Addr) (put : D → D), s.r[rootP p]? = some (some d0) ∧ σ[rootP p]? = some (some v0) ∧ AtP T ev H σ s.r p v ∧
    Foc T H (Own A Φ) v0 d0 (s.o.getD (rootP p) 0) (Φ (rootP p)) v d n F put ∧ ∀ d', putP ev p d' s = .ok ⟨s.r.set (rootP p) (some (put d')), s.o⟩
  | .v i, d, n, h => by
    rw [getP] at h
    split at h
    · rename_i d' hd
      cases h
      obtain ⟨v, h1, h2⟩ := k.slot i _ hd
      exact ⟨v, d, v, Φ i, id, hd, h1, h1, Foc.refl h2, fun d' => rfl⟩
    · cases h
  | .ix p e, d, n, h => by
    rw [getP] at h
    obtain ⟨⟨d1, n1⟩, h1, h2⟩ := Rs.bind_ok h
    dsimp only at h2
    split at h2
    · rename_i ds m
      obtain ⟨⟨di, ni⟩, h3, h4⟩ := Rs.bind_ok h2
      dsimp only at h4
      split at h4
      · rename_i i
        obtain ⟨dj, h5, h6⟩ := Option.map_eq_some_iff.mp (of_ok h4)
        cases h6
        obtain ⟨v0, d0, v, F, put, g1, g2, g3, g4, g5⟩ := SOk.foc k h1
        unfold L2.atI at h5
        obtain ⟨j, h7, h8⟩ := Option.bind_eq_some_iff.mp h5
        obtain ⟨a, vs, w, Fj, rfl, q1, q2, q3, q4⟩ := Foc.ix g4.rep (fun b hb => .inr ⟨_, g4.sub b hb⟩) h8
        refine ⟨v0, d0, w, Fj, fun d' => put (.lst (ds.set j d')), g1, g2, ⟨a, vs, i, ni, g3, q1, h3, ?_⟩, g4.trans q4, fun d' => ?_⟩
        · unfold L2.atI
          rw [q2, h7]
          exact q3
        · rw [putP, h1]
          simp only [Rs.bind]
          rw [h3]
          simp only [Rs.bind, h7, Rs.of]
          exact g5 _
      · cases h4
    · cases h2
  | .fl p j, d, n, h => by
    rw [getP] at h
    obtain ⟨⟨d1, n1⟩, h1, h2⟩ := Rs.bind_ok h
    dsimp only at h2
    split at h2
    · rename_i c fs ds m
      obtain ⟨hh, h2⟩ := rif_ok h2
      obtain ⟨dj, h5, h6⟩ := Option.map_eq_some_iff.mp (of_ok h2)
      cases h6
      obtain ⟨v0, d0, v, F, put, g1, g2, g3, g4, g5⟩ := SOk.foc k h1
      obtain ⟨jj, h7, h8⟩ := Option.bind_eq_some_iff.mp h5
      obtain ⟨a, dx, vs, w, Fj, rfl, q1, q2, q2', q3, q4⟩ := Foc.fl g4.rep (fun b hb => .inr ⟨_, g4.sub b hb⟩) h8
      refine ⟨v0, d0, w, Fj, fun d' => put (.own c fs (ds.set jj d')), g1, g2, ⟨a, c, dx, _, ⟨q2', hh⟩, g3, q1, lookup_zip h7 q3⟩, g4.trans q4, fun d' => ?_⟩
      rw [putP, h1]
      simp only [Rs.bind, h7, Rs.of]
      exact g5 _
    · cases h2
theorem SOk.putX {s : Sg} {σ : L2.St} {Φ : Nat → List Addr} {i n : Nat} {v0 v : V} {d0 d d' : D} {F F' Fx : List Addr} {put : D → D} (k : SOk T H A s σ Φ) (g1 : s.r[i]? = some (some d0)) (g2 : σ[i]? = some (some v0)) (g : Foc T H (Own A Φ) v0 d0 (s.o.getD i 0) (Φ i) v d n F put)
    (kp : ∀ b o, H b = some o → (Mut (some o) → b ∉ F) → H' b = some o) (dm : ∀ b, H' b = none → H b = none) (hf : ∀ b ∈ F', b ∈ F ∨ H b = none) (hx : ∀ b ∈ Fx, H b = none ∧ H' b ≠ none ∧ b ∉ F') (r : Rep T H' (Avd.more (Avd.more (fun b => Own A Φ b ∧ b ∉ F) F') Fx) v d' n F') :
    ∃ Φ', SOk T H' (A.more Fx) ⟨s.r.set i (some (put d')), s.o⟩ σ Φ' ∧ Step H Φ H' Φ' ∧ ∀ j b, b ∈ Φ' j → (b ∈ Φ j ∧ b ∉ F) ∨ b ∈ F' := by
  -- what was there may be there; F' is new or was F
  have hB : ∀ b, H b ≠ none → Avd.more (Avd.more (fun b => Own A Φ b ∧ b ∉ F) F') Fx b → Own A Φ b := fun b hb z => by
    rcases z with (z | z) | z
    · exact z.1
    · rcases hf b z with h | h
      · exact .inr ⟨i, g.sub b h⟩
      · exact absurd h hb
    · exact absurd (hx b z).1 hb
  obtain ⟨F0', r0, e0⟩ := g.back H' (Avd.more (Avd.more (fun b => Own A Φ b ∧ b ∉ F) F') Fx) d' F' (fun b o ho q => kp b o ho fun m => (q m).2) hB hf r
  have nA : ∀ b ∈ F, ¬ A b := fun b hb => k.own i b (g.sub b hb)
  have nO : ∀ l b, l ≠ i → b ∈ Φ l → b ∉ F := fun l b hl hb z => hl (k.dis l i b hb (g.sub b z))
  have new : ∀ b ∈ F0', b ∈ Φ i ∨ H b = none := fun b hb => by
    rcases (e0 b).mp hb with ⟨h, _⟩ | h
    · exact .inl h
    · rcases hf b h with h | h
      · exact .inl (g.sub b h)
      · exact .inr h
  have FB : ∀ b ∈ F, Own A Φ b := fun b hb => .inr ⟨i, g.sub b hb⟩
  refine ⟨fun j => if j = i then F0' else Φ j, ⟨?_, fun j dj hj => ?_, fun j b hb => ?_, fun j l b hb hb' => ?_, fun j hj => ?_⟩, ⟨fun b o hb hn => kp b o hb fun _ z => hn i (g.sub b z), dm, fun j b hb => ?_⟩, fun j b hb => ?_⟩
  · intro b hb z
    rcases hb with hb | hb
    · cases q : H b with
      | none => exact k.al b hb q
      | some o => rw [kp b o q fun _ z => k.own i b (g.sub b z) hb] at z; cases z
    · exact (hx b hb).2.1 z
  · by_cases hji : j = i
    · subst hji
      have hl : j < s.r.length := (List.getElem?_eq_some_iff.mp g1).1
      rw [List.getElem?_set_self hl] at hj
      cases hj
      refine ⟨v0, g2, ?_⟩
      simp only [if_true]
      refine r0.avoid fun b _ z => ?_
      rcases z with (z | z) | ⟨l, z⟩
      · exact .inl (.inl ⟨.inl z, fun y => nA b y z⟩)
      · exact .inr z
      · by_cases hl : l = j
        · simp [hl] at z
          rcases (e0 b).mp z with ⟨h, h'⟩ | h
          · exact .inl (.inl ⟨.inr ⟨j, h⟩, h'⟩)
          · exact .inl (.inr h)
        · simp [hl] at z
          exact .inl (.inl ⟨.inr ⟨l, z⟩, nO l b hl z⟩)
    · have hij : i ≠ j := fun z => hji z.symm
      rw [List.getElem?_set_ne hij] at hj
      obtain ⟨w, h1, h2⟩ := k.slot j dj hj
      refine ⟨w, h1, ?_⟩
      simp only [hji, if_false]
      refine (h2.move (Fx := F) (B' := Avd.more (Avd.more (fun b => Own A Φ b ∧ b ∉ F) F') Fx) FB (fun b hb z => hji (k.dis j i b z (g.sub b hb))) (fun b o ho q => kp b o ho fun m => (q m).2) hB).avoid fun b _ z => ?_
      rcases z with (z | z) | ⟨l, z⟩
      · exact .inl (.inl ⟨.inl z, fun y => nA b y z⟩)
      · exact .inr z
      · by_cases hl : l = i
        · simp [hl] at z
          rcases (e0 b).mp z with ⟨h, h'⟩ | h
          · exact .inl (.inl ⟨.inr ⟨i, h⟩, h'⟩)
          · exact .inl (.inr h)
        · simp [hl] at z
          exact .inl (.inl ⟨.inr ⟨l, z⟩, nO l b hl z⟩)
  · by_cases hji : j = i
    · simp [hji] at hb
      intro z
      rcases z with z | z
      · rcases new b hb with h | h
        · exact k.own i b h z
        · exact k.al b z h
      · rcases (e0 b).mp hb with ⟨h, _⟩ | h
        · exact k.there i b h (hx b z).1
        · exact (hx b z).2.2 h
    · simp [hji] at hb
      intro z
      rcases z with z | z
      · exact k.own j b hb z
      · exact k.there j b hb (hx b z).1
  · by_cases hji : j = i
    · by_cases hli : l = i
      · rw [hji, hli]
      · simp [hji] at hb; simp [hli] at hb'
        rcases new b hb with h | h
        · exact absurd (k.dis l i b hb' h) hli
        · exact absurd h (k.there l b hb')
    · by_cases hli : l = i
      · simp [hji] at hb; simp [hli] at hb'
        rcases new b hb' with h | h
        · exact absurd (k.dis j i b hb h) hji
        · exact absurd h (k.there j b hb)
      · simp [hji] at hb; simp [hli] at hb'
        exact k.dis j l b hb hb'
  · by_cases hji : j = i
    · subst hji
      have hl : j < s.r.length := (List.getElem?_eq_some_iff.mp g1).1
      exact absurd (List.getElem?_set_self hl) (hj (put d'))
    · have hij : i ≠ j := fun z => hji z.symm
      simp only [hji, if_false]
      exact k.non j fun d z => hj d (by rw [List.getElem?_set_ne hij]; exact z)
  · by_cases hji : j = i
    · simp [hji] at hb
      rcases new b hb with h | h
      · exact .inl (by rw [hji]; exact h)
      · exact .inr h
    · simp [hji] at hb
      exact .inl hb
  · by_cases hji : j = i
    · simp [hji] at hb
      rw [hji]
      exact (e0 b).mp hb
    · simp [hji] at hb
      exact .inl ⟨hb, nO j b hji hb⟩
theorem SOk.less {s : Sg} {σ : L2.St} {Φ : Nat → List Addr} {Fx : List Addr} (k : SOk T H (A.more Fx) s σ Φ) : SOk T H A s σ Φ where
  al := fun b h => k.al b (.inl h)
  slot := fun i d h => by
    obtain ⟨v, h1, h2⟩ := k.slot i d h
    exact ⟨v, h1, h2.avoid fun b _ z => by
      rcases z with z | z
      · exact .inl (.inl z)
      · exact .inr z⟩
  own := fun i b h z => k.own i b h (.inl z)
  dis := k.dis
  non := k.non
theorem SOk.put {s : Sg} {σ : L2.St} {Φ : Nat → List Addr} {i n : Nat} {v0 v : V} {d0 d d' : D} {F F' : List Addr} {put : D → D} (k : SOk T H A s σ Φ) (g1 : s.r[i]? = some (some d0)) (g2 : σ[i]? = some (some v0)) (g : Foc T H (Own A Φ) v0 d0 (s.o.getD i 0) (Φ i) v d n F put)
    (kp : ∀ b o, H b = some o → (Mut (some o) → b ∉ F) → H' b = some o) (dm : ∀ b, H' b = none → H b = none) (hf : ∀ b ∈ F', b ∈ F ∨ H b = none) (r : Rep T H' (Avd.more (fun b => Own A Φ b ∧ b ∉ F) F') v d' n F') :
    ∃ Φ', SOk T H' A ⟨s.r.set i (some (put d')), s.o⟩ σ Φ' ∧ Step H Φ H' Φ' := by
  obtain ⟨Φ', k', st, _⟩ := k.putX (Fx := []) g1 g2 g kp dm hf (fun b hb => absurd hb (by simp)) (r.avoid fun b _ z => by
    rcases z with z | z
    · exact z
    · simp at z)
  exact ⟨Φ', k'.less, st⟩
/-- a slot takes a value that stands in the heap already -/
theorem SOk.setX {s : Sg} {σ : L2.St} {Φ : Nat → List Addr} {i n : Nat} {v : V} {d : D} {F : List Addr} (k : SOk T H (A.more F) s σ Φ) (r : Rep T H ((Own A Φ).more F) v d n F) (rFA : ∀ b ∈ F, ¬ A b) (h1 : i < s.r.length) (h2 : i < s.o.length) (h3 : i < σ.length) :
    SOk T H A ⟨s.r.set i (some d), s.o.set i n⟩ (σ.set i (some v)) (fun j => if j = i then F else Φ j) where
  al := fun b h => k.al b (.inl h)
  slot := fun j d' h => by
    by_cases hj : j = i
    · subst hj
      rw [List.getElem?_set_self h1] at h
      cases h
      refine ⟨v, List.getElem?_set_self h3, ?_⟩
      simp only [if_true]
      have : (s.o.set j n).getD j 0 = n := by simp [List.getD_eq_getElem?_getD, List.getElem?_set_self h2]
      rw [this]
      refine r.avoid fun b _ z => ?_
      rcases z with z | ⟨l, z⟩
      · exact .inl (.inl z)
      · by_cases hl : l = j
        · simp [hl] at z; exact .inr z
        · simp [hl] at z; exact .inl (.inr ⟨l, z⟩)
    · have hj' : i ≠ j := fun z => hj z.symm
      rw [List.getElem?_set_ne hj'] at h
      obtain ⟨w, h4, h5⟩ := k.slot j d' h
      refine ⟨w, by rw [List.getElem?_set_ne hj']; exact h4, ?_⟩
      simp only [hj, if_false]
      have : (s.o.set i n).getD j 0 = s.o.getD j 0 := by simp [List.getD_eq_getElem?_getD, List.getElem?_set_ne hj']
      rw [this]
      refine h5.avoid fun b hb z => ?_
      rcases z with z | ⟨l, z⟩
      · exact .inl (.inl z)
      · by_cases hl : l = i
        · simp [hl] at z; exact .inl (.inr z)
        · simp [hl] at z; exact .inr ⟨l, z⟩
  own := fun j b hb => by
    by_cases hj : j = i
    · simp [hj] at hb
      exact rFA b hb
    · simp [hj] at hb
      exact fun z => k.own j b hb (.inl z)
  dis := fun j l b hb hb' => by
    by_cases hj : j = i
    · by_cases hl : l = i
      · rw [hj, hl]
      · simp [hj] at hb; simp [hl] at hb'
        exact absurd (.inr hb) (k.own l b hb')
    · by_cases hl : l = i
      · simp [hj] at hb; simp [hl] at hb'
        exact absurd (.inr hb') (k.own j b hb)
      · simp [hj] at hb; simp [hl] at hb'
        exact k.dis j l b hb hb'
  non := fun j h => by
    by_cases hj : j = i
    · subst hj
      exact absurd (List.getElem?_set_self h1) (h d)
    · have hj' : i ≠ j := fun z => hj z.symm
      simp only [hj, if_false]
      exact k.non j fun d' z => h d' (by rw [List.getElem?_set_ne hj']; exact z)
end
end Hc
set_option Elab.async false
set_option linter.all false
set_option maxRecDepth 100000
set_option maxHeartbeats 4000000
/-! What a statement computes, and the rules: bases. -/
namespace Hc
open PySem PySem.Spec PyProof.Rows L2
section
variable {T : Tab} {ev : Ev} {H H' H1 : Hp} {A : Avd}
theorem Rep.zero {B : Avd} : ∀ {v : V} {d : D} {n : Nat} {F : List Addr}, Rep T H B v d n F → n = 0 → F = []
  | _, _, _, _, .non, _ => rfl
  | _, _, _, _, .bl, _ => rfl
  | _, _, _, _, .int, _ => rfl
  | _, _, _, _, .str, _ => rfl
  | _, _, _, _, .scr _ _, _ => rfl
  | _, _, _, _, .tup _ _, _ => rfl
  | _, _, _, _, .lstS _ _ _, _ => rfl
  | _, _, _, _, .lstO _ _ _, h => absurd h (Nat.succ_ne_zero _)
  | _, _, _, _, .dctS _ _ _, _ => rfl
  | _, _, _, _, .dctO _ _ _, h => absurd h (Nat.succ_ne_zero _)
  | _, _, _, _, .dctTS _ _ _, _ => rfl
  | _, _, _, _, .dctTO _ _ _, h => absurd h (Nat.succ_ne_zero _)
  | _, _, _, _, .objS _ _ _ _, _ => rfl
  | _, _, _, _, .ownS _ _ _ _, _ => rfl
  | _, _, _, _, .ownO _ _ _ _, h => absurd h (Nat.succ_ne_zero _)
theorem RepL.zero {B : Avd} : ∀ {v : List V} {d : List D} {n : Nat} {F : List Addr}, RepL T H B v d n F → n = 0 → F = []
  | _, _, _, _, .nil, _ => rfl
  | _, _, _, _, .cons r rs _, h => by rw [r.zero h, rs.zero h]; rfl
theorem RepL.set0 {B : Avd} {n : Nat} {v : V} {d : D} : ∀ {vs : List V} {ds : List D} {j : Nat}, RepL T H B vs ds n [] → Rep T H B v d n [] → RepL T H B (vs.set j v) (ds.set j d) n []
  | [], [], _, _, _ => .nil
  | [], _ :: _, _, r, _ => nomatch r
  | _ :: _, [], _, r, _ => nomatch r
  | _ :: _, _ :: _, 0, r, q => .mk q r.inv.2
  | _ :: _, _ :: _, j + 1, r, q => .mk r.inv.1 (RepL.set0 (j := j) r.inv.2 q)
theorem RepL.dropLast {B : Avd} {n : Nat} : ∀ {vs : List V} {ds : List D}, RepL T H B vs ds n [] → RepL T H B vs.dropLast ds.dropLast n []
  | [], [], _ => .nil
  | [], _ :: _, r => nomatch r
  | _ :: _, [], r => nomatch r
  | [_], [_], _ => .nil
  | [_], _ :: _ :: _, r => nomatch r.inv.2
  | _ :: _ :: _, [_], r => nomatch r.inv.2
  | _ :: _ :: _, _ :: _ :: _, r => .mk r.inv.1 (RepL.dropLast r.inv.2)
theorem RepL.reverse {B : Avd} {n : Nat} : ∀ {vs : List V} {ds : List D}, RepL T H B vs ds n [] → RepL T H B vs.reverse ds.reverse n []
  | [], [], _ => .nil
  | [], _ :: _, r => nomatch r
  | _ :: _, [], r => nomatch r
  | _ :: _, _ :: _, r => by
    rw [List.reverse_cons, List.reverse_cons]
    exact RepL.append (.mk r.inv.1 .nil) (RepL.reverse r.inv.2)
theorem RepL.more0 {B : Avd} {v : List V} {d : List D} {n : Nat} {F : List Addr} (r : RepL T H B v d n F) : RepL T H (B.more []) v d n F := r.avoid fun b _ z => by
  rcases z with z | z
  · exact z
  · simp at z
/-! ### a value taken over -/
theorem zero_len : ∀ (is o : List Nat), (zero o is).length = o.length
  | [], o => rfl
  | i :: is, o => by rw [zero, zero_len is, List.length_set]
structure UseOk (T : Tab) (ev : Ev) (A : Avd) (H : Hp) (s s' : Sg) (σ : L2.St) (Φ Φ' : Nat → List Addr) (e : E) (d : D) (n : Nat) (A0 : Avd) : Prop where
  k : SOk T H A s' σ Φ'
  sub : ∀ j b, b ∈ Φ' j → b ∈ Φ j
  r : s'.r = s.r
  ol : s'.o.length = s.o.length
  evd : evE ev e s.r = .ok (d, n)
  sh : ShOk T H A0 s.r σ (vars e)
  al : All A0 H
  or : A0 = Own A Φ' ∨ clean d n = true
theorem use_ok {e : E} {s s' : Sg} {σ : L2.St} {Φ : Nat → List Addr} {d : D} {n : Nat} (k : SOk T H A s σ Φ) (h : use ev e s = .ok (d, n, s')) : ∃ Φ' A0, UseOk T ev A H s s' σ Φ Φ' e d n A0 := by
  unfold use at h
  obtain ⟨⟨d', n'⟩, h1, h2⟩ := Rs.bind_ok h
  by_cases hc : clean d' n' = true
  · have h3 : (d', n', s) = (d, n, s') := by simpa [hc] using h2
    cases h3
    exact ⟨Φ, fun _ => False, k, fun _ _ h => h, rfl, rfl, h1, k.view0 _, all0, .inr hc⟩
  · have h3 : (d', n', s.frz (vars e)) = (d, n, s') := by simpa [hc] using h2
    cases h3
    have k' := k.frz (vars e)
    refine ⟨_, Own A _, k', fun j b hb => ?_, rfl, zero_len _ _, h1, fun i hi d' hd => ?_, k'.allB, .inl rfl⟩
    · by_cases hj : j ∈ vars e
      · simp [hj] at hb
      · simpa [hj] using hb
    · obtain ⟨v, h3, h4⟩ := k'.slot i d' hd
      refine ⟨v, h3, ?_⟩
      have e1 : (s.frz (vars e)).o.getD i 0 = 0 := by
        show (zero s.o (vars e)).getD i 0 = 0
        rw [zero_get, if_pos hi]
      rw [e1] at h4
      simpa [hi] using h4
theorem UseOk.te {e : E} {s s' : Sg} {σ : L2.St} {Φ Φ' : Nat → List Addr} {d : D} {n : Nat} {A0 : Avd} {Q : VK} (u : UseOk T ev A H s s' σ Φ Φ' e d n A0) (s1 : Same H H1) (q : ∀ v H' F, Same H1 H' → Frs F H1 → Rep T H' ((Own A Φ').more F) v d n F → Q v H') : tE T ev e σ H1 Q :=
  ⟨A0, s.r, d, n, u.al.same s1, u.sh.same s1, u.evd, fun v H' F s2 f r => q v H' F s2 f (by
    rcases u.or with rfl | h
    · exact r
    · exact r.clean h)⟩
theorem sub_step {Φ Φ' : Nat → List Addr} (s : Same H H') (h : ∀ j b, b ∈ Φ' j → b ∈ Φ j) : Step H Φ H' Φ' := .same s fun j b hb => .inl (h j b hb)

/-! ### what comes of a statement -/
structure Rch (T : Tab) (ev : Ev) (A : Avd) (σ : L2.St) (H : Hp) (Φ : Nat → List Addr) (s : Sg) (σ' : L2.St) (H' : Hp) (Φ' : Nat → List Addr) : Prop where
  k : SOk T H' A s σ' Φ'
  st : Step H Φ H' Φ'
  kp : ∀ i ∈ ev.keep, σ'[i]? = σ[i]?
def OcOk (T : Tab) (ev : Ev) (A : Avd) (σ : L2.St) (H : Hp) (Φ : Nat → List Addr) (D : Ends) : Oc → Prop
  | .nx s => ∀ σ' H' Φ', Rch T ev A σ H Φ s σ' H' Φ' → D.nx σ' H'
  | .bk s => ∀ σ' H' Φ', Rch T ev A σ H Φ s σ' H' Φ' → D.bk σ' H'
  | .ct s => ∀ σ' H' Φ', Rch T ev A σ H Φ s σ' H' Φ' → D.ct σ' H'
  | .rt d n s => ∀ v σ' H' F Φ', Rch T ev A σ H Φ s σ' H' Φ' → (∀ b ∈ F, b ∉ Φ' 0) → (∀ b ∈ F, (∃ j, j ≠ 0 ∧ b ∈ Φ j) ∨ H b = none) → Rep T H' (Avd.more (fun b => A b ∨ b ∈ Φ' 0) F) v d n F → (∀ x, s.r[0]? = some (some x) → ∃ v0, σ'[0]? = some (some v0) ∧ Rep T H' (Avd.more (fun b => A b ∨ b ∈ Φ' 0) F) v0 x (s.o.getD 0 0) (Φ' 0)) → D.rt v H'
  | .ex _ _ => False
  | .bad => False
variable {σ σ' : L2.St} {Φ Φ' : Nat → List Addr} {En : Ends} {s s' : Sg}
theorem Rch.same (k : SOk T H A s σ Φ) (k' : SOk T H A s' σ Φ') (h : ∀ j b, b ∈ Φ' j → b ∈ Φ j) (e : Same H H') : Rch T ev A σ H Φ s' σ H' Φ' := ⟨k'.same e, sub_step e h, fun _ _ => rfl⟩
theorem Rch.refl (k : SOk T H A s σ Φ) : Rch T ev A σ H Φ s σ H Φ := ⟨k, .refl, fun _ _ => rfl⟩
theorem OcOk.step {x : Oc} (o : OcOk T ev A σ H Φ En x) (st : Step H Φ H' Φ') (kp : ∀ i ∈ ev.keep, σ'[i]? = σ[i]?) : OcOk T ev A σ' H' Φ' En x := by
  cases x with
  | nx s => exact fun σ2 H2 Φ2 r => o σ2 H2 Φ2 ⟨r.k, st.trans r.st, fun i h => (r.kp i h).trans (kp i h)⟩
  | bk s => exact fun σ2 H2 Φ2 r => o σ2 H2 Φ2 ⟨r.k, st.trans r.st, fun i h => (r.kp i h).trans (kp i h)⟩
  | ct s => exact fun σ2 H2 Φ2 r => o σ2 H2 Φ2 ⟨r.k, st.trans r.st, fun i h => (r.kp i h).trans (kp i h)⟩
  | rt d n s =>
    refine fun v σ2 H2 F Φ2 r h1 h2 h3 h4 => o v σ2 H2 F Φ2 ⟨r.k, st.trans r.st, fun i h => (r.kp i h).trans (kp i h)⟩ h1 (fun b hb => ?_) h3 h4
    rcases h2 b hb with ⟨j, hj, h⟩ | h
    · rcases st.come j b h with h | h
      · exact .inl ⟨j, hj, h⟩
      · exact .inr h
    · exact .inr (st.dom b h)
  | ex c d => exact o
  | bad => exact o
theorem Rch.oc {x : Oc} (r : Rch T ev A σ H Φ s σ' H' Φ') (o : OcOk T ev A σ H Φ En x) : OcOk T ev A σ' H' Φ' En x := o.step r.st r.kp
theorem Rch.trans {s1 : Sg} {σ1 : L2.St} {Φ1 : Nat → List Addr} (a : Rch T ev A σ H Φ s1 σ1 H1 Φ1) (b : Rch T ev A σ1 H1 Φ1 s σ' H' Φ') : Rch T ev A σ H Φ s σ' H' Φ' := ⟨b.k, a.st.trans b.st, fun i h => (b.kp i h).trans (a.kp i h)⟩
theorem oc_ok {α : Type} {x : Rs α} {f : α → Oc} (o : OcOk T ev A σ H Φ En (x.oc f)) : ∃ a, x = .ok a ∧ OcOk T ev A σ H Φ En (f a) := by
  cases x with
  | ok a => exact ⟨a, rfl, o⟩
  | ex c d => exact (show False from o).elim
  | bad => exact (show False from o).elim
theorem if_ok {c : Prop} [Decidable c] {x : Oc} (o : OcOk T ev A σ H Φ En (if c then x else .bad)) : c ∧ OcOk T ev A σ H Φ En x := by
  by_cases h : c
  · rw [if_pos h] at o; exact ⟨h, o⟩
  · rw [if_neg h] at o; exact (show False from o).elim
def tS (T : Tab) (ev : Ev) (f : Sg → Oc) : TS := fun D σ H => ∃ A s Φ, SOk T H A s σ Φ ∧ OcOk T ev A σ H Φ D (f s)
structure Sx (T : Tab) (c : Cc) (ev : Ev) (k : Nat) (X : Cx) : Prop extends Ctx T c ev k X where
  tk : TOk X.env.scope X
  hp : PassesOwn (model X.prog X.w) X.A X.env X.xe
variable {X : Cx} {pos : Pos}
theorem ss_nil : PSs X [] (tS T ev (evSs ev .nil)) := ⟨fun pins s σ H D I ⟨A, sg, Φ, k, o⟩ => pss_nil.run pins s σ H D I (by
  rw [evSs] at o
  exact o σ H Φ (.refl k))⟩
theorem ss_cons {x : Stmt} {xs : List Stmt} {st : S} {ss : Ss} (h1 : PS X x (tS T ev (evS ev st))) (h2 : PSs X xs (tS T ev (evSs ev ss))) : PSs X (x :: xs) (tS T ev (evSs ev (.cons st ss))) := ⟨fun pins s σ H D I ⟨A, sg, Φ, k, o⟩ => by
  refine (pss_cons h1 h2).run pins s σ H D I ⟨A, sg, Φ, k, ?_⟩
  rw [evSs] at o
  cases h : evS ev st sg with
  | nx s' =>
    rw [h] at o
    exact fun σ' H' Φ' r => ⟨A, s', Φ', r.k, r.oc o⟩
  | rt d n s' => rw [h] at o; exact o
  | bk s' => rw [h] at o; exact o
  | ct s' => rw [h] at o; exact o
  | ex c d => rw [h] at o; exact o
  | bad => rw [h] at o; exact o⟩

/-! ### places -/
def tP (T : Tab) (ev : Ev) (p : P) : TE := fun σ H Q => ∃ r v, ShOk T H (fun _ => False) r σ (varsP p) ∧ AtP T ev H σ r p v ∧ ∀ H', Same H H' → Q v H'
theorem p_ok {cc : Cc} {k : Nat} (C : Ctx T cc ev k X) : ∀ {p : P} {x : Expr}, cvP cc X.env.scope p x = true → PE X x (tP T ev p)
  | .v i, x, h => by
    cases x with
    | Name nm ps =>
      simp only [cvP, Bool.and_eq_true, decide_eq_true_eq] at h
      refine ⟨fun pins s σ H Q I w => ?_⟩
      obtain ⟨r, v, sh, a, q⟩ := w
      exact (pe_var (by rw [C.N]; exact h.1.1.1) (C.vis h.1.1.2) (bv h.1.2) (bv h.2)).run pins s σ H Q I ⟨v, a, q H (Same.refl H)⟩
    | _ => simp [cvP] at h
  | .ix p e, x, h => by
    cases x with
    | Subscript u w ps =>
      simp only [cvP, Bool.and_eq_true] at h
      refine ⟨fun pins s σ H Q I w => ?_⟩
      obtain ⟨r, v, sh, ⟨a, vs, i, n, h1, h2, h3, h4⟩, q⟩ := w
      refine (pe_ix ix_list (p_ok C h.1.2) ((snd e).pe C h.2) (ixPl_ok h.1.1)).run pins s σ H Q I ?_
      refine ⟨r, .ref a, sh.sub inL, h1, fun H1 s1 => ?_⟩
      refine ⟨fun _ => False, r, .int i, n, all0, (sh.sub inR).same s1, h3, fun w H2 F s2 f rp => ?_⟩
      rw [rp.int_inv]
      exact ⟨a, vs, i, v, rfl, rfl, SqL.of (s2 _ _ (s1 _ _ h2)), h4, q H2 (s1.trans s2)⟩
    | _ => simp [cvP] at h
  | .fl p j, x, h => by
    cases x with
    | Attribute u f ps =>
      simp only [cvP, Bool.and_eq_true, decide_eq_true_eq] at h
      refine ⟨fun pins s σ H Q I w => ?_⟩
      obtain ⟨r, v, sh, ⟨a, c, dx, fs, h1, h2, h3, h4⟩, q⟩ := w
      refine (pe_fld (p_ok C h.2) (nBase_ok h.1.2)).run pins s σ H Q I ⟨r, .ref a, sh, h2, fun H1 s1 => ?_⟩
      rw [← h.1.1, C.fnm]
      exact ⟨a, _, dx, fs, v, rfl, s1 _ _ h3, C.cls c h1.1, C.noat c j h1.1 h1.2, h4, q H1 s1⟩
    | _ => simp [cvP] at h
/-- a list at a place, owned -/
theorem lst_put {p : P} {ds : List D} {n : Nat} (k : SOk T H A s σ Φ) (h : getP ev p s = .ok (.lst ds, n + 1)) : ∃ a vs G, AtP T ev H σ s.r p (.ref a) ∧ H a = some (.lst vs) ∧ RepL T H (Own A Φ) vs ds n G ∧ Own A Φ a ∧ (∀ b ∈ G, Own A Φ b) ∧
    ∀ H2 vs' ds' G', Same H H2 → RepL T H2 ((Own A Φ).more G') vs' ds' n G' → (∀ b ∈ G', b ∈ G ∨ H b = none) → ∃ s2 Φ2, putP ev p (.lst ds') s = .ok s2 ∧ Rch T ev A σ H Φ s2 σ (upd H2 a (.lst vs')) Φ2 := by
  obtain ⟨v0, d0, v, F, put, g1, g2, g3, g4, g5⟩ := k.foc h
  have rp := g4.rep
  cases rp with
  | @lstO _ G a vs _ ha na rl =>
    have oa : Own A Φ a := .inr ⟨_, g4.sub a List.mem_cons_self⟩
    refine ⟨a, vs, G, g3, ha, rl, oa, fun b hb => .inr ⟨_, g4.sub b (List.mem_cons_of_mem _ hb)⟩, fun H2 vs' ds' G' s1 r1 hg => ?_⟩
    have naG : a ∉ G' := fun z => by
      rcases hg a z with z | z
      · exact na z
      · rw [ha] at z; cases z
    have r2 : RepL T (upd H2 a (.lst vs')) ((Own A Φ).more G') vs' ds' n G' := r1.keep (E := G') (fun _ h => h) fun b o hb q => by
      by_cases e : b = a
      · subst e
        rw [s1 _ _ ha] at hb
        cases hb
        rcases q trivial with z | z
        · exact absurd (.inl oa) z
        · exact absurd z naG
      · rw [upd_ne e]; exact hb
    obtain ⟨Φ2, k2, st⟩ := k.put (d' := .lst ds') (F' := a :: G') (H' := upd H2 a (.lst vs')) g1 g2 g4 (fun b o hb q => by
        by_cases e : b = a
        · subst e
          rw [ha] at hb
          cases hb
          exact absurd List.mem_cons_self (q trivial)
        · rw [upd_ne e]; exact s1 _ _ hb) (fun b hb => by
        by_cases e : b = a
        · subst e
          rw [upd_same] at hb; cases hb
        · rw [upd_ne e] at hb; exact s1.dom b hb) (fun b hb => by
        rcases List.mem_cons.mp hb with e | hb
        · exact .inl (by rw [e]; exact List.mem_cons_self)
        · rcases hg b hb with h | h
          · exact .inl (List.mem_cons_of_mem _ h)
          · exact .inr h) (.lstO upd_same naG (r2.avoid fun b hb z => by
        rcases z with z | z
        · exact .inl z.1
        · rcases List.mem_cons.mp z with e | z
          · exact .inl (by rw [e]; exact oa)
          · exact .inr z))
    exact ⟨_, Φ2, g5 _, k2, st, fun _ _ => rfl⟩

/-- a dict at a place, owned -/
theorem dct_put {p : P} {ks ds : List D} (k : SOk T H A s σ Φ) (h : getP ev p s = .ok (.dct false ks ds, 1)) : ∃ a kvs, AtP T ev H σ s.r p (.ref a) ∧ H a = some (.dK kvs) ∧ ks = kvs.map (fun p => keyD p.1) ∧ RepL T H (Own A Φ) (kvs.map (·.2)) ds 0 [] ∧
    ∀ H2 kvs' ds', Same H H2 → RepL T H2 (Own A Φ) (kvs'.map (·.2)) ds' 0 [] → ∃ s2 Φ2, putP ev p (.dct false (kvs'.map fun p => keyD p.1) ds') s = .ok s2 ∧ Rch T ev A σ H Φ s2 σ (upd H2 a (.dK kvs')) Φ2 := by
  obtain ⟨v0, d0, v, F, put, g1, g2, g3, g4, g5⟩ := k.foc h
  have rp := g4.rep
  generalize hd : D.dct false ks ds = dd at rp
  cases rp with
  | @dctO _ G a kvs ds' ha na rl =>
    injection hd with _ e1 e2
    subst e1 e2
    have hG : G = [] := rl.zero rfl
    subst hG
    have oa : Own A Φ a := .inr ⟨_, g4.sub a List.mem_cons_self⟩
    refine ⟨a, kvs, g3, ha, rfl, rl, fun H2 kvs' ds' s1 r1 => ?_⟩
    have r2 : RepL T (upd H2 a (.dK kvs')) (Own A Φ) (kvs'.map (·.2)) ds' 0 [] := r1.keep (E := []) (fun _ h => h) fun b o hb q => by
      by_cases e : b = a
      · subst e
        rw [s1 _ _ ha] at hb
        cases hb
        rcases q trivial with z | z
        · exact absurd oa z
        · simp at z
      · rw [upd_ne e]; exact hb
    obtain ⟨Φ2, k2, st⟩ := k.put (d' := .dct false (kvs'.map fun p => keyD p.1) ds') (F' := [a]) (H' := upd H2 a (.dK kvs')) g1 g2 g4 (fun b o hb q => by
        by_cases e : b = a
        · subst e
          rw [ha] at hb
          cases hb
          exact absurd List.mem_cons_self (q trivial)
        · rw [upd_ne e]; exact s1 _ _ hb) (fun b hb => by
        by_cases e : b = a
        · subst e
          rw [upd_same] at hb; cases hb
        · rw [upd_ne e] at hb; exact s1.dom b hb) (fun b hb => .inl hb) (.dctO upd_same (by simp) (r2.avoid fun b hb z => by
        rcases z with z | z
        · exact z.1
        · rw [show b = a by simpa using z]; exact oa))
    exact ⟨_, Φ2, g5 _, k2, st, fun _ _ => rfl⟩
  | _ => cases hd
theorem keys_map (k : Key) (v : V) : ∀ kvs : List (Key × V), (kvs.map fun kv => if kv.1 = k then (kv.1, v) else kv).map (fun p => keyD p.1) = kvs.map (fun p => keyD p.1)
  | [] => rfl
  | p :: r => by
    rw [List.map_cons, List.map_cons, List.map_cons, keys_map k v r]
    split <;> rfl
theorem vals_map {B : Avd} {k : Key} {v : V} {d : D} (q : Rep T H B v d 0 []) : ∀ {kvs : List (Key × V)} {ds : List D}, RepL T H B (kvs.map (·.2)) ds 0 [] → RepL T H B ((kvs.map fun kv => if kv.1 = k then (kv.1, v) else kv).map (·.2)) (putV k d (kvs.map fun p => keyD p.1) ds) 0 []
  | [], [], _ => .nil
  | [], _ :: _, r => nomatch r
  | _ :: _, [], r => nomatch r
  | p :: r, d0 :: ds, rr => by
    rw [List.map_cons, List.map_cons, List.map_cons, putV]
    refine .mk ?_ (vals_map q rr.inv.2)
    by_cases e : p.1 = k
    · rw [if_pos e, if_pos (by rw [keyOf_keyD, e])]
      exact q
    · rw [if_neg e, if_neg (by rw [keyOf_keyD]; exact fun z => e (Option.some.inj z))]
      exact rr.inv.1
theorem any_ki (k : Key) : ∀ kvs : List (Key × V), (kvs.any fun kv => decide (kv.1 = k)) = (ki k (kvs.map fun p => keyD p.1)).isSome
  | [] => rfl
  | p :: r => by
    rw [List.any_cons, List.map_cons, ki, any_ki k r]
    by_cases e : p.1 = k
    · rw [if_pos (by rw [keyOf_keyD, e])]; simp [e]
    · rw [if_neg (by rw [keyOf_keyD]; exact fun z => e (Option.some.inj z))]; simp [e]
theorem putK_rep {B : Avd} {k : Key} {v : V} {d : D} {kvs : List (Key × V)} {ds : List D} (q : Rep T H B v d 0 []) (r : RepL T H B (kvs.map (·.2)) ds 0 []) : (putK kvs k v).map (fun p => keyD p.1) = (putD k d (kvs.map fun p => keyD p.1) ds).1 ∧ RepL T H B ((putK kvs k v).map (·.2)) (putD k d (kvs.map fun p => keyD p.1) ds).2 0 [] := by
  unfold putK putD
  rw [any_ki]
  split
  · exact ⟨keys_map k v kvs, vals_map q r⟩
  · rw [List.map_append, List.map_append]
    exact ⟨rfl, RepL.append (.mk q .nil) r⟩
def rSetX : V → V → V → Hp → (Hp → Prop) → Prop := fun o i v H Q => rSetL o i v H Q ∨ ∃ a H', o = .ref a ∧ DPut H a i v H' ∧ Q H'
theorem set_x (hu : X.A.units + 64 < cLine) : PSet X rSetX := by
  intro pins s σ H o i v ov iv u Q I ro ri rv h
  rcases h with h | ⟨a, H', rfl, g, q⟩
  · exact set_list pins s σ H o i v ov iv u Q I ro ri rv h
  · cases ro
    exact d_setItem (by omega) I g ri rv fun s' I' => ⟨H', I', q⟩
/-- an instance at a place, owned -/
theorem own_put {p : P} {c : Nat} {fs : List Nat} {ds : List D} {n : Nat} (k : SOk T H A s σ Φ) (h : getP ev p s = .ok (.own c fs ds, n + 1)) : ∃ a dx vs G, AtP T ev H σ s.r p (.ref a) ∧ H a = some (.ins (T.cls c) dx ((fs.map T.fnm).zip vs)) ∧ vs.length = fs.length ∧ c < T.nc ∧ RepL T H (Own A Φ) vs ds n G ∧ Own A Φ a ∧ (∀ b ∈ G, Own A Φ b) ∧
    ∀ H2 fs' vs' ds' G', Same H H2 → vs'.length = fs'.length → RepL T H2 ((Own A Φ).more G') vs' ds' n G' → (∀ b ∈ G', b ∈ G ∨ H b = none) → ∃ s2 Φ2, putP ev p (.own c fs' ds') s = .ok s2 ∧ Rch T ev A σ H Φ s2 σ (upd H2 a (.ins (T.cls c) dx ((fs'.map T.fnm).zip vs'))) Φ2 := by
  obtain ⟨v0, d0, v, F, put, g1, g2, g3, g4, g5⟩ := k.foc h
  have rp := g4.rep
  cases rp with
  | @ownO _ G a dx _ _ vs _ ha na hl rl =>
    have oa : Own A Φ a := .inr ⟨_, g4.sub a List.mem_cons_self⟩
    refine ⟨a, dx, vs, G, g3, ha, hl.1, hl.2, rl, oa, fun b hb => .inr ⟨_, g4.sub b (List.mem_cons_of_mem _ hb)⟩, fun H2 fs' vs' ds' G' s1 hv r1 hg => ?_⟩
    have naG : a ∉ G' := fun z => by
      rcases hg a z with z | z
      · exact na z
      · rw [ha] at z; cases z
    have r2 : RepL T (upd H2 a (.ins (T.cls c) dx ((fs'.map T.fnm).zip vs'))) ((Own A Φ).more G') vs' ds' n G' := r1.keep (E := G') (fun _ h => h) fun b o hb q => by
      by_cases e : b = a
      · subst e
        rw [s1 _ _ ha] at hb
        cases hb
        rcases q trivial with z | z
        · exact absurd (.inl oa) z
        · exact absurd z naG
      · rw [upd_ne e]; exact hb
    obtain ⟨Φ2, k2, st⟩ := k.put (d' := .own c fs' ds') (F' := a :: G') (H' := upd H2 a (.ins (T.cls c) dx ((fs'.map T.fnm).zip vs'))) g1 g2 g4 (fun b o hb q => by
        by_cases e : b = a
        · subst e
          rw [ha] at hb
          cases hb
          exact absurd List.mem_cons_self (q trivial)
        · rw [upd_ne e]; exact s1 _ _ hb) (fun b hb => by
        by_cases e : b = a
        · subst e
          rw [upd_same] at hb; cases hb
        · rw [upd_ne e] at hb; exact s1.dom b hb) (fun b hb => by
        rcases List.mem_cons.mp hb with e | hb
        · exact .inl (by rw [e]; exact List.mem_cons_self)
        · rcases hg b hb with h | h
          · exact .inl (List.mem_cons_of_mem _ h)
          · exact .inr h) (.ownO upd_same naG ⟨hv, hl.2⟩ (r2.avoid fun b hb z => by
        rcases z with z | z
        · exact .inl z.1
        · rcases List.mem_cons.mp z with e | z
          · exact .inl (by rw [e]; exact oa)
          · exact .inr z))
    exact ⟨_, Φ2, g5 _, k2, st, fun _ _ => rfl⟩
/-- an item is replaced by one that is owned -/
theorem RepL.setO {B : Avd} {n : Nat} {v : V} {d : D} {Fy : List Addr} : ∀ {vs : List V} {ds : List D} {G : List Addr} {j : Nat}, RepL T H B vs ds n G → Rep T H B v d n Fy → (∀ b ∈ Fy, b ∉ G) → ∃ G', RepL T H B (vs.set j v) (ds.set j d) n G' ∧ ∀ b ∈ G', b ∈ G ∨ b ∈ Fy
  | _, _, _, _, .nil, _, _ => ⟨[], .nil, fun b hb => absurd hb (by simp)⟩
  | _, _, _, 0, .cons (F := F) (G := G) r rs dj, q, hn => ⟨Fy ++ G, .cons q rs fun b hb z => hn b hb (List.mem_append_right _ z), fun b hb => by
    rcases List.mem_append.mp hb with h | h
    · exact .inr h
    · exact .inl (List.mem_append_right _ h)⟩
  | _, _, _, j + 1, .cons (F := F) (G := G) r rs dj, q, hn => by
    obtain ⟨G', r1, e1⟩ := RepL.setO (j := j) rs q fun b hb z => hn b hb (List.mem_append_right _ z)
    refine ⟨F ++ G', .cons r r1 fun b hb z => ?_, fun b hb => ?_⟩
    · rcases e1 b z with h | h
      · exact dj b hb h
      · exact hn b h (List.mem_append_left _ hb)
    · rcases List.mem_append.mp hb with h | h
      · exact .inl (List.mem_append_left _ h)
      · rcases e1 b h with h | h
        · exact .inl (List.mem_append_right _ h)
        · exact .inr h
theorem putF_no {y : V} {j : Nat} : ∀ {fs : List Nat} {vs : List V}, vs.length = fs.length → fs.idxOf? j = none → putF (T.fnm j) y ((fs.map T.fnm).zip vs) = ((fs ++ [j]).map T.fnm).zip (vs ++ [y])
  | [], [], _, _ => rfl
  | [], _ :: _, h, _ => by simp at h
  | _ :: _, [], h, _ => by simp at h
  | f :: fs, w :: vs, h, h2 => by
    rw [List.idxOf?_cons] at h2
    by_cases e : (f == j) = true
    · rw [if_pos e] at h2; cases h2
    · rw [if_neg e] at h2
      have h3 : fs.idxOf? j = none := by simpa using h2
      have ih := putF_no (y := y) (fs := fs) (vs := vs) (by simpa using h) h3
      have ne : ¬ T.fnm f = T.fnm j := fun z => e (by rw [T.inj _ _ z]; simp)
      show (if T.fnm f = T.fnm j then _ else _) = _
      rw [if_neg ne]
      exact congrArg (List.cons (T.fnm f, w)) ih
theorem putF_at {y : V} {j : Nat} : ∀ {fs : List Nat} {vs : List V} {k : Nat}, vs.length = fs.length → fs.idxOf? j = some k → putF (T.fnm j) y ((fs.map T.fnm).zip vs) = (fs.map T.fnm).zip (vs.set k y)
  | [], _, _, _, h => by simp at h
  | _ :: _, [], _, h, _ => by simp at h
  | f :: fs, w :: vs, k, h, h2 => by
    rw [List.idxOf?_cons] at h2
    by_cases e : (f == j) = true
    · rw [if_pos e] at h2
      cases h2
      have e' : f = j := by simpa using e
      subst e'
      show (if T.fnm f = T.fnm f then _ else _) = _
      rw [if_pos rfl]
      rfl
    · rw [if_neg e] at h2
      obtain ⟨k', h3, rfl⟩ := Option.map_eq_some_iff.mp h2
      have ih := putF_at (y := y) (fs := fs) (vs := vs) (by simpa using h) h3
      have ne : ¬ T.fnm f = T.fnm j := fun z => e (by rw [T.inj _ _ z]; simp)
      show (if T.fnm f = T.fnm j then _ else _) = _
      rw [if_neg ne]
      exact congrArg (List.cons (T.fnm f, w)) ih

/-! ### no comprehension -/
theorem sw_no {x : Expr} {tg : Option Expr} {l : Nat} {env : Env} (h : noSw x = true) : swapsWith x tg l env = pure false := by cases x <;> first | rfl | cases h
theorem sst_name {x : Expr} {env : Env} {nm : Str} {p : Pos} : swappedStores [.Name nm p] x env = pure none := by cases x <;> rfl
theorem sst_sub {x u w : Expr} {env : Env} {p : Pos} : swappedStores [.Subscript u w p] x env = pure none := by cases x <;> rfl
theorem sst_tup {x : Expr} {env : Env} {es : List Expr} {kk : Nat} {p : Pos} (h : isTup x = false) : swappedStores [.Tuple es kk p] x env = pure none := by cases x <;> first | rfl | cases h
theorem get_list : PGet X (rIxL X.K) := by
  intro pins s σ H o i ov iv Q I ro ri h
  obtain ⟨p, xs, i, z, rfl, rfl, hq, he, q⟩ := h
  cases ro
  obtain ⟨t, rfl⟩ := ri
  obtain ⟨its, r, pl, hz⟩ := I.list hq
  obtain ⟨j, h1, h2, h3, h4, h5⟩ := atI_get he
  obtain ⟨w, ew, rw'⟩ := r.get h2
  have hl := r.length
  have hn := line63
  have fin : EP X pins σ Q w s := ⟨z, H, I, rw', q⟩
  by_cases h0 : 0 ≤ i
  · have hj : i.toNat = j := by
      rw [seqIndex_of h0 h5] at h1
      exact Option.some.inj h1
    exact wpAny_getItem_list pl.isList h0 (by omega) (by rw [hj]; simpa using ew) fin
  · have hj : (i + (its.toArray.size : Int)).toNat = j := by
      rw [seqIndex_neg (by omega) h4] at h1
      rw [List.size_toArray, ← hl]
      exact Option.some.inj h1
    exact wpAny_getItem_list_neg pl.isList (by omega) (by rw [List.size_toArray] <;> omega) (by omega) (by rw [hj]; simpa using ew) fin
/-- name op= value -/
def rAug : Bo → R2
  | .add => fun x y H Q => (rI0 fun i j => .int (i + j)) x y H Q ∨ ∃ a b, x = .str a ∧ y = .str b ∧ a.length + b.length ≤ sizeLine ∧ Q (.str (a ++ b)) H
  | .sub => rI0 fun i j => .int (i - j)
  | .bor => rI0 fun i j => .int (Builtin.bitOr i j)
  | _ => fun _ _ _ _ => False
theorem iadd_ok : PIp X .Add (rAug .add) := by
  intro pins s σ H x y v u Q I r1 r2 h
  rcases h with h | ⟨a, b, rfl, rfl, hl, q⟩
  · exact iop_add pins s σ H x y v u Q I r1 r2 h
  · obtain ⟨t, rfl⟩ := r1
    obtain ⟨t', rfl⟩ := r2
    exact PySem.SB.iadd (fun t' k => ⟨.str _, H, I.tok _, ⟨_, rfl⟩, q⟩) hl
theorem rAug_ok {o : Bo} {op : Operator} (h : boIs o op = true) (h2 : augOk o = true) : PIp X op (rAug o) := by
  cases o <;> (first | (cases h2; done) | skip)
  · cases op <;> first | (cases h; done) | exact iadd_ok
  · cases op <;> first | (cases h; done) | exact iop_sub
  · cases op <;> first | (cases h; done) | exact iop_or
def flV : D → V
  | .int i => .int i
  | .str x => .str x
  | _ => .non
theorem flV_rep {B : Avd} {d : D} {m : Nat} (h : isFlat d = true) : Rep T H B (flV d) d m [] := by
  cases d <;> first | (cases h; done) | exact .int | exact .str
theorem rAug_do {o : Bo} {d1 d2 d : D} {n n1 n2 : Nat} {v1 v2 : V} {B1 B2 : Avd} {F1 F2 : List Addr} {Q : VK} (h2 : augOk o = true) (r1 : Rep T H B1 v1 d1 n1 F1) (r2 : Rep T H' B2 v2 d2 n2 F2) (e : binD o d1 d2 = .ok (d, n)) (f1 : isFlat d1 = true) (f : isFlat d = true) (q : Q (flV d) H1) : rAug o v1 v2 H1 Q := by
  cases d1 <;> (first | (cases f1; done) | skip)
  · rename_i i
    cases d2 <;> cases o <;> (first | (cases h2; done) | (cases e; done) | skip)
    · cases e; exact .inl ⟨_, _, r1.int_inv, r2.int_inv, q⟩
    · cases e; exact ⟨_, _, r1.int_inv, r2.int_inv, q⟩
    · cases e; exact ⟨_, _, r1.int_inv, r2.int_inv, q⟩
  · rename_i x
    cases d2 <;> cases o <;> (first | (cases h2; done) | (cases e; done) | skip)
    · rename_i y
      simp only [binD] at e
      split at e
      · rename_i hl
        cases e
        exact .inr ⟨_, _, r1.str_inv, r2.str_inv, lim_le hl, q⟩
      · cases e
end
end Hc
set_option Elab.async false
set_option linter.all false
set_option maxRecDepth 100000
set_option maxHeartbeats 4000000
/-! Statements, one by one. -/
namespace Hc
open PySem PySem.Spec PyProof.Rows L2
section
variable {T : Tab} {ev : Ev} {H H' H1 : Hp} {A : Avd} {X : Cx} {pos : Pos} {cc : Cc} {kk : Nat}
variable {σ σ' : L2.St} {Φ Φ' : Nat → List Addr} {En : Ends} {s s' : Sg} {e : E} {x : Expr}

theorem len_of {pins : List (Addr × Obj)} {sh : Shared} {i : Nat} {nm : Str} (I : L2.Inv X pins σ H sh) (hi : X.N[i]? = some nm) : i < σ.length := by
  rw [I.len]
  exact (List.getElem?_eq_some_iff.mp hi).1
theorem set_read {i : Nat} (k : SOk T H A s σ Φ) (o : OcOk T ev A σ H Φ En (evS ev (.set (.nm i) e) s)) (hl : i < σ.length) : tE T ev e σ H fun x H1 => gName i x σ H1 En.nx := by
  rw [evS] at o
  obtain ⟨⟨d, n, s'⟩, h1, o⟩ := oc_ok o
  obtain ⟨hc, o⟩ := if_ok o
  obtain ⟨Φ', A0, u⟩ := use_ok k h1
  simp only [Bool.and_eq_true, decide_eq_true_eq, Bool.not_eq_true'] at hc
  obtain ⟨⟨hc1, hc2⟩, hc3⟩ := hc
  refine u.te (Same.refl H) fun v H' F s2 f r => ?_
  refine o _ _ _ ⟨u.k.set s2 f r (by rw [u.r]; exact hc1) (by rw [u.ol]; exact hc2) hl, .same s2 fun j b hb => ?_, fun hk hj => ?_⟩
  · by_cases hj : j = i
    · simp [hj] at hb; exact .inr (f b hb)
    · simp [hj] at hb; exact .inl (u.sub j b hb)
  · exact List.getElem?_set_ne fun z => by rw [z, List.contains_iff_mem.mpr hj] at hc3; cases hc3
theorem bind_read {t : Tg} {d : D} {s2 : Sg} {v : V} {Q : L2.St → Hp → Prop} (k : SOk T H A s σ Φ) (r : Rep T H (Own A Φ) v d 0 []) (h : bindS ev t d s = .ok s2) (q : ∀ σ2 Φ2, Rch T ev A σ H Φ s2 σ2 H Φ2 → Q σ2 H) : gT T t v σ H Q := by
  unfold bindS at h
  split at h
  · cases h
  · rename_i hk
    obtain ⟨r', h1, h2⟩ := Rs.bind_ok h
    cases h2
    refine ⟨Own A Φ, s.r, r', d, r, of_ok h1, fun σ2 b => q σ2 _ ⟨k.bind b, ⟨fun _ _ h _ => h, fun _ h => h, frz_come⟩, fun hk2 hi2 => ?_⟩⟩
    have h0 : hk2 ∉ tgs t := fun z => hk (List.any_eq_true.mpr ⟨hk2, z, List.contains_iff_mem.mpr hi2⟩)
    exact (b.off hk2 h0).2
theorem s_set {i : Nat} {nm : Str} {py : Pos} (C : Sx T cc ev kk X) (hi : X.N[i]? = some nm) (hl : loc X.env.scope nm = true) (he : PE X x (tE T ev e)) (hs : swapsWith x (some (.Name nm py)) pos.line X.env = pure false) : PS X (.Assign [.Name nm py] x pos) (tS T ev (evS ev (.set (.nm i) e))) := ⟨fun pins s σ H En I ⟨A, sg, Φ, k, o⟩ =>
  (ps_set C.nd hi (C.tk _ hl).1 he hs (C.tk _ hl).2).run pins s σ H En I (set_read k o (len_of I hi))⟩
theorem s_setT {ts : List Tg} {es : List Expr} {tp : Pos} {k2 : Nat} (C : Sx T cc ev kk X) (ht : cvT cc X.env.scope (.tp ts) (.Tuple es k2 tp) = true) (he : PE X x (tE T ev e)) (hx : isTup x = false) : PS X (.Assign [.Tuple es k2 tp] x pos) (tS T ev (evS ev (.set (.tp ts) e))) := ⟨fun pins s σ H En I ⟨A, sg, Φ, k, o⟩ => by
  refine (ps_asg he (g_ok C.toCtx C.tk ht) (by cases x <;> rfl) (sst_tup hx)).run pins s σ H En I ?_
  show tE T ev e σ H fun x H1 => gT T (.tp ts) x σ H1 En.nx
  rw [evS] at o
  obtain ⟨⟨d, n, s'⟩, h1, o⟩ := oc_ok o
  obtain ⟨s2, h2, o⟩ := oc_ok o
  obtain ⟨Φ', A0, u⟩ := use_ok k h1
  refine u.te (Same.refl H) fun v H' F s2 f r => ?_
  refine bind_read (u.k.same s2) (r.low0 (u.k.allB.not f)) h2 fun σ2 Φ2 q => o _ _ Φ2 ?_
  exact (Rch.same (s := sg) k u.k u.sub s2).trans q⟩
theorem s_aug {i : Nat} {nm : Str} {py : Pos} {op : Operator} {b : Bo} (C : Sx T cc ev kk X) (hi : X.N[i]? = some nm) (hl : loc X.env.scope nm = true) (ho : boIs b op = true) (ha : augOk b = true) (he : PE X x (tE T ev e)) : PS X (.AugAssign (.Name nm py) op x pos) (tS T ev (evS ev (.aug i b e))) := ⟨fun pins s σ H En I ⟨A, sg, Φ, k, o⟩ => by
  refine (ps_aug C.nd hi (C.tk _ hl).1 he (rAug_ok ho ha) (C.tk _ hl).2).run pins s σ H En I ?_
  rw [evS] at o
  split at o
  · rename_i d hd
    obtain ⟨⟨d2, n2⟩, h1, o⟩ := oc_ok o
    obtain ⟨⟨z, n⟩, h2, o⟩ := oc_ok o
    obtain ⟨hc, o⟩ := if_ok o
    simp only [Bool.and_eq_true, decide_eq_true_eq, Bool.not_eq_true'] at hc
    obtain ⟨⟨⟨c1, c2⟩, c3⟩, c4⟩ := hc
    obtain ⟨v, hv, rv⟩ := k.slot i d hd
    refine ⟨v, hv, fun _ => False, sg.r, d2, n2, all0, k.view0 _, h1, fun w H' F s1 f r => ?_⟩
    refine rAug_do ha rv r h2 c1 c2 (o _ _ _ ⟨k.set (F := []) s1 (fun b hb => absurd hb (by simp)) (flV_rep c2) ?_ c3 (len_of I hi), .same s1 fun j b hb => ?_, fun hk hj => ?_⟩)
    · exact (List.getElem?_eq_some_iff.mp hd).1
    · by_cases hj : j = i
      · simp [hj] at hb
      · simp [hj] at hb; exact .inl hb
    · exact List.getElem?_set_ne fun z => by rw [z, List.contains_iff_mem.mpr hj] at c4; cases c4
  · exact (show False from o).elim⟩

/-! ### methods of a list -/
theorem m_call {nm : Str} {id : String} {ap cp : Pos} {y ox : Expr} {r : V → List V → Hp → VK → Prop} {te to : TE} (slot : Slot "list" nm id) (hty : typeOf (.builtin id) = pure (.type "method_descriptor")) (hm : MtR X id r) (ho : PE X ox to) (hy : noStar y = true) (he : PE X y te) (hb : nBase ox = true) (hl : (ap.endLine == cp.line) = true) :
    PS X (.Expr (.Call (.Attribute ox nm ap) [y] [] cp) pos) (tDrop (tBM X.K "list" r to (tCons te tNil))) :=
  ps_expr (pe_bm PySem.F.plainAttrs_list slot hty hm ho (pa_cons he pa_nil (star_cons hy _ _)) (nBase_ok hb) (by rw [star_cons hy]; rfl) hl (star_cons hy _ _) rfl)
theorem m_call0 {nm : Str} {id : String} {ap cp : Pos} {ox : Expr} {r : V → List V → Hp → VK → Prop} {to : TE} (slot : Slot "list" nm id) (hty : typeOf (.builtin id) = pure (.type "method_descriptor")) (hm : MtR X id r) (ho : PE X ox to) (hb : nBase ox = true) (hl : (ap.endLine == cp.line) = true) :
    PE X (.Call (.Attribute ox nm ap) [] [] cp) (tBM0 X.K "list" r to) := pe_bm0 PySem.F.plainAttrs_list slot hty hm ho (nBase_ok hb) hl
theorem more_own {B : Avd} {vs : List V} {ds : List D} {n : Nat} {G G' : List Addr} (r : RepL T H B vs ds n G) (h : ∀ b ∈ G', B b ∨ H b = none) : RepL T H (B.more G') vs ds n G := r.avoid fun b hb z => by
  rcases z with z | z
  · exact z
  · rcases h b z with h | h
    · exact h
    · exact absurd h hb
theorem s_app {p : P} {y ox : Expr} {ap cp : Pos} (C : Sx T cc ev kk X) (hp : PE X ox (tP T ev p)) (hy : noStar y = true) (he : PE X y (tE T ev e)) (hb : nBase ox = true) (hl : (ap.endLine == cp.line) = true) : PS X (.Expr (.Call (.Attribute ox (sStr "append") ap) [y] [] cp) pos) (tS T ev (evS ev (.app p e))) := ⟨fun pins s σ H En I ⟨A, sg, Φ, k, o⟩ => by
  refine (m_call PySem.F.slot_list_append PySem.F.type_list_append mt_append hp hy he hb hl).run pins s σ H En I ?_
  rw [evS] at o
  obtain ⟨⟨d, n, s'⟩, h1, o⟩ := oc_ok o
  obtain ⟨⟨dl, nl⟩, h2, o⟩ := oc_ok o
  dsimp only at o
  split at o
  · rename_i ds m
    obtain ⟨hc, o⟩ := if_ok o
    obtain ⟨s2, h3, o⟩ := oc_ok o
    obtain ⟨hc1, hc2⟩ := Bool.and_eq_true_iff.mp hc
    have hc2 := of_decide_eq_true hc2
    obtain ⟨Φ', A0, u⟩ := use_ok k h1
    obtain ⟨a, vs, G, g1, g2, g3, g4, g6, g5⟩ := lst_put u.k h2
    refine ⟨sg.r, .ref a, k.view0 _, by rw [← u.r]; exact g1, fun H1 s1 => ⟨.inl ⟨rfl, vs, SqL.of (s1 _ _ g2)⟩, ?_⟩⟩
    refine u.te s1 fun v H2 F s2' f r => ?_
    have hF : ∀ b ∈ F, H b = none := fun b hb => s1.dom b (f b hb)
    obtain ⟨F', hF', r'⟩ := fit_rep hc1 r (fun b hb => u.k.allB.not hF b hb)
    have hf' : ∀ b ∈ F', H b = none := fun b hb => hF b (hF' b hb)
    have s3 : Same H H2 := s1.trans s2'
    have gl : vs.length < sizeLine := by
      have h4 := g3.length
      have h5 : lim < sizeLine := by decide
      omega
    refine ⟨a, vs, v, rfl, rfl, s3 _ _ g2, gl, ?_⟩
    have hG : ∀ b ∈ G, b ∉ F' := fun b hb z => g3.there b hb (hf' b z)
    have fr : ∀ b ∈ G ++ F', Own A Φ' b ∨ H b = none := fun b hb => by
      rcases List.mem_append.mp hb with h | h
      · exact .inl (g6 b h)
      · exact .inr (hf' b h)
    obtain ⟨s4, Φ2, e4, r4⟩ := g5 H2 (vs ++ [v]) (ds ++ [d]) (G ++ F') s3 (RepL.snoc ((more_own g3 fr).same s3) (r'.avoid fun b hb z => by
        rcases z with z | z
        · exact .inl z
        · rcases List.mem_append.mp z with z | z
          · exact .inl (g6 b z)
          · exact .inr z) hG) (fun b hb => by
        rcases List.mem_append.mp hb with h | h
        · exact .inl h
        · exact .inr (hf' b h))
    rw [h3] at e4
    cases e4
    exact o _ _ _ ((Rch.same (s := sg) k u.k u.sub (Same.refl H)).trans r4)
  · exact (show False from o).elim⟩
theorem s_ext {p : P} {y ox : Expr} {ap cp : Pos} (C : Sx T cc ev kk X) (hp : PE X ox (tP T ev p)) (hy : noStar y = true) (he : PE X y (tE T ev e)) (hb : nBase ox = true) (hl : (ap.endLine == cp.line) = true) : PS X (.Expr (.Call (.Attribute ox (sStr "extend") ap) [y] [] cp) pos) (tS T ev (evS ev (.ext p e))) := ⟨fun pins s σ H En I ⟨A, sg, Φ, k, o⟩ => by
  refine (m_call PySem.F.slot_list_extend PySem.F.type_list_extend mt_extend hp hy he hb hl).run pins s σ H En I ?_
  rw [evS] at o
  obtain ⟨⟨d, n, s'⟩, h1, o⟩ := oc_ok o
  obtain ⟨⟨dl, nl⟩, h2, o⟩ := oc_ok o
  dsimp only at o
  split at o
  · rename_i ds es _
    obtain ⟨hc, o⟩ := if_ok o
    obtain ⟨s2, h3, o⟩ := oc_ok o
    obtain ⟨Φ', A0, u⟩ := use_ok k h1
    obtain ⟨a, vs, G, g1, g2, g3, g4, g6, g5⟩ := lst_put u.k h2
    have hG : G = [] := g3.zero rfl
    subst hG
    refine ⟨sg.r, .ref a, k.view0 _, by rw [← u.r]; exact g1, fun H1 s1 => ⟨.inl ⟨rfl, vs, SqL.of (s1 _ _ g2)⟩, ?_⟩⟩
    refine u.te s1 fun v H2 F s2' f r => ?_
    have s3 : Same H H2 := s1.trans s2'
    have r' := r.low0 ((u.k.allB.same s1).not f)
    obtain ⟨b, ws, rfl, q1, q2, q3⟩ := r'.lst_inv
    have gl : vs.length + ws.length ≤ sizeLine := by
      have h4 := g3.length
      have h6 := q3.length
      have h5 : lim < sizeLine := by decide
      omega
    refine ⟨a, b, vs, ws, rfl, rfl, s3 _ _ g2, q1, gl, ?_⟩
    obtain ⟨s4, Φ2, e4, r4⟩ := g5 H2 (vs ++ ws) (ds ++ es) [] s3 (RepL.append q3 (g3.same s3)).more0 (fun b hb => absurd hb (by simp))
    rw [h3] at e4
    cases e4
    exact o _ _ _ ((Rch.same (s := sg) k u.k u.sub (Same.refl H)).trans r4)
  · exact (show False from o).elim⟩
theorem s_rev {p : P} {ox : Expr} {ap cp : Pos} (C : Sx T cc ev kk X) (hp : PE X ox (tP T ev p)) (hb : nBase ox = true) (hl : (ap.endLine == cp.line) = true) : PS X (.Expr (.Call (.Attribute ox (sStr "reverse") ap) [] [] cp) pos) (tS T ev (evS ev (.rev p))) := ⟨fun pins s σ H En I ⟨A, sg, Φ, k, o⟩ => by
  refine (ps_expr (m_call0 PySem.F.slot_list_reverse PySem.F.type_list_reverse mt_reverse hp hb hl)).run pins s σ H En I ?_
  rw [evS] at o
  obtain ⟨⟨dl, nl⟩, h2, o⟩ := oc_ok o
  dsimp only at o
  split at o
  · rename_i ds
    obtain ⟨s2, h3, o⟩ := oc_ok o
    obtain ⟨a, vs, G, g1, g2, g3, g4, g6, g5⟩ := lst_put k h2
    have hG : G = [] := g3.zero rfl
    subst hG
    refine ⟨sg.r, .ref a, k.view0 _, g1, fun H1 s1 => ⟨.inl ⟨rfl, vs, SqL.of (s1 _ _ g2)⟩, a, vs, rfl, rfl, s1 _ _ g2, ?_⟩⟩
    obtain ⟨s4, Φ2, e4, r4⟩ := g5 H1 vs.reverse ds.reverse [] s1 (g3.same s1).reverse.more0 (fun b hb => absurd hb (by simp))
    rw [h3] at e4
    cases e4
    exact o _ _ _ r4
  · exact (show False from o).elim⟩
theorem RepL.last {B : Avd} {vs : List V} {ds : List D} {n : Nat} {d : D} (r : RepL T H B vs ds n []) (h : ds[ds.length - 1]? = some d) : ∃ v, vs[vs.length - 1]? = some v ∧ Rep T H B v d n [] := by
  rw [r.length]
  exact r.get h
theorem s_pop {p : P} {t : Tg} {tg ox : Expr} {ap cp : Pos} (C : Sx T cc ev kk X) (hp : PE X ox (tP T ev p)) (ht : cvT cc X.env.scope t tg = true) (hb : nBase ox = true) (hl : (ap.endLine == cp.line) = true) : PS X (.Assign [tg] (.Call (.Attribute ox (sStr "pop") ap) [] [] cp) pos) (tS T ev (evS ev (.pop t p))) := ⟨fun pins s σ H En I ⟨A, sg, Φ, k, o⟩ => by
  refine (ps_asg (m_call0 PySem.F.slot_list_pop PySem.F.type_list_pop mt_pop hp hb hl) (g_ok C.toCtx C.tk ht) rfl ?_ ?_).run pins s σ H En I ?_
  · cases tg <;> first | rfl | (cases t <;> cases ht)
  · cases tg <;> first | rfl | (cases t <;> cases ht)
  show tP T ev p σ H _
  rw [evS] at o
  obtain ⟨⟨dl, nl⟩, h2, o⟩ := oc_ok o
  dsimp only at o
  split at o
  · rename_i ds
    split at o
    · rename_i d hd
      obtain ⟨s2, h3, o⟩ := oc_ok o
      obtain ⟨s3, h4, o⟩ := oc_ok o
      obtain ⟨a, vs, G, g1, g2, g3, g4, g6, g5⟩ := lst_put k h2
      have hG : G = [] := g3.zero rfl
      subst hG
      obtain ⟨v, hv, rv⟩ := g3.last hd
      refine ⟨sg.r, .ref a, k.view0 _, g1, fun H1 s1 => ⟨.inl ⟨rfl, vs, SqL.of (s1 _ _ g2)⟩, a, vs, v, rfl, rfl, s1 _ _ g2, hv, ?_⟩⟩
      obtain ⟨s4, Φ2, e4, r4⟩ := g5 H1 vs.dropLast ds.dropLast [] s1 (g3.same s1).dropLast.more0 (fun b hb => absurd hb (by simp))
      rw [h3] at e4
      cases e4
      have rv2 : Rep T (upd H1 a (.lst vs.dropLast)) (Own A Φ2) v d 0 [] := by
        have q1 : Rep T H (fun b => Own A Φ b ∨ Own A Φ2 b) v d 0 [] := rv.avoid fun b hb z => by
          rcases z with z | z | ⟨j, z⟩
          · exact z
          · exact .inl z
          · rcases r4.st.come j b z with z | z
            · exact .inr ⟨j, z⟩
            · exact absurd z hb
        have q2 := q1.keep (H' := upd H1 a (.lst vs.dropLast)) (E := []) (fun b hb => hb) fun b ob hb q => by
          by_cases e : b = a
          · subst e
            rw [g2] at hb
            cases hb
            rcases q trivial with z | z
            · exact absurd (.inl g4) z
            · simp at z
          · rw [upd_ne e]; exact s1 _ _ hb
        exact q2.avoid fun b _ z => .inr z
      exact bind_read r4.k rv2 h4 fun σ2 Φ3 q => o _ _ Φ3 (r4.trans q)
    · exact (show False from o).elim
  · exact (show False from o).elim⟩
theorem sws_no {x tg : Expr} {l : Nat} {env : Env} (h : noSw x = true) : swapsWithSole [tg] x l env = pure false := by
  unfold swapsWithSole
  exact sw_no h
theorem s_sto {p : P} {ei : E} {y ox : Expr} {px : Pos} (C : Sx T cc ev kk X) (hp : PE X ox (tP T ev p)) (hi : PE X y (tE T ev ei)) (hj : ixPl y = true) (he : PE X x (tE T ev e)) (hx : noSw x = true) : PS X (.Assign [.Subscript ox y px] x pos) (tS T ev (evS ev (.sto p ei e))) := ⟨fun pins s σ H En I ⟨A, sg, Φ, k, o⟩ => by
  refine (ps_asg he (pg_sub hp hi (set_x (hu_ctx C.toCtx)) (by cases y <;> first | (intro _; rfl) | cases hj)) (sws_no hx) sst_sub rfl).run pins s σ H En I ?_
  show tE T ev e σ H _
  rw [evS] at o
  obtain ⟨⟨d, n, s'⟩, h1, o⟩ := oc_ok o
  obtain ⟨⟨dl, nl⟩, h2, o⟩ := oc_ok o
  obtain ⟨⟨di, ni⟩, h5, o⟩ := oc_ok o
  dsimp only at o
  split at o
  · rename_i ds m _
    obtain ⟨j, hj, o⟩ := oc_ok o
    obtain ⟨s2, h3, o⟩ := oc_ok o
    obtain ⟨Φ', A0, u⟩ := use_ok k h1
    obtain ⟨a, vs, G, g1, g2, g3, g4, g6, g5⟩ := lst_put u.k h2
    have hG : G = [] := g3.zero rfl
    subst hG
    refine u.te (Same.refl H) fun v H1 F s1 f r => ?_
    have r' := r.low0 (u.k.allB.not f)
    refine ⟨sg.r, .ref a, (k.view0 _).same s1, by rw [← u.r]; exact g1.same s1, fun H2 s2' => ?_⟩
    refine ⟨fun _ => False, sg.r, _, ni, all0, ((k.view0 _).same s1).same s2', h5, fun w H3 F2 s3 f2 r2 => ?_⟩
    have s4 : Same H H3 := (s1.trans s2').trans s3
    rw [r2.int_inv]
    refine .inl ⟨a, vs, _, j, rfl, rfl, s4 _ _ g2, by rw [g3.length]; exact of_ok hj, ?_⟩
    obtain ⟨s5, Φ2, e4, r4⟩ := g5 H3 (vs.set j v) (ds.set j d) [] s4 (RepL.set0 (g3.same s4) (r'.same (s2'.trans s3))).more0 (fun b hb => absurd hb (by simp))
    rw [h3] at e4
    cases e4
    exact o _ _ _ ((Rch.same (s := sg) k u.k u.sub (Same.refl H)).trans r4)
  · rename_i ks ds kd _
    obtain ⟨kk, hk, o1⟩ := oc_ok o
    obtain ⟨hc, o2⟩ := if_ok o1
    obtain ⟨s2, h3, o3⟩ := oc_ok o2
    have hk := of_ok hk
    obtain ⟨Φ', A0, u⟩ := use_ok k h1
    obtain ⟨a, kvs, g1, g2, rfl, g3, g5⟩ := dct_put u.k h2
    refine u.te (Same.refl H) fun v H1 F s1 f r => ?_
    have r' := r.low0 (u.k.allB.not f)
    refine ⟨sg.r, .ref a, (k.view0 _).same s1, by rw [← u.r]; exact g1.same s1, fun H2 s2' => ?_⟩
    refine ⟨fun _ => False, sg.r, _, ni, all0, ((k.view0 _).same s1).same s2', h5, fun w H3 F2 s3 f2 r2 => ?_⟩
    have s4 : Same H H3 := (s1.trans s2').trans s3
    rw [keyOf_rep r2 hk]
    have hlen : kvs.length < sizeLine := by
      have h5 : lim < sizeLine := by decide
      simp at hc
      omega
    refine .inr ⟨a, _, rfl, .k (s4 _ _ g2) hlen, ?_⟩
    obtain ⟨p1, p2⟩ := putK_rep (k := kk) (r'.same (s2'.trans s3)) (g3.same s4)
    obtain ⟨s5, Φ2, e4, r4⟩ := g5 H3 _ _ s4 p2
    rw [p1, h3] at e4
    cases e4
    exact o3 _ _ _ ((Rch.same (s := sg) k u.k u.sub (Same.refl H)).trans r4)
  · exact (show False from o).elim⟩
theorem ixN_some {n j : Nat} {i : Int} (h : ixN n i = some j) {α : Type} (xs : List α) (hl : xs.length = n) : L2.atI xs i = xs[j]? := by
  unfold L2.atI
  rw [hl, h]
  rfl
theorem s_sta {p : P} {ei : E} {y ox : Expr} {px : Pos} {b : Bo} {op : Operator} (C : Sx T cc ev kk X) (hp : PE X ox (tP T ev p)) (hi : PE X y (tE T ev ei)) (hj : ixPl y = true) (ho : boIs b op = true) (ha : augOk b = true) (he : PE X x (tE T ev e)) : PS X (.AugAssign (.Subscript ox y px) op x pos) (tS T ev (evS ev (.sta p ei b e))) := ⟨fun pins s σ H En I ⟨A, sg, Φ, k, o⟩ => by
  refine (ps_augS hp hi get_list he (rAug_ok ho ha) set_list (by cases y <;> first | (intros; rfl) | cases hj)).run pins s σ H En I ?_
  show tP T ev p σ H _
  rw [evS] at o
  obtain ⟨⟨dl, nl⟩, h2, o⟩ := oc_ok o
  obtain ⟨⟨di, ni⟩, h5, o⟩ := oc_ok o
  dsimp only at o
  split at o
  · rename_i ds m _
    obtain ⟨j, hj, o⟩ := oc_ok o
    obtain ⟨d, hd, o⟩ := oc_ok o
    obtain ⟨⟨w, nw⟩, hw, o⟩ := oc_ok o
    obtain ⟨⟨q, nq⟩, hq, o⟩ := oc_ok o
    obtain ⟨hc, o⟩ := if_ok o
    obtain ⟨c1, c2⟩ := Bool.and_eq_true_iff.mp hc
    obtain ⟨s2, h3, o⟩ := oc_ok o
    obtain ⟨a, vs, G, g1, g2, g3, g4, g6, g5⟩ := lst_put k h2
    have hG : G = [] := g3.zero rfl
    subst hG
    have hj := of_ok hj
    have hd := of_ok hd
    obtain ⟨v, hv, rv⟩ := g3.get hd
    refine ⟨sg.r, .ref a, k.view0 _, g1, fun H1 s1 => ?_⟩
    refine ⟨fun _ => False, sg.r, _, ni, all0, (k.view0 _).same s1, h5, fun w1 H2 F2 s3 f2 r2 => ?_⟩
    rw [r2.int_inv]
    have s4 : Same H H2 := s1.trans s3
    refine ⟨a, vs, _, v, rfl, rfl, SqL.of (s4 _ _ g2), by rw [ixN_some hj vs g3.length]; exact hv, ?_⟩
    refine ⟨fun _ => False, sg.r, w, nw, all0, (k.view0 _).same s4, hw, fun w2 H3 F3 s5 f3 r3 => ?_⟩
    have s6 : Same H H3 := s4.trans s5
    refine rAug_do ha rv r3 hq c1 c2 ?_
    refine ⟨a, vs, _, j, rfl, rfl, s6 _ _ g2, by rw [g3.length]; exact hj, ?_⟩
    obtain ⟨s7, Φ2, e4, r4⟩ := g5 H3 (vs.set j (flV q)) (ds.set j q) [] s6 (RepL.set0 (g3.same s6) (flV_rep c2)).more0 (fun b hb => absurd hb (by simp))
    rw [h3] at e4
    cases e4
    exact o _ _ _ r4
  · exact (show False from o).elim⟩
theorem s_drop (hs : noSw x = true) (he : PE X x (tE T ev e)) : PS X (.Expr x pos) (tS T ev (evS ev (.drop e))) := ⟨fun pins s σ H En I ⟨A, sg, Φ, k, o⟩ => by
  refine (ps_expr he (sw_no hs)).run pins s σ H En I ?_
  rw [evS] at o
  obtain ⟨⟨d, n⟩, h1, o⟩ := oc_ok o
  exact ⟨fun _ => False, sg.r, d, n, all0, k.view0 _, h1, fun v H' F s1 f r => o _ _ _ (.same k k (fun _ _ h => h) s1)⟩⟩
theorem ret_eq (h : ∀ i, e ≠ .var i) : evS ev (.ret e) s = (evE ev e s.r).oc fun x => if clean x.1 x.2 || s.o.getD 0 0 == 0 || !(vars e).contains 0 then .rt x.1 x.2 s else .bad := by
  cases e <;> first | rfl | exact absurd rfl (h _)
theorem SOk.none0 (k : SOk T H A s σ Φ) {i : Nat} (h : s.o.getD i 0 = 0) : Φ i = [] := by
  cases q : s.r[i]? with
  | none => exact k.non i fun d => by rw [q]; simp
  | some z =>
    cases z with
    | none => exact k.non i fun d => by rw [q]; simp
    | some d =>
      obtain ⟨v, _, r⟩ := k.slot i d q
      exact r.zero h
theorem slot0 (k : SOk T H A s σ Φ) (e : Same H H') {F : List Addr} (f : Frs F H) : ∀ x, s.r[0]? = some (some x) → ∃ v0, σ[0]? = some (some v0) ∧ Rep T H' (Avd.more (fun b => A b ∨ b ∈ Φ 0) F) v0 x (s.o.getD 0 0) (Φ 0) := fun x hx => by
  obtain ⟨v0, q1, q2⟩ := k.slot 0 x hx
  refine ⟨v0, q1, (q2.avoid fun b hb z => ?_).same e⟩
  rcases z with (z | z) | z
  · exact .inl z
  · exact .inr ⟨0, z⟩
  · exact absurd (f b z) hb
theorem s_ret (C : Sx T cc ev kk X) (hc : cvE cc X.env.scope e x = true) : PS X (.Return (some x) pos) (tS T ev (evS ev (.ret e))) := ⟨fun pins s σ H En I ⟨A, sg, Φ, k, o⟩ => by
  by_cases hv : ∃ i, e = .var i
  · obtain ⟨i, rfl⟩ := hv
    rw [evS] at o
    split at o
    · rename_i d hd
      split at o
      · exact (show False from o).elim
      · rename_i h0
        obtain ⟨v, hv, rv⟩ := k.slot i d hd
        cases x with
        | Name nm ps =>
          simp only [cvE, Bool.and_eq_true, decide_eq_true_eq] at hc
          refine (ps_ret (pe_var (by rw [C.N]; exact hc.1.1.1) (C.vis hc.1.1.2) (bv hc.1.2) (bv hc.2))).run pins s σ H En I ⟨v, hv, ?_⟩
          have hi : i = 0 → Φ i = [] := fun z => k.none0 (by
            subst z
            have h0 : (0 == 0 && sg.o.getD 0 0 != 0) ≠ true := h0
            simpa using h0)
          refine o v σ H (Φ i) Φ (.refl k) (fun b hb z => ?_) (fun b hb => .inl ⟨i, fun z => ?_, hb⟩) (rv.avoid fun b _ z => ?_) fun x hx => ?_
          · have := k.dis i 0 b hb z
            rw [hi this] at hb
            simp at hb
          · rw [hi z] at hb
            simp at hb
          · rcases z with (z | z) | z
            · exact .inl z
            · exact .inr ⟨0, z⟩
            · exact .inr ⟨i, z⟩
          · obtain ⟨v0, q1, q2⟩ := k.slot 0 x hx
            refine ⟨v0, q1, q2.avoid fun b _ z => ?_⟩
            rcases z with (z | z) | z
            · exact .inl z
            · exact .inr ⟨0, z⟩
            · exact .inr ⟨i, z⟩
        | _ => simp [cvE] at hc
    · exact (show False from o).elim
  · refine (ps_ret ((snd e).pe C.toCtx hc)).run pins s σ H En I ?_
    rw [ret_eq fun i z => hv ⟨i, z⟩] at o
    obtain ⟨⟨d, n⟩, h1, o⟩ := oc_ok o
    obtain ⟨hc2, o⟩ := if_ok o
    by_cases hcl : clean d n = true
    · refine ⟨fun _ => False, sg.r, d, n, all0, k.view0 _, h1, fun v H' F s1 f r => ?_⟩
      exact o v σ H' F Φ (.same k k (fun _ _ h => h) s1) (fun b hb z => k.there 0 b z (f b hb)) (fun b hb => .inr (f b hb)) (r.clean hcl) (slot0 k s1 f)
    · have k' := k.frz (vars e)
      refine ⟨Own A _, sg.r, d, n, k'.allB, fun i hi d' hd => ?_, h1, fun v H' F s1 f r => ?_⟩
      · obtain ⟨v, h3, h4⟩ := k'.slot i d' hd
        refine ⟨v, h3, ?_⟩
        have e1 : (sg.frz (vars e)).o.getD i 0 = 0 := by
          show (zero sg.o (vars e)).getD i 0 = 0
          rw [zero_get, if_pos hi]
        rw [e1] at h4
        simpa [hi] using h4
      · refine o v σ H' F Φ (.same k k (fun _ _ h => h) s1) (fun b hb z => k.there 0 b z (f b hb)) (fun b hb => .inr (f b hb)) (r.avoid fun b _ z => ?_) (slot0 k s1 f)
        rcases z with (z | z) | z
        · exact .inl (.inl z)
        · refine .inl (.inr ⟨0, ?_⟩)
          by_cases h0 : 0 ∈ vars e
          · have : sg.o.getD 0 0 = 0 := by simpa [hcl, h0] using hc2
            rw [k.none0 this] at z
            simp at z
          · simpa [h0] using z
        · exact .inr z⟩
theorem s_retn : PS X (.Return none pos) (tS T ev (evS ev .retn)) := ⟨fun pins s σ H En I ⟨A, sg, Φ, k, o⟩ => by
  refine ps_retN.run pins s σ H En I ?_
  rw [evS] at o
  exact o .non σ H [] Φ (.refl k) (fun b hb => absurd hb (by simp)) (fun b hb => absurd hb (by simp)) .non (slot0 k (Same.refl H) fun b hb => absurd hb (by simp))⟩
theorem s_ite {t : E} {a b : Ss} {xs ys : List Stmt} (ht : PT X x (tT T ev t)) (ha : PSs X xs (tS T ev (evSs ev a))) (hb : PSs X ys (tS T ev (evSs ev b))) : PS X (.If x xs ys pos) (tS T ev (evS ev (.ite t a b))) := ⟨fun pins s σ H En I ⟨A, sg, Φ, k, o⟩ => by
  refine (ps_if ht ha hb).run pins s σ H En I ?_
  rw [evS] at o
  obtain ⟨c, h1, o⟩ := oc_ok o
  refine ⟨fun _ => False, sg.r, c, all0, k.view0 _, h1, fun H' s1 => ?_⟩
  have r : Rch T ev A σ H Φ sg σ H' Φ := .same k k (fun _ _ h => h) s1
  cases c with
  | true => exact ⟨A, sg, Φ, r.k, r.oc o⟩
  | false => exact ⟨A, sg, Φ, r.k, r.oc o⟩⟩
theorem s_brk : PS X (.Break pos) (tS T ev (evS ev .brk)) := ⟨fun pins s σ H En I ⟨A, sg, Φ, k, o⟩ => ps_break.run pins s σ H En I (by
  rw [evS] at o
  exact o _ _ _ (.refl k))⟩
theorem s_cont : PS X (.Continue pos) (tS T ev (evS ev .cont)) := ⟨fun pins s σ H En I ⟨A, sg, Φ, k, o⟩ => ps_continue.run pins s σ H En I (by
  rw [evS] at o
  exact o _ _ _ (.refl k))⟩
theorem s_pass : PS X (.Pass pos) (tS T ev (evS ev .pass)) := ⟨fun pins s σ H En I ⟨A, sg, Φ, k, o⟩ => ps_pass.run pins s σ H En I (by
  rw [evS] at o
  exact o _ _ _ (.refl k))⟩
theorem s_never {st : Stmt} : PS X st (tS T ev (evS ev .never)) := ⟨fun pins s σ H En I ⟨A, sg, Φ, k, o⟩ => by
  exact (show False from o).elim⟩
/-! ### attributes stored, methods that change their instance -/
theorem s_sfl {p : P} {ox : Expr} {j : Nat} {f : Str} {px : Pos} (C : Sx T cc ev kk X) (hf : cc.fnm j = f) (hp : PE X ox (tP T ev p)) (he : PE X x (tE T ev e)) (hx : noSw x = true) : PS X (.Assign [.Attribute ox f px] x pos) (tS T ev (evS ev (.sfl p j e))) := ⟨fun pins s σ H En I ⟨A, sg, Φ, k, o⟩ => by
  refine (ps_fld hp he (sw_no hx)).run pins s σ H En I ?_
  show tE T ev e σ H _
  rw [evS] at o
  obtain ⟨⟨d, n, s'⟩, h1, o⟩ := oc_ok o
  obtain ⟨⟨dl, nl⟩, h2, o⟩ := oc_ok o
  dsimp only at o
  split at o
  · rename_i c fs ds m
    obtain ⟨hc, o⟩ := if_ok o
    obtain ⟨s2, h3, o⟩ := oc_ok o
    simp only [Bool.and_eq_true, decide_eq_true_eq] at hc
    obtain ⟨⟨hc1, hc2⟩, hc3⟩ := hc
    obtain ⟨Φ', A0, u⟩ := use_ok k h1
    obtain ⟨a, dx, vs, G, g1, g2, g3, g4, g5, g6, g7, g8⟩ := own_put u.k h2
    refine u.te (Same.refl H) fun v H1 F s1 f1 r => ?_
    refine ⟨sg.r, .ref a, (k.view0 _).same s1, by rw [← u.r]; exact g1.same s1, fun H2 s2' => ?_⟩
    have s3 : Same H H2 := s1.trans s2'
    subst hf
    rw [C.fnm]
    refine ⟨a, _, dx, _, rfl, s3 _ _ g2, C.cls c g4, C.noat c j g4 hc2, by rw [List.length_zip]; simp; omega, ?_⟩
    obtain ⟨F', hF', r'⟩ := fit_rep hc1 r (fun b hb => u.k.allB.not f1 b hb)
    have hf' : ∀ b ∈ F', H b = none := fun b hb => f1 b (hF' b hb)
    have hG : ∀ b ∈ F', b ∉ G := fun b hb z => g5.there b z (hf' b hb)
    have mo : ∀ {G' : List Addr}, (∀ b ∈ G', b ∈ G ∨ b ∈ F') → RepL T H2 ((Own A Φ').more (G ++ F')) vs ds m G ∧ Rep T H2 ((Own A Φ').more (G ++ F')) v d m F' := fun {G'} _ => by
      refine ⟨(more_own g5 fun b hb => ?_).same s3, (r'.same s2').avoid fun b hb z => ?_⟩
      · rcases List.mem_append.mp hb with h | h
        · exact .inl (g7 b h)
        · exact .inr (hf' b h)
      · rcases z with z | z
        · exact .inl z
        · rcases List.mem_append.mp z with z | z
          · exact .inl (g7 b z)
          · exact .inr z
    obtain ⟨m1, m2⟩ := mo (G' := []) (fun b hb => absurd hb (by simp))
    have fin : ∀ {fs' : List Nat} {vs' : List V} {ds' : List D} {G' : List Addr}, (fs', ds') = putFd fs ds j d → vs'.length = fs'.length → putF (T.fnm j) v ((fs.map T.fnm).zip vs) = (fs'.map T.fnm).zip vs' → RepL T H2 ((Own A Φ').more (G ++ F')) vs' ds' m G' → (∀ b ∈ G', b ∈ G ∨ b ∈ F') → En.nx σ (upd H2 a (.ins (T.cls c) dx (putF (T.fnm j) v ((fs.map T.fnm).zip vs)))) := fun {fs' vs' ds' G'} e1 e2 e3 r1 hg => by
      obtain ⟨s4, Φ2, e4, r4⟩ := g8 H2 fs' vs' ds' G' s3 e2 (r1.avoid fun b hb z => by
          rcases z with z | z
          · exact .inl z
          · rcases hg b z with z | z
            · exact .inl (g7 b z)
            · exact .inr (List.mem_append_right _ z)) (fun b hb => by
          rcases hg b hb with h | h
          · exact .inl h
          · exact .inr (hf' b h))
      rw [← e1] at h3
      rw [h3] at e4
      cases e4
      rw [e3]
      exact o _ _ _ ((Rch.same (s := sg) k u.k u.sub (Same.refl H)).trans r4)
    cases hi : fs.idxOf? j with
    | none =>
      refine fin (fs' := fs ++ [j]) (vs' := vs ++ [v]) (ds' := ds ++ [d]) (G' := G ++ F') ?_ ?_ (putF_no g3 hi) (m1.snoc m2 fun b hb z => hG b z hb) (fun b hb => List.mem_append.mp hb)
      · unfold putFd; rw [hi]
      · simp [g3]
    | some q =>
      obtain ⟨G', r1, hg⟩ := RepL.setO (j := q) m1 m2 hG
      refine fin (fs' := fs) (vs' := vs.set q v) (ds' := ds.set q d) (G' := G') ?_ ?_ (putF_at g3 hi) r1 hg
      · unfold putFd; rw [hi]
      · simp [g3]
  · exact (show False from o).elim⟩
theorem s_sfa {p : P} {ox : Expr} {j : Nat} {f : Str} {px : Pos} {b : Bo} {op : Operator} (C : Sx T cc ev kk X) (hf : cc.fnm j = f) (ho : boIs b op = true) (ha : augOk b = true) (hp : PE X ox (tP T ev p)) (he : PE X x (tE T ev e)) : PS X (.AugAssign (.Attribute ox f px) op x pos) (tS T ev (evS ev (.sfa p j b e))) := ⟨fun pins s σ H En I ⟨A, sg, Φ, k, o⟩ => by
  refine (ps_fldaug hp he (rAug_ok ho ha)).run pins s σ H En I ?_
  show tP T ev p σ H _
  rw [evS] at o
  obtain ⟨⟨dl, nl⟩, h2, o⟩ := oc_ok o
  dsimp only at o
  split at o
  · rename_i c fs ds m
    obtain ⟨q, hq, o⟩ := oc_ok o
    obtain ⟨d, hd, o⟩ := oc_ok o
    obtain ⟨⟨w, nw⟩, hw, o⟩ := oc_ok o
    obtain ⟨⟨z, nz⟩, hz, o⟩ := oc_ok o
    obtain ⟨hc, o⟩ := if_ok o
    obtain ⟨s2, h3, o⟩ := oc_ok o
    simp only [Bool.and_eq_true, decide_eq_true_eq] at hc
    obtain ⟨⟨⟨hc0, hc1⟩, hc2⟩, hc3⟩ := hc
    have hq := of_ok hq
    have hd := of_ok hd
    obtain ⟨a, dx, vs, G, g1, g2, g3, g4, g5, g6, g7, g8⟩ := own_put k h2
    obtain ⟨v, Fv, hv, rv, _⟩ := g5.foc g7 hd
    refine ⟨sg.r, .ref a, k.view0 _, g1, fun H1 s1 => ?_⟩
    subst hf
    rw [C.fnm]
    refine ⟨a, _, dx, _, v, rfl, s1 _ _ g2, C.cls c g4, C.noat c j g4 hc2, lookup_zip hq hv, ?_⟩
    refine ⟨fun _ => False, sg.r, w, nw, all0, (k.view0 _).same s1, hw, fun w2 H2 F2 s2' f2 r2 => ?_⟩
    have s3 : Same H H2 := s1.trans s2'
    refine rAug_do ha rv r2 hz hc0 hc1 ?_
    refine ⟨dx, _, s3 _ _ g2, by rw [List.length_zip]; simp; omega, ?_⟩
    rw [putF_at g3 hq]
    obtain ⟨G', r1, hg⟩ := RepL.setO (j := q) (g5.same s3) (flV_rep (d := z) hc1) (fun b hb => absurd hb (by simp))
    have hg' : ∀ b ∈ G', b ∈ G := fun b hb => by
      rcases hg b hb with h | h
      · exact h
      · simp at h
    obtain ⟨s4, Φ2, e4, r4⟩ := g8 H2 fs (vs.set q (flV z)) (ds.set q z) G' s3 (by simp [g3]) (r1.avoid fun b hb y => by
      rcases y with y | y
      · exact y
      · exact g7 b (hg' b y)) (fun b hb => .inl (hg' b hb))
    rw [h3] at e4
    cases e4
    exact o _ _ _ r4
  · exact (show False from o).elim⟩
theorem tP_mono {p : P} {Q Q' : VK} (h : ∀ x H1, Q x H1 → Q' x H1) (w : tP T ev p σ H Q) : tP T ev p σ H Q' := by
  obtain ⟨r, v, h1, h2, h3⟩ := w
  exact ⟨r, v, h1, h2, fun H' s => h _ _ (h3 H' s)⟩
theorem pe_methP {c m f : Nat} {p : P} {ox : Expr} {ys : List Expr} {es : Es} {ap cp : Pos} (C : Ctx T cc ev kk X) (hf : ev.meth c m = some f) (hb : nBase ox = true) (hl : (ap.endLine == cp.line) = true) (hn : ys.length < 20) (ho : PE X ox (tP T ev p)) (hs : ∀ e ∈ ys, noStar e = true) (hnil : ys = [] → es = .nil) (h : PA X ys (tEs T ev es)) :
    PE X (.Call (.Attribute ox (cc.mnm m) ap) ys [] cp) (tMeth (T.cls c) (cc.mnm m) (spG T ev f) [] E0 (tP T ev p) (tEs T ev es)) := by
  obtain ⟨hc2, hj, g, M, fd, ps, bnd, F⟩ := C.meth c m f hf
  cases ys with
  | nil =>
    refine ⟨fun pins s σ H Q I w => (pe_meth0 ho (C.cls c hc2) M F C.room' bnd .nil pass0 (meth_eq hb hl hs hn)).run pins s σ H Q I (tP_mono (fun x H1 q => ?_) w)⟩
    obtain ⟨ad, dx, fs, q1, q2, q3, q4⟩ := q
    have he : es = .nil := hnil rfl
    subst he
    refine ⟨ad, dx, fs, q1, q2, q3, ?_⟩
    obtain ⟨A3, r3, d3, al3, sh3, e3, q5⟩ := q4
    rw [evEs] at e3
    cases e3
    exact q5 [] H1 (Same.refl H1) .nil
  | cons y ys => exact pe_meth ho (C.cls c hc2) M F C.room' bnd .nil pass0 h (star_cons (hs _ List.mem_cons_self) _ _) (star_plain _ _ _ fun e he => hs e (List.mem_cons_of_mem _ he)) (meth_eq hb hl hs hn)
theorem msc_read {c m f n n' : Nat} {p : P} {es : Es} {ds vs : List D} {fs : List Nat} {s1 s2 : Sg} {d x : D} {Q : VK} (C : Ctx T cc ev kk X) (k : SOk T H A s σ Φ) (e1 : evEs ev es s.r = .ok ds) (hs1 : s1 = if scalL ds then s else s.frz (varsL es)) (g : getP ev p s1 = .ok (.own c fs vs, n + 1)) (hf : ev.meth c m = some f) (ec : ev.call f (n + 1) (.own c fs vs :: ds) = .ok (d, n', x)) (hp : putP ev p x s1 = .ok s2)
    (q : ∀ v H' F Φ2, SOk T H' (A.more F) s2 σ Φ2 → Step H Φ H' Φ2 → (∀ b ∈ F, ¬ A b) → Frs F H → Rep T H' ((Own A Φ2).more F) v d n' F → Q v H') : tMeth (T.cls c) (cc.mnm m) (spG T ev f) [] E0 (tP T ev p) (tEs T ev es) σ H Q := by
  obtain ⟨_, hj, _⟩ := C.meth c m f hf
  have st1 : ∃ Φ1 A0, SOk T H A s1 σ Φ1 ∧ (∀ j b, b ∈ Φ1 j → b ∈ Φ j) ∧ s1.r = s.r ∧ All A0 H ∧ ShOk T H A0 s.r σ (varsL es) ∧ (A0 = Own A Φ1 ∨ scalL ds = true) := by
    by_cases hc : scalL ds = true
    · rw [if_pos hc] at hs1
      subst hs1
      exact ⟨Φ, fun _ => False, k, fun _ _ h => h, rfl, all0, k.view0 _, .inr hc⟩
    · rw [if_neg hc] at hs1
      subst hs1
      have k' := k.frz (varsL es)
      refine ⟨_, Own A _, k', fun j b hb => ?_, rfl, k'.allB, fun i hi d' hd => ?_, .inl rfl⟩
      · by_cases hj : j ∈ varsL es
        · simp [hj] at hb
        · simpa [hj] using hb
      · obtain ⟨v, h3, h4⟩ := k'.slot i d' hd
        refine ⟨v, h3, ?_⟩
        have e1 : (s.frz (varsL es)).o.getD i 0 = 0 := by
          show (zero s.o (varsL es)).getD i 0 = 0
          rw [zero_get, if_pos hi]
        rw [e1] at h4
        simpa [hi] using h4
  obtain ⟨Φ1, A0, k1, sub, er, al0, sh0, or0⟩ := st1
  obtain ⟨v0, d0, v, F0, put, g1, g2, g3, g4, g5⟩ := k1.foc g
  have rp := g4.rep
  have e2 := g5 x
  rw [hp] at e2
  cases e2
  obtain ⟨a, dx, ws, rfl, ha⟩ : ∃ a dx ws, v = .ref a ∧ H a = some (.ins (T.cls c) dx ((fs.map T.fnm).zip ws)) := by
    cases rp with
    | ownO ha _ _ _ => exact ⟨_, _, _, rfl, ha⟩
  refine ⟨s.r, .ref a, k.view0 _, by rw [← er]; exact g3, fun H1 s1 => ⟨a, dx, _, rfl, s1 _ _ ha, lookup_no hj, ?_⟩⟩
  refine ⟨A0, s.r, ds, al0.same s1, sh0.same s1, e1, fun us H2 s2 ru => ?_⟩
  have s3 : Same H H2 := s1.trans s2
  have ru' : RepL T H2 (Own A Φ1) us ds 0 [] := by
    rcases or0 with rfl | h
    · exact ru
    · exact (ru.scal h).2
  have F0o : ∀ b ∈ F0, Own A Φ1 b := fun b hb => .inr ⟨_, g4.sub b hb⟩
  show spG T ev f (.ref a :: (us ++ [])) H2 Q E0
  rw [List.append_nil]
  refine ⟨fun b => Own A Φ1 b ∧ b ∉ F0, n + 1, F0, .own c fs vs :: ds, d, n', x, fun b hb => k1.allB.same s3 b hb.1, fun b hb z => z.2 hb, ⟨(rp.same s3).avoid fun b _ z => ?_, ru'.avoid fun b _ z => ?_⟩, ec, fun v H' F F' c1 cd c2 c3 c4 c5 c6 => ?_⟩
  · rcases z with z | z
    · exact z.1
    · exact F0o b z
  · rcases z with z | z
    · exact z.1
    · exact F0o b z
  have fF : Frs F H := fun b hb => s3.dom b (c2 b hb)
  obtain ⟨Φ2, k2, st, ch⟩ := k1.putX (H' := H') (F' := F') (Fx := F) g1 g2 g4 (fun b o hb q => by
      by_cases hF : b ∈ F0
      · have mu := rp.mut b hF
        rw [hb] at mu
        exact absurd hF (q mu)
      · exact c1 b o (s3 b o hb) hF) (fun b hb => s3.dom b (cd b hb)) (fun b hb => by
      rcases c3 b hb with h | h
      · exact .inl h
      · exact .inr (s3.dom b h)) (fun b hb => ⟨fF b hb, c5.there b hb, c4 b hb⟩) (c6 _ _ rfl)
  refine q v H' F Φ2 k2 ((sub_step (Same.refl H) sub).trans st) (fun b hb z => k.al b z (fF b hb)) fF (c5.avoid fun b _ z => ?_)
  rcases z with (z | ⟨j, z⟩) | z
  · exact .inl (.inl ⟨.inl z, fun y => k1.own _ b (g4.sub b y) z⟩)
  · rcases ch j b z with ⟨h, h'⟩ | h
    · exact .inl (.inl ⟨.inr ⟨j, h⟩, h'⟩)
    · exact .inl (.inr h)
  · exact .inr z
theorem msc_oc {t : Option Tg} {m : Nat} {p : P} {es : Es} (o : OcOk T ev A σ H Φ En (evS ev (.msc t p m es) s)) : ∃ ds s1 c fs vs n f d n' x s2, evEs ev es s.r = .ok ds ∧ (s1 = if scalL ds then s else s.frz (varsL es)) ∧ getP ev p s1 = .ok (.own c fs vs, n + 1) ∧ ev.meth c m = some f ∧ ev.call f (n + 1) (.own c fs vs :: ds) = .ok (d, n', x) ∧ putP ev p x s1 = .ok s2 ∧
    OcOk T ev A σ H Φ En (mscE ev t d n' s2) := by
  rw [evS] at o
  obtain ⟨ds, h1, o⟩ := oc_ok o
  obtain ⟨s1, h2, o⟩ := oc_ok o
  cases h2
  obtain ⟨⟨dl, nl⟩, h3, o⟩ := oc_ok o
  dsimp only at o
  split at o
  · rename_i c fs vs n
    obtain ⟨f, h4, o⟩ := oc_ok o
    obtain ⟨⟨d, n', x⟩, h5, o⟩ := oc_ok o
    obtain ⟨s2, h6, o⟩ := oc_ok o
    exact ⟨ds, _, c, fs, vs, n, f, d, n', x, s2, h1, rfl, h3, of_ok h4, h5, h6, o⟩
  · exact (show False from o).elim
theorem s_msc0 {m : Nat} {p : P} {ox : Expr} {ys : List Expr} {es : Es} {ap cp : Pos} (C : Sx T cc ev kk X) (hb : nBase ox = true) (hl : (ap.endLine == cp.line) = true) (hn : ys.length < 20) (ho : PE X ox (tP T ev p)) (hs : ∀ e ∈ ys, noStar e = true) (hnil : ys = [] → es = .nil) (h : PA X ys (tEs T ev es)) : PS X (.Expr (.Call (.Attribute ox (cc.mnm m) ap) ys [] cp) pos) (tS T ev (evS ev (.msc none p m es))) := ⟨fun pins s σ H En I ⟨A, sg, Φ, k, o⟩ => by
  obtain ⟨ds, s1, c, fs, vs, n, f, d, n', x, s2, h1, h2, h3, h4, h5, h6, o⟩ := msc_oc o
  refine (ps_expr (pe_methP C.toCtx h4 hb hl hn ho hs hnil h)).run pins s σ H En I (msc_read C.toCtx k h1 h2 h3 h4 h5 h6 fun v H' F Φ2 k2 st fA fF r => ?_)
  exact o _ _ _ ⟨k2.less, st, fun _ _ => rfl⟩⟩
theorem s_mscN {i m : Nat} {nm : Str} {py : Pos} {p : P} {ox : Expr} {ys : List Expr} {es : Es} {ap cp : Pos} (C : Sx T cc ev kk X) (hi : X.N[i]? = some nm) (hlo : loc X.env.scope nm = true) (hb : nBase ox = true) (hl : (ap.endLine == cp.line) = true) (hn : ys.length < 20) (ho : PE X ox (tP T ev p)) (hs : ∀ e ∈ ys, noStar e = true) (hnil : ys = [] → es = .nil) (h : PA X ys (tEs T ev es)) : PS X (.Assign [.Name nm py] (.Call (.Attribute ox (cc.mnm m) ap) ys [] cp) pos) (tS T ev (evS ev (.msc (some (.nm i)) p m es))) := ⟨fun pins s σ H En I ⟨A, sg, Φ, k, o⟩ => by
  obtain ⟨ds, s1, c, fs, vs, n, f, d, n', x, s2, h1, h2, h3, h4, h5, h6, o⟩ := msc_oc o
  rw [mscE] at o
  obtain ⟨hc, o⟩ := if_ok o
  simp only [Bool.and_eq_true, decide_eq_true_eq, Bool.not_eq_true'] at hc
  obtain ⟨⟨hc1, hc2⟩, hc3⟩ := hc
  refine (ps_set C.nd hi (C.tk _ hlo).1 (pe_methP C.toCtx h4 hb hl hn ho hs hnil h) (sw_no rfl) (C.tk _ hlo).2).run pins s σ H En I (msc_read C.toCtx k h1 h2 h3 h4 h5 h6 fun v H' F Φ2 k2 st fA fF r => ?_)
  refine o _ _ _ ⟨k2.setX r fA hc1 hc2 (len_of I hi), ⟨fun b o hb hn => st.keep b o hb hn, st.dom, fun j b hb => ?_⟩, fun hk hj => ?_⟩
  · by_cases hj : j = i
    · simp [hj] at hb; exact .inr (fF b hb)
    · simp [hj] at hb; exact st.come j b hb
  · exact List.getElem?_set_ne fun z => by rw [z, List.contains_iff_mem.mpr hj] at hc3; cases hc3⟩
theorem s_mscT {m : Nat} {ts : List Tg} {tes : List Expr} {tp : Pos} {k2 : Nat} {p : P} {ox : Expr} {ys : List Expr} {es : Es} {ap cp : Pos} (C : Sx T cc ev kk X) (ht : cvT cc X.env.scope (.tp ts) (.Tuple tes k2 tp) = true) (hb : nBase ox = true) (hl : (ap.endLine == cp.line) = true) (hn : ys.length < 20) (ho : PE X ox (tP T ev p)) (hs : ∀ e ∈ ys, noStar e = true) (hnil : ys = [] → es = .nil) (h : PA X ys (tEs T ev es)) : PS X (.Assign [.Tuple tes k2 tp] (.Call (.Attribute ox (cc.mnm m) ap) ys [] cp) pos) (tS T ev (evS ev (.msc (some (.tp ts)) p m es))) := ⟨fun pins s σ H En I ⟨A, sg, Φ, k, o⟩ => by
  obtain ⟨ds, s1, c, fs, vs, n, f, d, n', x, s2, h1, h2, h3, h4, h5, h6, o⟩ := msc_oc o
  have o : OcOk T ev A σ H Φ En ((bindS ev (.tp ts) d s2).oc .nx) := o
  obtain ⟨s3, h7, o⟩ := oc_ok o
  refine (ps_asg (pe_methP C.toCtx h4 hb hl hn ho hs hnil h) (g_ok C.toCtx C.tk ht) rfl (sst_tup rfl)).run pins s σ H En I (msc_read C.toCtx k h1 h2 h3 h4 h5 h6 fun v H' F Φ2 k2 st fA fF r => ?_)
  refine bind_read k2.less (r.low0 fun b hb z => ?_) h7 fun σ2 Φ3 q => o _ _ Φ3 ((Rch.mk k2.less st fun _ _ => rfl).trans q)
  rcases z with z | ⟨j, z⟩
  · exact fA b hb z
  · exact k2.own j b z (.inr hb)⟩
/-! ### if not f(place, ..) -/
theorem fsc_read {f n n' : Nat} {p : P} {es : Es} {ds : List D} {s1 s2 : Sg} {d0 d x : D} {Q : VK} (C : Ctx T cc ev kk X) (k : SOk T H A s σ Φ) (e1 : evEs ev es s.r = .ok ds) (hs1 : s1 = if scalL ds then s else s.frz (varsL es)) (g : getP ev p s1 = .ok (d0, n + 1)) (ec : ev.call f (n + 1) (d0 :: ds) = .ok (d, n', x)) (hp : putP ev p x s1 = .ok s2)
    (q : ∀ v H' F Φ2, SOk T H' (A.more F) s2 σ Φ2 → Step H Φ H' Φ2 → (∀ b ∈ F, ¬ A b) → Frs F H → Rep T H' ((Own A Φ2).more F) v d n' F → Q v H') : tCall (spG T ev f) [] E0 (tCons (tP T ev p) (tEs T ev es)) σ H Q := by
  have st1 : ∃ Φ1 A0, SOk T H A s1 σ Φ1 ∧ (∀ j b, b ∈ Φ1 j → b ∈ Φ j) ∧ s1.r = s.r ∧ All A0 H ∧ ShOk T H A0 s.r σ (varsL es) ∧ (A0 = Own A Φ1 ∨ scalL ds = true) := by
    by_cases hc : scalL ds = true
    · rw [if_pos hc] at hs1
      subst hs1
      exact ⟨Φ, fun _ => False, k, fun _ _ h => h, rfl, all0, k.view0 _, .inr hc⟩
    · rw [if_neg hc] at hs1
      subst hs1
      have k' := k.frz (varsL es)
      refine ⟨_, Own A _, k', fun j b hb => ?_, rfl, k'.allB, fun i hi d' hd => ?_, .inl rfl⟩
      · by_cases hj : j ∈ varsL es
        · simp [hj] at hb
        · simpa [hj] using hb
      · obtain ⟨v, h3, h4⟩ := k'.slot i d' hd
        refine ⟨v, h3, ?_⟩
        have e1 : (s.frz (varsL es)).o.getD i 0 = 0 := by
          show (zero s.o (varsL es)).getD i 0 = 0
          rw [zero_get, if_pos hi]
        rw [e1] at h4
        simpa [hi] using h4
  obtain ⟨Φ1, A0, k1, sub, er, al0, sh0, or0⟩ := st1
  obtain ⟨v0, dd, v, F0, put, g1, g2, g3, g4, g5⟩ := k1.foc g
  have rp := g4.rep
  have e2 := g5 x
  rw [hp] at e2
  cases e2
  refine ⟨s.r, v, k.view0 _, by rw [← er]; exact g3, fun H1 s1 => ?_⟩
  refine ⟨A0, s.r, ds, al0.same s1, sh0.same s1, e1, fun us H2 s2 ru => ?_⟩
  have s3 : Same H H2 := s1.trans s2
  have ru' : RepL T H2 (Own A Φ1) us ds 0 [] := by
    rcases or0 with rfl | h
    · exact ru
    · exact (ru.scal h).2
  have F0o : ∀ b ∈ F0, Own A Φ1 b := fun b hb => .inr ⟨_, g4.sub b hb⟩
  show spG T ev f (v :: us ++ []) H2 Q E0
  rw [List.append_nil]
  refine ⟨fun b => Own A Φ1 b ∧ b ∉ F0, n + 1, F0, d0 :: ds, d, n', x, fun b hb => k1.allB.same s3 b hb.1, fun b hb z => z.2 hb, ⟨(rp.same s3).avoid fun b _ z => ?_, ru'.avoid fun b _ z => ?_⟩, ec, fun v H' F F' c1 cd c2 c3 c4 c5 c6 => ?_⟩
  · rcases z with z | z
    · exact z.1
    · exact F0o b z
  · rcases z with z | z
    · exact z.1
    · exact F0o b z
  have fF : Frs F H := fun b hb => s3.dom b (c2 b hb)
  obtain ⟨Φ2, k2, st, ch⟩ := k1.putX (H' := H') (F' := F') (Fx := F) g1 g2 g4 (fun b o hb q => by
      by_cases hF : b ∈ F0
      · have mu := rp.mut b hF
        rw [hb] at mu
        exact absurd hF (q mu)
      · exact c1 b o (s3 b o hb) hF) (fun b hb => s3.dom b (cd b hb)) (fun b hb => by
      rcases c3 b hb with h | h
      · exact .inl h
      · exact .inr (s3.dom b h)) (fun b hb => ⟨fF b hb, c5.there b hb, c4 b hb⟩) (c6 _ _ rfl)
  refine q v H' F Φ2 k2 ((sub_step (Same.refl H) sub).trans st) (fun b hb z => k.al b z (fF b hb)) fF (c5.avoid fun b _ z => ?_)
  rcases z with (z | ⟨j, z⟩) | z
  · exact .inl (.inl ⟨.inl z, fun y => k1.own _ b (g4.sub b y) z⟩)
  · rcases ch j b z with ⟨h, h'⟩ | h
    · exact .inl (.inl ⟨.inr ⟨j, h⟩, h'⟩)
    · exact .inl (.inr h)
  · exact .inr z
theorem s_ifc {p : P} {f : Nat} {es : Es} {a b : Ss} {nm : Str} {gp cp np : Pos} {y : Expr} {ys : List Expr} {xs zs : List Stmt} (C : Sx T cc ev kk X) (hn : cc.fname f = nm) (h0 : (nm == Str.empty) = false) (hg : Gl X nm) (hd : (nm == ("__debug__" : Str)) = false) (hs : ∀ e ∈ y :: ys, noStar e = true) (hp : PE X y (tP T ev p)) (h : PA X ys (tEs T ev es)) (ha : PSs X xs (tS T ev (evSs ev a))) (hb : PSs X zs (tS T ev (evSs ev b))) :
    PS X (.If (.UnaryOp .Not (.Call (.Name nm gp) (y :: ys) [] cp) np) xs zs pos) (tS T ev (evS ev (.ifc p f es a b))) := ⟨fun pins s σ H En I ⟨A, sg, Φ, k, o⟩ => by
  subst hn
  obtain ⟨fa, fd, ps, hm, hk, hbn, F⟩ := (C.toCtx.call f (by simpa using h0)).ex
  have hst := star_cons (hs _ List.mem_cons_self) ys X.env
  refine (ps_if (pt_not (pt_val (pe_call F C.toCtx.room' hg hm hk hbn .nil pass0 (pa_cons hp h hst) hd hst (star_plain _ _ _ fun e he => hs e (List.mem_cons_of_mem _ he))))) ha hb).run pins s σ H En I ?_
  rw [evS] at o
  obtain ⟨ds, h1, o⟩ := oc_ok o
  obtain ⟨s1, h2, o⟩ := oc_ok o
  cases h2
  obtain ⟨⟨dl, nl⟩, h3, o⟩ := oc_ok o
  dsimp only at o
  cases nl with
  | zero => exact (show False from o).elim
  | succ n =>
    obtain ⟨⟨d, n', x⟩, h5, o⟩ := oc_ok o
    obtain ⟨s2, h6, o⟩ := oc_ok o
    obtain ⟨c, h7, o⟩ := oc_ok o
    refine fsc_read C.toCtx k h1 rfl h3 h5 h6 fun v H' F Φ2 k2 st fA fF r => ?_
    have hc : d = .bl c := by
      cases d <;> first | (cases h7; rfl) | cases h7
    subst hc
    refine ⟨c, r.bl_inv, ?_⟩
    have rc : Rch T ev A σ H Φ s2 σ H' Φ2 := ⟨k2.less, st, fun _ _ => rfl⟩
    cases c with
    | true => exact ⟨A, s2, Φ2, rc.k, rc.oc o⟩
    | false => exact ⟨A, s2, Φ2, rc.k, rc.oc o⟩⟩
/-- an item to a list that is dropped -/
theorem s_tap {a : E} {y ox : Expr} {ap cp : Pos} (hp : PE X ox (tE T ev a)) (hy : noStar y = true) (he : PE X y (tE T ev e)) (hb : nBase ox = true) (hl : (ap.endLine == cp.line) = true) : PS X (.Expr (.Call (.Attribute ox (sStr "append") ap) [y] [] cp) pos) (tS T ev (evS ev (.tap a e))) := ⟨fun pins s σ H En I ⟨A, sg, Φ, k, o⟩ => by
  refine (m_call PySem.F.slot_list_append PySem.F.type_list_append mt_append hp hy he hb hl).run pins s σ H En I ?_
  rw [evS] at o
  obtain ⟨⟨d, n⟩, h1, o⟩ := oc_ok o
  obtain ⟨⟨dl, nl⟩, h2, o⟩ := oc_ok o
  dsimp only at o
  split at o
  · rename_i ds m
    obtain ⟨hc, o⟩ := if_ok o
    refine ⟨fun _ => False, sg.r, _, _, all0, k.view0 _, h1, fun v H1 F s1 f r => ?_⟩
    cases r with
    | @lstO _ G b vs _ hb' nb rl =>
      have hbn : H b = none := f b List.mem_cons_self
      refine ⟨.inl ⟨rfl, vs, SqL.of hb'⟩, fun _ => False, sg.r, _, nl, all0, (k.view0 _).same s1, h2, fun w H2 F2 s2 f2 r2 => ?_⟩
      have gl : vs.length < sizeLine := by
        have h4 := rl.length
        have h5 : lim < sizeLine := by decide
        omega
      refine ⟨b, vs, w, rfl, rfl, s2 _ _ hb', gl, ?_⟩
      have s3 : Same H (upd H2 b (.lst (vs ++ [w]))) := fun c o' hc' => by
        rw [upd_ne (ne_of_none hc' hbn)]
        exact s2 _ _ (s1 _ _ hc')
      exact o _ _ _ (.same k k (fun _ _ h => h) s3)
  · exact (show False from o).elim⟩
end
end Hc
set_option Elab.async false
set_option linter.all false
set_option maxRecDepth 100000
set_option maxHeartbeats 4000000
/-! A part that is lent to a name. -/
namespace Hc
open PySem PySem.Spec PyProof.Rows L2
section
variable {T : Tab} {ev : Ev} {H H' H1 : Hp} {A : Avd} {X : Cx} {pos : Pos} {cc : Cc} {kk : Nat}
variable {σ σ' : L2.St} {Φ Φ' : Nat → List Addr} {En : Ends} {s s' : Sg}
theorem hold_sx {i j : Nat} (C : Sx T cc ev kk X) : Sx T cc (ev.hold i j) kk X where
  calm := C.calm
  nd := C.nd
  N := C.N
  K := C.K
  bn := C.bn
  room := C.room
  call := fun f hf => ⟨(C.call f hf).ex⟩
  fnm := C.fnm
  cls := C.cls
  noat := C.noat
  meth := fun cl m f h => by
    obtain ⟨h1, h2, g, h3, h4⟩ := C.meth cl m f h
    exact ⟨h1, h2, g, h3, ⟨h4.ex⟩⟩
  prop := fun cl m f h => by
    obtain ⟨h1, p, g, h3, h4⟩ := C.prop cl m f h
    exact ⟨h1, p, g, h3, ⟨h4.ex⟩⟩
  made := fun cl f h => by
    obtain ⟨h1, h2, g, h3, h4⟩ := C.made cl f h
    exact ⟨h1, h2, g, h3, ⟨h4.ex⟩⟩
  cval := C.cval
  tk := C.tk
  hp := C.hp
/-- a smaller thing to be avoided -/
theorem SOk.weak {A' : Avd} (k : SOk T H A' s σ Φ) (h : ∀ b, A b → A' b) : SOk T H A s σ Φ where
  al := fun b hb => k.al b (h b hb)
  slot := fun i d hd => by
    obtain ⟨v, h1, h2⟩ := k.slot i d hd
    exact ⟨v, h1, h2.avoid fun b _ z => by
      rcases z with z | z
      · exact .inl (h b z)
      · exact .inr z⟩
  own := fun i b hb z => k.own i b hb (h b z)
  dis := k.dis
  non := k.non
/-- the state while it is lent -/
theorem lend_ok {i j n : Nat} {v : V} {d : D} {F : List Addr} (k : SOk T H A s σ Φ) (hij : i ≠ j) (h1 : i < s.r.length) (h2 : i < s.o.length) (h3 : i < σ.length) (sub : ∀ b ∈ F, b ∈ Φ j) (r : Rep T H (Own A Φ) v d n F) :
    SOk T H (fun b => A b ∨ (b ∈ Φ j ∧ b ∉ F)) (lend s i j d n) (σ.set i (some v)) (fun l => if l = i then F else if l = j then [] else Φ l) := by
  have av : ∀ b, Own (fun b => A b ∨ (b ∈ Φ j ∧ b ∉ F)) (fun l => if l = i then F else if l = j then [] else Φ l) b → Own A Φ b := fun b z => by
    rcases z with (z | z) | ⟨l, z⟩
    · exact .inl z
    · exact .inr ⟨j, z.1⟩
    · by_cases hl : l = i
      · simp [hl] at z; exact .inr ⟨j, sub b z⟩
      · by_cases hj : l = j
        · exact absurd (by simpa [hl, hj] using z : j = i ∧ b ∈ F).1 fun e => hij e.symm
        · simp [hl, hj] at z; exact .inr ⟨l, z⟩
  have hji : j ≠ i := fun e => hij e.symm
  refine ⟨fun b hb => ?_, fun l d' hl => ?_, fun l b hb z => ?_, fun l m b hb hb' => ?_, fun l hl => ?_⟩
  · rcases hb with hb | hb
    · exact k.al b hb
    · exact k.there j b hb.1
  · by_cases hli : l = i
    · subst hli
      have hl' : ((s.r.set j none).set l (some d))[l]? = some (some d') := hl
      rw [List.getElem?_set_self (by simpa using h1)] at hl'
      cases hl'
      refine ⟨v, List.getElem?_set_self h3, ?_⟩
      have : (lend s l j d n).o.getD l 0 = n := by
        show ((s.o.set j 0).set l n).getD l 0 = n
        simp [List.getD_eq_getElem?_getD, List.getElem?_set_self (show l < (s.o.set j 0).length by simpa using h2)]
      rw [this]
      simp only [if_true]
      exact r.avoid fun b _ z => av b z
    · have hl' : ((s.r.set j none).set i (some d))[l]? = some (some d') := hl
      rw [List.getElem?_set_ne (fun e => hli e.symm)] at hl'
      by_cases hlj : l = j
      · subst hlj
        by_cases hb : l < s.r.length
        · rw [List.getElem?_set_self hb] at hl'; cases hl'
        · rw [List.getElem?_eq_none (by simp; omega)] at hl'; cases hl'
      · rw [List.getElem?_set_ne (fun e => hlj e.symm)] at hl'
        obtain ⟨w, q1, q2⟩ := k.slot l d' hl'
        refine ⟨w, by rw [List.getElem?_set_ne (fun e => hli e.symm)]; exact q1, ?_⟩
        have : (lend s i j d n).o.getD l 0 = s.o.getD l 0 := by
          show ((s.o.set j 0).set i n).getD l 0 = _
          simp [List.getD_eq_getElem?_getD, List.getElem?_set_ne (fun e : i = l => hli e.symm), List.getElem?_set_ne (fun e : j = l => hlj e.symm)]
        rw [this]
        simp only [hli, hlj, if_false]
        exact q2.avoid fun b _ z => av b z
  · by_cases hli : l = i
    · simp [hli] at hb
      rcases z with z | z
      · exact k.own j b (sub b hb) z
      · exact z.2 hb
    · by_cases hlj : l = j
      · simp [hlj, hji] at hb
      · simp [hli, hlj] at hb
        rcases z with z | z
        · exact k.own l b hb z
        · exact hlj (k.dis l j b hb z.1)
  · by_cases hli : l = i
    · by_cases hmi : m = i
      · rw [hli, hmi]
      · by_cases hmj : m = j
        · simp [hmj, hji] at hb'
        · simp [hli] at hb; simp [hmi, hmj] at hb'
          exact absurd (k.dis m j b hb' (sub b hb)) hmj
    · by_cases hlj : l = j
      · simp [hlj, hji] at hb
      · by_cases hmi : m = i
        · simp [hli, hlj] at hb; simp [hmi] at hb'
          exact absurd (k.dis l j b hb (sub b hb')) hlj
        · by_cases hmj : m = j
          · simp [hmj, hji] at hb'
          · simp [hli, hlj] at hb; simp [hmi, hmj] at hb'
            exact k.dis l m b hb hb'
  · by_cases hli : l = i
    · subst hli
      exact absurd (show ((s.r.set j none).set l (some d))[l]? = some (some d) from List.getElem?_set_self (by simpa using h1)) (hl d)
    · by_cases hlj : l = j
      · simp [hlj, hji]
      · simp only [hli, hlj, if_false]
        refine k.non l fun d' z => hl d' ?_
        show ((s.r.set j none).set i (some d))[l]? = _
        rw [List.getElem?_set_ne (fun e => hli e.symm), List.getElem?_set_ne (fun e => hlj e.symm)]
        exact z
/-- the part is given back -/
theorem back_ok {i n : Nat} {p : P} {v0 v : V} {d0 d d' : D} {F : List Addr} {put : D → D} (k : SOk T H A s σ Φ) (hij : i ≠ rootP p) (g1 : s.r[rootP p]? = some (some d0)) (g2 : σ[rootP p]? = some (some v0)) (g : Foc T H (Own A Φ) v0 d0 (s.o.getD (rootP p) 0) (Φ (rootP p)) v d n F put)
    (rc : Rch T (ev.hold i (rootP p)) (fun b => A b ∨ (b ∈ Φ (rootP p) ∧ b ∉ F)) (σ.set i (some v)) H (fun l => if l = i then F else if l = rootP p then [] else Φ l) s' σ' H' Φ') (hi : s'.r[i]? = some (some d')) (hn : s'.o.getD i 0 = n) (hil : i < σ.length) (hki : ev.keep.contains i = false) (hl : rootP p < s'.r.length ∧ rootP p < s'.o.length) :
    ∃ Φ2, Rch T ev A σ H Φ ⟨(s'.r.set (rootP p) (some (put d'))).set i none, (s'.o.set (rootP p) (s.o.getD (rootP p) 0)).set i 0⟩ σ' H' Φ2 := by
  generalize hj : rootP p = j at *
  have hji : j ≠ i := fun e => hij e.symm
  have e1 : σ'[i]? = some (some v) := by
    rw [rc.kp i (by show i ∈ i :: j :: ev.keep; simp)]
    exact List.getElem?_set_self hil
  have e2 : σ'[j]? = some (some v0) := by
    rw [rc.kp j (by show j ∈ i :: j :: ev.keep; simp), List.getElem?_set_ne hij]
    exact g2
  obtain ⟨v1, q1, r1⟩ := rc.k.slot i d' hi
  rw [e1] at q1
  cases q1
  rw [hn] at r1
  have come : ∀ l b, b ∈ Φ' l → b ∈ (if l = i then F else if l = j then [] else Φ l) ∨ H b = none := rc.st.come
  have hF : ∀ b ∈ Φ' i, b ∈ F ∨ H b = none := fun b hb => by
    rcases come i b hb with h | h
    · exact .inl (by simpa using h)
    · exact .inr h
  have hB : ∀ b, H b ≠ none → Own (fun b => A b ∨ (b ∈ Φ j ∧ b ∉ F)) Φ' b → Own A Φ b := fun b hb z => by
    rcases z with (z | z) | ⟨l, z⟩
    · exact .inl z
    · exact .inr ⟨j, z.1⟩
    · rcases come l b z with h | h
      · by_cases hli : l = i
        · simp [hli] at h; exact .inr ⟨j, g.sub b h⟩
        · by_cases hlj : l = j
          · exact absurd (by simpa [hli, hlj] using h : j = i ∧ b ∈ F).1 hji
          · simp [hli, hlj] at h; exact .inr ⟨l, h⟩
      · exact absurd h hb
  obtain ⟨F0', r0, e0⟩ := g.back H' _ d' (Φ' i) (fun b o hb q => by
    by_cases hm : Mut (some o)
    · obtain ⟨m1, m2⟩ := q hm
      refine rc.st.keep b o hb fun l z => ?_
      by_cases hli : l = i
      · simp [hli] at z; exact m2 z
      · by_cases hlj : l = j
        · exact absurd (by simpa [hli, hlj] using z : j = i ∧ b ∈ F).1 hji
        · simp [hli, hlj] at z
          rcases m1 with m1 | m1
          · exact m1 (.inr ⟨l, z⟩)
          · exact hlj (k.dis l j b z m1)
    · refine rc.st.keep b o hb fun l z => ?_
      by_cases hli : l = i
      · simp [hli] at z
        have := k.mut j b (g.sub b z)
        rw [hb] at this
        exact hm this
      · by_cases hlj : l = j
        · exact absurd (by simpa [hli, hlj] using z : j = i ∧ b ∈ F).1 hji
        · simp [hli, hlj] at z
          have := k.mut l b z
          rw [hb] at this
          exact hm this) hB hF r1
  have av : ∀ b, Own A (fun l => if l = i then [] else if l = j then F0' else Φ' l) b → Own (fun b => A b ∨ (b ∈ Φ j ∧ b ∉ F)) Φ' b := fun b z => by
    rcases z with z | ⟨l, z⟩
    · exact .inl (.inl z)
    · by_cases hli : l = i
      · simp [hli] at z
      · by_cases hlj : l = j
        · have z : b ∈ F0' := by simpa [hlj, hji] using z
          rcases (e0 b).mp z with h | h
          · exact .inl (.inr h)
          · exact .inr ⟨i, h⟩
        · simp [hli, hlj] at z; exact .inr ⟨l, z⟩
  have ro : ∀ l, l ≠ i → l ≠ j → ((s'.r.set j (some (put d'))).set i none)[l]? = s'.r[l]? ∧ (((s'.o.set j (s.o.getD j 0)).set i 0)).getD l 0 = s'.o.getD l 0 := fun l h1 h2 => by
    refine ⟨?_, ?_⟩
    · rw [List.getElem?_set_ne (fun e => h1 e.symm), List.getElem?_set_ne (fun e => h2 e.symm)]
    · simp [List.getD_eq_getElem?_getD, List.getElem?_set_ne (fun e : i = l => h1 e.symm), List.getElem?_set_ne (fun e : j = l => h2 e.symm)]
  have nF0 : ∀ l b, l ≠ i → b ∈ F0' → b ∉ Φ' l := fun l b hl hb z => by
    rcases (e0 b).mp hb with h | h
    · exact rc.k.own l b z (.inr h)
    · exact hl (rc.k.dis l i b z h)
  refine ⟨fun l => if l = i then [] else if l = j then F0' else Φ' l, ⟨fun b hb => rc.k.al b (.inl hb), fun l dl hdl => ?_, fun l b hb => ?_, fun l m b hb hb' => ?_, fun l hdl => ?_⟩, ⟨fun b o hb hn' => ?_, rc.st.dom, fun l b hb => ?_⟩, fun l hlk => ?_⟩
  · by_cases hli : l = i
    · subst hli
      have : ((s'.r.set j (some (put d'))).set l none)[l]? = some (some dl) := hdl
      by_cases hb : l < s'.r.length
      · rw [List.getElem?_set_self (by simpa using hb)] at this; cases this
      · rw [List.getElem?_eq_none (by simp; omega)] at this; cases this
    · by_cases hlj : l = j
      · subst hlj
        have h2 : ((s'.r.set l (some (put d'))).set i none)[l]? = some (some dl) := hdl
        rw [List.getElem?_set_ne hij, List.getElem?_set_self hl.1] at h2
        cases h2
        refine ⟨v0, e2, ?_⟩
        have : (((s'.o.set l (s.o.getD l 0)).set i 0)).getD l 0 = s.o.getD l 0 := by
          simp [List.getD_eq_getElem?_getD, List.getElem?_set_ne hij, List.getElem?_set_self hl.2]
        show Rep T H' _ v0 (put d') ((((s'.o.set l (s.o.getD l 0)).set i 0)).getD l 0) _
        rw [this]
        simp only [hli, if_false, if_true]
        exact r0.avoid fun b _ z => av b z
      · obtain ⟨h1, h2⟩ := ro l hli hlj
        have hdl : ((s'.r.set j (some (put d'))).set i none)[l]? = some (some dl) := hdl
        rw [h1] at hdl
        obtain ⟨w, q1, q2⟩ := rc.k.slot l dl hdl
        refine ⟨w, q1, ?_⟩
        show Rep T H' _ w dl ((((s'.o.set j (s.o.getD j 0)).set i 0)).getD l 0) _
        rw [h2]
        simp only [hli, hlj, if_false]
        exact q2.avoid fun b _ z => av b z
  · by_cases hli : l = i
    · simp [hli] at hb
    · by_cases hlj : l = j
      · have hb : b ∈ F0' := by simpa [hlj, hji] using hb
        rcases (e0 b).mp hb with h | h
        · exact k.own j b h.1
        · exact fun z => rc.k.own i b h (.inl z)
      · simp [hli, hlj] at hb
        exact fun z => rc.k.own l b hb (.inl z)
  · by_cases hli : l = i
    · simp [hli] at hb
    · by_cases hmi : m = i
      · simp [hmi] at hb'
      · by_cases hlj : l = j
        · have hb : b ∈ F0' := by simpa [hlj, hji] using hb
          by_cases hmj : m = j
          · rw [hlj, hmj]
          · simp [hmi, hmj] at hb'
            exact absurd hb' (nF0 m b hmi hb)
        · simp [hli, hlj] at hb
          by_cases hmj : m = j
          · have hb' : b ∈ F0' := by simpa [hmj, hji] using hb'
            exact absurd hb (nF0 l b hli hb')
          · simp [hmi, hmj] at hb'
            exact rc.k.dis l m b hb hb'
  · by_cases hli : l = i
    · simp [hli]
    · by_cases hlj : l = j
      · subst hlj
        refine absurd ?_ (hdl (put d'))
        show ((s'.r.set l (some (put d'))).set i none)[l]? = _
        rw [List.getElem?_set_ne hij, List.getElem?_set_self hl.1]
      · simp only [hli, hlj, if_false]
        refine rc.k.non l fun d z => hdl d ?_
        show ((s'.r.set j (some (put d'))).set i none)[l]? = _
        rw [(ro l hli hlj).1]
        exact z
  · refine rc.st.keep b o hb fun l z => ?_
    by_cases hli : l = i
    · simp [hli] at z; exact hn' j (g.sub b z)
    · by_cases hlj : l = j
      · exact absurd (by simpa [hli, hlj] using z : j = i ∧ b ∈ F).1 hji
      · simp [hli, hlj] at z; exact hn' l z
  · by_cases hli : l = i
    · simp [hli] at hb
    · by_cases hlj : l = j
      · have hb : b ∈ F0' := by simpa [hlj, hji] using hb
        rw [hlj]
        rcases (e0 b).mp hb with h | h
        · exact .inl h.1
        · rcases hF b h with h | h
          · exact .inl (g.sub b h)
          · exact .inr h
      · simp [hli, hlj] at hb
        rcases come l b hb with h | h
        · exact .inl (by simpa [hli, hlj] using h)
        · exact .inr h
  · rw [rc.kp l (by show l ∈ i :: j :: ev.keep; simp [hlk])]
    refine List.getElem?_set_ne fun e => ?_
    subst e
    rw [List.contains_iff_mem.mpr hlk] at hki
    cases hki
theorem Foc.same {B : Avd} {v0 v : V} {d0 d : D} {n0 n : Nat} {F0 F : List Addr} {put : D → D} (g : Foc T H B v0 d0 n0 F0 v d n F put) (s : Same H H') : Foc T H' B v0 d0 n0 F0 v d n F put where
  sub := g.sub
  rep := g.rep.same s
  back := fun H2 B' d' F' k hb hf r => g.back H2 B' d' F' (fun b o hb q => k b o (s b o hb) q) (fun b hb' z => hb b (fun q => hb' (s.dom b q)) z) (fun b hb' => by
    rcases hf b hb' with h | h
    · exact .inl h
    · exact .inr (s.dom b h)) r
theorem back_oc {i n : Nat} {p : P} {K : Sg → Oc} (o : OcOk T ev A σ H Φ En (backS ev i n p s s' K)) : ∃ d' s2 dr, s'.r[i]? = some (some d') ∧ s'.o.getD i 0 = n ∧ putP ev p d' s = .ok s2 ∧ s2.r[rootP p]? = some (some dr) ∧ (rootP p < s'.r.length ∧ rootP p < s'.o.length) ∧
    OcOk T ev A σ H Φ En (K ⟨(s'.r.set (rootP p) (some dr)).set i none, (s'.o.set (rootP p) (s.o.getD (rootP p) 0)).set i 0⟩) := by
  unfold backS at o
  split at o
  · rename_i d' hd
    obtain ⟨h1, o⟩ := if_ok o
    obtain ⟨s2, h2, o⟩ := oc_ok o
    split at o
    · rename_i dr hdr
      obtain ⟨h3, o⟩ := if_ok o
      exact ⟨d', s2, dr, hd, h1, h2, hdr, h3, o⟩
    · exact (show False from o).elim
  · exact (show False from o).elim
theorem ss_loan {i : Nat} {p : P} {ss : Ss} {nm : Str} {py : Pos} {x : Expr} {xs : List Stmt} (C : Sx T cc ev kk X) (hi : X.N[i]? = some nm) (hlo : loc X.env.scope nm = true) (hp : PE X x (tP T ev p)) (hx : noSw x = true) (hb : PSs X xs (tS T (ev.hold i (rootP p)) (evSs (ev.hold i (rootP p)) ss))) : PSs X (.Assign [.Name nm py] x pos :: xs) (tS T ev (evSs ev (.loan i p ss))) := ⟨fun pins s σ H En I ⟨A, sg, Φ, k, o⟩ => by
  rw [evSs] at o
  obtain ⟨⟨d, n⟩, h1, o⟩ := oc_ok o
  obtain ⟨hc, o⟩ := if_ok o
  obtain ⟨c1, c2, c3, c4, c5, c6⟩ := hc
  obtain ⟨v0, d0, v, F, put, g1, g2, g3, g4, g5⟩ := k.foc h1
  refine (pss_cons (ps_set C.nd hi (C.tk _ hlo).1 hp (sw_no hx) (C.tk _ hlo).2) hb).run pins s σ H En I ?_
  refine ⟨sg.r, v, k.view0 _, g3, fun H1 s1 => ?_⟩
  have k1 := k.same s1
  have g6 := g4.same s1
  have hil := len_of I hi
  have r0 : Rch T ev A σ H Φ sg σ H1 Φ := .same k k (fun _ _ h => h) s1
  refine ⟨_, lend sg i (rootP p) d n, _, lend_ok k1 c1 c4 c5 hil g4.sub g6.rep, ?_⟩
  dsimp only at o
  have bk : ∀ {s' : Sg} {K : Sg → Oc} {σ' : L2.St} {H' : Hp} {Φ' : Nat → List Addr}, OcOk T ev A σ H Φ En (backS ev i n p sg s' K) → Rch T (ev.hold i (rootP p)) (fun b => A b ∨ (b ∈ Φ (rootP p) ∧ b ∉ F)) (σ.set i (some v)) H1 (fun l => if l = i then F else if l = rootP p then [] else Φ l) s' σ' H' Φ' → ∃ s2 Φ2, OcOk T ev A σ H Φ En (K s2) ∧ Rch T ev A σ H Φ s2 σ' H' Φ2 := fun {s' K σ' H' Φ'} o rc => by
    obtain ⟨d', s2, dr, q1, q2, q3, q4, q5, q6⟩ := back_oc o
    rw [g5 d'] at q3
    cases q3
    have hl : rootP p < sg.r.length := (List.getElem?_eq_some_iff.mp g1).1
    rw [List.getElem?_set_self hl] at q4
    cases q4
    obtain ⟨Φ2, r2⟩ := back_ok k1 c1 g1 g2 g6 rc q1 q2 hil c6 q5
    exact ⟨_, Φ2, q6, r0.trans r2⟩
  generalize evSs (ev.hold i (rootP p)) ss (lend sg i (rootP p) d n) = oc at o
  cases oc with
  | nx s' =>
    intro σ' H' Φ' rc
    obtain ⟨s2, Φ2, q1, q2⟩ := bk (s' := s') (K := .nx) o rc
    exact q1 _ _ _ q2
  | bk s' =>
    intro σ' H' Φ' rc
    obtain ⟨s2, Φ2, q1, q2⟩ := bk (s' := s') (K := .bk) o rc
    exact q1 _ _ _ q2
  | ct s' =>
    intro σ' H' Φ' rc
    obtain ⟨s2, Φ2, q1, q2⟩ := bk (s' := s') (K := .ct) o rc
    exact q1 _ _ _ q2
  | ex c d => exact o
  | bad => exact o
  | rt dv m s' =>
    intro w σ' H' F' Φ' rc h1 h2 h3 h4
    have o : OcOk T ev A σ H Φ En (.rt dv m ⟨s'.r.set i none, s'.o.set i 0⟩) := o
    have come : ∀ l b, b ∈ Φ' l → b ∈ (if l = i then F else if l = rootP p then [] else Φ l) ∨ H1 b = none := rc.st.come
    have e0 : (if (0 : Nat) = i then ([] : List Addr) else Φ' 0) = Φ' 0 := if_neg fun e => c2 e.symm
    refine o w σ' H' F' (fun l => if l = i then [] else Φ' l) (r0.trans ⟨⟨fun b hb => rc.k.al b (.inl hb), fun l dl hdl => ?_, fun l b hb => ?_, fun l j b hb hb' => ?_, fun l hdl => ?_⟩, ⟨fun b ob hb hn => ?_, rc.st.dom, fun l b hb => ?_⟩, fun l hlk => ?_⟩) ?_ ?_ ?_ ?_
    · by_cases hli : l = i
      · subst hli
        have : (s'.r.set l none)[l]? = some (some dl) := hdl
        by_cases hb : l < s'.r.length
        · rw [List.getElem?_set_self hb] at this; cases this
        · rw [List.getElem?_eq_none (by simp; omega)] at this; cases this
      · have hdl : (s'.r.set i none)[l]? = some (some dl) := hdl
        rw [List.getElem?_set_ne (fun e => hli e.symm)] at hdl
        obtain ⟨w, q1, q2⟩ := rc.k.slot l dl hdl
        refine ⟨w, q1, ?_⟩
        have : (s'.o.set i 0).getD l 0 = s'.o.getD l 0 := by simp [List.getD_eq_getElem?_getD, List.getElem?_set_ne (fun e : i = l => hli e.symm)]
        show Rep T H' _ w dl ((s'.o.set i 0).getD l 0) _
        rw [this]
        simp only [hli, if_false]
        refine q2.avoid fun b _ z => ?_
        rcases z with z | ⟨j, z⟩
        · exact .inl (.inl z)
        · by_cases hji : j = i
          · simp [hji] at z
          · simp [hji] at z; exact .inr ⟨j, z⟩
    · by_cases hli : l = i
      · simp [hli] at hb
      · simp [hli] at hb
        exact fun z => rc.k.own l b hb (.inl z)
    · by_cases hli : l = i
      · simp [hli] at hb
      · by_cases hji : j = i
        · simp [hji] at hb'
        · simp [hli] at hb; simp [hji] at hb'
          exact rc.k.dis l j b hb hb'
    · by_cases hli : l = i
      · simp [hli]
      · simp only [hli, if_false]
        refine rc.k.non l fun d z => hdl d ?_
        show (s'.r.set i none)[l]? = _
        rw [List.getElem?_set_ne (fun e => hli e.symm)]
        exact z
    · refine rc.st.keep b ob hb fun l z => ?_
      by_cases hli : l = i
      · simp [hli] at z; exact hn _ (g4.sub b z)
      · by_cases hlj : l = rootP p
        · exact absurd (by simpa [hli, hlj] using z : rootP p = i ∧ b ∈ F).1 fun e => c1 e.symm
        · simp [hli, hlj] at z; exact hn l z
    · by_cases hli : l = i
      · simp [hli] at hb
      · simp [hli] at hb
        rcases come l b hb with h | h
        · by_cases hlj : l = rootP p
          · exact absurd (by simpa [hli, hlj] using h : rootP p = i ∧ b ∈ F).1 fun e => c1 e.symm
          · exact .inl (by simpa [hli, hlj] using h)
        · exact .inr h
    · rw [rc.kp l (by show l ∈ i :: rootP p :: ev.keep; simp [hlk])]
      refine List.getElem?_set_ne fun e => ?_
      subst e
      rw [List.contains_iff_mem.mpr hlk] at c6
      cases c6
    · intro b hb
      rw [e0]
      exact h1 b hb
    · intro b hb
      rcases h2 b hb with ⟨j, hj, h⟩ | h
      · by_cases hji : j = i
        · simp [hji] at h; exact .inl ⟨_, c3, g4.sub b h⟩
        · by_cases hjr : j = rootP p
          · exact absurd (by simpa [hji, hjr] using h : rootP p = i ∧ b ∈ F).1 fun e => c1 e.symm
          · simp [hji, hjr] at h; exact .inl ⟨j, hj, h⟩
      · exact .inr (s1.dom b h)
    · refine h3.avoid fun b _ z => ?_
      rw [e0] at z
      rcases z with (z | z) | z
      · exact .inl (.inl (.inl z))
      · exact .inl (.inr z)
      · exact .inr z
    · intro x hx'
      have hx' : (s'.r.set i none)[0]? = some (some x) := hx'
      rw [List.getElem?_set_ne c2] at hx'
      obtain ⟨w0, q1, q2⟩ := h4 x hx'
      refine ⟨w0, q1, ?_⟩
      have : (s'.o.set i 0).getD 0 0 = s'.o.getD 0 0 := by simp [List.getD_eq_getElem?_getD, List.getElem?_set_ne c2]
      show Rep T H' _ w0 x ((s'.o.set i 0).getD 0 0) _
      rw [this]
      rw [e0]
      refine q2.avoid fun b _ z => ?_
      rcases z with (z | z) | z
      · exact .inl (.inl (.inl z))
      · exact .inl (.inr z)
      · exact .inr z⟩
end
end Hc
set_option Elab.async false
set_option linter.all false
set_option maxRecDepth 100000
set_option maxHeartbeats 8000000
/-! Loops; every statement, by induction. -/
namespace Hc
open PySem PySem.Spec PyProof.Rows L2
section
variable {T : Tab} {ev : Ev} {H H' H1 : Hp} {A : Avd} {X : Cx} {pos : Pos} {cc : Cc} {kk : Nat}
variable {σ σ' : L2.St} {Φ Φ' : Nat → List Addr} {En : Ends} {s s' : Sg} {e : E} {x : Expr}
theorem kp_of (k : SOk T H A s σ Φ) (st : Step H Φ H' Φ') : Kp (Own A Φ) H H' := fun b o hb q => by
  by_cases h : ∃ j, b ∈ Φ j
  · obtain ⟨j, hj⟩ := h
    have m := k.mut j b hj
    rw [hb] at m
    exact absurd (.inr ⟨j, hj⟩) (q m)
  · exact st.keep b o hb fun j hj => h ⟨j, hj⟩
theorem s_for {t : Tg} {src : E} {b : Ss} {tg it : Expr} {xs : List Stmt} (C : Sx T cc ev kk X) (ht : cvT cc X.env.scope t tg = true) (hi : PI X tg it (wS T ev src)) (hf : ∀ v, foldedSetIterable it X.env v = pure v) (hb : PSs X xs (tS T ev (evSs ev b))) : PS X (.For tg it xs [] pos) (tS T ev (evS ev (.for t src b))) := ⟨fun pins s σ H En I ⟨A, sg, Φ, k, o⟩ => by
  refine (ps_for C.hp C.calm hi (g_ok C.toCtx C.tk ht) hb hf).run pins s σ H En I ?_
  rw [evS] at o
  obtain ⟨⟨d, n, s'⟩, h1, o⟩ := oc_ok o
  obtain ⟨ds, h2, o⟩ := oc_ok o
  obtain ⟨Φ', A0, u⟩ := use_ok k h1
  generalize hF : (fun d s' => (bindS ev t d s').oc fun s2 => evSs ev b s2) = f at o
  refine ⟨A0, sg.r, d, n, ds, u.al, u.sh, u.evd, h2, fun J H1 s1 wk => ?_⟩
  have wk := wk (Own A Φ') u.k.allB (by
    rcases u.or with h | h
    · exact .inl h.symm
    · exact .inr h)
  have k1 := u.k.same s1
  refine ⟨fun i m σ2 H2 => m = ds.length - i ∧ i ≤ ds.length ∧ ∃ s2 Φ2, Rch T ev A σ H1 Φ' s2 σ2 H2 Φ2 ∧ OcOk T ev A σ2 H2 Φ2 En (forL f (ds.drop i) s2), ⟨ds.length, by simp, Nat.zero_le _, s', Φ', .refl k1, (Rch.same (s := sg) k u.k u.sub s1).oc o⟩, ?_⟩
  rintro i m σ2 H2 ⟨rfl, hi, s2, Φ2, r, o2⟩
  have kp := kp_of k1 r.st
  by_cases hlt : i < ds.length
  · refine .inr ⟨wk.go i H2 kp hlt, fun σ3 H3 => ∃ s3 Φ3, Rch T ev A σ H1 Φ' s3 σ3 H3 Φ3 ∧ OcOk T ev A σ3 H3 Φ3 En (forL f (ds.drop (i + 1)) s3), fun σ3 H3 ⟨s3, Φ3, q1, q2⟩ => ⟨ds.length - (i + 1), by omega, rfl, hlt, s3, Φ3, q1, q2⟩, fun x H3 y => ?_⟩
    obtain ⟨s3, rx⟩ := wk.yld i H2 x H3 ds[i] (Own A Φ2) kp (List.getElem?_eq_getElem hlt) y fun b hb z => by
      rcases z with z | ⟨j, z⟩
      · exact .inl z
      · rcases r.st.come j b z with z | z
        · exact .inr ⟨j, z⟩
        · exact absurd z hb
    have r3 : Rch T ev A σ2 H2 Φ2 s2 σ2 H3 Φ2 := .same r.k r.k (fun _ _ h => h) s3
    have hd : ds.drop i = ds[i] :: ds.drop (i + 1) := List.drop_eq_getElem_cons hlt
    rw [hd, forL] at o2
    have fe : f ds[i] s2 = (bindS ev t ds[i] s2).oc fun s2 => evSs ev b s2 := by rw [← hF]
    rw [fe] at o2
    cases hb2 : bindS ev t ds[i] s2 with
    | ok s4 =>
      rw [hb2] at o2
      refine bind_read r3.k rx hb2 fun σ4 Φ4 q => ⟨A, s4, Φ4, q.k, ?_⟩
      have r4 := r3.trans q
      have o3 : OcOk T ev A σ2 H2 Φ2 En (match evSs ev b s4 with
        | .nx s' => forL f (ds.drop (i + 1)) s'
        | .ct s' => forL f (ds.drop (i + 1)) s'
        | .bk s' => .nx s'
        | o => o) := o2
      cases hs : evSs ev b s4 with
      | nx s5 =>
        rw [hs] at o3
        exact fun σ5 H5 Φ5 q5 => ⟨s5, Φ5, (r.trans r4).trans q5, (r4.trans q5).oc o3⟩
      | ct s5 =>
        rw [hs] at o3
        exact fun σ5 H5 Φ5 q5 => ⟨s5, Φ5, (r.trans r4).trans q5, (r4.trans q5).oc o3⟩
      | bk s5 =>
        rw [hs] at o3
        exact r4.oc o3
      | rt d n s5 =>
        rw [hs] at o3
        exact r4.oc o3
      | ex c d => rw [hs] at o3; exact o3
      | bad => rw [hs] at o3; exact o3
    | ex c d => rw [hb2] at o2; exact (show False from o2).elim
    | bad => rw [hb2] at o2; exact (show False from o2).elim
  · have hi2 : i = ds.length := by omega
    refine .inl ⟨wk.stop i H2 kp (by omega), ?_⟩
    rw [hi2, List.drop_length] at o2
    exact o2 _ _ _ (.refl r.k)⟩
theorem s_whl {t : E} {b : Ss} {xs : List Stmt} (C : Sx T cc ev kk X) (ht : PT X x (tT T ev t)) (hb : PSs X xs (tS T ev (evSs ev b))) : PS X (.While x xs [] pos) (tS T ev (evS ev (.whl t b))) := ⟨fun pins s σ H En I ⟨A, sg, Φ, k, o⟩ => by
  refine (ps_while C.hp ht hb).run pins s σ H En I ?_
  rw [evS] at o
  generalize hG : (fun s' : Sg => (evE ev t s'.r).bind boolR) = g at o
  generalize hF : (fun s' => evSs ev b s') = f at o
  refine ⟨fun m σ2 H2 => ∃ s2 Φ2, SOk T H2 A s2 σ2 Φ2 ∧ OcOk T ev A σ2 H2 Φ2 En (whlL g f m s2), ⟨ev.fuel, sg, Φ, k, o⟩, ?_⟩
  rintro m σ2 H2 ⟨s2, Φ2, k2, o2⟩
  cases m with
  | zero => exact (show False from o2).elim
  | succ m =>
    rw [whlL] at o2
    obtain ⟨c, hc, o2⟩ := oc_ok o2
    rw [← hG] at hc
    refine ⟨fun _ => False, s2.r, c, all0, k2.view0 _, hc, fun H3 s3 => ?_⟩
    have r3 : Rch T ev A σ2 H2 Φ2 s2 σ2 H3 Φ2 := .same k2 k2 (fun _ _ h => h) s3
    cases c with
    | false => exact o2 _ _ _ r3
    | true =>
      rw [if_pos rfl] at o2
      dsimp only
      rw [if_pos rfl]
      refine ⟨fun σ4 H4 => ∃ s4 Φ4, SOk T H4 A s4 σ4 Φ4 ∧ OcOk T ev A σ4 H4 Φ4 En (whlL g f m s4), fun σ4 H4 q => ⟨m, by omega, q⟩, A, s2, Φ2, r3.k, ?_⟩
      have fe : f s2 = evSs ev b s2 := by rw [← hF]
      rw [fe] at o2
      cases hs : evSs ev b s2 with
      | nx s5 =>
        rw [hs] at o2
        exact fun σ5 H5 Φ5 q5 => ⟨s5, Φ5, q5.k, (r3.trans q5).oc o2⟩
      | ct s5 =>
        rw [hs] at o2
        exact fun σ5 H5 Φ5 q5 => ⟨s5, Φ5, q5.k, (r3.trans q5).oc o2⟩
      | bk s5 =>
        rw [hs] at o2
        exact r3.oc o2
      | rt d n s5 =>
        rw [hs] at o2
        exact r3.oc o2
      | ex c d => rw [hs] at o2; exact o2
      | bad => rw [hs] at o2; exact o2⟩

/-! ### name = [..] -/
theorem comp_tLc {m : Nat} {t : Tg} {src cnd elt : E} {Q : VK} (w : tE T ev (.comp m t src cnd elt) σ H Q) : tLc (wS T ev src) (gT T t) (tW T ev cnd) (tE T ev elt) ((own cc t).map (·.2)) σ H Q := by
  obtain ⟨A, r, d, n, al, sh, e1, pp⟩ := w
  rw [evE] at e1
  obtain ⟨⟨sv, sn⟩, es, e1⟩ := Rs.bind_ok e1
  obtain ⟨ds, ei, e1⟩ := Rs.bind_ok e1
  split at e1
  · rename_i hl
    obtain ⟨out, eo, e1⟩ := Rs.bind_ok e1
    cases e1
    rw [own_ix]
    exact ⟨A, r, sv, sn, ds, al, sh.sub inL, es, ei, fun J H1 s1 wk Da hD => comp_read al (sh.sub inR) hl s1 (wk A al (.inl rfl)) eo pp Da hD⟩
  · cases e1
theorem comp_shape {sc : Scope} {ex : Expr} {gs : List Comprehension} {scp : Scope} {p : Pos} (h : cvE cc sc e (.ListComp ex gs scp p) = true) : ∃ m t src cnd elt, e = .comp m t src cnd elt := by
  cases e <;> first
    | exact ⟨_, _, _, _, _, rfl⟩
    | (simp [cvE] at h; done)
    | (rename_i b es; cases b <;> first
        | (simp [cvE] at h; done)
        | (cases es <;> first
            | (simp [cvE] at h; done)
            | (rename_i es; cases es <;> simp [cvE] at h)))
theorem s_setLc {i : Nat} {nm : Str} {py p : Pos} {ex : Expr} {gs : List Comprehension} {scp : Scope} (C : Sx T cc ev kk X) (hi : X.N[i]? = some nm) (hy : X.env.scope.names.lookup nm = some .local) (hc : cvE cc X.env.scope e (.ListComp ex gs scp p) = true) (hs : swLc X.env.scope nm py pos.line (.ListComp ex gs scp p) = true) : PS X (.Assign [.Name nm py] (.ListComp ex gs scp p) pos) (tS T ev (evS ev (.set (.nm i) e))) := by
  obtain ⟨m, t, src, cnd, elt, rfl⟩ := comp_shape hc
  have key : ∃ tg it ifs, gs = [⟨tg, it, ifs, 0⟩] ∧ cvT cc scp t tg = true ∧ blkC cc.N X.env.scope scp (own cc t) = true ∧ cvS cc X.env.scope src (isTup tg) it = true ∧ cvE cc (relS scp X.env.scope) elt ex = true ∧
      ((ifs = [] ∧ cnd = .nop) ∨ ∃ y, ifs = [y] ∧ nn cnd = true ∧ tst cnd = true ∧ cvE cc (relS scp X.env.scope) cnd y = true) := by
    unfold cvE at hc
    split at hc <;> (first | contradiction | skip)
    rename_i m' t' src' cnd' elt' ex' tg it ifs scp' p' hh1 hh2
    cases hh1
    cases hh2
    simp only [Bool.and_eq_true] at hc
    obtain ⟨⟨⟨⟨h1, h2⟩, h3⟩, h4⟩, h5⟩ := hc
    refine ⟨tg, it, ifs, rfl, h1, h2, cvS_of h3, h5, ?_⟩
    split at h4
    · split at h4
      · exact .inl ⟨rfl, rfl⟩
      · cases h4
    · simp only [Bool.and_eq_true] at h4
      exact .inr ⟨_, rfl, h4.1.1, h4.1.2, h4.2⟩
    · cases h4
  obtain ⟨tg, it, ifs, rfl, h1, h2, h3, h4, h5⟩ := key
  have hsrc := src_ok C.toCtx (snd src) (fun a b _ => ⟨snd a, snd b⟩) (fun a _ => snd a) (fun a _ => snd a) h3
  have hcnd : ∀ (s : Shared) (H : Hp) (Ca : Addr) (cl : List (Str × Addr)) (fp : List Addr), PTs (X.blk s H scp (compEnvC scp cl Ca X.env) fp) ifs (tW T ev cnd) := fun s H Ca cl fp => by
    rcases h5 with ⟨rfl, rfl⟩ | ⟨y, rfl, h5, h6, h7⟩
    · exact w_none
    · exact w_some h5 ((snd cnd).pt (X := X.blk s H scp (compEnvC scp cl Ca X.env) fp) C.toCtx.blk h7 h6)
  have helt : ∀ (s : Shared) (H : Hp) (Ca : Addr) (cl : List (Str × Addr)) (fp : List Addr), PE (X.blk s H scp (compEnvC scp cl Ca X.env) fp) ex (tE T ev elt) := fun s H Ca cl fp => (snd elt).pe (X := X.blk s H scp (compEnvC scp cl Ca X.env) fp) C.toCtx.blk h4
  have hsw : X.env.scope.kind = .function ∧ (py.line == p.line) = true ∧ (scp.names.any fun (n, k) => n == nm && (k == .local || k == .cell)) = false := by
    unfold swLc at hs
    simp only [Bool.and_eq_true, Bool.not_eq_true'] at hs
    obtain ⟨⟨⟨q1, q2⟩, q3⟩, q4⟩ := hs
    refine ⟨?_, q3, q4⟩
    split at q1
    · assumption
    · cases q1
  refine ⟨fun pins s σ H En I ⟨A, sg, Φ, k, o⟩ => ?_⟩
  refine (ps_setLc C.calm C.nd hi hy (sw_true hsw.1 hy hsw.2.1 hsw.2.2) hsrc (blkOk_by (own := own cc t) (by rw [C.N]; exact h2)) (fun s H Ca cl fp => g_ok (raw := scp) C.toCtx.blk TOk.blk h1) hcnd helt (fun v => cvS_fold h3 _ v)).run pins s σ H En I ?_
  exact comp_tLc (set_read k o (len_of I hi))
end
section
variable {T : Tab} {ev : Ev} {cc : Cc} {kk : Nat} {X : Cx}
theorem cell_sw {x : Expr} {nm : Str} {py : Pos} {l : Nat} (h : X.env.scope.names.lookup nm = some .cell) (hx : isLc x = true) : swapsWith x (some (.Name nm py)) l X.env = pure false := by
  cases x with
  | ListComp a b scope p =>
    have ky : X.env.kindOf nm = some .cell := h
    unfold swapsWith
    have e1 : (NameKind.cell == NameKind.local) = false := rfl
    simp only [ky, e1, Option.some_beq_some, Bool.and_false, Bool.false_and]
  | _ => cases hx
theorem t_noStar {sc : Scope} {t : Tg} {tg : Expr} (h : cvT cc sc t tg = true) : (∃ i nm p, t = .nm i ∧ tg = .Name nm p ∧ cc.N[i]? = some nm ∧ loc sc nm = true) ∨ ∃ ts es k p, t = .tp ts ∧ tg = .Tuple es k p := by
  cases t with
  | nm i =>
    cases tg with
    | Name nm p =>
      simp only [cvT, Bool.and_eq_true, decide_eq_true_eq] at h
      exact .inl ⟨i, nm, p, rfl, rfl, h.1, h.2⟩
    | _ => simp [cvT] at h
  | tp ts =>
    cases tg with
    | Tuple es k p => exact .inr ⟨ts, es, k, p, rfl, rfl⟩
    | _ => simp [cvT] at h
theorem loc_of {sc : Scope} {nm : Str} (h : loc sc nm = true) : sc.names.lookup nm = some .local ∨ sc.names.lookup nm = some .cell := by
  unfold loc at h
  split at h
  · exact .inl (by assumption)
  · exact .inr (by assumption)
  · cases h
theorem i_set {t : Tg} {e : E} {x : Stmt} (C : Sx T cc ev kk X) (h : cvS1 cc X.env.scope (.set t e) x = true) : PS X x (tS T ev (evS ev (.set t e))) := by
  unfold cvS1 at h
  split at h <;> (first | contradiction | skip)
  rename_i t' e' tg v pos hh
  cases hh
  simp only [Bool.and_eq_true] at h
  obtain ⟨⟨h1, h2⟩, h3⟩ := h
  rcases t_noStar h1 with ⟨i, nm, p, rfl, rfl, q1, q2⟩ | ⟨ts, es, k2, p, rfl, rfl⟩
  · have hi : X.N[i]? = some nm := by rw [C.N]; exact q1
    by_cases hl : isLc v = true
    · cases v with
      | ListComp ex gs scp pp =>
        rcases loc_of q2 with q | q
        · dsimp only at h3
          rw [q] at h3
          exact s_setLc C hi q h2 h3
        · exact s_set C hi q2 ((snd e).pe C.toCtx h2) (cell_sw q rfl)
      | _ => cases hl
    · have hn : noSw v = true := by
        cases v <;> first | rfl | exact absurd rfl hl | (simp [noSw] at h3)
      exact s_set C hi q2 ((snd e).pe C.toCtx h2) (sw_no hn)
  · refine s_setT C h1 ((snd e).pe C.toCtx h2) ?_
    cases v <;> first | rfl | cases h3
mutual
theorem sndS {ev : Ev} : ∀ (st : S) {X : Cx} {x : Stmt}, Sx T cc ev kk X → cvS1 cc X.env.scope st x = true → PS X x (tS T ev (evS ev st))
  | .set t e, X, x, C, h => i_set C h
  | .aug i o e, X, x, C, h => by
    unfold cvS1 at h
    split at h <;> (first | contradiction | skip)
    rename_i hh
    cases hh
    simp only [Bool.and_eq_true, decide_eq_true_eq] at h
    obtain ⟨⟨⟨⟨h1, h2⟩, h3⟩, h4⟩, h5⟩ := h
    exact s_aug C (by rw [C.N]; exact h1) h2 h3 h4 ((snd e).pe C.toCtx h5)
  | .app p e, X, x, C, h => by
    unfold cvS1 at h
    split at h <;> (first | contradiction | skip)
    rename_i hh
    cases hh
    simp only [Bool.and_eq_true, decide_eq_true_eq] at h
    obtain ⟨⟨⟨⟨⟨rfl, h2⟩, h3⟩, h4⟩, h5⟩, h6⟩ := h
    exact s_app C (p_ok C.toCtx h5) h4 ((snd e).pe C.toCtx h6) h2 h3
  | .ext p e, X, x, C, h => by
    unfold cvS1 at h
    split at h <;> (first | contradiction | skip)
    rename_i hh
    cases hh
    simp only [Bool.and_eq_true, decide_eq_true_eq] at h
    obtain ⟨⟨⟨⟨⟨rfl, h2⟩, h3⟩, h4⟩, h5⟩, h6⟩ := h
    exact s_ext C (p_ok C.toCtx h5) h4 ((snd e).pe C.toCtx h6) h2 h3
  | .pop t p, X, x, C, h => by
    unfold cvS1 at h
    split at h <;> (first | contradiction | skip)
    rename_i hh
    cases hh
    simp only [Bool.and_eq_true, decide_eq_true_eq] at h
    obtain ⟨⟨⟨⟨rfl, h2⟩, h3⟩, h4⟩, h5⟩ := h
    exact s_pop C (p_ok C.toCtx h4) h5 h2 h3
  | .rev p, X, x, C, h => by
    unfold cvS1 at h
    split at h <;> (first | contradiction | skip)
    rename_i hh
    cases hh
    simp only [Bool.and_eq_true, decide_eq_true_eq] at h
    obtain ⟨⟨⟨rfl, h2⟩, h3⟩, h4⟩ := h
    exact s_rev C (p_ok C.toCtx h4) h2 h3
  | .sto p i e, X, x, C, h => by
    unfold cvS1 at h
    split at h <;> (first | contradiction | skip)
    rename_i hh
    cases hh
    simp only [Bool.and_eq_true] at h
    obtain ⟨⟨⟨⟨h1, h2⟩, h3⟩, h4⟩, h5⟩ := h
    exact s_sto C (p_ok C.toCtx h2) ((snd i).pe C.toCtx h3) h1 ((snd e).pe C.toCtx h4) h5
  | .sta p i o e, X, x, C, h => by
    unfold cvS1 at h
    split at h <;> (first | contradiction | skip)
    rename_i hh
    cases hh
    simp only [Bool.and_eq_true] at h
    obtain ⟨⟨⟨⟨⟨h1, h2⟩, h3⟩, h4⟩, h5⟩, h6⟩ := h
    exact s_sta C (p_ok C.toCtx h4) ((snd i).pe C.toCtx h5) h1 h2 h3 ((snd e).pe C.toCtx h6)
  | .sfl p j e, X, x, C, h => by
    unfold cvS1 at h
    split at h <;> (first | contradiction | skip)
    rename_i hh
    cases hh
    simp only [Bool.and_eq_true, decide_eq_true_eq] at h
    exact s_sfl C h.1.1.1 (p_ok C.toCtx h.1.1.2) ((snd e).pe C.toCtx h.1.2) h.2
  | .sfa p j o e, X, x, C, h => by
    unfold cvS1 at h
    split at h <;> (first | contradiction | skip)
    rename_i hh
    cases hh
    simp only [Bool.and_eq_true, decide_eq_true_eq] at h
    exact s_sfa C h.1.1.1.1 h.1.1.1.2 h.1.1.2 (p_ok C.toCtx h.1.2) ((snd e).pe C.toCtx h.2)
  | .tap a e, X, x, C, h => by
    unfold cvS1 at h
    split at h <;> (first | contradiction | skip)
    rename_i hh
    cases hh
    simp only [Bool.and_eq_true, decide_eq_true_eq] at h
    obtain ⟨⟨⟨⟨⟨rfl, h2⟩, h3⟩, h4⟩, h5⟩, h6⟩ := h
    exact s_tap ((snd a).pe C.toCtx h5) h4 ((snd e).pe C.toCtx h6) h2 h3
  | .drop e, X, x, C, h => by
    unfold cvS1 at h
    split at h <;> (first | contradiction | skip)
    rename_i hh
    cases hh
    simp only [Bool.and_eq_true] at h
    exact s_drop h.1 ((snd e).pe C.toCtx h.2)
  | .msc none p m es, X, x, C, h => by
    unfold cvS1 at h
    split at h <;> (first | contradiction | (rename_i hh; cases hh; done) | skip)
    rename_i hh
    cases hh
    simp only [Bool.and_eq_true, decide_eq_true_eq] at h
    obtain ⟨⟨⟨⟨⟨h1, h2⟩, h3⟩, h4⟩, h5⟩, h6⟩ := h
    subst h1
    have E := (sndL es).each C.toCtx h6
    exact s_msc0 C h2 h3 h4 (p_ok C.toCtx h5) E.star E.nil_iff E.pa
  | .msc (some t) p m es, X, x, C, h => by
    unfold cvS1 at h
    split at h <;> (first | contradiction | (rename_i hh; cases hh; done) | skip)
    rename_i hh
    cases hh
    simp only [Bool.and_eq_true, decide_eq_true_eq] at h
    obtain ⟨⟨⟨⟨⟨⟨h1, h2⟩, h3⟩, h4⟩, h5⟩, h6⟩, h7⟩ := h
    subst h1
    have E := (sndL es).each C.toCtx h6
    rcases t_noStar h7 with ⟨i, nm, pp, rfl, rfl, q1, q2⟩ | ⟨ts, tes, k2, pp, rfl, rfl⟩
    · exact s_mscN C (by rw [C.N]; exact q1) q2 h2 h3 h4 (p_ok C.toCtx h5) E.star E.nil_iff E.pa
    · exact s_mscT C h7 h2 h3 h4 (p_ok C.toCtx h5) E.star E.nil_iff E.pa
  | .ifc p f es a b, X, x, C, h => by
    unfold cvS1 at h
    split at h <;> (first | contradiction | (rename_i hh; cases hh; done) | skip)
    rename_i hh
    cases hh
    simp only [Bool.and_eq_true, decide_eq_true_eq, Bool.not_eq_true'] at h
    obtain ⟨⟨⟨⟨⟨⟨⟨⟨h1, h2⟩, h3⟩, h4⟩, h5⟩, h6⟩, h7⟩, h8⟩, h9⟩ := h
    have E := (sndL es).each C.toCtx h7
    exact s_ifc C h1 h2 (Ctx.glb h3) (bv h4) (fun e he => by
      rcases List.mem_cons.mp he with rfl | he
      · exact h5
      · exact E.star e he) (p_ok C.toCtx h6) E.pa (sndSs a C h8) (sndSs b C h9)
  | .ret e, X, x, C, h => by
    unfold cvS1 at h
    split at h <;> (first | contradiction | skip)
    rename_i hh
    cases hh
    exact s_ret C h
  | .retn, X, x, C, h => by
    unfold cvS1 at h
    split at h <;> (first | contradiction | skip)
    exact s_retn
  | .ite t a b, X, x, C, h => by
    unfold cvS1 at h
    split at h <;> (first | contradiction | skip)
    rename_i hh
    cases hh
    simp only [Bool.and_eq_true] at h
    obtain ⟨⟨⟨h1, h2⟩, h3⟩, h4⟩ := h
    exact s_ite ((snd t).pt C.toCtx h2 h1) (sndSs a C h3) (sndSs b C h4)
  | .for t src b, X, x, C, h => by
    unfold cvS1 at h
    split at h <;> (first | contradiction | skip)
    rename_i hh
    cases hh
    simp only [Bool.and_eq_true] at h
    obtain ⟨⟨h1, h2⟩, h3⟩ := h
    exact s_for C h1 (src_ok C.toCtx (snd src) (fun a b _ => ⟨snd a, snd b⟩) (fun a _ => snd a) (fun a _ => snd a) h2) (fun v => cvS_fold h2 _ v) (sndSs b C h3)
  | .whl t b, X, x, C, h => by
    unfold cvS1 at h
    split at h <;> (first | contradiction | skip)
    rename_i hh
    cases hh
    simp only [Bool.and_eq_true] at h
    obtain ⟨⟨h1, h2⟩, h3⟩ := h
    exact s_whl C ((snd t).pt C.toCtx h2 h1) (sndSs b C h3)
  | .brk, X, x, C, h => by
    unfold cvS1 at h
    split at h <;> (first | contradiction | skip)
    exact s_brk
  | .cont, X, x, C, h => by
    unfold cvS1 at h
    split at h <;> (first | contradiction | skip)
    exact s_cont
  | .pass, X, x, C, h => by
    unfold cvS1 at h
    split at h <;> (first | contradiction | skip)
    exact s_pass
  | .raise _ _, X, x, C, h => by simp [cvS1] at h
  | .never, X, x, C, h => s_never
theorem sndSs {ev : Ev} : ∀ (ss : Ss) {X : Cx} {xs : List Stmt}, Sx T cc ev kk X → cvSs cc X.env.scope ss xs = true → PSs X xs (tS T ev (evSs ev ss))
  | .nil, X, xs, C, h => by
    cases xs with
    | nil => exact ss_nil
    | cons _ _ => simp [cvSs] at h
  | .cons s ss, X, xs, C, h => by
    cases xs with
    | nil => simp [cvSs] at h
    | cons y ys =>
      simp only [cvSs, Bool.and_eq_true] at h
      exact ss_cons (sndS s C h.1) (sndSs ss C h.2)
  | .loan i p ss, X, xs, C, h => by
    unfold cvSs at h
    split at h <;> (first | contradiction | skip)
    rename_i hh
    cases hh
    simp only [Bool.and_eq_true, decide_eq_true_eq] at h
    obtain ⟨⟨⟨⟨h1, h2⟩, h3⟩, h4⟩, h5⟩ := h
    exact ss_loan C (by rw [C.N]; exact h1) h2 (p_ok C.toCtx h4) h3 (sndSs ss (hold_sx C) h5)
end
end
end Hc
set_option Elab.async false
set_option linter.all false
set_option maxRecDepth 100000
set_option maxHeartbeats 4000000
/-! The defs of a module, called to any depth. -/
namespace Hc
open PySem PySem.Spec PyProof.Rows L2

structure Tb where
  /-- a def: its parameters, its body, its names -/
  dn : Nat → Option (Nat × Ss × Nat)
  meth : Nat → Nat → Option Nat
  init : Nat → Option Nat
  has : Nat → Nat → Bool
  prop : Nat → Nat → Option Nat
  cval : Nat → Nat → Option D
  fuel : Nat
def Tb.ev (B : Tb) (call : Nat → Nat → List D → Rs (D × Nat × D)) (keep : List Nat) : Ev := ⟨call, B.meth, B.init, B.fuel, keep, B.has, B.prop, B.cval⟩
def sg0 (n0 nn : Nat) (ds : List D) : Sg := ⟨ds.map some ++ List.replicate (nn - ds.length) none, n0 :: List.replicate (nn - 1) 0⟩
def fin (n0 : Nat) (ds : List D) (d : D) (n : Nat) (s : Sg) : Rs (D × Nat × D) := if n0 = 0 then .ok (d, n, ds.headD .non) else if s.o.getD 0 0 = n0 then match s.r[0]? with
  | some (some x) => .ok (d, n, x)
  | _ => .bad else .bad
def fend (n0 : Nat) (ds : List D) : Oc → Rs (D × Nat × D)
  | .rt d n s => fin n0 ds d n s
  | .nx s => fin n0 ds .non 9 s
  | _ => .bad
def callAt (B : Tb) : Nat → Nat → Nat → List D → Rs (D × Nat × D)
  | 0, _, _, _ => .bad
  | l + 1, f, n0, ds => match B.dn f with
    | none => .bad
    | some (np, body, nn) => if ds.length = np then fend n0 ds (evSs (B.ev (callAt B l) (if n0 = 0 then [] else [0])) body (sg0 n0 nn ds)) else .bad

structure Df (K : PySem.W.Frag) (c : Cc) (fa : Addr) (fd : FuncData) (ps : List Str) (np : Nat) (body : Ss) (nn : Nat) : Prop where
  ex : ∃ (x qual : Str) (st : Stmt) (N : List Str), Fun K x qual st fa fd ∧ FnScope N ps (defScope st) ∧ N.length = nn ∧ cvSs { c with N := N } (defScope st) body (defBody st) = true
  bn : Binds K fd ps []
  len : ps.length = np
structure Pg (T : Tab) (B : Tb) (c : Cc) (K : PySem.W.Frag) (mg : Str → Option Value) (adr : Nat → Addr) (fdt : Nat → FuncData) (prm : Nat → List Str) : Prop where
  tk : K = T.K
  bn : ∀ x ∈ bNames, mg x = none
  fnm : c.fnm = T.fnm
  df : ∀ f np body nn, B.dn f = some (np, body, nn) → Df K c (adr f) (fdt f) (prm f) np body nn
  call : ∀ f, c.fname f ≠ Str.empty → mg (c.fname f) = some (.ref (adr f)) ∧ PySem.W.keepIn K (.ref (adr f)) = true ∧ (B.dn f).isSome = true
  cls : ∀ cl, cl < T.nc → Cls K (T.cls cl)
  noat : ∀ cl j, cl < T.nc → B.has cl j = true → NoAttr K (T.cls cl) (T.fnm j)
  meth : ∀ cl m f, B.meth cl m = some f → cl < T.nc ∧ (∀ j, T.fnm j ≠ c.mnm m) ∧ Meth K (T.cls cl) (c.mnm m) (adr f) ∧ (B.dn f).isSome = true
  prop : ∀ cl m f, B.prop cl m = some f → cl < T.nc ∧ (∃ p, PropOf K (T.cls cl) (c.mnm m) p (adr f)) ∧ (B.dn f).isSome = true
  made : ∀ cl f, B.init cl = some f → cl < T.nc ∧ mg (c.cname cl) = some (.ref (T.cls cl)) ∧ Mk K (T.cls cl) (adr f) ∧ (B.dn f).isSome = true
  cval : ∀ cl j d, B.cval cl j = some d → mg (c.cname cl) = some (.ref (T.cls cl)) ∧ ∃ mc v u, ClX.CRead K (T.cls cl) mc ∧ ClX.CVal K (T.cls cl) mc (c.knm j) v u ∧ PySem.W.keepIn K (.ref (T.cls cl)) = true ∧ ∀ H A m, Rep T H A v d m []
section
variable {T : Tab} {B : Tb} {c : Cc} {K : PySem.W.Frag} {mg : Str → Option Value} {adr : Nat → Addr} {fdt : Nat → FuncData} {prm : Nat → List Str} {P : Program} {w : World} {base : Heap}
theorem sg0_get {n0 nn : Nat} {ds : List D} {i : Nat} {d : D} (h : (sg0 n0 nn ds).r[i]? = some (some d)) : ds[i]? = some d := by
  unfold sg0 at h
  dsimp only at h
  by_cases hi : i < ds.length
  · rw [List.getElem?_append_left (by simpa using hi), List.getElem?_map] at h
    cases q : ds[i]? with
    | none => rw [q] at h; cases h
    | some z => rw [q] at h; cases h; rfl
  · rw [List.getElem?_append_right (by simpa using hi), List.getElem?_replicate] at h
    split at h <;> cases h
theorem start_get {N : List Str} {vs : List V} {i : Nat} {v : V} (h : vs[i]? = some v) : (L2.start N vs)[i]? = some (some v) := by
  have hi := (List.getElem?_eq_some_iff.mp h).1
  unfold L2.start
  rw [List.getElem?_append_left (by simpa using hi), List.getElem?_map, h]
  rfl
theorem zero_o {n0 nn : Nat} {ds : List D} : ∀ {i : Nat}, i ≠ 0 → (sg0 n0 nn ds).o.getD i 0 = 0
  | 0, h => absurd rfl h
  | i + 1, _ => by
    show (n0 :: List.replicate (nn - 1) 0).getD (i + 1) 0 = 0
    simp [List.getD_eq_getElem?_getD, List.getElem?_replicate]
    split <;> rfl
theorem start_ok {A : Avd} {H : Hp} {N : List Str} {n0 nn : Nat} {F0 : List Addr} {vs : List V} {ds : List D} (al : All A H) (nA : ∀ b ∈ F0, ¬ A b) (r : match vs, ds with
    | [], [] => F0 = []
    | v0 :: vr, d0 :: dr => Rep T H (A.more F0) v0 d0 n0 F0 ∧ RepL T H (A.more F0) vr dr 0 []
    | _, _ => False) : SOk T H A (sg0 n0 nn ds) (L2.start N vs) (fun j => if j = 0 then F0 else []) ∧ vs.length = ds.length := by
  have av : ∀ b, Own A (fun j => if j = 0 then F0 else []) b → (A.more F0) b := fun b z => by
    rcases z with z | ⟨j, z⟩
    · exact .inl z
    · by_cases hj : j = 0
      · simp [hj] at z; exact .inr z
      · simp [hj] at z
  refine ⟨⟨al, fun i d h => ?_, fun i b hb => ?_, fun i j b hb hb' => ?_, fun i h => ?_⟩, ?_⟩
  · have hd := sg0_get h
    cases vs with
    | nil =>
      cases ds with
      | nil => simp at hd
      | cons _ _ => exact r.elim
    | cons v0 vr =>
      cases ds with
      | nil => exact r.elim
      | cons d0 dr =>
        obtain ⟨r0, rr⟩ := r
        cases i with
        | zero =>
          simp at hd
          subst hd
          exact ⟨v0, start_get rfl, r0.avoid fun b _ z => av b z⟩
        | succ i =>
          obtain ⟨v, h1, h2⟩ := rr.get (i := i) (by simpa using hd)
          refine ⟨v, start_get (by simpa using h1), ?_⟩
          rw [zero_o (Nat.succ_ne_zero i)]
          simpa using h2.avoid fun b _ z => av b z
  · by_cases hi : i = 0
    · simp [hi] at hb; exact nA b hb
    · simp [hi] at hb
  · by_cases hi : i = 0
    · by_cases hj : j = 0
      · rw [hi, hj]
      · simp [hj] at hb'
    · simp [hi] at hb
  · by_cases hi : i = 0
    · subst hi
      cases vs with
      | nil =>
        cases ds with
        | nil => simpa using r
        | cons _ _ => exact r.elim
      | cons v0 vr =>
        cases ds with
        | nil => exact r.elim
        | cons d0 dr => exact absurd rfl (h d0)
    · simp [hi]
  · cases vs with
    | nil =>
      cases ds with
      | nil => rfl
      | cons _ _ => exact r.elim
    | cons v0 vr =>
      cases ds with
      | nil => exact r.elim
      | cons d0 dr => simp [r.2.length]
theorem fin_ok {n0 : Nat} {ds : List D} {d : D} {n : Nat} {s : Sg} {y : D × Nat × D} (h : fin n0 ds d n s = .ok y) : y.1 = d ∧ y.2.1 = n ∧ ((n0 = 0 ∧ y.2.2 = ds.headD .non) ∨ (n0 ≠ 0 ∧ s.o.getD 0 0 = n0 ∧ s.r[0]? = some (some y.2.2))) := by
  unfold fin at h
  split at h
  · rename_i h0
    cases h
    exact ⟨rfl, rfl, .inl ⟨h0, rfl⟩⟩
  · rename_i h0
    split at h
    · rename_i h1
      split at h
      · rename_i x hx
        cases h
        exact ⟨rfl, rfl, .inr ⟨h0, h1, hx⟩⟩
      · cases h
    · cases h
theorem fn_all (G : Pg T B c K mg adr fdt prm) : ∀ (l f : Nat) (keep : List Nat), (B.dn f).isSome = true → FnOk P w K mg base CX0 (2 * l) (adr f) (fdt f) (prm f) (spG T (B.ev (callAt B l) keep) f)
  | 0, f, keep, _ => by
    refine ⟨fun vs H Q E h => ?_, fun A outer s H args us vs Q E hr he hb hv h => ?_⟩
    · obtain ⟨A, n0, F0, ds, d, n, x, _, _, _, e, _⟩ := h
      exact nomatch (show Rs.bad = Rs.ok (d, n, x) from e)
    · obtain ⟨A, n0, F0, ds, d, n, x, _, _, _, e, _⟩ := h
      exact nomatch (show Rs.bad = Rs.ok (d, n, x) from e)
  | l + 1, f, keep, hf => by
    obtain ⟨⟨np, body, nn⟩, hd⟩ := Option.isSome_iff_exists.mp hf
    obtain ⟨⟨xn, qual, st, N, F, S, hN, hc⟩, hbn, hlen⟩ := G.df f np body nn hd
    have ih := fn_all G l
    have un : ∀ {ds : List D} {n0 : Nat} {y : D × Nat × D}, callAt B (l + 1) f n0 ds = .ok y → ds.length = np ∧ fend n0 ds (evSs (B.ev (callAt B l) (if n0 = 0 then [] else [0])) body (sg0 n0 nn ds)) = .ok y := fun {ds n0 y} e => by
      rw [callAt, hd] at e
      exact rif_ok e
    refine F.ok (k := 2 * l + 1) S (fun vs H Q E h => ?_) (fun cdv A outer s H vs Q E hr h => ?_)
    · obtain ⟨A, n0, F0, ds, d, n, x, al, nA, r, e, q⟩ := h
      obtain ⟨h1, _⟩ := un e
      rw [(start_ok (N := N) (nn := nn) al nA r).2, h1, hlen]
    · obtain ⟨Av, n0, F0, ds, d, n, x, al, nA, r, e, q⟩ := h
      obtain ⟨h1, e⟩ := un e
      obtain ⟨k, hvl⟩ := start_ok (N := N) (nn := nn) al nA r
      refine ⟨tS T (B.ev (callAt B l) (if n0 = 0 then [] else [0])) (evSs (B.ev (callAt B l) (if n0 = 0 then [] else [0])) body), ?_, Av, _, _, k, ?_⟩
      · refine sndSs (cc := { c with N := N }) (kk := 2 * l) body ⟨⟨rfl, S.nd, rfl, G.tk, G.bn, hr, fun g hg => ?_, G.fnm, G.cls, G.noat, fun cl m g hg => ?_, fun cl m g hg => ?_, fun cl g hg => ?_, G.cval⟩, fun y hy => ⟨Ctx.loc hy, .inl rfl⟩, PassesOwn.never⟩ hc
        · obtain ⟨g1, g2, g3⟩ := G.call g hg
          obtain ⟨⟨np', body', nn'⟩, hd'⟩ := Option.isSome_iff_exists.mp g3
          exact ⟨_, _, _, g1, g2, (G.df g np' body' nn' hd').bn, ih g _ g3⟩
        · obtain ⟨g1, g2, g3, g4⟩ := G.meth cl m g hg
          obtain ⟨⟨np', body', nn'⟩, hd'⟩ := Option.isSome_iff_exists.mp g4
          exact ⟨g1, g2, _, g3, ⟨_, _, (G.df g np' body' nn' hd').bn, ih g _ g4⟩⟩
        · obtain ⟨g1, ⟨p, g3⟩, g4⟩ := G.prop cl m g hg
          obtain ⟨⟨np', body', nn'⟩, hd'⟩ := Option.isSome_iff_exists.mp g4
          exact ⟨g1, p, _, g3, ⟨_, _, (G.df g np' body' nn' hd').bn, ih g _ g4⟩⟩
        · obtain ⟨g1, g2, g3, g4⟩ := G.made cl g hg
          obtain ⟨⟨np', body', nn'⟩, hd'⟩ := Option.isSome_iff_exists.mp g4
          exact ⟨g1, g2, _, g3, ⟨_, _, (G.df g np' body' nn' hd').bn, ih g _ g4⟩⟩
      · -- the end
        have done : ∀ {s' : Sg} {d' : D} {n' : Nat} {v : V} {σ' : L2.St} {H' : Hp} {F : List Addr} {Φ' : Nat → List Addr}, fin n0 ds d' n' s' = .ok (d, n, x) → Rch T (B.ev (callAt B l) (if n0 = 0 then [] else [0])) Av (L2.start N vs) H (fun j => if j = 0 then F0 else []) s' σ' H' Φ' → (∀ b ∈ F, b ∉ Φ' 0) → (∀ b ∈ F, (∃ j, j ≠ 0 ∧ b ∈ (if j = 0 then F0 else [])) ∨ H b = none) → Rep T H' (Avd.more (fun b => Av b ∨ b ∈ Φ' 0) F) v d' n' F →
            (∀ x, s'.r[0]? = some (some x) → ∃ v0, σ'[0]? = some (some v0) ∧ Rep T H' (Avd.more (fun b => Av b ∨ b ∈ Φ' 0) F) v0 x (s'.o.getD 0 0) (Φ' 0)) → Q v H' := fun {s' d' n' v σ' H' F Φ'} ef rc h1 h2 h3 h4 => by
          obtain ⟨e1, e2, e3⟩ := fin_ok ef
          dsimp only at e1 e2 e3
          subst e1 e2
          have fF : Frs F H := fun b hb => by
            rcases h2 b hb with ⟨j, hj, hz⟩ | h
            · rw [if_neg hj] at hz; simp at hz
            · exact h
          have kpx : ∀ b o, H b = some o → b ∉ F0 → H' b = some o := fun b o hb hn => rc.st.keep b o hb fun j hj => by
            by_cases hj0 : j = 0
            · simp [hj0] at hj; exact hn hj
            · simp [hj0] at hj
          rcases e3 with ⟨h0, hx⟩ | ⟨h0, ho, hx⟩
          · subst h0
            have hF0 : F0 = [] := by
              cases vs with
              | nil =>
                cases ds with
                | nil => exact r
                | cons _ _ => exact r.elim
              | cons v0 vr =>
                cases ds with
                | nil => exact r.elim
                | cons d0 dr => exact r.1.zero rfl
            subst hF0
            refine q v H' F [] kpx rc.st.dom fF (fun b hb => absurd hb (by simp)) (fun b _ z => absurd z (by simp)) (h3.avoid fun b _ z => ?_) fun v0 vr hv => ?_
            · rcases z with (z | z) | z
              · exact .inl (.inl z)
              · simp at z
              · exact .inr z
            · subst hv
              cases ds with
              | nil => exact r.elim
              | cons d0 dr =>
                subst hx
                refine (r.1.avoid (A' := (Avd.more (Avd.more Av []) F)) fun b hb z => ?_).keep (E := []) (fun _ h => h) fun b o hb _ => kpx b o hb (by simp)
                rcases z with (z | z) | z
                · exact .inl z
                · exact .inr z
                · exact absurd (fF b z) hb
          · refine q v H' F (Φ' 0) kpx rc.st.dom fF (fun b hb => ?_) h1 h3 fun v0 vr hv => ?_
            · rcases rc.st.come 0 b hb with h | h
              · exact .inl (by simpa using h)
              · exact .inr h
            · obtain ⟨v1, q1, q2⟩ := h4 _ hx
              have hk : 0 ∈ (B.ev (callAt B l) (if n0 = 0 then [] else [0])).keep := by
                show 0 ∈ (if n0 = 0 then [] else [0])
                rw [if_neg h0]; simp
              rw [rc.kp 0 hk, hv, start_get (v := v0) rfl] at q1
              cases q1
              rw [ho] at q2
              exact q2
        generalize ho : evSs (B.ev (callAt B l) (if n0 = 0 then [] else [0])) body (sg0 n0 nn ds) = oc at e
        cases oc with
        | nx s' => exact fun σ' H' Φ' rc => done (F := []) e rc (fun b hb => absurd hb (by simp)) (fun b hb => absurd hb (by simp)) .non (slot0 rc.k (Same.refl _) fun b hb => absurd hb (by simp))
        | rt d' n' s' => exact fun v σ' H' F Φ' rc h1 h2 h3 h4 => done e rc h1 h2 h3 h4
        | bk s' => cases e
        | ct s' => cases e
        | ex c d' => cases e
        | bad => cases e
end
end Hc
set_option Elab.async false
set_option linter.all false
set_option maxRecDepth 100000
set_option maxHeartbeats 4000000
/-! Names of attributes; the promise of a law. -/
namespace Hc
open PySem PySem.Spec PyProof.Rows L2
def mkNm (L : List Str) (i : Nat) : Str := match L[i]? with
  | some x => x
  | none => ⟨(List.replicate (i + 1) 0).toArray⟩
theorem mkNm_inj {L : List Str} (hn : L.Nodup) (h0 : (L.all fun x => decide (x.cps.toList.head? ≠ some 0)) = true) : ∀ i j, mkNm L i = mkNm L j → i = j := fun i j h => by
  have hz : ∀ x ∈ L, x.cps.toList.head? ≠ some 0 := fun x hx => of_decide_eq_true (List.all_eq_true.mp h0 x hx)
  unfold mkNm at h
  cases q1 : L[i]? with
  | some x =>
    cases q2 : L[j]? with
    | some y =>
      rw [q1, q2] at h
      obtain ⟨hi, e1⟩ := List.getElem?_eq_some_iff.mp q1
      obtain ⟨hj, e2⟩ := List.getElem?_eq_some_iff.mp q2
      have h : x = y := h
      exact (List.getElem_inj hn).mp (by rw [e1, e2, h])
    | none =>
      rw [q1, q2] at h
      have h : x = _ := h
      exact absurd (by rw [h]; simp [List.replicate_succ]) (hz x (List.mem_of_getElem? q1))
  | none =>
    cases q2 : L[j]? with
    | some y =>
      rw [q1, q2] at h
      have h : _ = y := h
      exact absurd (by rw [← h]; simp [List.replicate_succ]) (hz y (List.mem_of_getElem? q2))
    | none =>
      rw [q1, q2] at h
      have h2 := congrArg (fun s : Str => s.cps.size) h
      simpa using h2
theorem mkNm_ne {L : List Str} {m : Str} (h : (L.all fun x => decide (x ≠ m)) = true) (h0 : m.cps.toList.head? ≠ some 0) : ∀ j, mkNm L j ≠ m := fun j e => by
  unfold mkNm at e
  cases q : L[j]? with
  | some x =>
    rw [q] at e
    exact of_decide_eq_true (List.all_eq_true.mp h x (List.mem_of_getElem? q)) e
  | none =>
    rw [q] at e
    exact h0 (by rw [← e]; simp [List.replicate_succ])
theorem bn_of {mg : Str → Option Value} (z0 : mg (sStr "len") = none) (z1 : mg (sStr "int") = none) (z2 : mg (sStr "list") = none) (z3 : mg (sStr "tuple") = none) (z4 : mg (sStr "sorted") = none) (z5 : mg (sStr "abs") = none) (z6 : mg (sStr "min") = none) (z7 : mg (sStr "max") = none) (z8 : mg (sStr "sum") = none) (z9 : mg (sStr "any") = none) (z10 : mg (sStr "all") = none) (z11 : mg (sStr "str") = none) (z12 : mg (sStr "range") = none) (z13 : mg (sStr "isinstance") = none) (z14 : mg (sStr "enumerate") = none) (z15 : mg (sStr "bool") = none) (z16 : mg (sStr "reversed") = none) (z17 : mg (sStr "set") = none) (z18 : mg (sStr "dict") = none) : ∀ x ∈ bNames, mg x = none := by
  intro x hx
  simp only [bNames, List.map_cons, List.map_nil, List.mem_cons, List.not_mem_nil, or_false] at hx
  rcases hx with rfl | rfl | rfl | rfl | rfl | rfl | rfl | rfl | rfl | rfl | rfl | rfl | rfl | rfl | rfl | rfl | rfl | rfl | rfl <;> assumption
/-- the promise of a law's def -/
def spLaw (K : PySem.W.Frag) (n : Nat) : Sp := fun vs H Q _ => ∃ (a : Addr) (ns : List Int), vs = [.ref a] ∧ ns.length ≤ n ∧ SqL K H a (ns.map V.int) ∧ ((∃ o, H a = some (.frz o (.lst (ns.map V.int)))) ∨ SqL K (fun _ => none) a (ns.map V.int)) ∧ ∀ H', Q (.bl true) H'
theorem law_fn {T : Tab} {B : Tb} {c : Cc} {K : PySem.W.Frag} {mg : Str → Option Value} {adr : Nat → Addr} {fdt : Nat → FuncData} {prm : Nat → List Str} {P : Program} {w : World} {base : Heap} (G : Pg T B c K mg adr fdt prm) (l f n : Nat) (hf : (B.dn f).isSome = true)
    (h : ∀ ns : List Int, ns.length ≤ n → ∃ m x, callAt B l f 0 [.scr ns] = .ok (.bl true, m, x)) : FnOk P w K mg base CX0 (2 * l) (adr f) (fdt f) (prm f) (spLaw K n) := (fn_all G l f [] hf).imp fun vs H Q E hs => by
  obtain ⟨a, ns, rfl, hl, h1, h2, q⟩ := hs
  obtain ⟨m, x, e⟩ := h ns hl
  rw [G.tk] at h1 h2
  exact ⟨fun _ => False, 0, [], [.scr ns], .bl true, m, x, all0, fun b hb => absurd hb (by simp), ⟨.scr h1 h2, .nil⟩, e, fun v H' F F' _ _ _ _ _ r _ => by rw [r.bl_inv]; exact q H'⟩
theorem law_arg {K : PySem.W.Frag} {H : Hp} {a : Addr} {ns : List Int} (h : Only H) (s : SqL K H a (ns.map V.int)) : (∃ o, H a = some (.frz o (.lst (ns.map V.int)))) ∨ SqL K (fun _ => none) a (ns.map V.int) := by
  rcases s with (s | ⟨o, s⟩) | s
  · rcases h a with z | ⟨ob, xs, z⟩
    · rw [z] at s; cases s
    · rw [z] at s; cases s
  · exact .inl ⟨o, s⟩
  · exact .inr (.inr s)
end Hc
set_option Elab.async false
set_option linter.all false
set_option maxRecDepth 100000
/-! The defs of the laws in the small language (printed by gen2.py). -/
namespace Bd
open PySem Hc
/-- bits_of -/
def b_bits_of : Ss := (.cons (.set (.nm 1) (.int 0)) (.cons (.for (.nm 2) (.var 0) (.cons (.aug 1 .bor (.bin .shl (.int 1) (.var 2))) .nil)) (.cons (.ret (.var 1)) .nil)))
abbrev N_bits_of : List Str := ["rooms", "bits", "room"]
class C_bits_of (B : Tb) : Prop where
  d_bits_of : B.dn 0 = some (1, b_bits_of, 3)
/-- rooms_of -/
def b_rooms_of : Ss := (.cons (.set (.nm 1) (.emp 0)) (.cons (.whl (.cmp .gt (.var 0) (.int 0)) (.cons (.set (.nm 2) (.bin .band (.var 0) (.neg (.var 0)))) (.cons (.app (.v 1) (.bin .sub (.mth .bitlen (.var 2) .nil) (.int 1))) (.cons (.aug 0 .sub (.var 2)) .nil)))) (.cons (.ret (.bi .tuple (.cons (.var 1) .nil))) .nil)))
abbrev N_rooms_of : List Str := ["bits", "rooms", "least"]
class C_rooms_of (B : Tb) : Prop where
  d_rooms_of : B.dn 1 = some (1, b_rooms_of, 3)
/-- spread -/
def b_spread : Ss := (.cons (.set (.nm 3) (.bin .band (.var 1) (.var 2))) (.cons (.set (.nm 4) (.var 3)) (.cons (.whl (.cmp .gt (.var 4) (.int 0)) (.cons (.set (.nm 5) (.bin .band (.var 4) (.neg (.var 4)))) (.cons (.set (.nm 6) (.bin .band (.bin .band (.idx (.var 0) (.bin .sub (.mth .bitlen (.var 5) .nil) (.int 1))) (.var 2)) (.inv (.var 3)))) (.cons (.aug 3 .bor (.var 6)) (.cons (.set (.nm 4) (.bin .bor (.bin .sub (.var 4) (.var 5)) (.var 6))) .nil))))) (.cons (.ret (.var 3)) .nil))))
abbrev N_spread : List Str := ["following", "start", "inside", "found", "waiting", "least", "further"]
class C_spread (B : Tb) : Prop where
  d_spread : B.dn 3 = some (3, b_spread, 7)
/-- pieces_of -/
def b_pieces_of : Ss := (.cons (.set (.nm 2) (.emp 0)) (.cons (.whl (.cmp .gt (.var 1) (.int 0)) (.cons (.set (.nm 3) (.call 3 (.cons (.var 0) (.cons (.bin .band (.var 1) (.neg (.var 1))) (.cons (.var 1) .nil))))) (.cons (.app (.v 2) (.var 3)) (.cons (.aug 1 .sub (.var 3)) .nil)))) (.cons (.ret (.var 2)) .nil)))
abbrev N_pieces_of : List Str := ["following", "inside", "found", "piece"]
class C_pieces_of (B : Tb) : Prop extends C_spread B where
  d_pieces_of : B.dn 4 = some (2, b_pieces_of, 4)
/-- House.__init__ -/
def b_House___init__ : Ss := (.cons (.drop (.call 5 (.cons (.var 1) .nil))) (.cons (.sfl (.v 0) 2 (.var 1)) (.cons (.sfl (.v 0) 3 (.bin .mul (.lst (.cons (.int 0) .nil)) (.var 1))) (.cons (.for (.tp [(.nm 3), (.tp [(.nm 4), (.nm 5)])]) (.enm (.var 2)) (.cons (.ite (.orL (.cons (.cmp .eq (.var 4) (.var 5)) (.cons (.nt (.andL (.cons (.chain .le .lt (.int 0) (.var 4) (.var 1)) (.cons (.chain .le .lt (.int 0) (.var 5) (.var 1)) .nil)))) .nil))) (.cons .never .nil) .nil) (.cons (.ite (.cmp .isin (.var 5) (.call 1 (.cons (.idx (.fld (.var 0) 3) (.var 4)) .nil))) (.cons .never .nil) .nil) (.cons (.sta (.fl (.v 0) 3) (.var 4) .bor (.bin .shl (.int 1) (.var 5))) (.cons (.sta (.fl (.v 0) 3) (.var 5) .bor (.bin .shl (.int 1) (.var 4))) .nil))))) (.cons (.sfl (.v 0) 4 (.bi (.sorted (.p .i .i)) (.cons (.comp 0 (.tp [(.nm 4), (.nm 5)]) (.var 2) .nop (.tup (.cons (.bi .min (.cons (.var 4) (.cons (.var 5) .nil))) (.cons (.bi .max (.cons (.var 4) (.cons (.var 5) .nil))) .nil)))) .nil))) .nil)))))
abbrev N_House___init__ : List Str := ["self", "rooms", "doors", "place", "a", "b"]
class C_House___init__ (B : Tb) : Prop extends C_rooms_of B where
  d_House___init__ : B.dn 34 = some (3, b_House___init__, 6)
  i_House___init__ : B.init 3 = some 34
  h_House_rooms : B.has 3 2 = true
  h_House_joined : B.has 3 3 = true
  h_House_doors : B.has 3 4 = true
  v_House_MOST_ROOMS : B.cval 3 0 = some (.int 12)
/-- check_rooms -/
def b_check_rooms : Ss := (.cons (.ite (.nt (.chain .le .le (.int 1) (.var 0) (.cv 3 0))) (.cons .never .nil) .nil) .nil)
abbrev N_check_rooms : List Str := ["rooms"]
class C_check_rooms (B : Tb) : Prop extends C_House___init__ B where
  d_check_rooms : B.dn 5 = some (1, b_check_rooms, 1)
/-- _law_cell -/
def b_law_cell : Ss := (.cons (.ite (.cmp .lt (.var 1) (.bi .len (.cons (.var 0) .nil))) (.cons (.ret (.bi .abs (.cons (.bi .int (.cons (.idx (.var 0) (.var 1)) .nil)) .nil))) .nil) .nil) (.cons (.ret (.int 0)) .nil))
abbrev N_law_cell : List Str := ["script", "k"]
class C_law_cell (B : Tb) : Prop where
  d_law_cell : B.dn 15 = some (2, b_law_cell, 2)
/-- _law_numbers -/
def b_law_numbers : Ss := (.cons (.set (.nm 2) (.emp 0)) (.cons (.set (.nm 3) (.var 0)) (.cons (.set (.nm 4) (.bin .mod (.bi .int (.cons (.bin .add (.bin .mul (.var 0) (.int 69621)) (.int 40692)) .nil)) (.int 2147483647))) (.cons (.for (.nm 5) (.rng (.int 0) (.var 1)) (.cons (.set (.nm 4) (.bin .mod (.bi .int (.cons (.bin .add (.bin .add (.bin .mul (.var 4) (.int 48271)) (.bin .mul (.int 7919) (.var 5))) (.int 12345)) .nil)) (.int 2147483647))) (.cons (.ite (.andL (.cons (.cmp .ge (.var 0) (.bin .pow (.int 10) (.int 18))) (.cons (.cmp .gt (.var 3) (.int 0)) .nil))) (.cons (.app (.v 2) (.bin .mod (.bi .int (.cons (.var 3) .nil)) (.int 997))) (.cons (.set (.nm 3) (.bin .fdiv (.var 3) (.int 997))) .nil)) (.cons (.app (.v 2) (.bin .mod (.bi .int (.cons (.bin .fdiv (.var 4) (.int 1009)) .nil)) (.int 997))) .nil)) .nil))) (.cons (.ret (.var 2)) .nil)))))
abbrev N_law_numbers : List Str := ["cell", "count", "numbers", "rest", "mixed", "k"]
class C_law_numbers (B : Tb) : Prop where
  d_law_numbers : B.dn 16 = some (2, b_law_numbers, 6)
/-- _law_names -/
def b_law_names : Ss := (.cons (.set (.nm 3) (.lrng (.int 0) (.var 2))) (.cons (.for (.nm 4) (.rng (.int 0) (.var 2)) (.cons (.set (.nm 5) (.bin .add (.var 4) (.bin .mod (.bi .int (.cons (.idx (.var 0) (.bin .add (.var 1) (.var 4))) .nil)) (.bin .sub (.var 2) (.var 4))))) (.cons (.set (.nm 6) (.idx (.var 3) (.var 4))) (.cons (.sto (.v 3) (.var 4) (.idx (.var 3) (.var 5))) (.cons (.sto (.v 3) (.var 5) (.var 6)) .nil))))) (.cons (.ret (.var 3)) .nil)))
abbrev N_law_names : List Str := ["numbers", "at", "rooms", "names", "k", "j", "kept"]
class C_law_names (B : Tb) : Prop where
  d_law_names : B.dn 17 = some (3, b_law_names, 7)
/-- _law_joined -/
def b_law_joined : Ss := (.cons (.ite (.cmp .eq (.var 0) (.int 1)) (.cons (.ret (.cmp .eq (.var 1) (.int 0))) .nil) .nil) (.cons (.ite (.cmp .eq (.var 0) (.int 2)) (.cons (.ret (.orL (.cons (.cmp .eq (.var 2) (.bin .add (.var 1) (.int 1))) (.cons (.andL (.cons (.cmp .eq (.var 1) (.int 0)) (.cons (.cmp .eq (.var 2) (.bin .sub (.var 3) (.int 1))) .nil))) .nil)))) .nil) .nil) (.cons (.ite (.cmp .eq (.var 0) (.int 3)) (.cons (.ret (.bl true)) .nil) .nil) (.cons (.ite (.cmp .eq (.var 0) (.int 4)) (.cons (.ret (.cmp .eq (.var 1) (.bin .mod (.bi .int (.cons (.var 5) .nil)) (.var 2)))) .nil) .nil) (.cons (.ite (.cmp .eq (.var 0) (.int 5)) (.cons (.ret (.cmp .eq (.bin .mod (.bi .int (.cons (.var 4) .nil)) (.int 3)) (.int 0))) .nil) .nil) (.cons (.ite (.cmp .eq (.var 0) (.int 6)) (.cons (.ret (.cmp .eq (.bin .mod (.bi .int (.cons (.var 4) .nil)) (.int 2)) (.int 0))) .nil) .nil) (.cons (.ite (.cmp .eq (.var 0) (.int 7)) (.cons (.ret (.cmp .ne (.bin .mod (.bi .int (.cons (.var 4) .nil)) (.int 5)) (.int 0))) .nil) .nil) (.cons (.ret (.cmp .eq (.var 2) (.bin .add (.var 1) (.int 1)))) .nil))))))))
abbrev N_law_joined : List Str := ["kind", "a", "b", "rooms", "number", "parent"]
class C_law_joined (B : Tb) : Prop where
  d_law_joined : B.dn 18 = some (6, b_law_joined, 6)
/-- _law_doors -/
def b_law_doors : Ss := (.cons (.set (.nm 2) (.bin .mod (.bi .int (.cons (.idx (.var 0) (.int 0)) .nil)) (.int 8))) (.cons (.set (.nm 3) (.call 17 (.cons (.var 0) (.cons (.int 1) (.cons (.var 1) .nil))))) (.cons (.set (.nm 4) (.emp 0)) (.cons (.for (.nm 5) (.rng (.int 1) (.var 1)) (.cons (.set (.nm 6) (.bin .add (.bin .add (.int 1) (.var 1)) (.bin .fdiv (.bin .mul (.var 5) (.bin .sub (.var 5) (.int 1))) (.int 2)))) (.cons (.for (.nm 7) (.rng (.int 0) (.var 5)) (.cons (.ite (.call 18 (.cons (.var 2) (.cons (.var 7) (.cons (.var 5) (.cons (.var 1) (.cons (.idx (.var 0) (.bin .add (.var 6) (.var 7))) (.cons (.idx (.var 0) (.var 6)) .nil))))))) (.cons (.app (.v 4) (.tup (.cons (.bi .min (.cons (.idx (.var 3) (.var 7)) (.cons (.idx (.var 3) (.var 5)) .nil))) (.cons (.bi .max (.cons (.idx (.var 3) (.var 7)) (.cons (.idx (.var 3) (.var 5)) .nil))) .nil)))) .nil) .nil) .nil)) .nil))) (.cons (.ret (.bi (.sorted (.p .i .i)) (.cons (.var 4) .nil))) .nil)))))
abbrev N_law_doors : List Str := ["numbers", "rooms", "kind", "names", "doors", "b", "first", "a"]
class C_law_doors (B : Tb) : Prop extends C_law_joined B, C_law_names B where
  d_law_doors : B.dn 19 = some (2, b_law_doors, 8)
/-- _law_beside -/
def b_law_beside : Ss := (.cons (.set (.nm 2) (.comp 1 (.nm 5) (.rng (.int 0) (.var 1)) .nop (.emp 0))) (.cons (.for (.tp [(.nm 3), (.nm 4)]) (.var 0) (.cons (.app (.ix (.v 2) (.var 3)) (.var 4)) (.cons (.app (.ix (.v 2) (.var 4)) (.var 3)) .nil))) (.cons (.ret (.var 2)) .nil)))
abbrev N_law_beside : List Str := ["doors", "rooms", "beside", "a", "b", "r"]
class C_law_beside (B : Tb) : Prop where
  d_law_beside : B.dn 20 = some (2, b_law_beside, 6)
/-- _law_layers -/
def b_law_layers : Ss := (.cons (.set (.nm 3) (.emp 0)) (.cons (.set (.nm 4) (.comp 0 (.nm 9) (.var 2) (.cmp .eq (.var 9) (.var 1)) (.var 9))) (.cons (.set (.nm 5) (.bi .list (.cons (.var 4) .nil))) (.cons (.for (.nm 6) (.rng (.int 0) (.bi .len (.cons (.var 2) .nil))) (.cons (.ite (.cmp .eq (.bi .len (.cons (.var 4) .nil)) (.int 0)) (.cons .brk .nil) .nil) (.cons (.app (.v 3) (.var 4)) (.cons (.set (.nm 7) (.emp 0)) (.cons (.for (.nm 8) (.var 4) (.cons (.for (.nm 10) (.idx (.var 0) (.var 8)) (.cons (.ite (.andL (.cons (.cmp .isin (.var 10) (.var 2)) (.cons (.cmp .nin (.var 10) (.var 5)) .nil))) (.cons (.app (.v 5) (.var 10)) (.cons (.app (.v 7) (.var 10)) .nil)) .nil) .nil)) .nil)) (.cons (.set (.nm 4) (.bi .list (.cons (.var 7) .nil))) .nil)))))) (.cons (.ret (.var 3)) .nil)))))
abbrev N_law_layers : List Str := ["beside", "start", "inside", "layers", "layer", "known", "k", "further", "room", "r", "other"]
class C_law_layers (B : Tb) : Prop where
  d_law_layers : B.dn 21 = some (3, b_law_layers, 11)
/-- _law_reach -/
def b_law_reach : Ss := (.cons (.set (.nm 3) (.emp 0)) (.cons (.for (.nm 4) (.call 21 (.cons (.var 0) (.cons (.var 1) (.cons (.var 2) .nil)))) (.cons (.ext (.v 3) (.var 4)) .nil)) (.cons (.ret (.bi (.sorted .i) (.cons (.var 3) .nil))) .nil)))
abbrev N_law_reach : List Str := ["beside", "start", "inside", "found", "layer"]
class C_law_reach (B : Tb) : Prop extends C_law_layers B where
  d_law_reach : B.dn 22 = some (3, b_law_reach, 5)
/-- _law_pieces -/
def b_law_pieces : Ss := (.cons (.set (.nm 2) (.emp 0)) (.cons (.set (.nm 3) (.emp 0)) (.cons (.for (.nm 4) (.bi (.sorted .i) (.cons (.var 1) .nil)) (.cons (.ite (.cmp .nin (.var 4) (.var 3)) (.cons (.set (.nm 5) (.call 22 (.cons (.var 0) (.cons (.var 4) (.cons (.var 1) .nil))))) (.cons (.ext (.v 3) (.var 5)) (.cons (.app (.v 2) (.bi .tuple (.cons (.var 5) .nil))) .nil))) .nil) .nil)) (.cons (.ret (.var 2)) .nil))))
abbrev N_law_pieces : List Str := ["beside", "rooms", "found", "done", "room", "piece"]
class C_law_pieces (B : Tb) : Prop extends C_law_reach B where
  d_law_pieces : B.dn 23 = some (2, b_law_pieces, 6)
/-- _law_same -/
def b_law_same : Ss := (.cons (.set (.nm 2) (.lst (.cons (.tup (.cons (.var 0) (.cons (.var 1) .nil))) .nil))) (.cons (.for (.nm 3) (.rng (.int 0) (.bin .pow (.int 10) (.int 6))) (.cons (.ite (.cmp .eq (.bi .len (.cons (.var 2) .nil)) (.int 0)) (.cons (.ret (.bl true)) .nil) .nil) (.cons (.pop (.tp [(.nm 4), (.nm 5)]) (.v 2)) (.cons (.ite (.cmp .is (.var 5) .non) (.cons (.set (.nm 6) (.cmp .is (.var 4) .non)) .nil) (.cons (.ite (.cmp .is (.var 5) (.bl true)) (.cons (.set (.nm 6) (.cmp .is (.var 4) (.bl true))) .nil) (.cons (.ite (.cmp .is (.var 5) (.bl false)) (.cons (.set (.nm 6) (.cmp .is (.var 4) (.bl false))) .nil) (.cons (.ite (.bi (.isi 0) (.cons (.var 5) .nil)) (.cons (.set (.nm 6) (.andL (.cons (.bi (.isi 0) (.cons (.var 4) .nil)) (.cons (.nt (.bi (.isi 4) (.cons (.var 4) .nil))) (.cons (.cmp .eq (.var 4) (.var 5)) .nil))))) .nil) (.cons (.ite (.bi (.isi 1) (.cons (.var 5) .nil)) (.cons (.set (.nm 6) (.andL (.cons (.bi (.isi 1) (.cons (.var 4) .nil)) (.cons (.cmp .eq (.var 4) (.var 5)) .nil)))) .nil) (.cons (.ite (.bi (.isi 2) (.cons (.var 5) .nil)) (.cons (.set (.nm 6) (.andL (.cons (.bi (.isi 2) (.cons (.var 4) .nil)) (.cons (.cmp .eq (.bi .len (.cons (.var 4) .nil)) (.bi .len (.cons (.var 5) .nil))) .nil)))) .nil) (.cons (.set (.nm 6) (.andL (.cons (.bi (.isi 3) (.cons (.var 4) .nil)) (.cons (.cmp .eq (.bi .len (.cons (.var 4) .nil)) (.bi .len (.cons (.var 5) .nil))) .nil)))) .nil)) .nil)) .nil)) .nil)) .nil)) .nil)) (.cons (.ite (.nt (.var 6)) (.cons (.ret (.bl false)) .nil) .nil) (.cons (.ite (.orL (.cons (.bi (.isi 2) (.cons (.var 5) .nil)) (.cons (.bi (.isi 3) (.cons (.var 5) .nil)) .nil))) (.cons (.for (.nm 7) (.rng (.int 0) (.bi .len (.cons (.var 5) .nil))) (.cons (.app (.v 2) (.tup (.cons (.idx (.var 4) (.var 7)) (.cons (.idx (.var 5) (.var 7)) .nil)))) .nil)) .nil) .nil) .nil)))))) (.cons (.ret (.bl false)) .nil)))
abbrev N_law_same : List Str := ["got", "due", "waiting", "k", "one", "two", "good", "j"]
class C_law_same (B : Tb) : Prop where
  d_law_same : B.dn 24 = some (2, b_law_same, 8)
/-- House.doors -/
def b_House_doors : Ss := (.cons (.ret (.bi .list (.cons (.fld (.var 0) 4) .nil))) .nil)
abbrev N_House_doors : List Str := ["self"]
class C_House_doors (B : Tb) : Prop where
  d_House_doors : B.dn 35 = some (1, b_House_doors, 1)
  m_House_doors : B.meth 3 1 = some 35
/-- House.neighbours -/
def b_House_neighbours : Ss := (.cons (.ret (.bi .list (.cons (.call 1 (.cons (.idx (.fld (.var 0) 3) (.var 1)) .nil)) .nil))) .nil)
abbrev N_House_neighbours : List Str := ["self", "room"]
class C_House_neighbours (B : Tb) : Prop extends C_rooms_of B where
  d_House_neighbours : B.dn 36 = some (2, b_House_neighbours, 2)
  m_House_neighbours : B.meth 3 2 = some 36
/-- House.neighbour_sets -/
def b_House_neighbour_sets : Ss := (.cons (.ret (.bi .list (.cons (.fld (.var 0) 3) .nil))) .nil)
abbrev N_House_neighbour_sets : List Str := ["self"]
class C_House_neighbour_sets (B : Tb) : Prop where
  d_House_neighbour_sets : B.dn 37 = some (1, b_House_neighbour_sets, 1)
  m_House_neighbour_sets : B.meth 3 3 = some 37
/-- last_calls -/
def b_last_calls : Ss := (.cons (.set (.nm 1) (.emp 0)) (.cons (.set (.nm 2) (.dnew false 0)) (.cons (.for (.tp [(.nm 3), (.nm 4)]) (.rvd (.var 0)) (.cons (.ite (.cmp .nin (.var 3) (.var 2)) (.cons (.sto (.v 2) (.var 3) (.bl true)) (.cons (.app (.v 1) (.tup (.cons (.var 3) (.cons (.var 4) .nil)))) .nil)) .nil) .nil)) (.cons (.rev (.v 1)) (.cons (.ret (.var 1)) .nil)))))
abbrev N_last_calls : List Str := ["log", "found", "called", "room", "word"]
class C_last_calls (B : Tb) : Prop where
  d_last_calls : B.dn 44 = some (1, b_last_calls, 5)
/-- top_room -/
def b_top_room : Ss := (.cons (.for (.tp [(.nm 2), (.nm 3)]) (.rvd (.var 0)) (.cons (.ite (.cmp .isin (.var 2) (.var 1)) (.cons (.ret (.var 2)) .nil) .nil) .nil)) (.cons (.ret .non) .nil))
abbrev N_top_room : List Str := ["log", "rooms", "room", "_"]
class C_top_room (B : Tb) : Prop where
  d_top_room : B.dn 45 = some (2, b_top_room, 4)
/-- word_of -/
def b_word_of : Ss := (.cons (.for (.tp [(.nm 2), (.nm 3)]) (.rvd (.var 0)) (.cons (.ite (.cmp .isin (.var 2) (.var 1)) (.cons (.ret (.var 3)) .nil) .nil) .nil)) (.cons (.ret .non) .nil))
abbrev N_word_of : List Str := ["log", "rooms", "room", "word"]
class C_word_of (B : Tb) : Prop where
  d_word_of : B.dn 46 = some (2, b_word_of, 4)
/-- all_bits -/
def b_all_bits : Ss := (.cons (.ret (.bin .sub (.bin .shl (.int 1) (.var 0)) (.int 1))) .nil)
abbrev N_all_bits : List Str := ["count"]
class C_all_bits (B : Tb) : Prop where
  d_all_bits : B.dn 47 = some (1, b_all_bits, 1)
/-- step_list -/
def b_step_list : Ss := (.cons (.set (.nm 2) (.bin .mul (.lst (.cons (.int 0) .nil)) (.var 0))) (.cons (.for (.tp [(.nm 3), (.nm 4)]) (.var 1) (.cons (.sta (.v 2) (.var 3) .bor (.bin .shl (.int 1) (.var 4))) .nil)) (.cons (.ret (.var 2)) .nil)))
abbrev N_step_list : List Str := ["count", "steps", "following", "a", "b"]
class C_step_list (B : Tb) : Prop where
  d_step_list : B.dn 48 = some (2, b_step_list, 5)
/-- reached -/
def b_reached : Ss := (.cons (.ret (.call 1 (.cons (.call 3 (.cons (.mcall (.var 0) 3 .nil) (.cons (.bin .shl (.int 1) (.var 1)) (.cons (.call 0 (.cons (.var 2) .nil)) .nil)))) .nil))) .nil)
abbrev N_reached : List Str := ["house", "start", "inside"]
class C_reached (B : Tb) : Prop extends C_House_neighbour_sets B, C_bits_of B, C_rooms_of B, C_spread B where
  d_reached : B.dn 49 = some (3, b_reached, 3)
/-- piece_with -/
def b_piece_with : Ss := (.cons (.ret (.call 49 (.cons (.var 0) (.cons (.var 1) (.cons (.lrng (.int 0) (.fld (.var 0) 2)) .nil))))) .nil)
abbrev N_piece_with : List Str := ["house", "room"]
class C_piece_with (B : Tb) : Prop extends C_reached B where
  d_piece_with : B.dn 50 = some (2, b_piece_with, 2)
/-- lesser_part -/
def b_lesser_part : Ss := (.cons (.set (.nm 4) (.call 46 (.cons (.var 1) (.cons (.var 3) .nil)))) (.cons (.set (.nm 5) (.var 3)) (.cons (.whl (.cmp .eq (.call 46 (.cons (.var 1) (.cons (.var 5) .nil))) (.var 4)) (.cons (.set (.nm 6) (.call 45 (.cons (.var 1) (.cons (.var 5) .nil)))) (.cons (.ite (.orL (.cons (.cmp .is (.var 6) .non) (.cons (.cmp .eq (.var 6) (.var 2)) .nil))) (.cons (.ret .non) .nil) .nil) (.cons (.set (.nm 5) (.call 49 (.cons (.var 0) (.cons (.var 2) (.cons (.comp 0 (.nm 7) (.var 5) (.cmp .ne (.var 7) (.var 6)) (.var 7)) .nil))))) .nil)))) (.cons (.ret (.var 5)) .nil))))
abbrev N_lesser_part : List Str := ["house", "log", "room", "rooms", "word", "rest", "top", "other"]
class C_lesser_part (B : Tb) : Prop extends C_reached B, C_top_room B, C_word_of B where
  d_lesser_part : B.dn 51 = some (4, b_lesser_part, 8)
/-- view_of -/
def b_view_of : Ss := (.cons (.set (.nm 3) (.call 44 (.cons (.var 1) .nil))) (.cons (.set (.nm 4) (.call 50 (.cons (.var 0) (.cons (.var 2) .nil)))) (.cons (.set (.nm 5) (.tup .nil)) (.cons (.whl (.cmp .isn (.var 4) .non) (.cons (.set (.nm 5) (.bin .add (.var 5) (.tup (.cons (.tup (.cons (.call 46 (.cons (.var 3) (.cons (.var 4) .nil))) (.cons (.var 4) .nil))) .nil)))) (.cons (.set (.nm 4) (.call 51 (.cons (.var 0) (.cons (.var 3) (.cons (.var 2) (.cons (.var 4) .nil)))))) .nil))) (.cons (.ret (.var 5)) .nil)))))
abbrev N_view_of : List Str := ["house", "log", "room", "calls", "rooms", "view"]
class C_view_of (B : Tb) : Prop extends C_last_calls B, C_lesser_part B, C_piece_with B, C_word_of B where
  d_view_of : B.dn 52 = some (3, b_view_of, 6)
/-- areas -/
def b_areas : Ss := (.cons (.set (.nm 2) (.call 48 (.cons (.fld (.var 0) 2) (.cons (.bin .add (.bi .list (.cons (.var 1) .nil)) (.comp 0 (.tp [(.nm 4), (.nm 5)]) (.var 1) .nop (.tup (.cons (.var 5) (.cons (.var 4) .nil))))) .nil)))) (.cons (.ret (.comp 0 (.nm 3) (.call 4 (.cons (.var 2) (.cons (.call 47 (.cons (.fld (.var 0) 2) .nil)) .nil))) .nop (.call 1 (.cons (.var 3) .nil)))) .nil))
abbrev N_areas : List Str := ["house", "opening", "joined", "area", "a", "b"]
class C_areas (B : Tb) : Prop extends C_all_bits B, C_pieces_of B, C_rooms_of B, C_step_list B where
  d_areas : B.dn 53 = some (2, b_areas, 6)
/-- hear -/
def b_hear : Ss := (.cons (.set (.nm 3) (.bin .mul (.lst (.cons .non .nil)) (.fld (.var 0) 2))) (.cons (.for (.nm 4) (.call 53 (.cons (.var 0) (.cons (.var 2) .nil))) (.cons (.set (.nm 5) (.call 46 (.cons (.var 1) (.cons (.var 4) .nil)))) (.cons (.for (.nm 6) (.var 4) (.cons (.sto (.v 3) (.var 6) (.var 5)) .nil)) .nil))) (.cons (.ret (.var 3)) .nil)))
abbrev N_hear : List Str := ["house", "log", "opening", "words", "area", "word", "room"]
class C_hear (B : Tb) : Prop extends C_areas B, C_word_of B where
  d_hear : B.dn 54 = some (3, b_hear, 7)
/-- _law_unlike -/
def b_law_unlike : Ss := (.cons (.set (.nm 3) (.str (sStr "abcdefghijklmnopqrstuvwxyz"))) (.cons (.set (.nm 4) (.emp 0)) (.cons (.for (.nm 5) (.rng (.int 0) (.var 2)) (.cons (.set (.nm 6) (.idx (.var 3) (.bin .mod (.bin .add (.bi .int (.cons (.idx (.var 0) (.var 1)) .nil)) (.bin .mul (.int 7) (.var 5))) (.int 26)))) (.cons (.set (.nm 7) (.bin .mod (.bi .int (.cons (.idx (.var 0) (.bin .add (.var 1) (.int 1))) .nil)) (.int 8))) (.cons (.set (.nm 8) (.bin .mod (.bin .fdiv (.bi .int (.cons (.idx (.var 0) (.bin .add (.var 1) (.int 2))) .nil)) (.int 2)) (.bin .add (.var 7) (.int 1)))) (.cons (.set (.nm 9) (.str (sStr ""))) (.cons (.for (.nm 10) (.rng (.int 0) (.var 7)) (.cons (.set (.nm 9) (.bin .add (.var 9) (.idx (.var 3) (.bin .mod (.bi .int (.cons (.idx (.var 0) (.bin .add (.bin .add (.var 1) (.int 3)) (.var 10))) .nil)) (.int 26))))) .nil)) (.cons (.ite (.cmp .eq (.bin .mod (.bi .int (.cons (.idx (.var 0) (.bin .add (.var 1) (.int 2))) .nil)) (.int 2)) (.int 1)) (.cons (.set (.nm 7) (.bin .mod (.bi .int (.cons (.idx (.var 0) (.bin .add (.bin .add (.var 1) (.int 3)) (.bin .mod (.bin .add (.bin .mul (.int 5) (.var 5)) (.int 1)) (.int 12)))) .nil)) (.int 8))) (.cons (.set (.nm 9) (.str (sStr ""))) (.cons (.for (.nm 10) (.rng (.int 0) (.var 7)) (.cons (.set (.nm 9) (.bin .add (.var 9) (.idx (.var 3) (.bin .mod (.bin .fdiv (.bi .int (.cons (.idx (.var 0) (.bin .add (.bin .add (.var 1) (.int 3)) (.bin .mod (.bin .add (.bin .mul (.int 3) (.var 10)) (.var 5)) (.int 12)))) .nil)) (.int 7)) (.int 26))))) .nil)) (.cons (.set (.nm 8) (.var 7)) .nil)))) .nil) (.cons (.app (.v 4) (.bin .add (.bin .add (.slc (.var 9) .nop (.var 8)) (.var 6)) (.slc (.var 9) (.var 8) .nop))) .nil)))))))) (.cons (.ret (.var 4)) .nil))))
abbrev N_law_unlike : List Str := ["numbers", "at", "many", "letters", "words", "k", "sign", "size", "place", "rest", "j"]
class C_law_unlike (B : Tb) : Prop where
  d_law_unlike : B.dn 55 = some (3, b_law_unlike, 11)
/-- _law_log -/
def b_law_log : Ss := (.cons (.set (.nm 5) (.emp 0)) (.cons (.for (.nm 6) (.rng (.int 0) (.var 2)) (.cons (.set (.nm 7) (.bin .mod (.bi .int (.cons (.idx (.var 0) (.bin .add (.var 1) (.bin .mul (.int 2) (.var 6)))) .nil)) (.var 3))) (.cons (.app (.v 5) (.tup (.cons (.var 7) (.cons (.idx (.var 4) (.bin .mod (.bi .int (.cons (.idx (.var 0) (.bin .add (.bin .add (.var 1) (.bin .mul (.int 2) (.var 6))) (.int 1))) .nil)) (.bi .len (.cons (.var 4) .nil)))) .nil)))) .nil))) (.cons (.ret (.var 5)) .nil)))
abbrev N_law_log : List Str := ["numbers", "at", "many", "rooms", "words", "log", "k", "room"]
class C_law_log (B : Tb) : Prop where
  d_law_log : B.dn 56 = some (5, b_law_log, 8)
/-- _law_calls -/
def b_law_calls : Ss := (.cons (.set (.nm 5) (.emp 0)) (.cons (.for (.nm 6) (.rng (.var 1) (.bi .min (.cons (.bi .len (.cons (.var 0) .nil)) (.cons (.bin .add (.var 1) (.var 4)) .nil)))) (.cons (.set (.nm 7) (.call 15 (.cons (.var 0) (.cons (.var 6) .nil)))) (.cons (.app (.v 5) (.tup (.cons (.bin .mod (.bi .int (.cons (.var 7) .nil)) (.var 2)) (.cons (.idx (.var 3) (.bin .mod (.bi .int (.cons (.bin .fdiv (.var 7) (.int 13)) .nil)) (.bi .len (.cons (.var 3) .nil)))) .nil)))) .nil))) (.cons (.ret (.var 5)) .nil)))
abbrev N_law_calls : List Str := ["script", "at", "rooms", "words", "most", "log", "k", "cell"]
class C_law_calls (B : Tb) : Prop extends C_law_cell B where
  d_law_calls : B.dn 57 = some (5, b_law_calls, 8)
/-- _law_word_of -/
def b_law_word_of : Ss := (.cons (.set (.nm 2) .non) (.cons (.for (.nm 3) (.var 0) (.cons (.ite (.cmp .isin (.idx (.var 3) (.int 0)) (.var 1)) (.cons (.set (.nm 2) (.idx (.var 3) (.int 1))) .nil) .nil) .nil)) (.cons (.ret (.var 2)) .nil)))
abbrev N_law_word_of : List Str := ["log", "rooms", "word", "call"]
class C_law_word_of (B : Tb) : Prop where
  d_law_word_of : B.dn 58 = some (2, b_law_word_of, 4)
/-- _law_area_lists -/
def b_law_area_lists : Ss := (.cons (.set (.nm 2) (.comp 0 (.nm 4) (.rng (.int 0) (.var 0)) .nop (.emp 0))) (.cons (.for (.nm 3) (.call 23 (.cons (.call 20 (.cons (.var 1) (.cons (.var 0) .nil))) (.cons (.lrng (.int 0) (.var 0)) .nil))) (.cons (.for (.nm 4) (.var 3) (.cons (.sto (.v 2) (.var 4) (.bi .list (.cons (.var 3) .nil))) .nil)) .nil)) (.cons (.ret (.var 2)) .nil)))
abbrev N_law_area_lists : List Str := ["rooms", "opening", "lists", "area", "r"]
class C_law_area_lists (B : Tb) : Prop extends C_law_beside B, C_law_pieces B where
  d_law_area_lists : B.dn 59 = some (2, b_law_area_lists, 5)
/-- _law_words_kept -/
def b_law_words_kept : Ss := (.cons (.ret (.comp 0 (.nm 2) (.var 0) .nop (.call 58 (.cons (.var 1) (.cons (.var 2) .nil))))) .nil)
abbrev N_law_words_kept : List Str := ["zones", "calls", "area"]
class C_law_words_kept (B : Tb) : Prop extends C_law_word_of B where
  d_law_words_kept : B.dn 60 = some (2, b_law_words_kept, 3)
/-- LiveHouse.call -/
def b_LiveHouse_call : Ss := (.cons (.sfa (.v 0) 7 .add (.int 1)) (.cons (.for (.nm 3) (.idx (.fld (.var 0) 9) (.var 1)) (.cons (.sto (.fl (.v 0) 8) (.var 3) (.var 2)) .nil)) (.cons (.ret (.bi .list (.cons (.idx (.fld (.var 0) 9) (.var 1)) .nil))) .nil)))
abbrev N_LiveHouse_call : List Str := ["self", "room", "word", "hearer"]
class C_LiveHouse_call (B : Tb) : Prop where
  d_LiveHouse_call : B.dn 68 = some (3, b_LiveHouse_call, 4)
  m_LiveHouse_call : B.meth 5 15 = some 68
/-- LiveHouse.calls -/
def b_LiveHouse_calls : Ss := (.cons (.ret (.fld (.var 0) 7)) .nil)
abbrev N_LiveHouse_calls : List Str := ["self"]
class C_LiveHouse_calls (B : Tb) : Prop where
  d_LiveHouse_calls : B.dn 67 = some (1, b_LiveHouse_calls, 1)
  m_LiveHouse_calls : B.prop 5 14 = some 67
/-- LiveHouse.words -/
def b_LiveHouse_words : Ss := (.cons (.ret (.bi .list (.cons (.fld (.var 0) 8) .nil))) .nil)
abbrev N_LiveHouse_words : List Str := ["self"]
class C_LiveHouse_words (B : Tb) : Prop where
  d_LiveHouse_words : B.dn 69 = some (1, b_LiveHouse_words, 1)
  m_LiveHouse_words : B.meth 5 16 = some 69
/-- _law_live_right -/
def b_law_live_right : Ss := (.cons (.set (.nm 3) (.lsn 1 (.cons (.bin .mul (.lst (.cons .non .nil)) (.bi .len (.cons (.idx (.var 1) (.int 0)) .nil))) (.cons (.bin .mul (.lst (.cons .non .nil)) (.bi .len (.cons (.idx (.var 1) (.int 0)) .nil))) .nil)))) (.cons (.for (.nm 4) (.rng (.int 0) (.bin .mul (.int 2) (.bi .len (.cons (.var 2) .nil)))) (.cons (.set (.nm 5) (.idx (.var 2) (.bi .min (.cons (.var 4) (.cons (.bin .sub (.bin .sub (.bin .mul (.int 2) (.bi .len (.cons (.var 2) .nil))) (.int 1)) (.var 4)) .nil))))) (.cons (.for (.nm 6) (.rng (.int 0) (.int 2)) (.cons (.msc (some (.nm 7)) (.ix (.v 0) (.var 6)) 15 (.cons (.idx (.var 5) (.int 0)) (.cons (.idx (.var 5) (.int 1)) .nil))) (.cons (.ite (.nt (.call 24 (.cons (.var 7) (.cons (.idx (.idx (.var 1) (.var 6)) (.idx (.var 5) (.int 0))) .nil)))) (.cons (.ret (.bl false)) .nil) .nil) (.cons (.app (.v 7) (.int 0)) (.loan 8 (.ix (.v 3) (.var 6)) (.cons (.for (.nm 9) (.idx (.idx (.var 1) (.var 6)) (.idx (.var 5) (.int 0))) (.cons (.sto (.v 8) (.var 9) (.idx (.var 5) (.int 1))) .nil)) (.cons (.ite (.orL (.cons (.nt (.call 24 (.cons (.pget (.idx (.var 0) (.var 6)) 14) (.cons (.bin .add (.var 4) (.int 1)) .nil)))) (.cons (.nt (.call 24 (.cons (.mcall (.idx (.var 0) (.var 6)) 16 .nil) (.cons (.var 8) .nil)))) .nil))) (.cons (.ret (.bl false)) .nil) .nil) (.cons (.tap (.mcall (.idx (.var 0) (.var 6)) 16 .nil) .non) .nil)))))))) .nil))) (.cons (.ret (.andL (.cons (.call 24 (.cons (.mcall (.idx (.var 0) (.int 0)) 16 .nil) (.cons (.idx (.var 3) (.int 0)) .nil))) (.cons (.call 24 (.cons (.mcall (.idx (.var 0) (.int 1)) 16 .nil) (.cons (.idx (.var 3) (.int 1)) .nil))) .nil)))) .nil)))
abbrev N_law_live_right : List Str := ["lives", "zones", "log", "words", "k", "call", "way", "told", "row", "r"]
class C_law_live_right (B : Tb) : Prop extends C_LiveHouse_call B, C_LiveHouse_calls B, C_LiveHouse_words B, C_law_same B where
  d_law_live_right : B.dn 61 = some (3, b_law_live_right, 10)
/-- _law_chain -/
def b_law_chain : Ss := (.cons (.ite (.orL (.cons (.nt (.bi (.isi 3) (.cons (.var 0) .nil))) (.cons (.cmp .eq (.bi .len (.cons (.var 0) .nil)) (.int 0)) .nil))) (.cons (.ret (.bl false)) .nil) .nil) (.cons (.set (.nm 3) .non) (.cons (.for (.nm 4) (.var 0) (.cons (.ite (.orL (.cons (.nt (.bi (.isi 3) (.cons (.var 4) .nil))) (.cons (.cmp .ne (.bi .len (.cons (.var 4) .nil)) (.int 2)) (.cons (.nt (.bi (.isi 3) (.cons (.idx (.var 4) (.int 1)) .nil))) .nil)))) (.cons (.ret (.bl false)) .nil) .nil) (.cons (.ite (.andL (.cons (.cmp .isn (.idx (.var 4) (.int 0)) .non) (.cons (.nt (.bi (.isi 1) (.cons (.idx (.var 4) (.int 0)) .nil))) .nil))) (.cons (.ret (.bl false)) .nil) .nil) (.cons (.ite (.andL (.cons (.cmp .is (.var 3) .non) (.cons (.nt (.call 24 (.cons (.idx (.var 4) (.int 1)) (.cons (.var 2) .nil)))) .nil))) (.cons (.ret (.bl false)) .nil) .nil) (.cons (.ite (.cmp .isn (.var 3) .non) (.cons (.set (.nm 5) (.comp 0 (.nm 6) (.var 3) (.cmp .isin (.var 6) (.idx (.var 4) (.int 1))) (.var 6))) (.cons (.ite (.orL (.cons (.nt (.call 24 (.cons (.idx (.var 4) (.int 1)) (.cons (.bi .tuple (.cons (.var 5) .nil)) .nil)))) (.cons (.cmp .eq (.bi .len (.cons (.var 5) .nil)) (.bi .len (.cons (.var 3) .nil))) .nil))) (.cons (.ret (.bl false)) .nil) .nil) .nil)) .nil) (.cons (.ite (.cmp .nin (.var 1) (.idx (.var 4) (.int 1))) (.cons (.ret (.bl false)) .nil) .nil) (.cons (.set (.nm 3) (.idx (.var 4) (.int 1))) .nil))))))) (.cons (.ret (.bl true)) .nil))))
abbrev N_law_chain : List Str := ["view", "room", "piece", "before", "pair", "kept", "r"]
class C_law_chain (B : Tb) : Prop extends C_law_same B where
  d_law_chain : B.dn 62 = some (3, b_law_chain, 7)
/-- _law_by_view -/
def b_law_by_view : Ss := (.cons (.set (.nm 2) .non) (.cons (.for (.nm 3) (.var 0) (.cons (.ite (.cmp .eq (.bi .len (.cons (.comp 0 (.nm 4) (.var 1) (.cmp .nin (.var 4) (.idx (.var 3) (.int 1))) (.var 4)) .nil)) (.int 0)) (.cons (.set (.nm 2) (.idx (.var 3) (.int 0))) .nil) .nil) .nil)) (.cons (.ret (.var 2)) .nil)))
abbrev N_law_by_view : List Str := ["view", "area", "word", "pair", "r"]
class C_law_by_view (B : Tb) : Prop where
  d_law_by_view : B.dn 63 = some (2, b_law_by_view, 5)
/-- _law_views_right -/
def b_law_views_right : Ss := (.cons (.set (.nm 5) (.bi .list (.cons (.var 4) .nil))) (.cons (.set (.nm 6) (.comp 0 (.nm 10) (.var 3) .nop (.call 60 (.cons (.var 10) (.cons (.var 4) .nil))))) (.cons (.for (.nm 7) (.rng (.int 0) (.var 2)) (.cons (.set (.nm 8) (.call 52 (.cons (.var 0) (.cons (.var 5) (.cons (.var 7) .nil))))) (.cons (.ite (.nt (.call 62 (.cons (.var 8) (.cons (.var 7) (.cons (.bi .tuple (.cons (.call 22 (.cons (.var 1) (.cons (.var 7) (.cons (.lrng (.int 0) (.var 2)) .nil)))) .nil)) .nil))))) (.cons (.ret (.bl false)) .nil) .nil) (.cons (.for (.nm 9) (.rng (.int 0) (.bi .len (.cons (.var 3) .nil))) (.cons (.ite (.nt (.call 24 (.cons (.call 63 (.cons (.var 8) (.cons (.idx (.idx (.var 3) (.var 9)) (.var 7)) .nil))) (.cons (.idx (.idx (.var 6) (.var 9)) (.var 7)) .nil)))) (.cons (.ret (.bl false)) .nil) .nil) .nil)) .nil)))) (.cons (.ret (.call 24 (.cons (.var 5) (.cons (.var 4) .nil)))) .nil))))
abbrev N_law_views_right : List Str := ["house", "beside", "rooms", "zones", "calls", "handed", "kept", "room", "view", "k", "one"]
class C_law_views_right (B : Tb) : Prop extends C_law_by_view B, C_law_chain B, C_law_reach B, C_law_same B, C_law_words_kept B, C_view_of B where
  d_law_views_right : B.dn 64 = some (5, b_law_views_right, 11)
/-- LiveHouse.__init__ -/
def b_LiveHouse___init__ : Ss := (.cons (.sfl (.v 0) 7 (.int 0)) (.cons (.sfl (.v 0) 8 (.bin .mul (.lst (.cons .non .nil)) (.fld (.var 1) 2))) (.cons (.sfl (.v 0) 9 (.bin .mul (.lst (.cons (.tup .nil) .nil)) (.fld (.var 1) 2))) (.cons (.for (.nm 3) (.call 53 (.cons (.var 1) (.cons (.var 2) .nil))) (.cons (.for (.nm 4) (.var 3) (.cons (.sto (.fl (.v 0) 9) (.var 4) (.var 3)) .nil)) .nil)) .nil))))
abbrev N_LiveHouse___init__ : List Str := ["self", "house", "opening", "area", "room"]
class C_LiveHouse___init__ (B : Tb) : Prop extends C_areas B where
  d_LiveHouse___init__ : B.dn 66 = some (3, b_LiveHouse___init__, 5)
  i_LiveHouse___init__ : B.init 5 = some 66
  h_LiveHouse_calls : B.has 5 7 = true
  h_LiveHouse_words : B.has 5 8 = true
  h_LiveHouse_hearers : B.has 5 9 = true
/-- law -/
def b_law_k07 : Ss := (.cons (.set (.nm 1) (.call 16 (.cons (.call 15 (.cons (.var 0) (.cons (.int 0) .nil))) (.cons (.int 80) .nil)))) (.cons (.set (.nm 2) (.bin .add (.int 1) (.bin .mod (.bi .int (.cons (.idx (.var 1) (.int 79)) .nil)) (.int 12)))) (.cons (.set (.nm 3) (.call 19 (.cons (.var 1) (.cons (.var 2) .nil)))) (.cons (.set (.nm 4) (.call 20 (.cons (.var 3) (.cons (.var 2) .nil)))) (.cons (.set (.nm 5) (.call 16 (.cons (.call 15 (.cons (.var 0) (.cons (.int 1) .nil))) (.cons (.int 42) .nil)))) (.cons (.set (.nm 6) (.call 55 (.cons (.var 5) (.cons (.int 0) (.cons (.bin .add (.int 1) (.bin .mod (.bi .int (.cons (.idx (.var 5) (.int 15)) .nil)) (.int 6))) .nil))))) (.cons (.set (.nm 7) (.bin .add (.call 56 (.cons (.var 5) (.cons (.int 18) (.cons (.bin .mod (.bi .int (.cons (.idx (.var 5) (.int 16)) .nil)) (.int 11)) (.cons (.var 2) (.cons (.var 6) .nil)))))) (.call 57 (.cons (.var 0) (.cons (.int 3) (.cons (.var 2) (.cons (.var 6) (.cons (.int 50) .nil)))))))) (.cons (.set (.nm 8) (.call 16 (.cons (.call 15 (.cons (.var 0) (.cons (.int 2) .nil))) (.cons (.int 140) .nil)))) (.cons (.set (.nm 9) (.make true 3 1 (.cons (.var 2) (.cons (.bi .list (.cons (.var 3) .nil)) .nil)))) (.cons (.set (.nm 10) (.emp 0)) (.cons (.set (.nm 11) (.emp 2)) (.cons (.for (.nm 12) (.rng (.int 0) (.int 2)) (.cons (.set (.nm 13) (.comp 0 (.nm 15) (.rng (.int 0) (.bi .len (.cons (.var 3) .nil))) (.cmp .ge (.bin .mod (.bi .int (.cons (.idx (.var 8) (.bin .add (.bin .add (.int 2) (.bin .mul (.var 12) (.int 66))) (.var 15))) .nil)) (.int 5)) (.bin .mod (.bi .int (.cons (.idx (.var 8) (.var 12)) .nil)) (.int 5))) (.idx (.var 3) (.var 15)))) (.cons (.app (.v 10) (.call 59 (.cons (.var 2) (.cons (.var 13) .nil)))) (.cons (.set (.nm 14) (.bi .list (.cons (.var 13) .nil))) (.cons (.app (.v 11) (.make false 5 1 (.cons (.var 9) (.cons (.var 14) .nil)))) (.cons (.app (.v 14) (.tup (.cons (.int 0) (.cons (.int 0) .nil)))) (.cons (.ite (.nt (.call 24 (.cons (.call 54 (.cons (.var 9) (.cons (.bi .list (.cons (.var 7) .nil)) (.cons (.bi .list (.cons (.var 13) .nil)) .nil)))) (.cons (.call 60 (.cons (.idx (.var 10) (.var 12)) (.cons (.var 7) .nil))) .nil)))) (.cons (.ret (.bl false)) .nil) .nil) .nil))))))) (.cons (.ifc (.v 11) 61 (.cons (.var 10) (.cons (.var 7) .nil)) (.cons (.ret (.bl false)) .nil) .nil) (.cons (.ite (.nt (.call 64 (.cons (.var 9) (.cons (.var 4) (.cons (.var 2) (.cons (.var 10) (.cons (.var 7) .nil))))))) (.cons (.ret (.bl false)) .nil) .nil) (.cons (.ret (.call 64 (.cons (.var 9) (.cons (.var 4) (.cons (.var 2) (.cons (.var 10) (.cons (.slc (.var 7) .nop (.bin .mod (.bi .int (.cons (.idx (.var 5) (.int 17)) .nil)) (.bin .add (.bi .len (.cons (.var 7) .nil)) (.int 1)))) .nil))))))) .nil)))))))))))))))
abbrev N_law_k07 : List Str := ["script", "n", "rooms", "doors", "beside", "m", "words", "log", "p", "house", "zones", "lives", "way", "opening", "handed", "k"]
class C_law_k07 (B : Tb) : Prop extends C_House___init__ B, C_LiveHouse___init__ B, C_hear B, C_law_area_lists B, C_law_beside B, C_law_calls B, C_law_cell B, C_law_doors B, C_law_live_right B, C_law_log B, C_law_numbers B, C_law_same B, C_law_unlike B, C_law_views_right B, C_law_words_kept B where
  d_law_k07 : B.dn 65 = some (1, b_law_k07, 16)
end Bd
set_option Elab.async false
set_option linter.all false
set_option maxRecDepth 100000
set_option maxHeartbeats 4000000
/-! How a body's evaluation is reckoned, statement by statement. -/
namespace Hc
open PySem PySem.Spec PyProof.Rows L2

def Oc.an : Oc → (Sg → Oc) → Oc
  | .nx s, f => f s
  | o, _ => o
structure wp (P : Oc → Prop) (o : Oc) : Prop where
  i ::
  out : P o
section
variable {ev : Ev} {s : Sg} {r : List (Option D)} {f : Sg → Oc} {P : Oc → Prop}
def Oc.sq (ev : Ev) (o : Oc) (xs : Ss) : Oc := o.an fun s => evSs ev xs s
section
variable {xs : Ss}
theorem sq_nx : Oc.sq ev (.nx s) xs = evSs ev xs s := Eq.trans rfl rfl
theorem sq_rt {d : D} {n : Nat} : Oc.sq ev (.rt d n s) xs = .rt d n s := Eq.trans rfl rfl
theorem sq_bk : Oc.sq ev (.bk s) xs = .bk s := Eq.trans rfl rfl
theorem sq_ct : Oc.sq ev (.ct s) xs = .ct s := Eq.trans rfl rfl
theorem sq_bad : Oc.sq ev .bad xs = .bad := Eq.trans rfl rfl
theorem sq_ite {c : Prop} [Decidable c] {a b : Oc} : Oc.sq ev (if c then a else b) xs = if c then Oc.sq ev a xs else Oc.sq ev b xs := by split <;> rfl
end
theorem oc_okk {α : Type} {a : α} {g : α → Oc} : (Rs.ok a).oc g = g a := Eq.trans rfl rfl
theorem oc_bad {α : Type} {g : α → Oc} : (Rs.bad : Rs α).oc g = .bad := Eq.trans rfl rfl
theorem rb_ok {α β : Type} {a : α} {g : α → Rs β} : (Rs.ok a).bind g = g a := Eq.trans rfl rfl
theorem rb_bad {α β : Type} {g : α → Rs β} : (Rs.bad : Rs α).bind g = .bad := Eq.trans rfl rfl
theorem of_some {α : Type} {a : α} : Rs.of (some a) = .ok a := Eq.trans rfl rfl
theorem rb_ite {α β : Type} {c : Prop} [Decidable c] {a b : Rs α} {g : α → Rs β} : (if c then a else b).bind g = if c then a.bind g else b.bind g := by split <;> rfl
theorem oc_ite {α : Type} {c : Prop} [Decidable c] {a b : Rs α} {g : α → Oc} : (if c then a else b).oc g = if c then a.oc g else b.oc g := by split <;> rfl
theorem rs_and {c d : Bool} : (if c = true then Rs.ok d else Rs.ok false) = Rs.ok (c && d) := by cases c <;> rfl
theorem rs_or {c d : Bool} : (if c = true then Rs.ok true else Rs.ok d) = Rs.ok (c || d) := by cases c <;> rfl
theorem rs_andp {c : Prop} [Decidable c] {d : Bool} : (if c then Rs.ok d else Rs.ok false) = Rs.ok (decide c && d) := by by_cases h : c <;> simp [h]
theorem rs_orp {c : Prop} [Decidable c] {d : Bool} : (if c then Rs.ok true else Rs.ok d) = Rs.ok (decide c || d) := by by_cases h : c <;> simp [h]
theorem ys_nilE : evSs ev .nil s = .nx s := by rw [evSs]
theorem ys_consE {x : S} {xs : Ss} : evSs ev (.cons x xs) s = Oc.sq ev (evS ev x s) xs := by
  rw [evSs]; unfold Oc.sq; cases evS ev x s <;> rfl
theorem x_var {i : Nat} {d : D} (h : r[i]? = some (some d)) : evE ev (.var i) r = .ok (d, 0) := by rw [evE, h]
theorem x_varE {i : Nat} : evE ev (.var i) r = match r[i]? with | some (some d) => .ok (d, 0) | _ => .bad := by first | (rw [evE]; done) | (rw [evE]; rfl)
theorem x_non : evE ev .non r = .ok (.non, 9) := by first | (rw [evE]; done) | (rw [evE]; rfl)
theorem x_bl {b : Bool} : evE ev (.bl b) r = .ok (.bl b, 9) := by first | (rw [evE]; done) | (rw [evE]; rfl)
theorem x_int {i : Int} : evE ev (.int i) r = .ok (.int i, 9) := by first | (rw [evE]; done) | (rw [evE]; rfl)
theorem x_str {x : Str} : evE ev (.str x) r = .ok (.str x, 9) := by first | (rw [evE]; done) | (rw [evE]; rfl)
theorem x_bin {o : Bo} {a b : E} : evE ev (.bin o a b) r = (evE ev a r).bind fun x => (evE ev b r).bind fun y => binD o x.1 y.1 := by first | (rw [evE]; done) | (rw [evE]; rfl)
theorem x_neg {a : E} : evE ev (.neg a) r = (evE ev a r).bind fun x => match x.1 with | .int i => .ok (.int (-i), 9) | _ => .bad := by first | (rw [evE]; done) | (rw [evE]; rfl)
theorem x_inv {a : E} : evE ev (.inv a) r = (evE ev a r).bind fun x => match x.1 with | .int i => .ok (.int (Builtin.bitNot i), 9) | _ => .bad := by first | (rw [evE]; done) | (rw [evE]; rfl)
theorem x_nt {a : E} : evE ev (.nt a) r = (evE ev a r).bind fun x => (boolR x).bind fun c => .ok (.bl (!c), 9) := by first | (rw [evE]; done) | (rw [evE]; rfl)
theorem x_cmp {o : Co} {a b : E} : evE ev (.cmp o a b) r = (evE ev a r).bind fun x => (evE ev b r).bind fun y => (cmpB o x.1 y.1).bind fun c => .ok (.bl c, 9) := by first | (rw [evE]; done) | (rw [evE]; rfl)
theorem x_chain {o p : Co} {a b c : E} : evE ev (.chain o p a b c) r = (evE ev a r).bind fun x => (evE ev b r).bind fun y => (cmpB o x.1 y.1).bind fun k => if k = true then (evE ev c r).bind fun z => (cmpB p y.1 z.1).bind fun l => .ok (.bl l, 9) else .ok (.bl false, 9) := by first | (rw [evE]; done) | (rw [evE]; rfl)
theorem x_and {es : Es} : evE ev (.andL es) r = (evAnd ev es r).bind fun c => .ok (.bl c, 9) := by first | (rw [evE]; done) | (rw [evE]; rfl)
theorem x_or {es : Es} : evE ev (.orL es) r = (evOr ev es r).bind fun c => .ok (.bl c, 9) := by first | (rw [evE]; done) | (rw [evE]; rfl)
theorem x_ite {c a b : E} : evE ev (.ite c a b) r = (evE ev c r).bind fun x => (boolR x).bind fun k => if k = true then evE ev a r else evE ev b r := by first | (rw [evE]; done) | (rw [evE]; rfl)
theorem x_tup {es : Es} : evE ev (.tup es) r = (evEs ev es r).bind fun ds => .ok (.tup ds, 9) := by first | (rw [evE]; done) | (rw [evE]; rfl)
theorem x_lst {es : Es} : evE ev (.lst es) r = (evEs ev es r).bind fun ds => .ok (.lst ds, 1) := by first | (rw [evE]; done) | (rw [evE]; rfl)
theorem x_lsnE {m : Nat} {es : Es} : evE ev (.lsn m es) r = (evEn ev m es r).bind fun ds => .ok (.lst ds, m + 1) := by first | (rw [evE]; done) | (rw [evE]; rfl)
theorem x_emp {n : Nat} : evE ev (.emp n) r = .ok (.lst [], n + 1) := by first | (rw [evE]; done) | (rw [evE]; rfl)
theorem x_dnew {t : Bool} {n : Nat} : evE ev (.dnew t n) r = .ok (.dct t [] [], n + 1) := by first | (rw [evE]; done) | (rw [evE]; rfl)
theorem x_idx {a b : E} : evE ev (.idx a b) r = (evE ev a r).bind fun x => (evE ev b r).bind fun y => ixD x.1 y.1 := by first | (rw [evE]; done) | (rw [evE]; rfl)
theorem x_callE {f : Nat} {es : Es} : evE ev (.call f es) r = (evEs ev es r).bind fun ds => (ev.call f 0 ds).bind fun x => .ok (x.1, x.2.1) := by first | (rw [evE]; done) | (rw [evE]; rfl)
theorem x_bi {b : Bi} {es : Es} : evE ev (.bi b es) r = (evEs ev es r).bind fun ds => biD b ds := by first | (rw [evE]; done) | (rw [evE]; rfl)
theorem x_mth {m : Mt} {a : E} {es : Es} : evE ev (.mth m a es) r = (evE ev a r).bind fun x => (evEs ev es r).bind fun ds => mtD m x.1 ds := by first | (rw [evE]; done) | (rw [evE]; rfl)
theorem x_rng {a b : E} : evE ev (.rng a b) r = (evE ev a r).bind fun x => (evE ev b r).bind fun y => match x.1, y.1 with
    | .int lo, .int hi => if rngOk lo hi then .ok (.lst (rngL lo hi), 1) else .bad
    | _, _ => .bad := by first | (rw [evE]; done) | (rw [evE]; rfl)
theorem x_lrng {a b : E} : evE ev (.lrng a b) r = (evE ev a r).bind fun x => (evE ev b r).bind fun y => match x.1, y.1 with
    | .int lo, .int hi => if rngOk lo hi && decide ((hi - lo).toNat ≤ 1000000) then .ok (.lst (rngL lo hi), 1) else .bad
    | _, _ => .bad := by first | (rw [evE]; done) | (rw [evE]; rfl)
theorem x_enm {a : E} : evE ev (.enm a) r = (evE ev a r).bind fun x => match x.1 with | .lst ds => .ok (.lst (enumL 0 ds), 0) | _ => .bad := by first | (rw [evE]; done) | (rw [evE]; rfl)
theorem x_rvd {a : E} : evE ev (.rvd a) r = (evE ev a r).bind fun x => match x.1 with
    | .lst ds => .ok (.lst ds.reverse, 0)
    | .tup ds => .ok (.lst ds.reverse, 0)
    | _ => .bad := by first | (rw [evE]; done) | (rw [evE]; rfl)
theorem x_fld {a : E} {j : Nat} : evE ev (.fld a j) r = (evE ev a r).bind fun x => (fldD ev.has x.1 j).bind fun d => .ok (d, 0) := by first | (rw [evE]; done) | (rw [evE]; rfl)
theorem x_mcallE {a : E} {m : Nat} {es : Es} : evE ev (.mcall a m es) r = (evE ev a r).bind fun x => (evEs ev es r).bind fun ds => (Rs.of ((clsD x.1).bind fun c => ev.meth c m)).bind fun f => (ev.call f 0 (x.1 :: ds)).bind fun y => .ok (y.1, y.2.1) := by first | (rw [evE]; done) | (rw [evE]; rfl)
theorem x_pget {a : E} {m : Nat} : evE ev (.pget a m) r = (evE ev a r).bind fun x => (Rs.of ((clsD x.1).bind fun c => ev.prop c m)).bind fun f => (ev.call f 0 [x.1]).bind fun y => .ok (y.1, y.2.1) := by first | (rw [evE]; done) | (rw [evE]; rfl)
theorem x_cv {c j : Nat} : evE ev (.cv c j) r = (Rs.of (ev.cval c j)).bind fun d => .ok (d, 9) := by first | (rw [evE]; done) | (rw [evE]; rfl)
theorem x_make {z : Bool} {c n : Nat} {es : Es} : evE ev (.make z c n es) r = (evEs ev es r).bind fun ds => (Rs.of (ev.init c)).bind fun f => (ev.call f (n + 1) (.own c [] [] :: ds)).bind fun y => match y.1 with
    | .non => if z then .ok (frzD y.2.2, 0) else .ok (y.2.2, n + 1)
    | _ => .bad := by first | (rw [evE]; done) | (rw [evE]; rfl)
theorem xs_nilE : evEs ev .nil r = .ok [] := by rw [evEs]
theorem xs_consE {e : E} {es : Es} : evEs ev (.cons e es) r = (evE ev e r).bind fun x => (evEs ev es r).bind fun ds => .ok (x.1 :: ds) := by rw [evEs]
theorem xn_nilE {m : Nat} : evEn ev m .nil r = .ok [] := by rw [evEn]
theorem xn_consE {m : Nat} {e : E} {es : Es} : evEn ev m (.cons e es) r = (evE ev e r).bind fun x => if fit m x.1 x.2 then (evEn ev m es r).bind fun ds => .ok (x.1 :: ds) else .bad := by rw [evEn]
theorem and_nil : evAnd ev .nil r = .ok true := by rw [evAnd]
theorem and_cons {e : E} {es : Es} : evAnd ev (.cons e es) r = (evE ev e r).bind fun x => (boolR x).bind fun c => if c = true then evAnd ev es r else .ok false := by rw [evAnd]
theorem or_nil : evOr ev .nil r = .ok false := by rw [evOr]
theorem or_cons {e : E} {es : Es} : evOr ev (.cons e es) r = (evE ev e r).bind fun x => (boolR x).bind fun c => if c = true then .ok true else evOr ev es r := by rw [evOr]
theorem bt_nm {i : Nat} {d : D} : bindT (.nm i) d r = if i < r.length then some (r.set i (some d)) else none := by rw [bindT]
theorem bt_tt {ts : List Tg} {ds : List D} : bindT (.tp ts) (.tup ds) r = bindTs ts ds r := by rw [bindT]
theorem bt_tl {ts : List Tg} {ds : List D} : bindT (.tp ts) (.lst ds) r = bindTs ts ds r := by rw [bindT]
theorem bts_nil : bindTs [] [] r = some r := by rw [bindTs]
theorem bts_cons {t : Tg} {ts : List Tg} {d : D} {ds : List D} : bindTs (t :: ts) (d :: ds) r = (bindT t d r).bind fun r' => bindTs ts ds r' := by rw [bindTs]
/-! slices -/
def sbD (ev : Ev) (l : E) (r : List (Option D)) : Rs (Option Int) := match l with
  | .nop => Rs.ok none
  | _ => (evE ev l r).bind fun y => bndD y.1
theorem x_slc {a l h : E} : evE ev (.slc a l h) r = (evE ev a r).bind fun x => (sbD ev l r).bind fun lo => (sbD ev h r).bind fun hi => slD x.1 lo hi := by
  cases l <;> cases h <;> rfl
theorem sb_nop : sbD ev .nop r = .ok none := Eq.trans rfl rfl
theorem sb_var {i : Nat} : sbD ev (.var i) r = (evE ev (.var i) r).bind fun y => bndD y.1 := Eq.trans rfl rfl
theorem sb_int {i : Int} : sbD ev (.int i) r = (evE ev (.int i) r).bind fun y => bndD y.1 := Eq.trans rfl rfl
theorem sb_bin {o : Bo} {a b : E} : sbD ev (.bin o a b) r = (evE ev (.bin o a b) r).bind fun y => bndD y.1 := Eq.trans rfl rfl
theorem sb_bi {b : Bi} {es : Es} : sbD ev (.bi b es) r = (evE ev (.bi b es) r).bind fun y => bndD y.1 := Eq.trans rfl rfl
theorem sb_neg {a : E} : sbD ev (.neg a) r = (evE ev (.neg a) r).bind fun y => bndD y.1 := Eq.trans rfl rfl
theorem sb_e {e : E} (h : nn e = true) : sbD ev e r = (evE ev e r).bind fun y => bndD y.1 := by cases e <;> first | rfl | cases h
/-! comprehensions -/
def cnD (ev : Ev) (c : E) (r : List (Option D)) : Rs Bool := match c with
  | .nop => Rs.ok true
  | _ => (evE ev c r).bind boolR
theorem cn_nop : cnD ev .nop r = .ok true := Eq.trans rfl rfl
theorem cn_cmp {o : Co} {a b : E} : cnD ev (.cmp o a b) r = (evE ev (.cmp o a b) r).bind boolR := Eq.trans rfl rfl
theorem cn_call {f : Nat} {es : Es} : cnD ev (.call f es) r = (evE ev (.call f es) r).bind boolR := Eq.trans rfl rfl
theorem cn_nt {a : E} : cnD ev (.nt a) r = (evE ev (.nt a) r).bind boolR := Eq.trans rfl rfl
theorem cn_and {es : Es} : cnD ev (.andL es) r = (evE ev (.andL es) r).bind boolR := Eq.trans rfl rfl
theorem cn_or {es : Es} : cnD ev (.orL es) r = (evE ev (.orL es) r).bind boolR := Eq.trans rfl rfl
theorem cn_e {e : E} (h : nn e = true) : cnD ev e r = (evE ev e r).bind boolR := by cases e <;> first | rfl | cases h
def cpF (ev : Ev) (t : Tg) (cnd elt : E) (r : List (Option D)) (d : D) : Rs (Option (D × Nat)) := (Rs.of (bindT t d r)).bind fun r' => (cnD ev cnd r').bind fun b => if b = true then (evE ev elt r').bind fun x => .ok (some x) else .ok none
theorem x_comp {m : Nat} {t : Tg} {src cnd elt : E} : evE ev (.comp m t src cnd elt) r = (evE ev src r).bind fun s => (items s.1).bind fun ds => if ds.length ≤ lim then (compL m (cpF ev t cnd elt r) ds).bind fun out => .ok (.lst out, m + 1) else .bad := by
  cases cnd <;> rfl
/-- a comprehension whose items are given by a function -/
theorem compL_map {β : Type} {m : Nat} {g : D → Rs (Option (D × Nat))} {e : β → D} {h : β → Option (D × Nat)} : ∀ {xs : List β}, (∀ x ∈ xs, g (e x) = .ok (h x) ∧ ∀ d n, h x = some (d, n) → fit m d n = true) → compL m g (xs.map e) = .ok (xs.filterMap fun x => (h x).map (·.1))
  | [], _ => rfl
  | x :: xs, k => by
    obtain ⟨k1, k2⟩ := k x List.mem_cons_self
    have ih := compL_map (xs := xs) fun y hy => k y (List.mem_cons_of_mem _ hy)
    rw [List.map_cons, compL, k1, rb_ok]
    cases q : h x with
    | none => simp [q, ih]
    | some p =>
      obtain ⟨d, n⟩ := p
      dsimp only
      rw [if_pos (k2 d n q), ih, rb_ok]
      simp [q]
theorem comp_all {β : Type} {m n : Nat} {g : D → Rs (Option (D × Nat))} {e : β → D} {h : β → D} {xs : List β} (k : ∀ x ∈ xs, g (e x) = .ok (some (h x, n)) ∧ fit m (h x) n = true) : compL m g (xs.map e) = .ok (xs.map h) := by
  rw [compL_map (h := fun x => some (h x, n)) fun x hx => ⟨(k x hx).1, fun d n' q => by cases q; exact (k x hx).2⟩]
  congr 1
  induction xs with
  | nil => rfl
  | cons x xs ih => simp [ih fun y hy => k y (List.mem_cons_of_mem _ hy)]
theorem comp_flt {β : Type} {m n : Nat} {g : D → Rs (Option (D × Nat))} {e : β → D} {h : β → D} {p : β → Bool} {xs : List β} (k : ∀ x ∈ xs, g (e x) = .ok (if p x = true then some (h x, n) else none) ∧ fit m (h x) n = true) : compL m g (xs.map e) = .ok ((xs.filter p).map h) := by
  rw [compL_map (h := fun x => if p x = true then some (h x, n) else none) fun x hx => ⟨(k x hx).1, fun d n' q => by split at q <;> cases q; exact (k x hx).2⟩]
  congr 1
  induction xs with
  | nil => rfl
  | cons x xs ih =>
    have ih' := ih fun y hy => k y (List.mem_cons_of_mem _ hy)
    by_cases hp : p x = true
    · simp only [List.filterMap_cons, List.filter_cons, hp, if_true, Option.map_some, List.map_cons]; rw [ih']
    · simp only [List.filterMap_cons, List.filter_cons, hp, if_false, Option.map_none, Bool.false_eq_true]; rw [ih']
/-! statements -/
theorem y_setE {i : Nat} {e : E} : evS ev (.set (.nm i) e) s = (use ev e s).oc fun x => if i < s.r.length && decide (i < s.o.length) && !ev.keep.contains i then .nx ⟨x.2.2.r.set i (some x.1), x.2.2.o.set i x.2.1⟩ else .bad := by first | (rw [evS]; done) | (rw [evS]; rfl)
theorem y_setTE {ts : List Tg} {e : E} : evS ev (.set (.tp ts) e) s = (use ev e s).oc fun x => (bindS ev (.tp ts) x.1 x.2.2).oc .nx := by first | (rw [evS]; done) | (rw [evS]; rfl)
theorem y_augE {i : Nat} {o : Bo} {e : E} : evS ev (.aug i o e) s = match s.r[i]? with
    | some (some d) => (evE ev e s.r).oc fun y => (binD o d y.1).oc fun z => if isFlat d && isFlat z.1 && decide (i < s.o.length) && !ev.keep.contains i then .nx ⟨s.r.set i (some z.1), s.o.set i 9⟩ else .bad
    | _ => .bad := by first | (rw [evS]; done) | (rw [evS]; rfl)
theorem y_appE {p : Hc.P} {e : E} : evS ev (.app p e) s = (use ev e s).oc fun x => (getP ev p x.2.2).oc fun y => match y.1, y.2 with
    | .lst ds, n + 1 => if fit n x.1 x.2.1 && decide (ds.length < lim) then (putP ev p (.lst (ds ++ [x.1])) x.2.2).oc .nx else .bad
    | _, _ => .bad := by first | (rw [evS]; done) | (rw [evS]; rfl)
theorem y_extE {p : Hc.P} {e : E} : evS ev (.ext p e) s = (use ev e s).oc fun x => (getP ev p x.2.2).oc fun y => match y.1, y.2, x.1 with
    | .lst ds, 1, .lst es => if ds.length + es.length ≤ lim then (putP ev p (.lst (ds ++ es)) x.2.2).oc .nx else .bad
    | _, _, _ => .bad := by first | (rw [evS]; done) | (rw [evS]; rfl)
theorem y_popE {t : Tg} {p : Hc.P} : evS ev (.pop t p) s = (getP ev p s).oc fun y => match y.1, y.2 with
    | .lst ds, 1 => match ds[ds.length - 1]? with
      | some d => (putP ev p (.lst ds.dropLast) s).oc fun s' => (bindS ev t d s').oc .nx
      | none => .bad
    | _, _ => .bad := by first | (rw [evS]; done) | (rw [evS]; rfl)
theorem y_revE {p : Hc.P} : evS ev (.rev p) s = (getP ev p s).oc fun y => match y.1, y.2 with
    | .lst ds, 1 => (putP ev p (.lst ds.reverse) s).oc .nx
    | _, _ => .bad := by first | (rw [evS]; done) | (rw [evS]; rfl)
theorem y_stoE {p : Hc.P} {i e : E} : evS ev (.sto p i e) s = (use ev e s).oc fun x => (getP ev p x.2.2).oc fun y => (evE ev i s.r).oc fun z => match y.1, y.2, z.1 with
    | .lst ds, 1, .int k => (Rs.of (ixN ds.length k)).oc fun j => (putP ev p (.lst (ds.set j x.1)) x.2.2).oc .nx
    | .dct false ks ds, 1, kd => (Rs.of (keyOf kd)).oc fun k => if ks.length < lim then (putP ev p (.dct false (putD k x.1 ks ds).1 (putD k x.1 ks ds).2) x.2.2).oc .nx else .bad
    | _, _, _ => .bad := by first | (rw [evS]; done) | (rw [evS]; rfl)
theorem y_staE {p : Hc.P} {i : E} {o : Bo} {e : E} : evS ev (.sta p i o e) s = (getP ev p s).oc fun y => (evE ev i s.r).oc fun z => match y.1, y.2, z.1 with
    | .lst ds, 1, .int k => (Rs.of (ixN ds.length k)).oc fun j => (Rs.of ds[j]?).oc fun d => (evE ev e s.r).oc fun w => (binD o d w.1).oc fun q => if isFlat d && isFlat q.1 then (putP ev p (.lst (ds.set j q.1)) s).oc .nx else .bad
    | _, _, _ => .bad := by first | (rw [evS]; done) | (rw [evS]; rfl)
theorem y_sflE {p : Hc.P} {j : Nat} {e : E} : evS ev (.sfl p j e) s = (use ev e s).oc fun x => (getP ev p x.2.2).oc fun y => match y.1, y.2 with
    | .own c fs ds, n + 1 => if fit n x.1 x.2.1 && ev.has c j && decide (fs.length < 500) then (putP ev p (.own c (putFd fs ds j x.1).1 (putFd fs ds j x.1).2) x.2.2).oc .nx else .bad
    | _, _ => .bad := by first | (rw [evS]; done) | (rw [evS]; rfl)
theorem y_sfaE {p : Hc.P} {j : Nat} {o : Bo} {e : E} : evS ev (.sfa p j o e) s = (getP ev p s).oc fun y => match y.1, y.2 with
    | .own c fs ds, _ + 1 => (Rs.of (fs.idxOf? j)).oc fun k => (Rs.of ds[k]?).oc fun d => (evE ev e s.r).oc fun w => (binD o d w.1).oc fun q => if isFlat d && isFlat q.1 && ev.has c j && decide (fs.length < 500) then (putP ev p (.own c fs (ds.set k q.1)) s).oc .nx else .bad
    | _, _ => .bad := by first | (rw [evS]; done) | (rw [evS]; rfl)
theorem y_mscE {t : Option Tg} {p : Hc.P} {m : Nat} {es : Es} : evS ev (.msc t p m es) s = (evEs ev es s.r).oc fun ds => (Rs.ok (if scalL ds then s else s.frz (varsL es))).oc fun s1 => (getP ev p s1).oc fun y => match y.1, y.2 with
    | .own c fs vs, n + 1 => (Rs.of (ev.meth c m)).oc fun f => (ev.call f (n + 1) (.own c fs vs :: ds)).oc fun z => (putP ev p z.2.2 s1).oc fun s2 => mscE ev t z.1 z.2.1 s2
    | _, _ => .bad := by first | (rw [evS]; done) | (rw [evS]; rfl)
theorem y_ifcE {p : Hc.P} {f : Nat} {es : Es} {a b : Ss} : evS ev (.ifc p f es a b) s = (evEs ev es s.r).oc fun ds => (Rs.ok (if scalL ds then s else s.frz (varsL es))).oc fun s1 => (getP ev p s1).oc fun y => match y.2 with
    | n + 1 => (ev.call f (n + 1) (y.1 :: ds)).oc fun z => (putP ev p z.2.2 s1).oc fun s2 => (boolR (z.1, z.2.1)).oc fun k => if k = true then evSs ev b s2 else evSs ev a s2
    | 0 => .bad := by first | (rw [evS]; done) | (rw [evS]; rfl)
theorem y_dropE {e : E} : evS ev (.drop e) s = (evE ev e s.r).oc fun _ => .nx s := by first | (rw [evS]; done) | (rw [evS]; rfl)
theorem y_tapE {a e : E} : evS ev (.tap a e) s = (evE ev a s.r).oc fun x => (evE ev e s.r).oc fun _ => match x.1, x.2 with
    | .lst ds, _ + 1 => if ds.length < lim then .nx s else .bad
    | _, _ => .bad := by first | (rw [evS]; done) | (rw [evS]; rfl)
theorem y_retV {i : Nat} : evS ev (.ret (.var i)) s = match s.r[i]? with
      | some (some d) => if i == 0 && s.o.getD 0 0 != 0 then .bad else .rt d (s.o.getD i 0) s
      | _ => .bad := by first | (rw [evS]; done) | (rw [evS]; rfl)
@[reducible] def nv : E → Bool
  | .var _ => false
  | _ => true
theorem y_retE {e : E} (h : nv e = true) : evS ev (.ret e) s = (evE ev e s.r).oc fun x => if clean x.1 x.2 || s.o.getD 0 0 == 0 || !(vars e).contains 0 then .rt x.1 x.2 s else .bad := ret_eq fun i q => by rw [q] at h; cases h
theorem y_retnE : evS ev .retn s = .rt .non 9 s := by first | (rw [evS]; done) | (rw [evS]; rfl)
theorem y_iteE {c : E} {a b : Ss} : evS ev (.ite c a b) s = ((evE ev c s.r).bind boolR).oc fun k => if k = true then evSs ev a s else evSs ev b s := by first | (rw [evS]; done) | (rw [evS]; rfl)
theorem y_forE {t : Tg} {src : E} {b : Ss} : evS ev (.for t src b) s = (use ev src s).oc fun x => (items x.1).oc fun ds => forL (fun d s' => (bindS ev t d s').oc fun s2 => evSs ev b s2) ds x.2.2 := by first | (rw [evS]; done) | (rw [evS]; rfl)
theorem y_whlE {c : E} {b : Ss} : evS ev (.whl c b) s = whlL (fun s' => (evE ev c s'.r).bind boolR) (fun s' => evSs ev b s') ev.fuel s := by first | (rw [evS]; done) | (rw [evS]; rfl)
theorem y_brkE : evS ev .brk s = .bk s := by first | (rw [evS]; done) | (rw [evS]; rfl)
theorem y_contE : evS ev .cont s = .ct s := by first | (rw [evS]; done) | (rw [evS]; rfl)
theorem y_passE : evS ev .pass s = .nx s := by first | (rw [evS]; done) | (rw [evS]; rfl)
/-! blocks within -/
theorem wp_an {o : Oc} (h : wp (fun o => match o with | .nx s => wp P (f s) | .rt d n s => P (.rt d n s) | .bk s => P (.bk s) | .ct s => P (.ct s) | .ex c d => P (.ex c d) | .bad => P .bad) o) : wp P (o.an f) := by
  cases o <;> first | exact ⟨h.out⟩ | exact ⟨h.out.out⟩
theorem wp_ite {c : Prop} [Decidable c] {a b : Oc} (h1 : c → wp P a) (h2 : ¬ c → wp P b) : wp P (if c then a else b) := by
  by_cases h : c
  · rw [if_pos h]; exact h1 h
  · rw [if_neg h]; exact h2 h
/-- what is wanted behind a block within -/
def contP (P : Oc → Prop) (ev : Ev) (xs : Ss) : Oc → Prop
  | .nx s => wp P (evSs ev xs s)
  | .rt d n s => P (.rt d n s)
  | .bk s => P (.bk s)
  | .ct s => P (.ct s)
  | .ex c d => P (.ex c d)
  | .bad => P .bad
theorem wp_sq {o : Oc} {xs : Ss} (h : wp (contP P ev xs) o) : wp P (Oc.sq ev o xs) := by
  cases o <;> first | exact ⟨h.out⟩ | exact ⟨h.out.out⟩
theorem wp_nx {xs : Ss} (h : wp P (evSs ev xs s)) : wp (contP P ev xs) (.nx s) := ⟨h⟩
/-- what is wanted behind a turn -/
def turnP (I : Sg → Prop) (P : Oc → Prop) (f : Sg → Oc) : Oc → Prop
  | .nx s => I s
  | .ct s => I s
  | .bk s => wp P (f s)
  | .rt d n s => P (.rt d n s)
  | .ex c d => P (.ex c d)
  | .bad => P .bad
theorem wp_forL (I : List D → Sg → Prop) {g : D → Sg → Oc} (step : ∀ d ds s, I (d :: ds) s → wp (turnP (I ds) P f) (g d s)) (done : ∀ s, I [] s → wp P (f s)) : ∀ (ds : List D) (s : Sg), I ds s → wp P ((forL g ds s).an f)
  | [], s, h => done s h
  | d :: ds, s, h => by
    have w := step d ds s h
    rw [forL]
    cases q : g d s with
    | nx s' => rw [q] at w; exact wp_forL I step done ds s' w.out
    | ct s' => rw [q] at w; exact wp_forL I step done ds s' w.out
    | bk s' => rw [q] at w; exact w.out
    | rt d n s' => rw [q] at w; exact ⟨w.out⟩
    | ex c d => rw [q] at w; exact ⟨w.out⟩
    | bad => rw [q] at w; exact ⟨w.out⟩
theorem wp_for {β : Type} (e : β → D) (xs : List β) (I : List β → List β → Sg → Prop) {t : Tg} {src : E} {b : Ss} {zs : Ss} {d : D} {n : Nat} {s1 : Sg} (hu : use ev src s = .ok (d, n, s1)) (hi : items d = .ok (xs.map e)) (h0 : I [] xs s1)
    (step : ∀ pre x post s, pre ++ x :: post = xs → I pre (x :: post) s → wp (turnP (I (pre ++ [x]) post) P fun s => evSs ev zs s) ((bindS ev t (e x) s).oc fun s2 => evSs ev b s2)) (done : ∀ s, I xs [] s → wp P (evSs ev zs s)) : wp P (Oc.sq ev (evS ev (.for t src b) s) zs) := by
  unfold Oc.sq
  rw [y_forE, hu, oc_okk]
  dsimp only
  rw [hi, oc_okk]
  refine wp_forL (fun ds s => ∃ pre post, ds = post.map e ∧ pre ++ post = xs ∧ I pre post s) (fun d ds s h => ?_) (fun s h => ?_) _ _ ⟨[], xs, rfl, rfl, h0⟩
  · obtain ⟨pre, post, h1, h2, h3⟩ := h
    cases post with
    | nil => cases h1
    | cons x post =>
      obtain ⟨rfl, rfl⟩ : d = e x ∧ ds = post.map e := by simpa using h1
      have w := step pre x post s h2 h3
      have key : ∀ s', I (pre ++ [x]) post s' → ∃ pre' post', post.map e = post'.map e ∧ pre' ++ post' = xs ∧ I pre' post' s' := fun s' h => ⟨pre ++ [x], post, rfl, by simp [h2], h⟩
      generalize ((bindS ev t (e x) s).oc fun s2 => evSs ev b s2) = o at w ⊢
      cases o with
      | nx s' => exact ⟨key s' w.out⟩
      | ct s' => exact ⟨key s' w.out⟩
      | bk s' => exact ⟨w.out⟩
      | rt d n s' => exact ⟨w.out⟩
      | ex c d => exact ⟨w.out⟩
      | bad => exact ⟨w.out⟩
  · obtain ⟨pre, post, h1, h2, h3⟩ := h
    cases post with
    | nil => rw [List.append_nil] at h2; subst h2; exact done s h3
    | cons x post => cases h1
/-- a loop that folds -/
theorem wp_fold {α β J : Type} (e : β → D) (xs : List β) (st : α → J → Sg) (g : α → β → α) (a : α) (j : J) {t : Tg} {src : E} {b : Ss} {zs : Ss} {d : D} {n : Nat} (hu : use ev src s = .ok (d, n, st a j)) (hi : items d = .ok (xs.map e))
    (step : ∀ pre x post j, pre ++ x :: post = xs → ∃ j', ((bindS ev t (e x) (st (pre.foldl g a) j)).oc fun s2 => evSs ev b s2) = .nx (st (g (pre.foldl g a) x) j')) (done : ∀ j, wp P (evSs ev zs (st (xs.foldl g a) j))) : wp P (Oc.sq ev (evS ev (.for t src b) s) zs) := by
  refine wp_for e xs (fun pre _ s => ∃ j, s = st (pre.foldl g a) j) hu hi ⟨j, rfl⟩ (fun pre x post s hx h => ?_) (fun s h => ?_)
  · obtain ⟨j, rfl⟩ := h
    obtain ⟨j', q⟩ := step pre x post j hx
    rw [q]
    exact ⟨⟨j', by simp⟩⟩
  · obtain ⟨j, rfl⟩ := h
    exact done j
theorem wp_whl (I : Nat → Sg → Prop) {c : E} {b : Ss} {zs : Ss} (m : Nat) (hm : m < ev.fuel) (h0 : I m s)
    (step : ∀ m s, I m s → ∃ k, (evE ev c s.r).bind boolR = .ok k ∧ if k = true then wp (turnP (fun s' => ∃ m' < m, I m' s') P fun s => evSs ev zs s) (evSs ev b s) else wp P (evSs ev zs s)) : wp P (Oc.sq ev (evS ev (.whl c b) s) zs) := by
  unfold Oc.sq
  rw [y_whlE]
  have key : ∀ (F m : Nat) (s : Sg), m < F → I m s → wp P ((whlL (fun s' => (evE ev c s'.r).bind boolR) (fun s' => evSs ev b s') F s).an fun s => evSs ev zs s) := by
    intro F
    induction F with
    | zero => intro m s h; omega
    | succ F ih =>
      intro m s h hI
      obtain ⟨k, h1, h2⟩ := step m s hI
      rw [whlL, h1, oc_okk]
      cases k with
      | false => exact h2
      | true =>
        rw [if_pos rfl] at h2 ⊢
        cases q : evSs ev b s with
        | nx s' => rw [q] at h2; obtain ⟨m', h3, h4⟩ := h2.out; exact ih m' s' (by omega) h4
        | ct s' => rw [q] at h2; obtain ⟨m', h3, h4⟩ := h2.out; exact ih m' s' (by omega) h4
        | bk s' => rw [q] at h2; exact h2.out
        | rt d n s' => rw [q] at h2; exact ⟨h2.out⟩
        | ex c d => rw [q] at h2; exact ⟨h2.out⟩
        | bad => rw [q] at h2; exact ⟨h2.out⟩
  exact key _ m s hm h0
end
/-! a part that is lent -/
section
variable {ev : Ev} {s : Sg} {P : Oc → Prop}
def loanP (P : Oc → Prop) (ev : Ev) (i n : Nat) (p : Hc.P) (s : Sg) : Oc → Prop
  | .nx s' => wp P (backS ev i n p s s' .nx)
  | .bk s' => wp P (backS ev i n p s s' .bk)
  | .ct s' => wp P (backS ev i n p s s' .ct)
  | .rt d m s' => P (.rt d m ⟨s'.r.set i none, s'.o.set i 0⟩)
  | .ex c d => P (.ex c d)
  | .bad => P .bad
theorem wp_loan {i n : Nat} {p : Hc.P} {ss : Ss} {d : D} (hg : getP ev p s = .ok (d, n)) (hc : i ≠ rootP p ∧ i ≠ 0 ∧ rootP p ≠ 0 ∧ i < s.r.length ∧ i < s.o.length ∧ ev.keep.contains i = false)
    (h : wp (loanP P ev i n p s) (evSs (ev.hold i (rootP p)) ss (lend s i (rootP p) d n))) : wp P (evSs ev (.loan i p ss) s) := by
  rw [evSs, hg, oc_okk]
  dsimp only
  rw [if_pos hc]
  generalize evSs (ev.hold i (rootP p)) ss (lend s i (rootP p) d n) = o at h
  cases o <;> first | exact h.out | exact ⟨h.out⟩
theorem hold_call {i j : Nat} : (ev.hold i j).call = ev.call := Eq.trans rfl rfl
theorem hold_keep {i j : Nat} : (ev.hold i j).keep = i :: j :: ev.keep := Eq.trans rfl rfl
theorem hold_meth {i j : Nat} : (ev.hold i j).meth = ev.meth := Eq.trans rfl rfl
theorem hold_init {i j : Nat} : (ev.hold i j).init = ev.init := Eq.trans rfl rfl
theorem hold_has {i j : Nat} : (ev.hold i j).has = ev.has := Eq.trans rfl rfl
theorem hold_prop {i j : Nat} : (ev.hold i j).prop = ev.prop := Eq.trans rfl rfl
theorem hold_cval {i j : Nat} : (ev.hold i j).cval = ev.cval := Eq.trans rfl rfl
end
/-! calls -/
section
variable {B : Tb} {l f n0 np nn : Nat} {body : Ss} {ds : List D}
theorem ev_call {c : Nat → Nat → List D → Rs (D × Nat × D)} {k : List Nat} : (B.ev c k).call = c := Eq.trans rfl rfl
theorem ev_keep {c : Nat → Nat → List D → Rs (D × Nat × D)} {k : List Nat} : (B.ev c k).keep = k := Eq.trans rfl rfl
theorem ev_meth {c : Nat → Nat → List D → Rs (D × Nat × D)} {k : List Nat} : (B.ev c k).meth = B.meth := Eq.trans rfl rfl
theorem ev_init {c : Nat → Nat → List D → Rs (D × Nat × D)} {k : List Nat} : (B.ev c k).init = B.init := Eq.trans rfl rfl
theorem ev_has {c : Nat → Nat → List D → Rs (D × Nat × D)} {k : List Nat} : (B.ev c k).has = B.has := Eq.trans rfl rfl
theorem ev_prop {c : Nat → Nat → List D → Rs (D × Nat × D)} {k : List Nat} : (B.ev c k).prop = B.prop := Eq.trans rfl rfl
theorem ev_cval {c : Nat → Nat → List D → Rs (D × Nat × D)} {k : List Nat} : (B.ev c k).cval = B.cval := Eq.trans rfl rfl
theorem ev_fuel {c : Nat → Nat → List D → Rs (D × Nat × D)} {k : List Nat} : (B.ev c k).fuel = B.fuel := Eq.trans rfl rfl
theorem call_wp {Q : Rs (D × Nat × D) → Prop} (h : B.dn f = some (np, body, nn)) (hl : 1 ≤ l) (hn : ds.length = np) (w : wp (fun o => Q (fend n0 ds o)) (evSs (B.ev (callAt B (l - 1)) (if n0 = 0 then [] else [0])) body (sg0 n0 nn ds))) : Q (callAt B l f n0 ds) := by
  obtain ⟨k, rfl⟩ : ∃ k, l = k + 1 := ⟨l - 1, by omega⟩
  rw [callAt, h]
  dsimp only
  rw [if_pos hn]
  exact w.out
theorem call_eq {R : Rs (D × Nat × D)} (h : B.dn f = some (np, body, nn)) (hl : 1 ≤ l) (hn : ds.length = np) (w : wp (fun o => fend n0 ds o = R) (evSs (B.ev (callAt B (l - 1)) (if n0 = 0 then [] else [0])) body (sg0 n0 nn ds))) : callAt B l f n0 ds = R := call_wp (Q := fun r => r = R) h hl hn w
theorem fend_rt {d : D} {n : Nat} {s : Sg} : fend 0 ds (.rt d n s) = .ok (d, n, ds.headD .non) := by rw [fend, fin, if_pos rfl]
theorem fend_nx {s : Sg} : fend 0 ds (.nx s) = .ok (.non, 9, ds.headD .non) := by rw [fend, fin, if_pos rfl]
end
end Hc
set_option Elab.async false
set_option linter.all false
set_option maxRecDepth 100000
set_option maxHeartbeats 4000000
/-! Bit sets. -/
namespace Hc
open PySem
theorem bnot_nat (a : Nat) : Builtin.bitNot (a : Int) = -(a : Int) - 1 := rfl
theorem band_nat (a b : Nat) : Builtin.bitAnd (a : Int) (b : Int) = ((a &&& b : Nat) : Int) := by
  unfold Builtin.bitAnd
  simp
theorem bor_nat (a b : Nat) : Builtin.bitOr (a : Int) (b : Int) = ((a ||| b : Nat) : Int) := by
  unfold Builtin.bitOr Builtin.bitAnd
  have h1 : decide (0 ≤ Builtin.bitNot (a : Int)) = false := decide_eq_false (by unfold Builtin.bitNot; omega)
  have h2 : decide (0 ≤ Builtin.bitNot (b : Int)) = false := decide_eq_false (by unfold Builtin.bitNot; omega)
  rw [h1, h2]
  have e1 : (Builtin.bitNot (Builtin.bitNot (a : Int))).toNat = a := by unfold Builtin.bitNot; omega
  have e2 : (Builtin.bitNot (Builtin.bitNot (b : Int))).toNat = b := by unfold Builtin.bitNot; omega
  dsimp only
  rw [e1, e2]
  unfold Builtin.bitNot
  omega
/-- a &~ b -/
def andn (a b : Nat) : Nat := a - (a &&& b)
theorem band_not (a b : Nat) : Builtin.bitAnd (a : Int) (Builtin.bitNot (b : Int)) = ((andn a b : Nat) : Int) := by
  unfold Builtin.bitAnd andn
  have h2 : decide (0 ≤ Builtin.bitNot (b : Int)) = false := decide_eq_false (by unfold Builtin.bitNot; omega)
  have h1 : decide (0 ≤ (a : Int)) = true := by simp
  rw [h1, h2]
  have e2 : (Builtin.bitNot (Builtin.bitNot (b : Int))).toNat = b := by unfold Builtin.bitNot; omega
  dsimp only
  rw [e2, Int.toNat_natCast]
  have : a &&& b ≤ a := Nat.and_le_left
  omega
theorem band_neg (a : Nat) (h : 0 < a) : Builtin.bitAnd (a : Int) (-(a : Int)) = ((a - (a &&& (a - 1)) : Nat) : Int) := by
  unfold Builtin.bitAnd
  have h2 : decide (0 ≤ -(a : Int)) = false := by simp only [decide_eq_false_iff_not]; omega
  have h1 : decide (0 ≤ (a : Int)) = true := by simp
  rw [h1, h2]
  have e2 : (Builtin.bitNot (-(a : Int))).toNat = a - 1 := by unfold Builtin.bitNot; omega
  dsimp only
  rw [e2, Int.toNat_natCast]
  have : a &&& (a - 1) ≤ a := Nat.and_le_left
  omega
theorem andn_test (a b j : Nat) : (andn a b).testBit j = (a.testBit j && !b.testBit j) := by
  have e : andn a b = a ^^^ (a &&& b) := by
    unfold andn
    have h : (a ^^^ (a &&& b)) + (a &&& b) = a := by
      have h1 : (a ^^^ (a &&& b)) &&& (a &&& b) = 0 := by
        apply Nat.eq_of_testBit_eq
        intro i
        simp only [Nat.testBit_and, Nat.testBit_xor, Nat.zero_testBit]
        cases a.testBit i <;> cases b.testBit i <;> rfl
      have h2 : (a ^^^ (a &&& b)) ||| (a &&& b) = a := by
        apply Nat.eq_of_testBit_eq
        intro i
        simp only [Nat.testBit_and, Nat.testBit_xor, Nat.testBit_or]
        cases a.testBit i <;> cases b.testBit i <;> rfl
      have key : ∀ (n x y : Nat), x < 2 ^ n → x &&& y = 0 → x + y = x ||| y := by
        intro n
        induction n with
        | zero => intro x y hx _; have : x = 0 := by omega
                  subst this; simp
        | succ n ih =>
          intro x y hx h
          have e1 := ih (x / 2) (y / 2) (by rw [Nat.pow_succ] at hx; omega) (by
            apply Nat.eq_of_testBit_eq
            intro i
            rw [Nat.testBit_and, ← Nat.testBit_succ, ← Nat.testBit_succ, ← Nat.testBit_and, h]; simp)
          have e2 : (x ||| y) / 2 = (x / 2) ||| (y / 2) := by
            apply Nat.eq_of_testBit_eq
            intro i
            rw [Nat.testBit_or, ← Nat.testBit_succ, ← Nat.testBit_succ, ← Nat.testBit_succ, Nat.testBit_or]
          have p4 : (x ||| y) % 2 = 1 ↔ (x % 2 = 1 ∨ y % 2 = 1) := by
            have := Nat.testBit_or x y 0
            rw [Nat.testBit_zero, Nat.testBit_zero, Nat.testBit_zero] at this
            by_cases a : x % 2 = 1 <;> by_cases b : y % 2 = 1 <;> by_cases c : (x ||| y) % 2 = 1 <;> simp_all
          have p3 : ¬ (x % 2 = 1 ∧ y % 2 = 1) := by
            have : (x &&& y).testBit 0 = (0 : Nat).testBit 0 := by rw [h]
            rw [Nat.testBit_and, Nat.testBit_zero, Nat.testBit_zero] at this
            rintro ⟨a, b⟩
            simp [a, b] at this
          rw [← e2] at e1
          have p5 : (x ||| y) % 2 = x % 2 + y % 2 := by
            have hz := Nat.mod_two_eq_zero_or_one (x ||| y)
            have hx' := Nat.mod_two_eq_zero_or_one x
            have hy' := Nat.mod_two_eq_zero_or_one y
            by_cases a : x % 2 = 1
            · by_cases b : y % 2 = 1
              · exact absurd ⟨a, b⟩ p3
              · have := p4.mpr (.inl a); omega
            · by_cases b : y % 2 = 1
              · have := p4.mpr (.inr b); omega
              · have : ¬ (x ||| y) % 2 = 1 := fun c => (p4.mp c).elim a b
                omega
          omega
      rw [← h2]
      have := key (a ^^^ (a &&& b)) (a ^^^ (a &&& b)) (a &&& b) Nat.lt_two_pow_self h1
      rw [h2] at this ⊢
      exact this
    omega
  rw [e, Nat.testBit_xor, Nat.testBit_and]
  cases a.testBit j <;> cases b.testBit j <;> rfl
/-- the least bit -/
theorem low_spec : ∀ a : Nat, 0 < a → ∃ k, a - (a &&& (a - 1)) = 2 ^ k ∧ a.testBit k = true ∧ (∀ j < k, a.testBit j = false) ∧ ∀ j, (a &&& (a - 1)).testBit j = (a.testBit j && decide (j ≠ k)) := by
  intro a
  induction a using Nat.strongRecOn with
  | ind a ih =>
    intro ha
    by_cases ho : a % 2 = 1
    · have e : a &&& (a - 1) = a - 1 := by
        apply Nat.eq_of_testBit_eq
        intro i
        cases i with
        | zero => simp [Nat.testBit_and, Nat.testBit_zero, ho]
        | succ i =>
          rw [Nat.testBit_and, Nat.testBit_succ, Nat.testBit_succ]
          have : (a - 1) / 2 = a / 2 := by omega
          rw [this, Bool.and_self]
      refine ⟨0, by rw [e]; omega, by simp [Nat.testBit_zero, ho], fun j hj => by omega, fun j => ?_⟩
      rw [e]
      cases j with
      | zero =>
        have : (a - 1) % 2 = 0 := by omega
        simp [Nat.testBit_zero, this]
      | succ j =>
        rw [Nat.testBit_succ, Nat.testBit_succ]
        have : (a - 1) / 2 = a / 2 := by omega
        rw [this]; simp
    · obtain ⟨k, h1, h2, h3, h4⟩ := ih (a / 2) (by omega) (by omega)
      have e0 : (a - 1) / 2 = a / 2 - 1 := by omega
      have e : a &&& (a - 1) = 2 * (a / 2 &&& (a / 2 - 1)) := by
        apply Nat.eq_of_testBit_eq
        intro i
        cases i with
        | zero =>
          have : a % 2 = 0 := by omega
          simp [Nat.testBit_and, Nat.testBit_zero, this]
        | succ i =>
          rw [Nat.testBit_and, Nat.testBit_succ, Nat.testBit_succ, Nat.testBit_succ, e0, ← Nat.testBit_and]
          congr 1
          omega
      refine ⟨k + 1, by rw [e, Nat.pow_succ]; omega, by rw [Nat.testBit_succ]; exact h2, fun j hj => ?_, fun j => ?_⟩
      · cases j with
        | zero => have : a % 2 = 0 := by omega
                  simp [Nat.testBit_zero, this]
        | succ j => rw [Nat.testBit_succ]; exact h3 j (by omega)
      · rw [e]
        cases j with
        | zero => have : a % 2 = 0 := by omega
                  simp [Nat.testBit_zero, this]
        | succ j =>
          rw [Nat.testBit_succ, Nat.testBit_succ, Nat.mul_div_cancel_left _ (by omega), h4]
          congr 1
          simp
/-- the places of the bits, ascending -/
def bitsL (n : Nat) : List Nat := (List.range (n.log2 + 1)).filter n.testBit
theorem bitsL_lt {n k : Nat} (h : n < 2 ^ k) : bitsL n = (List.range k).filter n.testBit := by
  have key : ∀ m, n < 2 ^ m → ∀ d, (List.range (m + d)).filter n.testBit = (List.range m).filter n.testBit := by
    intro m hm d
    induction d with
    | zero => rfl
    | succ d ih =>
      rw [← Nat.add_assoc, List.range_succ, List.filter_append, ih]
      have : n.testBit (m + d) = false := Nat.testBit_lt_two_pow (Nat.lt_of_lt_of_le hm (Nat.pow_le_pow_right (by omega) (by omega)))
      simp [this]
  unfold bitsL
  have hn : n < 2 ^ (n.log2 + 1) := Nat.lt_log2_self
  rcases Nat.le_total k (n.log2 + 1) with hk | hk
  · have := key k h (n.log2 + 1 - k)
    rwa [show k + (n.log2 + 1 - k) = n.log2 + 1 by omega] at this
  · have := key (n.log2 + 1) hn (k - (n.log2 + 1))
    rw [show n.log2 + 1 + (k - (n.log2 + 1)) = k by omega] at this
    exact this.symm
theorem bitsL_mem {n j : Nat} : j ∈ bitsL n ↔ n.testBit j = true := by
  unfold bitsL
  rw [List.mem_filter, List.mem_range]
  constructor
  · exact fun h => h.2
  · intro h
    refine ⟨?_, h⟩
    apply Classical.byContradiction
    intro hc
    have : n.testBit j = false := Nat.testBit_lt_two_pow (Nat.lt_of_lt_of_le Nat.lt_log2_self (Nat.pow_le_pow_right (by omega) (by omega)))
    rw [this] at h; cases h
theorem bitsL_zero : bitsL 0 = [] := by
  rw [bitsL_lt (k := 0) (by omega)]; rfl
theorem filter_least {p : Nat → Bool} {k : Nat} (hk : p k = true) (hl : ∀ j < k, p j = false) : ∀ m, k < m → (List.range m).filter p = k :: (List.range m).filter fun j => p j && decide (j ≠ k)
  | 0, h => by omega
  | m + 1, h => by
    rw [List.range_succ, List.filter_append, List.filter_append]
    by_cases hm : k < m
    · rw [filter_least hk hl m hm, List.cons_append]
      congr 2
      have : ¬ m = k := by omega
      simp [List.filter_cons, this]
    · have e : k = m := by omega
      subst e
      have e1 : (List.range k).filter p = [] := by
        rw [List.filter_eq_nil_iff]
        intro j hj
        rw [hl j (List.mem_range.mp hj)]; simp
      have e2 : (List.range k).filter (fun j => p j && decide (j ≠ k)) = [] := by
        rw [List.filter_eq_nil_iff]
        intro j hj
        rw [hl j (List.mem_range.mp hj)]; simp
      rw [e1, e2]
      simp [hk]
/-- the least bit taken off -/
theorem bitsL_step {a : Nat} (h : 0 < a) : ∃ k, a - (a &&& (a - 1)) = 2 ^ k ∧ a.testBit k = true ∧ bitsL a = k :: bitsL (a &&& (a - 1)) ∧ (a &&& (a - 1)) = a - 2 ^ k ∧ 2 ^ k ≤ a ∧ (a &&& (a - 1)) < a ∧ (∀ j < k, a.testBit j = false) ∧ ∀ j, (a &&& (a - 1)).testBit j = (a.testBit j && decide (j ≠ k)) := by
  obtain ⟨k, h1, h2, h3, h4⟩ := low_spec a h
  have hle : a &&& (a - 1) ≤ a - 1 := Nat.and_le_right
  have hp : 0 < 2 ^ k := Nat.two_pow_pos k
  refine ⟨k, h1, h2, ?_, by omega, by omega, by omega, h3, h4⟩
  have hlt : a < 2 ^ (a.log2 + 1) := Nat.lt_log2_self
  have hk : k < a.log2 + 1 := by
    apply Classical.byContradiction
    intro hc
    have : a.testBit k = false := Nat.testBit_lt_two_pow (Nat.lt_of_lt_of_le hlt (Nat.pow_le_pow_right (by omega) (by omega)))
    rw [this] at h2; cases h2
  rw [bitsL_lt hlt, bitsL_lt (n := a &&& (a - 1)) (k := a.log2 + 1) (by omega), filter_least h2 h3 _ hk]
  congr 2
  funext j
  exact (h4 j).symm
theorem intBits_pow (k : Nat) : (Builtin.Int.intBits ((2 ^ k : Nat) : Int) : Nat) = k + 1 := by
  unfold Builtin.Int.intBits
  have : ((((2 ^ k : Nat) : Int)) == 0) = false := by
    have := Nat.two_pow_pos k
    simp only [beq_eq_false_iff_ne]
    omega
  rw [this, if_neg (by simp), Int.natAbs_natCast, Nat.log2_two_pow]
/-- the bit set of some places -/
def bitsOf (xs : List Nat) : Nat := xs.foldl (fun a x => a ||| 2 ^ x) 0
theorem bitsOf_go : ∀ (xs : List Nat) (a j : Nat), (xs.foldl (fun a x => a ||| 2 ^ x) a).testBit j = (a.testBit j || decide (j ∈ xs))
  | [], a, j => by simp
  | x :: xs, a, j => by
    rw [List.foldl_cons, bitsOf_go xs, Nat.testBit_or, Nat.testBit_two_pow]
    by_cases h : x = j
    · subst h; simp
    · have h' : ¬ j = x := fun e => h e.symm
      simp [h, h']
theorem bitsOf_test (xs : List Nat) (j : Nat) : (bitsOf xs).testBit j = decide (j ∈ xs) := by
  unfold bitsOf; rw [bitsOf_go]; simp
theorem lt_pow_of_bits {n k : Nat} (h : ∀ j, n.testBit j = true → j < k) : n < 2 ^ k := by
  apply Nat.lt_of_not_le
  intro hc
  obtain ⟨j, h1, h2⟩ := Nat.exists_ge_and_testBit_of_ge_two_pow hc
  have := h j h2
  omega
theorem bitsL_len {n k : Nat} (h : n < 2 ^ k) : (bitsL n).length ≤ k := by
  rw [bitsL_lt h]
  exact Nat.le_trans (List.length_filter_le _ _) (by simp)
end Hc
set_option Elab.async false
set_option linter.all false
set_option maxRecDepth 100000
set_option maxHeartbeats 4000000
/-! Operations on values of known form. -/
namespace Hc
open PySem PySem.Spec PyProof.Rows L2
abbrev dN (n : Nat) : D := .int (n : Int)
abbrev dP (p : Nat × Nat) : D := .tup [dN p.1, dN p.2]
abbrev dC (p : Nat × Str) : D := .tup [dN p.1, .str p.2]
def dW : Option Str → D
  | none => .non
  | some x => .str x
abbrev dL {α : Type} (e : α → D) (xs : List α) : D := .lst (xs.map e)
abbrev dT {α : Type} (e : α → D) (xs : List α) : D := .tup (xs.map e)
section
variable {i j : Int} {α : Type} {e : α → D} {xs ys : List α} {a b : Nat}
theorem o_add : binD .add (.int i) (.int j) = .ok (.int (i + j), 9) := Eq.trans rfl rfl
theorem o_sub : binD .sub (.int i) (.int j) = .ok (.int (i - j), 9) := Eq.trans rfl rfl
theorem o_mulr (h : -18446744073709551616 < j ∧ j < 18446744073709551616) : binD .mul (.int i) (.int j) = .ok (.int (i * j), 9) := by
  rw [binD]; have : sm j = true := by unfold sm; simp; omega
  rw [this, Bool.or_true, if_pos rfl]
theorem o_mull (h : -18446744073709551616 < i ∧ i < 18446744073709551616) : binD .mul (.int i) (.int j) = .ok (.int (i * j), 9) := by
  rw [binD]; have : sm i = true := by unfold sm; simp; omega
  rw [this, Bool.true_or, if_pos rfl]
theorem o_fdiv (h : 0 < j ∧ j < 1073741824) : binD .fdiv (.int i) (.int j) = .ok (.int (i / j), 9) := by
  rw [binD]; simp [h.1, h.2]
theorem o_mod (h : 0 < j) : binD .mod (.int i) (.int j) = .ok (.int (i % j), 9) := by
  rw [binD]; simp [h]
theorem o_pow (h : 0 ≤ j ∧ j ≤ 1000000) (h2 : -18446744073709551616 < i ∧ i < 18446744073709551616) : binD .pow (.int i) (.int j) = .ok (.int (i ^ j.toNat), 9) := by
  rw [binD]; have : sm i = true := by unfold sm; simp; omega
  simp [h.1, h.2, this]
theorem o_shl1 (h : 0 ≤ j ∧ j ≤ 1000000) : binD .shl (.int 1) (.int j) = .ok (dN (2 ^ j.toNat), 9) := by
  rw [binD]; have : sm 1 = true := by decide
  simp only [h.1, h.2, this, decide_true, Bool.and_true, if_true]
  congr 3
  rw [Int.one_mul]
  simp
theorem o_shr (h : 0 ≤ j) : binD .shr (.int i) (.int j) = .ok (.int (i / 2 ^ j.toNat), 9) := by
  rw [binD]; simp [h]
theorem o_band : binD .band (.int i) (.int j) = .ok (.int (Builtin.bitAnd i j), 9) := Eq.trans rfl rfl
theorem o_bor : binD .bor (.int i) (.int j) = .ok (.int (Builtin.bitOr i j), 9) := Eq.trans rfl rfl
theorem o_addS {x y : Str} (h : x.length + y.length ≤ 16000000) : binD .add (.str x) (.str y) = .ok (.str (x ++ y), 9) := by rw [binD, if_pos (show _ ≤ lim from h)]
theorem o_addL {xs ys : List D} (h : xs.length + ys.length ≤ 16000000) : binD .add (.lst xs) (.lst ys) = .ok (.lst (xs ++ ys), 1) := by rw [binD, if_pos (show _ ≤ lim from h)]
theorem o_addT {xs ys : List D} (h : xs.length + ys.length ≤ 16000000) : binD .add (.tup xs) (.tup ys) = .ok (.tup (xs ++ ys), 9) := by rw [binD, if_pos (show _ ≤ lim from h)]
theorem o_mulL1 {x : D} (h : a ≤ 1000000) : binD .mul (.lst [x]) (dN a) = .ok (.lst (List.replicate a x), 1) := by
  rw [binD]
  have h1 : lim = 16000000 := rfl
  have : (decide ((0 : Int) ≤ (a : Int)) && decide ((a : Int) ≤ 1000000) && decide ([x].length * ((a : Int)).toNat ≤ lim)) = true := by
    simp [h1]; omega
  rw [this, if_pos rfl, Int.toNat_natCast]
  congr 3
  induction a with
  | zero => rfl
  | succ a ih => rw [List.replicate_succ, List.flatten_cons, List.replicate_succ, ih (by omega)]; rfl; simp [h1]; omega
theorem map_snoc {β : Type} {e : α → β} {xs : List α} {x : α} : xs.map e ++ [e x] = (xs ++ [x]).map e := by simp
theorem lt_lim {n : Nat} (h : n < 16000000) : decide (n < lim) = true := decide_eq_true h
theorem lt_limP {n : Nat} (h : n < 16000000) : (n < lim) = True := eq_true h
theorem le_lim {n : Nat} (h : n ≤ 16000000) : (n ≤ lim) = True := eq_true h
theorem cast_pred {k : Nat} : (((k + 1 : Nat)) : Int) - 1 = (k : Int) := by omega
/-! comparisons -/
theorem c_eqI : cmpB .eq (.int i) (.int j) = .ok (decide (i = j)) := Eq.trans rfl rfl
theorem c_neI : cmpB .ne (.int i) (.int j) = .ok (!decide (i = j)) := Eq.trans rfl rfl
theorem c_ltI : cmpB .lt (.int i) (.int j) = .ok (decide (i < j)) := Eq.trans rfl rfl
theorem c_leI : cmpB .le (.int i) (.int j) = .ok (decide (i ≤ j)) := Eq.trans rfl rfl
theorem c_gtI : cmpB .gt (.int i) (.int j) = .ok (decide (j < i)) := Eq.trans rfl rfl
theorem c_geI : cmpB .ge (.int i) (.int j) = .ok (decide (j ≤ i)) := Eq.trans rfl rfl
theorem c_eqS {x y : Str} : cmpB .eq (.str x) (.str y) = .ok (decide (x = y)) := Eq.trans rfl rfl
theorem c_neS {x y : Str} : cmpB .ne (.str x) (.str y) = .ok (!decide (x = y)) := Eq.trans rfl rfl
theorem c_isN {d : D} : cmpB .is d .non = .ok (match d with | .non => true | _ => false) := Eq.trans rfl rfl
theorem c_isnN {d : D} : cmpB .isn d .non = .ok (!(match d with | .non => true | _ => false)) := Eq.trans rfl rfl
theorem c_isB {d : D} {c : Bool} : cmpB .is d (.bl c) = .ok (match d with | .bl b => b == c | _ => false) := Eq.trans rfl rfl
theorem c_in {x y : D} : cmpB .isin x y = inD x y := Eq.trans rfl rfl
theorem c_nin {x y : D} : cmpB .nin x y = (inD x y).bind fun c => .ok (!c) := Eq.trans rfl rfl
theorem okN_int {k : Nat} : okN (k + 1) (.int i) = true := by rw [okN]
theorem okN_str {k : Nat} {x : Str} : okN (k + 1) (.str x) = true := by rw [okN]
theorem okN_lst {k : Nat} (h : ∀ x ∈ xs, okN k (e x) = true) : okN (k + 1) (.lst (xs.map e)) = true := by
  rw [okN, List.all_map, List.all_eq_true]; exact h
theorem okN_tup {k : Nat} (h : ∀ x ∈ xs, okN k (e x) = true) : okN (k + 1) (.tup (xs.map e)) = true := by
  rw [okN, List.all_map, List.all_eq_true]; exact h
theorem eqD_N : eqD (dN a) (dN b) = decide (a = b) := by
  unfold eqD toPy; rw [PyData.eqv]
  by_cases h : a = b
  · subst h; simp
  · have : ¬ (a : Int) = b := by omega
    simp [h, this]
theorem in_lst {x : D} {ys : List D} : inD x (.lst ys) = if okN 40 x && okN 40 (.lst ys) then .ok (ys.any fun y => eqD y x) else .bad := Eq.trans rfl rfl
theorem in_tup {x : D} {ys : List D} : inD x (.tup ys) = if okN 40 x && okN 40 (.tup ys) then .ok (ys.any fun y => eqD y x) else .bad := Eq.trans rfl rfl
theorem inN {ns : List Nat} : inD (dN a) (.lst (ns.map dN)) = .ok (decide (a ∈ ns)) := by
  have h1 : okN 40 (dN a) = true := okN_int
  have h2 : okN 40 (.lst (ns.map dN)) = true := okN_lst fun x _ => okN_int
  rw [in_lst, h1, h2, Bool.and_self, if_pos rfl]
  congr 1
  rw [List.any_map]
  rw [Bool.eq_iff_iff, List.any_eq_true, decide_eq_true_iff]
  constructor
  · rintro ⟨x, hx, h⟩
    simp only [Function.comp_apply, eqD_N, decide_eq_true_eq] at h
    subst h; exact hx
  · intro h
    exact ⟨a, h, by simp [eqD_N]⟩
theorem inNT {ns : List Nat} : inD (dN a) (.tup (ns.map dN)) = .ok (decide (a ∈ ns)) := by
  have h1 : okN 40 (dN a) = true := okN_int
  have h2 : okN 40 (.tup (ns.map dN)) = true := okN_tup fun x _ => okN_int
  rw [in_tup, h1, h2, Bool.and_self, if_pos rfl]
  congr 1
  rw [List.any_map]
  rw [Bool.eq_iff_iff, List.any_eq_true, decide_eq_true_iff]
  constructor
  · rintro ⟨x, hx, h⟩
    simp only [Function.comp_apply, eqD_N, decide_eq_true_eq] at h
    subst h; exact hx
  · intro h
    exact ⟨a, h, by simp [eqD_N]⟩
/-! reading by place -/
theorem atI_ok {β : Type} [Inhabited β] {zs : List β} (h0 : 0 ≤ i) (h : i < zs.length) : L2.atI zs i = some (zs.getD i.toNat default) := by
  have h1 : ixN zs.length i = some i.toNat := by unfold ixN; rw [if_pos h0, if_pos h]
  unfold L2.atI
  rw [h1, Option.bind_some, List.getD_eq_getElem?_getD, List.getElem?_eq_getElem (by omega)]
  rfl
theorem ixN_ok {n : Nat} (h0 : 0 ≤ i) (h : i < n) : ixN n i = some i.toNat := by unfold ixN; rw [if_pos h0, if_pos h]
theorem ixL {ds : List D} : ixD (.lst ds) (.int i) = Rs.of ((L2.atI ds i).map fun d => (d, 0)) := Eq.trans rfl rfl
theorem ixT {ds : List D} : ixD (.tup ds) (.int i) = Rs.of ((L2.atI ds i).map fun d => (d, 0)) := Eq.trans rfl rfl
theorem ixS {ds : List Int} : ixD (.scr ds) (.int i) = Rs.of ((L2.atI ds i).map fun d => (.int d, 0)) := Eq.trans rfl rfl
theorem ix_lst [Inhabited α] (h : 0 ≤ i ∧ i < xs.length) : ixD (.lst (xs.map e)) (.int i) = .ok (e (xs.getD i.toNat default), 0) := by
  rw [ixL, atI_ok h.1 (by simpa using h.2)]
  simp only [Option.map_some, Rs.of]
  congr 2
  rw [List.getD_eq_getElem?_getD, List.getD_eq_getElem?_getD, List.getElem?_map, List.getElem?_eq_getElem (by omega)]
  rfl
theorem ix_tup [Inhabited α] (h : 0 ≤ i ∧ i < xs.length) : ixD (.tup (xs.map e)) (.int i) = .ok (e (xs.getD i.toNat default), 0) := by
  rw [ixT, atI_ok h.1 (by simpa using h.2)]
  simp only [Option.map_some, Rs.of]
  congr 2
  rw [List.getD_eq_getElem?_getD, List.getD_eq_getElem?_getD, List.getElem?_map, List.getElem?_eq_getElem (by omega)]
  rfl
theorem ix_dl {ds : List D} (h : 0 ≤ i ∧ i < ds.length) : ixD (.lst ds) (.int i) = .ok (ds.getD i.toNat .non, 0) := by
  rw [ixL, atI_ok h.1 h.2]
  simp only [Option.map_some, Rs.of]
  congr 2
theorem ix_dt {ds : List D} (h : 0 ≤ i ∧ i < ds.length) : ixD (.tup ds) (.int i) = .ok (ds.getD i.toNat .non, 0) := by
  rw [ixT, atI_ok h.1 h.2]
  simp only [Option.map_some, Rs.of]
  congr 2
theorem eqD_non : eqD .non .non = true := by unfold eqD toPy; rw [PyData.eqv]
theorem c_eqW {a b : Option Str} : cmpB .eq (dW a) (dW b) = .ok (decide (a = b)) := by
  cases a <;> cases b
  · show eqR .non .non = _
    have : eqR .non .non = if okN 40 .non && okN 40 .non then .ok (eqD .non .non) else .bad := rfl
    rw [this, eqD_non]; rfl
  · show eqR .non (.str _) = _
    rename_i x
    have : eqR .non (.str x) = if okN 40 .non && okN 40 (.str x) then .ok (eqD .non (.str x)) else .bad := rfl
    rw [this]
    have e : eqD .non (.str x) = false := by unfold eqD toPy; rw [PyData.eqv]
    rw [e]; rfl
  · rename_i x
    show eqR (.str x) .non = _
    have : eqR (.str x) .non = if okN 40 (.str x) && okN 40 .non then .ok (eqD (.str x) .non) else .bad := rfl
    rw [this]
    have e : eqD (.str x) .non = false := by unfold eqD toPy; rw [PyData.eqv]
    rw [e]; rfl
  · rename_i x y
    show Rs.ok (decide (x = y)) = _
    by_cases h : x = y <;> simp [h]
theorem cls_obj {c : Nat} {fs : List Nat} {vs : List D} : clsD (.obj c fs vs) = some c := Eq.trans rfl rfl
theorem cls_own {c : Nat} {fs : List Nat} {vs : List D} : clsD (.own c fs vs) = some c := Eq.trans rfl rfl
/-! lists of two -/
theorem ix_20 {a b : D} : ixD (.lst [a, b]) (.int 0) = .ok (a, 0) := by rw [ixL, atI_ok (by omega) (by simp only [List.length_cons]; omega)]; rfl
theorem ix_21 {a b : D} : ixD (.lst [a, b]) (.int 1) = .ok (b, 0) := by rw [ixL, atI_ok (by omega) (by simp only [List.length_cons]; omega)]; rfl
theorem at_20 {a b : D} : L2.atI [a, b] 0 = some a := by rw [atI_ok (by omega) (by simp only [List.length_cons]; omega)]; rfl
theorem at_21 {a b : D} : L2.atI [a, b] 1 = some b := by rw [atI_ok (by omega) (by simp only [List.length_cons]; omega)]; rfl
theorem in_20 : L2.ixN 2 0 = some 0 := rfl
theorem in_21 : L2.ixN 2 1 = some 1 := rfl
theorem cast_0 : ((0 : Nat) : Int) = 0 := rfl
theorem cast_1 : ((1 : Nat) : Int) = 1 := rfl
/-! instances -/
theorem put_new {fs : List Nat} {ds : List D} {j : Nat} {d : D} (h : fs.idxOf? j = none) : putFd fs ds j d = (fs ++ [j], ds ++ [d]) := by unfold putFd; rw [h]
theorem put_old {fs : List Nat} {ds : List D} {j k : Nat} {d : D} (h : fs.idxOf? j = some k) : putFd fs ds j d = (fs, ds.set k d) := by unfold putFd; rw [h]
theorem fldx_obj {has : Nat → Nat → Bool} {c j : Nat} {fs : List Nat} {vs : List D} (h : has c j = true) : fldD has (.obj c fs vs) j = Rs.of ((fs.idxOf? j).bind fun k => vs[k]?) := by rw [fldD, if_pos h]
theorem fldx_own {has : Nat → Nat → Bool} {c j : Nat} {fs : List Nat} {vs : List D} (h : has c j = true) : fldD has (.own c fs vs) j = Rs.of ((fs.idxOf? j).bind fun k => vs[k]?) := by rw [fldD, if_pos h]
theorem ix_t0 {x : D} {r : List D} : ixD (.tup (x :: r)) (.int 0) = .ok (x, 0) := by
  rw [ixT, atI_ok (by omega) (by rw [List.length_cons]; omega)]; rfl
theorem ix_t1 {x y : D} {r : List D} : ixD (.tup (x :: y :: r)) (.int 1) = .ok (y, 0) := by
  rw [ixT, atI_ok (by omega) (by simp only [List.length_cons]; omega)]; rfl
theorem ix_t2 {x y z : D} {r : List D} : ixD (.tup (x :: y :: z :: r)) (.int 2) = .ok (z, 0) := by
  rw [ixT, atI_ok (by omega) (by simp only [List.length_cons]; omega)]; rfl
theorem ix_scr {ns : List Int} (h : 0 ≤ i ∧ i < ns.length) : ixD (.scr ns) (.int i) = .ok (.int (ns.getD i.toNat 0), 0) := by
  rw [ixS, atI_ok h.1 h.2]
  rfl
/-! built-ins -/
theorem bi_lenL {ds : List D} : biD .len [.lst ds] = .ok (.int ds.length, 9) := Eq.trans rfl rfl
theorem bi_lenT {ds : List D} : biD .len [.tup ds] = .ok (.int ds.length, 9) := Eq.trans rfl rfl
theorem bi_lenC {ds : List Int} : biD .len [.scr ds] = .ok (.int ds.length, 9) := Eq.trans rfl rfl
theorem bi_lenS {x : Str} (h : x.length ≤ 16000000) : biD .len [.str x] = .ok (.int x.length, 9) := by rw [biD, if_pos (show _ ≤ lim from h)]
theorem bi_int : biD .int [.int i] = .ok (.int i, 9) := Eq.trans rfl rfl
theorem bi_abs : biD .abs [.int i] = .ok (.int (if i < 0 then -i else i), 9) := Eq.trans rfl rfl
theorem bi_listL {ds : List D} : biD .list [.lst ds] = .ok (.lst ds, 1) := Eq.trans rfl rfl
theorem bi_listT {ds : List D} : biD .list [.tup ds] = .ok (.lst ds, 1) := Eq.trans rfl rfl
theorem bi_tupL {ds : List D} : biD .tuple [.lst ds] = .ok (.tup ds, 9) := Eq.trans rfl rfl
theorem bi_tupT {ds : List D} : biD .tuple [.tup ds] = .ok (.tup ds, 9) := Eq.trans rfl rfl
theorem bi_minN : biD .min [dN a, dN b] = .ok (dN (min a b), 9) := by
  rw [biD]
  congr 2
  show D.int _ = D.int _
  congr 1
  split <;> omega
theorem bi_maxN : biD .max [dN a, dN b] = .ok (dN (max a b), 9) := by
  rw [biD]
  congr 2
  show D.int _ = D.int _
  congr 1
  split <;> omega
theorem bi_min : biD .min [.int i, .int j] = .ok (.int (if j < i then j else i), 9) := Eq.trans rfl rfl
theorem bi_max : biD .max [.int i, .int j] = .ok (.int (if j > i then j else i), 9) := Eq.trans rfl rfl
/-! isinstance -/
theorem isi_0n : biD (.isi 0) [.non] = .ok (.bl false, 9) := Eq.trans rfl rfl
theorem isi_0b {b : Bool} : biD (.isi 0) [(.bl b)] = .ok (.bl true, 9) := Eq.trans rfl rfl
theorem isi_0i {i : Int} : biD (.isi 0) [(.int i)] = .ok (.bl true, 9) := Eq.trans rfl rfl
theorem isi_0s {x : Str} : biD (.isi 0) [(.str x)] = .ok (.bl false, 9) := Eq.trans rfl rfl
theorem isi_0t {ds : List D} : biD (.isi 0) [(.tup ds)] = .ok (.bl false, 9) := Eq.trans rfl rfl
theorem isi_0l {ds : List D} : biD (.isi 0) [(.lst ds)] = .ok (.bl false, 9) := Eq.trans rfl rfl
theorem isi_1n : biD (.isi 1) [.non] = .ok (.bl false, 9) := Eq.trans rfl rfl
theorem isi_1b {b : Bool} : biD (.isi 1) [(.bl b)] = .ok (.bl false, 9) := Eq.trans rfl rfl
theorem isi_1i {i : Int} : biD (.isi 1) [(.int i)] = .ok (.bl false, 9) := Eq.trans rfl rfl
theorem isi_1s {x : Str} : biD (.isi 1) [(.str x)] = .ok (.bl true, 9) := Eq.trans rfl rfl
theorem isi_1t {ds : List D} : biD (.isi 1) [(.tup ds)] = .ok (.bl false, 9) := Eq.trans rfl rfl
theorem isi_1l {ds : List D} : biD (.isi 1) [(.lst ds)] = .ok (.bl false, 9) := Eq.trans rfl rfl
theorem isi_2n : biD (.isi 2) [.non] = .ok (.bl false, 9) := Eq.trans rfl rfl
theorem isi_2b {b : Bool} : biD (.isi 2) [(.bl b)] = .ok (.bl false, 9) := Eq.trans rfl rfl
theorem isi_2i {i : Int} : biD (.isi 2) [(.int i)] = .ok (.bl false, 9) := Eq.trans rfl rfl
theorem isi_2s {x : Str} : biD (.isi 2) [(.str x)] = .ok (.bl false, 9) := Eq.trans rfl rfl
theorem isi_2t {ds : List D} : biD (.isi 2) [(.tup ds)] = .ok (.bl false, 9) := Eq.trans rfl rfl
theorem isi_2l {ds : List D} : biD (.isi 2) [(.lst ds)] = .ok (.bl true, 9) := Eq.trans rfl rfl
theorem isi_3n : biD (.isi 3) [.non] = .ok (.bl false, 9) := Eq.trans rfl rfl
theorem isi_3b {b : Bool} : biD (.isi 3) [(.bl b)] = .ok (.bl false, 9) := Eq.trans rfl rfl
theorem isi_3i {i : Int} : biD (.isi 3) [(.int i)] = .ok (.bl false, 9) := Eq.trans rfl rfl
theorem isi_3s {x : Str} : biD (.isi 3) [(.str x)] = .ok (.bl false, 9) := Eq.trans rfl rfl
theorem isi_3t {ds : List D} : biD (.isi 3) [(.tup ds)] = .ok (.bl true, 9) := Eq.trans rfl rfl
theorem isi_3l {ds : List D} : biD (.isi 3) [(.lst ds)] = .ok (.bl false, 9) := Eq.trans rfl rfl
theorem isi_4n : biD (.isi 4) [.non] = .ok (.bl false, 9) := Eq.trans rfl rfl
theorem isi_4b {b : Bool} : biD (.isi 4) [(.bl b)] = .ok (.bl true, 9) := Eq.trans rfl rfl
theorem isi_4i {i : Int} : biD (.isi 4) [(.int i)] = .ok (.bl false, 9) := Eq.trans rfl rfl
theorem isi_4s {x : Str} : biD (.isi 4) [(.str x)] = .ok (.bl false, 9) := Eq.trans rfl rfl
theorem isi_4t {ds : List D} : biD (.isi 4) [(.tup ds)] = .ok (.bl false, 9) := Eq.trans rfl rfl
theorem isi_4l {ds : List D} : biD (.isi 4) [(.lst ds)] = .ok (.bl false, 9) := Eq.trans rfl rfl
/-! what a loop walks -/
theorem it_lst {ds : List D} : items (.lst ds) = .ok ds := Eq.trans rfl rfl
theorem it_tup {ds : List D} : items (.tup ds) = .ok ds := Eq.trans rfl rfl
theorem rngL_nat : rngL (a : Int) (b : Int) = (List.range (b - a)).map fun k => dN (a + k) := by
  unfold rngL
  have : ((b : Int) - a).toNat = b - a := by omega
  rw [this]
  apply List.map_congr_left
  intro k _
  show D.int _ = D.int ((a + k : Nat) : Int)
  rw [Int.natCast_add]
theorem rngL_0 : rngL 0 (b : Int) = (List.range b).map dN := by
  have := rngL_nat (a := 0) (b := b)
  simpa using this
theorem rgo_ok (h : -4611686018427387904 ≤ i ∧ i < 4611686018427387904 ∧ -4611686018427387904 ≤ j ∧ j < 4611686018427387904) : rngOk i j = true := by
  unfold rngOk
  simp
  omega
/-! clean values -/
theorem cl_int {n : Nat} : cleanN n (.int i) = true := by cases n <;> rfl
theorem cl_str {n : Nat} {x : Str} : cleanN n (.str x) = true := by cases n <;> rfl
theorem cl_non {n : Nat} : cleanN n .non = true := by cases n <;> rfl
theorem cl_bl {n : Nat} {b : Bool} : cleanN n (.bl b) = true := by cases n <;> rfl
theorem cl_scr {n : Nat} {ns : List Int} : cleanN n (.scr ns) = true := by cases n <;> rfl
theorem sc_map (h : ∀ x, scal (e x) = true) : scalL (xs.map e) = true := by
  rw [scalL_all, List.all_map, List.all_eq_true]; exact fun x _ => h x
theorem sc_dT {α : Type} {e : α → D} {xs : List α} (h : ∀ x, scal (e x) = true) : scal (.tup (xs.map e)) = true := by rw [scal]; exact sc_map h
theorem sc_dW {x : Option Str} : scal (dW x) = true := by cases x <;> rfl
theorem sc_tup {ds : List D} : scal (.tup ds) = scalL ds := by rw [scal]
theorem cl_sc {n : Nat} {d : D} (h : scal d = true) : cleanN n d = true := by
  cases n with
  | zero => exact h
  | succ n => cases d <;> first | exact h | cases h
theorem cl_tup {n : Nat} {ds : List D} : cleanN n (.tup ds) = scalL ds := by cases n <;> rfl
theorem cl_dW {n : Nat} {x : Option Str} : cleanN n (dW x) = true := cl_sc sc_dW
theorem cl_lst {n : Nat} (h : ∀ x, cleanN n (e x) = true) : cleanN (n + 1) (.lst (xs.map e)) = true := by
  rw [cleanN, List.all_map, List.all_eq_true]; exact fun x _ => h x
theorem cl_0l {ds : List D} : cleanN 0 (.lst ds) = false := Eq.trans rfl rfl
theorem cl_0o {c : Nat} {fs : List Nat} {ds : List D} : cleanN 0 (.own c fs ds) = false := Eq.trans rfl rfl
theorem cl_0b {n c : Nat} {fs : List Nat} {ds : List D} : cleanN n (.obj c fs ds) = false := by cases n <;> rfl
theorem cl_0d {b : Bool} {ks ds : List D} : cleanN 0 (.dct b ks ds) = false := Eq.trans rfl rfl
theorem cl_nil {n : Nat} : cleanN (n + 1) (.lst []) = true := Eq.trans rfl rfl
/-! using -/
theorem use_cl {ev : Ev} {s : Sg} {x : E} {d : D} {n : Nat} (h : evE ev x s.r = .ok (d, n)) (hc : cleanN n d = true) : use ev x s = .ok (d, n, s) := by
  rw [use, h, rb_ok]
  dsimp only
  rw [if_pos (show clean d n = true from hc)]
theorem frz_var {s : Sg} {i : Nat} (h0 : s.o[i]? = some 0) : s.frz [i] = s := by
  cases s with
  | mk r o =>
    obtain ⟨hi, h1⟩ := List.getElem?_eq_some_iff.mp h0
    unfold Sg.frz zero zero
    dsimp only at h1 ⊢
    congr 1
    rw [← h1]; exact List.set_getElem_self hi
theorem rngL_r : rngL (a : Int) (b : Int) = (List.range' a (b - a)).map dN := by
  rw [rngL_nat, List.range'_eq_map_range, List.map_map]; rfl
theorem use_rng0 {ev : Ev} {s : Sg} {x : E} {n k : Nat} (h : evE ev x s.r = .ok (dN n, k)) (hn : n < 4611686018427387904) : use ev (.rng (.int 0) x) s = .ok (dL dN (List.range n), 1, s) := by
  refine use_cl ?_ (cl_lst fun _ => cl_int)
  rw [x_rng, x_int, rb_ok, h, rb_ok]
  dsimp only
  rw [rgo_ok (by omega), if_pos rfl, rngL_0]
theorem use_rng {ev : Ev} {s : Sg} {x y : E} {m n k k' : Nat} (h' : evE ev y s.r = .ok (dN m, k')) (h : evE ev x s.r = .ok (dN n, k)) (hn : n < 4611686018427387904) (hm : m < 4611686018427387904) : use ev (.rng y x) s = .ok (dL dN (List.range' m (n - m)), 1, s) := by
  refine use_cl ?_ (cl_lst fun _ => cl_int)
  rw [x_rng, h', rb_ok, h, rb_ok]
  dsimp only
  rw [rgo_ok (by omega), if_pos rfl, rngL_r]
theorem use_var0 {ev : Ev} {s : Sg} {i : Nat} {d : D} (h : s.r[i]? = some (some d)) (h0 : s.o[i]? = some 0) : use ev (.var i) s = .ok (d, 0, s) := by
  rw [use, x_varE, h, rb_ok]
  dsimp only
  rw [vars, frz_var h0, ite_self]
theorem wp_rng0 {ev : Ev} {s : Sg} {P : Oc → Prop} (n k : Nat) (I : List Nat → List Nat → Sg → Prop) {t : Tg} {x : E} {b zs : Ss} (he : evE ev x s.r = .ok (dN n, k)) (hn : n < 4611686018427387904) (h0 : I [] (List.range n) s)
    (step : ∀ pre x post s, pre ++ x :: post = List.range n → I pre (x :: post) s → wp (turnP (I (pre ++ [x]) post) P fun s => evSs ev zs s) ((bindS ev t (dN x) s).oc fun s2 => evSs ev b s2)) (done : ∀ s, I (List.range n) [] s → wp P (evSs ev zs s)) : wp P (Oc.sq ev (evS ev (.for t (.rng (.int 0) x) b) s) zs) :=
  wp_for dN (List.range n) I (use_rng0 he hn) rfl h0 step done
theorem wp_rng {ev : Ev} {s : Sg} {P : Oc → Prop} (m n k k' : Nat) (I : List Nat → List Nat → Sg → Prop) {t : Tg} {x y : E} {b zs : Ss} (he' : evE ev y s.r = .ok (dN m, k')) (he : evE ev x s.r = .ok (dN n, k)) (hn : n < 4611686018427387904) (hm : m < 4611686018427387904) (h0 : I [] (List.range' m (n - m)) s)
    (step : ∀ pre x post s, pre ++ x :: post = List.range' m (n - m) → I pre (x :: post) s → wp (turnP (I (pre ++ [x]) post) P fun s => evSs ev zs s) ((bindS ev t (dN x) s).oc fun s2 => evSs ev b s2)) (done : ∀ s, I (List.range' m (n - m)) [] s → wp P (evSs ev zs s)) : wp P (Oc.sq ev (evS ev (.for t (.rng y x) b) s) zs) :=
  wp_for dN (List.range' m (n - m)) I (use_rng he' he hn hm) rfl h0 step done
theorem wp_var {β : Type} {ev : Ev} {s : Sg} {P : Oc → Prop} (d : D) (e : β → D) (xs : List β) (I : List β → List β → Sg → Prop) {t : Tg} {i : Nat} {b zs : Ss} (he : s.r[i]? = some (some d)) (ho : s.o[i]? = some 0) (hi : items d = .ok (xs.map e)) (h0 : I [] xs s)
    (step : ∀ pre x post s, pre ++ x :: post = xs → I pre (x :: post) s → wp (turnP (I (pre ++ [x]) post) P fun s => evSs ev zs s) ((bindS ev t (e x) s).oc fun s2 => evSs ev b s2)) (done : ∀ s, I xs [] s → wp P (evSs ev zs s)) : wp P (Oc.sq ev (evS ev (.for t (.var i) b) s) zs) :=
  wp_for e xs I (use_var0 he ho) hi h0 step done
theorem zero_same : ∀ (is : List Nat) (o : List Nat), (∀ i ∈ is, o[i]? = some 0 ∨ o[i]? = none) → zero o is = o
  | [], _, _ => rfl
  | i :: is, o, h => by
    rw [zero]
    have e : o.set i 0 = o := by
      rcases h i List.mem_cons_self with q | q
      · obtain ⟨hi, h1⟩ := List.getElem?_eq_some_iff.mp q
        rw [← h1]; exact List.set_getElem_self hi
      · exact List.set_eq_of_length_le (List.getElem?_eq_none_iff.mp q)
    rw [e]
    exact zero_same is o fun j hj => h j (List.mem_cons_of_mem _ hj)
theorem use_o0 {ev : Ev} {s : Sg} {x : E} {d : D} {n : Nat} (h : evE ev x s.r = .ok (d, n)) (h0 : ∀ i ∈ vars x, s.o[i]? = some 0 ∨ s.o[i]? = none) : use ev x s = .ok (d, n, s) := by
  rw [use, h, rb_ok]
  dsimp only
  have : s.frz (vars x) = s := by unfold Sg.frz; rw [zero_same _ _ h0]
  rw [this, ite_self]
/-- a loop over a value that is nobody's own -/
theorem wp_src {β : Type} {ev : Ev} {s : Sg} {P : Oc → Prop} (d : D) (n : Nat) (e : β → D) (xs : List β) (I : List β → List β → Sg → Prop) {t : Tg} {x : E} {b zs : Ss} (he : evE ev x s.r = .ok (d, n)) (ho : ∀ i ∈ vars x, s.o[i]? = some 0 ∨ s.o[i]? = none) (hi : items d = .ok (xs.map e)) (h0 : I [] xs s)
    (step : ∀ pre x post s, pre ++ x :: post = xs → I pre (x :: post) s → wp (turnP (I (pre ++ [x]) post) P fun s => evSs ev zs s) ((bindS ev t (e x) s).oc fun s2 => evSs ev b s2)) (done : ∀ s, I xs [] s → wp P (evSs ev zs s)) : wp P (Oc.sq ev (evS ev (.for t x b) s) zs) :=
  wp_for e xs I (use_o0 he ho) hi h0 step done
/-- a loop over a value that is one's own throughout -/
theorem wp_cln {β : Type} {ev : Ev} {s : Sg} {P : Oc → Prop} (d : D) (n : Nat) (e : β → D) (xs : List β) (I : List β → List β → Sg → Prop) {t : Tg} {x : E} {b zs : Ss} (he : evE ev x s.r = .ok (d, n)) (hc : cleanN n d = true) (hi : items d = .ok (xs.map e)) (h0 : I [] xs s)
    (step : ∀ pre x post s, pre ++ x :: post = xs → I pre (x :: post) s → wp (turnP (I (pre ++ [x]) post) P fun s => evSs ev zs s) ((bindS ev t (e x) s).oc fun s2 => evSs ev b s2)) (done : ∀ s, I xs [] s → wp P (evSs ev zs s)) : wp P (Oc.sq ev (evS ev (.for t x b) s) zs) :=
  wp_for e xs I (use_cl he hc) hi h0 step done
end
end Hc
set_option Elab.async false
set_option linter.all false
set_option maxRecDepth 100000
set_option maxHeartbeats 4000000
/-! Sorting. -/
namespace Hc
open PySem PySem.Spec PyProof.Rows L2
section
variable {α : Type} (e : α → D)
def leD (a b : α) : Bool := PySem.W.dataLe false toPy (e a) (e b)
def sortE (xs : List α) : List α := xs.mergeSort (leD e)
theorem leD_trans (a b c : α) (h1 : leD e a b = true) (h2 : leD e b c = true) : leD e a c = true :=
  (PySem.W.sortLe_total (PyProof.Rows.listOrd PyProof.Rows.itemOrd) false (fun b : D => PySem.W.keyToks (toPy b))).trans (e a) (e b) (e c) h1 h2
theorem leD_total (a b : α) : (leD e a b || leD e b a) = true :=
  (PySem.W.sortLe_total (PyProof.Rows.listOrd PyProof.Rows.itemOrd) false (fun b : D => PySem.W.keyToks (toPy b))).total (e a) (e b) |> fun h => by rw [Bool.or_eq_true]; exact h
theorem sortD_map (xs : List α) : sortD (xs.map e) = (sortE e xs).map e := by
  unfold sortD sortE leD
  exact (List.map_mergeSort (f := e) (l := xs) fun a _ b _ => rfl).symm
theorem sortE_perm (xs : List α) : (sortE e xs).Perm xs := List.mergeSort_perm _ _
theorem sortE_sorted (xs : List α) : (sortE e xs).Pairwise fun a b => leD e a b = true := List.pairwise_mergeSort (leD_trans e) (leD_total e) xs
theorem sortE_idem (xs : List α) : sortE e (sortE e xs) = sortE e xs := List.mergeSort_of_pairwise (sortE_sorted e xs)
theorem sortE_of {xs : List α} (h : xs.Pairwise fun a b => leD e a b = true) : sortE e xs = xs := List.mergeSort_of_pairwise h
end
theorem leN {a b : Nat} : leD dN a b = decide (a ≤ b) := by
  unfold leD PySem.W.dataLe PySem.W.sortLe
  simp only [toPy, PySem.W.keyToks, cond_false, PyProof.Rows.listOrd, PyProof.Rows.itemOrd, PyProof.Rows.lexLt, PyProof.Rows.itemLt]
  by_cases h : a ≤ b
  · have h1 : ¬ (b : Int) < a := by omega
    simp [h, h1]
  · have h1 : (b : Int) < a := by omega
    simp [h, h1]
theorem so_N {xs : List Nat} : biD (.sorted .i) [.lst (xs.map dN)] = .ok (.lst ((sortE dN xs).map dN), 1) := by
  rw [biD, if_pos (by rw [List.all_map, List.all_eq_true]; intro x _; rfl), sortD_map]
theorem so_P {xs : List (Nat × Nat)} : biD (.sorted (.p .i .i)) [.lst (xs.map dP)] = .ok (.lst ((sortE dP xs).map dP), 1) := by
  rw [biD, if_pos (by rw [List.all_map, List.all_eq_true]; intro x _; rfl), sortD_map]
theorem sortN_of {xs : List Nat} (h : xs.Pairwise (· ≤ ·)) : sortE dN xs = xs := sortE_of dN (h.imp fun h => by rw [leN]; exact decide_eq_true h)
theorem sortN_sorted (xs : List Nat) : (sortE dN xs).Pairwise (· ≤ ·) := (sortE_sorted dN xs).imp fun h => by rw [leN] at h; exact of_decide_eq_true h
/-- ascending lists with the same items -/
theorem asc_ext : ∀ {xs ys : List Nat}, xs.Pairwise (· < ·) → ys.Pairwise (· < ·) → (∀ x, x ∈ xs ↔ x ∈ ys) → xs = ys
  | [], [], _, _, _ => rfl
  | [], y :: ys, _, _, h => absurd ((h y).mpr List.mem_cons_self) (by simp)
  | x :: xs, [], _, _, h => absurd ((h x).mp List.mem_cons_self) (by simp)
  | x :: xs, y :: ys, hx, hy, h => by
    rw [List.pairwise_cons] at hx hy
    have e : x = y := by
      rcases List.mem_cons.mp ((h x).mp List.mem_cons_self) with e | h1
      · exact e
      · rcases List.mem_cons.mp ((h y).mpr List.mem_cons_self) with e | h2
        · exact e.symm
        · have := hx.1 y h2; have := hy.1 x h1; omega
    subst e
    rw [asc_ext hx.2 hy.2 fun z => ⟨fun hz => ?_, fun hz => ?_⟩]
    · rcases List.mem_cons.mp ((h z).mp (List.mem_cons_of_mem _ hz)) with e | h2
      · subst e; exact absurd (hx.1 z hz) (by omega)
      · exact h2
    · rcases List.mem_cons.mp ((h z).mpr (List.mem_cons_of_mem _ hz)) with e | h2
      · subst e; exact absurd (hy.1 z hz) (by omega)
      · exact h2
theorem range_filter_asc {n : Nat} {p : Nat → Bool} : ((List.range n).filter p).Pairwise (· < ·) := List.pairwise_lt_range.filter _
/-- what is sorted, without repeats, and holds just these -/
theorem sortN_eq {xs : List Nat} {n : Nat} {p : Nat → Bool} (hn : xs.Nodup) (h : ∀ x, x ∈ xs ↔ x < n ∧ p x = true) : sortE dN xs = (List.range n).filter p := by
  refine asc_ext ?_ range_filter_asc fun x => ?_
  · have h1 := sortN_sorted xs
    have h2 : (sortE dN xs).Nodup := (sortE_perm dN xs).nodup_iff.mpr hn
    exact (List.Pairwise.and h1 h2).imp fun ⟨a, b⟩ => by omega
  · rw [(sortE_perm dN xs).mem_iff, h, List.mem_filter, List.mem_range]
end Hc
set_option Elab.async false
set_option linter.all false
set_option maxRecDepth 100000
set_option maxHeartbeats 4000000
/-! Texts by their signs. -/
namespace Hc
open PySem PySem.Spec PyProof.Rows L2
def sS (xs : List Nat) : Str := ⟨xs.toArray⟩
section
variable {xs ys : List Nat} {i : Int}
theorem sS_len : (sS xs).length = xs.length := by unfold sS Str.length; simp
theorem sS_cps : (sS xs).cps.toList = xs := by unfold sS; simp
theorem sS_inj {xs ys : List Nat} (h : sS xs = sS ys) : xs = ys := by rw [← sS_cps (xs := xs), h, sS_cps]
theorem sS_of (x : Str) : sS x.cps.toList = x := by unfold sS; cases x; simp
theorem sS_app : sS xs ++ sS ys = sS (xs ++ ys) := by
  show Str.append _ _ = _
  unfold Str.append sS; simp
theorem letters_eq : sStr "abcdefghijklmnopqrstuvwxyz" = sS (List.range' 97 26) := by decide +kernel
theorem empty_eq : sStr "" = sS [] := by decide +kernel
theorem o_addSS (h : xs.length + ys.length ≤ 16000000) : binD .add (.str (sS xs)) (.str (sS ys)) = .ok (.str (sS (xs ++ ys)), 9) := by
  rw [o_addS (by rw [sS_len, sS_len]; exact h), sS_app]
theorem ix_str (h : xs.length ≤ 16000000 ∧ 0 ≤ i ∧ i < xs.length) : ixD (.str (sS xs)) (.int i) = .ok (.str (sS [xs.getD i.toNat 0]), 9) := by
  have e : ixD (.str (sS xs)) (.int i) = if (sS xs).length ≤ lim then Rs.of ((L2.atI (sS xs).cps.toList i).map fun c => (.str ⟨#[c]⟩, 9)) else .bad := rfl
  rw [e, if_pos (by rw [sS_len]; exact h.1), sS_cps, atI_ok h.2.1 h.2.2]
  rfl
theorem sl_strL {k : Nat} (h : xs.length ≤ 16000000) : slD (.str (sS xs)) none (some (k : Int)) = .ok (.str (sS (xs.take k)), 9) := by
  rw [slD, if_pos (by rw [sS_len]; exact h)]
  unfold cutS
  rw [sS_cps, sS_len, HT.sIx_none, HT.sIx_nat]
  congr 3
  rw [List.drop_zero, Nat.sub_zero]
  unfold sS
  congr 2
  rw [List.take_eq_take_iff]; omega
theorem sl_strR {k : Nat} (h : xs.length ≤ 16000000) : slD (.str (sS xs)) (some (k : Int)) none = .ok (.str (sS (xs.drop k)), 9) := by
  rw [slD, if_pos (by rw [sS_len]; exact h)]
  unfold cutS
  rw [sS_cps, sS_len, HT.sIx_none, HT.sIx_nat]
  congr 3
  unfold sS
  congr 1
  rw [List.take_of_length_le (by rw [List.length_drop]; omega)]
  by_cases hk : k ≤ xs.length
  · rw [Nat.min_eq_left hk]
  · rw [Nat.min_eq_right (by omega), List.drop_length, List.drop_of_length_le (by omega)]
theorem bnd_int : bndD (.int i) = .ok (some i) := Eq.trans rfl rfl
/-- a letter; a word -/
def isL (c : Nat) : Prop := 97 ≤ c ∧ c ≤ 122
structure goodW (w : Str) : Prop where
  lo : 1 ≤ w.cps.toList.length
  hi : w.cps.toList.length ≤ 8
  al : ∀ c ∈ w.cps.toList, isL c
theorem letter_at {k : Nat} (h : k < 26) : isL ((List.range' 97 26).getD k 0) := by
  rw [List.getD_eq_getElem?_getD, List.getElem?_range' h]
  show isL (97 + 1 * k)
  unfold isL; omega
theorem good_mid {p c : Nat} (hx : xs.length ≤ 7) (ha : ∀ c ∈ xs, isL c) (hc : isL c) : goodW (sS (xs.take p ++ [c] ++ xs.drop p)) := by
  have hl : (xs.take p ++ [c] ++ xs.drop p).length = xs.length + 1 := by
    simp only [List.length_append, List.length_take, List.length_drop, List.length_cons, List.length_nil]; omega
  refine ⟨by rw [sS_cps, hl]; omega, by rw [sS_cps, hl]; omega, fun d hd => ?_⟩
  rw [sS_cps] at hd
  rcases List.mem_append.mp hd with hd | hd
  · rcases List.mem_append.mp hd with hd | hd
    · exact ha d (List.mem_of_mem_take hd)
    · rw [List.mem_singleton] at hd; subst hd; exact hc
  · exact ha d (List.mem_of_mem_drop hd)
end
end Hc
set_option Elab.async false
set_option linter.all false
set_option maxRecDepth 100000
set_option maxHeartbeats 4000000
set_option exponentiation.threshold 2000
/-! The program's defs over sets of rooms. -/
namespace Hc
open PySem PySem.Spec PyProof.Rows L2 Bd
local macro_rules | `(tactic| walk_at "ev") => `(tactic| simp -failIfUnchanged (disch := first | assumption | omega | (show nv _ = true; with_unfolding_all rfl) | (show nn _ = true; with_unfolding_all rfl) | (show scal _ = true; with_unfolding_all rfl) | (show ∀ _, scal _ = true; intro _; with_unfolding_all rfl) | (show ∀ _, cleanN _ _ = true; intro _; with_unfolding_all rfl) | (simp only [List.length_cons, List.length_nil, List.length_append, List.length_map, List.length_take, List.length_drop]; omega)) only [ys_nilE, ys_consE, sq_nx, sq_rt, sq_bk, sq_ct, sq_bad, rs_and, rs_or, sq_ite, oc_ite, rb_ite, oc_okk, oc_bad, rb_ok, rb_bad, of_some, x_varE, x_non, x_bl, x_int, x_str, x_bin, x_neg, x_inv, x_nt, x_cmp, x_chain, x_and, x_or, x_ite, x_tup, x_lst, x_lsnE, x_emp, x_dnew, x_idx, x_callE, x_bi, x_mth, x_rng, x_lrng, x_enm, x_rvd, x_fld, x_mcallE, x_pget, x_cv, x_make, xs_nilE, xs_consE, xn_nilE, xn_consE, and_nil, and_cons, or_nil, or_cons, x_slc, sb_nop, y_setE, y_setTE, y_augE, y_appE, y_extE, y_popE, y_revE, y_stoE, y_staE, y_sflE, y_sfaE, y_mscE, y_ifcE, y_dropE, y_tapE, y_retV, y_retE, List.length_map, List.length_append, lt_lim, lt_limP, fldx_obj, fldx_own, le_lim, cast_pred, List.map_append, y_retnE, y_iteE, y_brkE, y_contE, y_passE, hold_call, hold_keep, hold_meth, hold_init, hold_has, hold_prop, hold_cval, ev_call, ev_keep, ev_meth, ev_init, ev_has, ev_prop, ev_cval, sg0, use, getP, putP, bindS, bt_nm, bt_tt, bt_tl, bts_nil, bts_cons, o_add, o_sub, o_mulr, o_mull, o_fdiv, o_mod, o_pow, o_shl1, o_shr, o_band, o_bor, o_addS, o_addL, o_addT, o_mulL1, c_eqI, c_neI, c_ltI, c_leI, c_gtI, c_geI, c_eqS, c_neS, c_eqW, cls_obj, cls_own, c_isN, c_isnN, c_isB, c_in, c_nin, inN, inNT, ix_lst, ix_tup, ix_20, ix_21, at_20, at_21, in_20, in_21, cast_0, cast_1, ix_t0, ix_t1, ix_t2, ix_scr, it_lst, it_tup, boolR, isFlat, clean, cl_int, cl_str, cl_non, cl_bl, cl_scr, cl_lst, cl_dW, cl_0l, cl_0o, cl_0b, cl_0d, cl_tup, letters_eq, empty_eq, o_addSS, ix_str, sl_strL, sl_strR, sb_var, sb_int, sb_bin, sb_bi, sb_neg, cn_nop, cn_cmp, cn_call, cn_nt, cn_and, cn_or, bnd_int, List.contains_cons, cl_nil, sc_map, sc_dW, cl_sc, scal, scalL, fit, mscE, lend, rootP, backS, tgs, tgsL, Sg.frz, zero, vars, varsL, so_N, so_P, isi_0n, isi_0b, isi_0i, isi_0s, isi_0t, isi_0l, isi_1n, isi_1b, isi_1i, isi_1s, isi_1t, isi_1l, isi_2n, isi_2b, isi_2i, isi_2s, isi_2t, isi_2l, isi_3n, isi_3b, isi_3i, isi_3s, isi_3t, isi_3l, isi_4n, isi_4b, isi_4i, isi_4s, isi_4t, isi_4l, bi_lenL, bi_lenT, bi_lenC, bi_lenS, bi_int, bi_abs, bi_listL, bi_listT, bi_tupL, bi_tupT, bi_minN, bi_maxN, mtD, intBits_pow, bor_nat, band_nat, band_not, List.any_nil, List.any_cons, List.all_nil, List.all_cons, List.contains_nil, List.elem_nil, List.idxOf?_cons, List.idxOf?_nil, beq_self_eq_true, List.getElem?_cons_zero, List.getElem?_cons_succ, List.set_cons_zero, List.set_cons_succ, List.length_cons, List.length_nil, List.length_set, List.map_cons, List.map_nil, List.replicate, List.nil_append, List.cons_append, List.headD_cons, List.getD_cons_zero, List.getD_cons_succ, Int.toNat_natCast, Nat.reduceAdd, Nat.reduceSub, Nat.reduceLT, Nat.reduceLeDiff, Nat.reduceEqDiff, Nat.reduceBEq, decide_true, decide_false, Bool.and_true, Bool.true_and, Bool.and_false, Bool.false_and, Bool.or_true, Bool.true_or, Bool.or_false, Bool.false_or, Bool.not_false, Bool.not_true, Bool.and_self, if_true, if_false, reduceIte, ite_true, ite_false, ite_self, Bool.false_eq_true, Nat.zero_lt_succ, Option.bind_some, Option.map_some, Option.bind_none, Option.map_none])
variable {B : Tb} {l : Nat}
class Fu (B : Tb) : Prop where
  fuel : B.fuel = 1000000
theorem bits_of_eq [h : C_bits_of B] (hl : 1 ≤ l) {d : D} {xs : List Nat} (hd : items d = .ok (xs.map dN)) (hx : ∀ x ∈ xs, x ≤ 1000000) : callAt B l 0 0 [d] = .ok (dN (bitsOf xs), 9, d) := by
  refine call_eq h.d_bits_of hl rfl ?_
  unfold b_bits_of
  walk_at "ev"
  refine wp_fold dN xs (fun (a : Nat) (j : Option D) => ⟨[some d, some (dN a), j], [0, 9, 0]⟩) (fun a n => a ||| 2 ^ n) 0 none (use_var0 rfl rfl) hd ?_ ?_
  · intro pre x post j hp
    have hx' := hx x (by rw [← hp]; simp)
    walk_at "ev"
    exact ⟨some (dN x), rfl⟩
  · intro j
    walk_at "ev"
    exact ⟨fend_rt⟩
theorem rooms_of_eq [h : C_rooms_of B] [F : Fu B] (hl : 1 ≤ l) {n : Nat} (hn : n < 2 ^ 1000) : callAt B l 1 0 [dN n] = .ok (.tup ((bitsL n).map dN), 9, dN n) := by
  refine call_eq h.d_rooms_of hl rfl ?_
  unfold b_rooms_of
  walk_at "ev"
  refine wp_whl (fun m s => ∃ b acc j k k2, s = ⟨[some (dN b), some (.lst (acc.map dN)), j], [k, 1, k2]⟩ ∧ m = (bitsL b).length ∧ acc ++ bitsL b = bitsL n) (bitsL n).length (by rw [ev_fuel, F.fuel]; have := bitsL_len hn; omega) ⟨n, [], none, 0, 0, rfl, rfl, rfl⟩ ?_
  rintro m s ⟨b, acc, j, k, k2, rfl, rfl, hacc⟩
  have hlen : acc.length ≤ 1000 := by
    have := congrArg List.length hacc
    have := bitsL_len hn
    simp only [List.length_append] at *; omega
  by_cases hb : b = 0
  · subst hb
    refine ⟨false, rfl, ?_⟩
    rw [bitsL_zero, List.append_nil] at hacc
    subst hacc
    walk_at "ev"
    exact ⟨fend_rt⟩
  · have hb' : 0 < b := by omega
    obtain ⟨c, h1, h2, h3, h4, h5, h6, _⟩ := bitsL_step hb'
    have e1 := band_neg b hb'
    rw [h1] at e1
    refine ⟨true, by walk_at "ev"; simp [hb'], ?_⟩
    walk_at "ev"
    simp only [e1]
    walk_at "ev"
    refine ⟨(bitsL (b - 2 ^ c)).length, by rw [h3, ← h4]; simp, b - 2 ^ c, acc ++ [c], some (dN (2 ^ c)), 9, 9, ?_, rfl, ?_⟩
    · have : (b : Int) - ((2 ^ c : Nat) : Int) = ((b - 2 ^ c : Nat) : Int) := by omega
      rw [this, List.map_append]; rfl
    · rw [← h4, List.append_assoc, List.singleton_append, ← h3]; exact hacc
end Hc
set_option linter.all false
/-! Rooms that hang together, in plain words. -/
namespace Hc
inductive Conn (adj : Nat → Nat → Prop) (ins : Nat → Prop) : Nat → Nat → Prop
  | refl {a : Nat} (h : ins a) : Conn adj ins a a
  | step {a b c : Nat} : Conn adj ins a b → adj b c → ins c → Conn adj ins a c
section
variable {adj adj' : Nat → Nat → Prop} {ins ins' : Nat → Prop} {a b c : Nat}
theorem Conn.r (h : Conn adj ins a b) : ins b := by cases h <;> assumption
theorem Conn.l (h : Conn adj ins a b) : ins a := by
  induction h with
  | refl h => exact h
  | step _ _ _ ih => exact ih
theorem Conn.trans (h : Conn adj ins a b) (k : Conn adj ins b c) : Conn adj ins a c := by
  induction k with
  | refl _ => exact h
  | step _ e i ih => exact .step ih e i
theorem Conn.symm (sy : ∀ x y, adj x y → adj y x) (h : Conn adj ins a b) : Conn adj ins b a := by
  induction h with
  | refl h => exact .refl h
  | step p e i ih => exact Conn.trans (.step (.refl i) (sy _ _ e) p.r) ih
theorem Conn.mono (h : Conn adj ins a b) (ha : ∀ x y, adj x y → ins x → ins y → adj' x y) (hi : ∀ x, ins x → ins' x) : Conn adj' ins' a b := by
  induction h with
  | refl h => exact .refl (hi _ h)
  | step p e i ih => exact .step ih (ha _ _ e p.r i) (hi _ i)
theorem Conn.iff (ha : ∀ x y, ins x → ins y → (adj x y ↔ adj' x y)) (hi : ∀ x, ins x ↔ ins' x) : Conn adj ins a b ↔ Conn adj' ins' a b :=
  ⟨fun h => h.mono (fun x y e h1 h2 => (ha x y h1 h2).mp e) fun x => (hi x).mp, fun h => h.mono (fun x y e h1 h2 => (ha x y ((hi x).mpr h1) ((hi y).mpr h2)).mpr e) fun x => (hi x).mpr⟩
/-- a set that is closed holds what is reached -/
theorem Conn.closed {p : Nat → Prop} (h : Conn adj ins a b) (ha : p a) (hs : ∀ x y, p x → ins x → adj x y → ins y → p y) : p b := by
  induction h with
  | refl _ => exact ha
  | step q e i ih => exact hs _ _ ih q.r e i
/-- within a union of pieces the pieces are the same -/
theorem Conn.part {p : Nat → Prop} (hp : ∀ x, p x → ins x) (hc : ∀ x y, p x → adj x y → ins y → p y) (h : Conn adj ins a b) (ha : p a) : Conn adj p a b := by
  induction h with
  | refl _ => exact .refl ha
  | step q e i ih => exact .step ih e (hc _ _ ih.r e i)
end
open Classical in
/-- the rooms reached from a room, ascending -/
noncomputable def roomC (adj : Nat → Nat → Prop) (ins : Nat → Prop) (n r : Nat) : List Nat := (List.range n).filter fun c => decide (Conn adj ins r c)
open Classical in
theorem roomC_mem {adj : Nat → Nat → Prop} {ins : Nat → Prop} {n r c : Nat} : c ∈ roomC adj ins n r ↔ c < n ∧ Conn adj ins r c := by
  unfold roomC; rw [List.mem_filter, List.mem_range, decide_eq_true_iff]
open Classical in
/-- the least rooms of the pieces -/
noncomputable def leadC (adj : Nat → Nat → Prop) (ins : Nat → Prop) (n : Nat) : List Nat := (List.range n).filter fun r => decide (ins r ∧ ∀ r' < r, ¬ Conn adj ins r r')
open Classical in
theorem leadC_mem {adj : Nat → Nat → Prop} {ins : Nat → Prop} {n r : Nat} : r ∈ leadC adj ins n ↔ r < n ∧ ins r ∧ ∀ r' < r, ¬ Conn adj ins r r' := by
  unfold leadC; rw [List.mem_filter, List.mem_range, decide_eq_true_iff]
noncomputable def pieceC (adj : Nat → Nat → Prop) (ins : Nat → Prop) (n : Nat) : List (List Nat) := (leadC adj ins n).map (roomC adj ins n)
/-- two ascending lists with the same items are one -/
theorem filter_range_congr {n : Nat} {p q : Nat → Bool} (h : ∀ r < n, p r = q r) : (List.range n).filter p = (List.range n).filter q := by
  apply List.filter_congr
  intro x hx
  exact h x (List.mem_range.mp hx)
open Classical in
theorem roomC_congr {adj adj' : Nat → Nat → Prop} {ins ins' : Nat → Prop} {n r r' : Nat} (h : ∀ c < n, Conn adj ins r c ↔ Conn adj' ins' r' c) : roomC adj ins n r = roomC adj' ins' n r' := by
  unfold roomC
  exact filter_range_congr fun c hc => by rw [decide_eq_decide]; exact h c hc
theorem filter_cons_least {p : Nat → Bool} {k n : Nat} (hk : p k = true) (hl : ∀ j < k, p j = false) (hn : k < n) : (List.range n).filter p = k :: (List.range n).filter fun j => p j && decide (j ≠ k) := by
  induction n with
  | zero => omega
  | succ m ih =>
    rw [List.range_succ, List.filter_append, List.filter_append]
    by_cases hm : k < m
    · rw [ih hm, List.cons_append]
      congr 2
      have : ¬ m = k := by omega
      simp [List.filter_cons, this]
    · have e : k = m := by omega
      subst e
      have e1 : (List.range k).filter p = [] := by
        rw [List.filter_eq_nil_iff]
        intro j hj
        rw [hl j (List.mem_range.mp hj)]; simp
      have e2 : (List.range k).filter (fun j => p j && decide (j ≠ k)) = [] := by
        rw [List.filter_eq_nil_iff]
        intro j hj
        rw [hl j (List.mem_range.mp hj)]; simp
      rw [e1, e2]
      simp [hk]
open Classical in
/-- the first piece, and the pieces of what is left -/
theorem pieceC_step {adj : Nat → Nat → Prop} {ins rem : Nat → Prop} {n k : Nat} (sy : ∀ x y, adj x y → adj y x) (hr : ∀ x, rem x → ins x) (hc : ∀ x y, rem x → Conn adj ins x y → rem y) (hk : rem k) (hn : k < n) (hl : ∀ j < k, ¬ rem j) :
    ((leadC adj ins n).filter fun r => decide (rem r)) = k :: (leadC adj ins n).filter fun r => decide (rem r ∧ ¬ Conn adj ins k r) := by
  unfold leadC
  rw [List.filter_filter, List.filter_filter]
  have hlead : ins k ∧ ∀ r' < k, ¬ Conn adj ins k r' := ⟨hr k hk, fun r' h c => hl r' h (hc _ _ hk c)⟩
  rw [filter_cons_least (k := k) (by simp [hk, hlead.1]; exact hlead.2) (fun j hj => by simp [hl j hj]) hn]
  congr 1
  apply filter_range_congr
  intro r hr'
  by_cases h1 : rem r
  · by_cases h2 : ins r ∧ ∀ r' < r, ¬ Conn adj ins r r'
    · by_cases h3 : r = k
      · subst h3; simp [h1, h2.1, Conn.refl (adj := adj) h2.1]
      · have h4 : ¬ Conn adj ins k r := fun c => by
          have hkr : ¬ r < k := fun h => hl r h h1
          exact h2.2 k (by omega) (c.symm sy)
        simp only [h1, h2, h3, h4, decide_true, Bool.true_and, ne_eq, not_false_eq_true, and_self, Bool.and_true]
    · simp only [h1, h2, decide_false, Bool.and_false, Bool.false_and]
  · simp [h1]
end Hc
set_option Elab.async false
set_option linter.all false
set_option maxRecDepth 100000
set_option maxHeartbeats 4000000
set_option exponentiation.threshold 2000
/-! Steps, what is reached, pieces. -/
namespace Hc
open PySem PySem.Spec PyProof.Rows L2 Bd
local macro_rules | `(tactic| walk_at "ev") => `(tactic| simp -failIfUnchanged (disch := first | assumption | omega | (show nv _ = true; with_unfolding_all rfl) | (show nn _ = true; with_unfolding_all rfl) | (show scal _ = true; with_unfolding_all rfl) | (show ∀ _, scal _ = true; intro _; with_unfolding_all rfl) | (show ∀ _, cleanN _ _ = true; intro _; with_unfolding_all rfl) | (simp only [List.length_cons, List.length_nil, List.length_append, List.length_map, List.length_take, List.length_drop]; omega)) only [ys_nilE, ys_consE, sq_nx, sq_rt, sq_bk, sq_ct, sq_bad, rs_and, rs_or, sq_ite, oc_ite, rb_ite, oc_okk, oc_bad, rb_ok, rb_bad, of_some, x_varE, x_non, x_bl, x_int, x_str, x_bin, x_neg, x_inv, x_nt, x_cmp, x_chain, x_and, x_or, x_ite, x_tup, x_lst, x_lsnE, x_emp, x_dnew, x_idx, x_callE, x_bi, x_mth, x_rng, x_lrng, x_enm, x_rvd, x_fld, x_mcallE, x_pget, x_cv, x_make, xs_nilE, xs_consE, xn_nilE, xn_consE, and_nil, and_cons, or_nil, or_cons, x_slc, sb_nop, y_setE, y_setTE, y_augE, y_appE, y_extE, y_popE, y_revE, y_stoE, y_staE, y_sflE, y_sfaE, y_mscE, y_ifcE, y_dropE, y_tapE, y_retV, y_retE, List.length_map, List.length_append, lt_lim, lt_limP, fldx_obj, fldx_own, le_lim, cast_pred, List.map_append, y_retnE, y_iteE, y_brkE, y_contE, y_passE, hold_call, hold_keep, hold_meth, hold_init, hold_has, hold_prop, hold_cval, ev_call, ev_keep, ev_meth, ev_init, ev_has, ev_prop, ev_cval, sg0, use, getP, putP, bindS, bt_nm, bt_tt, bt_tl, bts_nil, bts_cons, o_add, o_sub, o_mulr, o_mull, o_fdiv, o_mod, o_pow, o_shl1, o_shr, o_band, o_bor, o_addS, o_addL, o_addT, o_mulL1, c_eqI, c_neI, c_ltI, c_leI, c_gtI, c_geI, c_eqS, c_neS, c_eqW, cls_obj, cls_own, c_isN, c_isnN, c_isB, c_in, c_nin, inN, inNT, ix_lst, ix_tup, ix_20, ix_21, at_20, at_21, in_20, in_21, cast_0, cast_1, ix_t0, ix_t1, ix_t2, ix_scr, it_lst, it_tup, boolR, isFlat, clean, cl_int, cl_str, cl_non, cl_bl, cl_scr, cl_lst, cl_dW, cl_0l, cl_0o, cl_0b, cl_0d, cl_tup, letters_eq, empty_eq, o_addSS, ix_str, sl_strL, sl_strR, sb_var, sb_int, sb_bin, sb_bi, sb_neg, cn_nop, cn_cmp, cn_call, cn_nt, cn_and, cn_or, bnd_int, List.contains_cons, cl_nil, sc_map, sc_dW, cl_sc, scal, scalL, fit, mscE, lend, rootP, backS, tgs, tgsL, Sg.frz, zero, vars, varsL, so_N, so_P, isi_0n, isi_0b, isi_0i, isi_0s, isi_0t, isi_0l, isi_1n, isi_1b, isi_1i, isi_1s, isi_1t, isi_1l, isi_2n, isi_2b, isi_2i, isi_2s, isi_2t, isi_2l, isi_3n, isi_3b, isi_3i, isi_3s, isi_3t, isi_3l, isi_4n, isi_4b, isi_4i, isi_4s, isi_4t, isi_4l, bi_lenL, bi_lenT, bi_lenC, bi_lenS, bi_int, bi_abs, bi_listL, bi_listT, bi_tupL, bi_tupT, bi_minN, bi_maxN, mtD, intBits_pow, bor_nat, band_nat, band_not, List.any_nil, List.any_cons, List.all_nil, List.all_cons, List.contains_nil, List.elem_nil, List.idxOf?_cons, List.idxOf?_nil, beq_self_eq_true, List.getElem?_cons_zero, List.getElem?_cons_succ, List.set_cons_zero, List.set_cons_succ, List.length_cons, List.length_nil, List.length_set, List.map_cons, List.map_nil, List.replicate, List.nil_append, List.cons_append, List.headD_cons, List.getD_cons_zero, List.getD_cons_succ, Int.toNat_natCast, Nat.reduceAdd, Nat.reduceSub, Nat.reduceLT, Nat.reduceLeDiff, Nat.reduceEqDiff, Nat.reduceBEq, decide_true, decide_false, Bool.and_true, Bool.true_and, Bool.and_false, Bool.false_and, Bool.or_true, Bool.true_or, Bool.or_false, Bool.false_or, Bool.not_false, Bool.not_true, Bool.and_self, if_true, if_false, reduceIte, ite_true, ite_false, ite_self, Bool.false_eq_true, Nat.zero_lt_succ, Option.bind_some, Option.map_some, Option.bind_none, Option.map_none])
variable {B : Tb} {l : Nat}
def adjM (f : List Nat) (a b : Nat) : Prop := (f.getD a 0).testBit b = true
def insM (n : Nat) (r : Nat) : Prop := n.testBit r = true
theorem getD_mapN {f : List Nat} {j : Nat} (h : j < f.length) : (f.map dN)[j]? = some (dN (f.getD j 0)) := by
  rw [List.getElem?_map, List.getD_eq_getElem?_getD, List.getElem?_eq_getElem h]; rfl
theorem set_mapN {f : List Nat} {j v : Nat} : (f.map dN).set j (dN v) = (f.set j v).map dN := by rw [List.map_set]
def stepF (n : Nat) (ps : List (Nat × Nat)) : List Nat := ps.foldl (fun f p => f.set p.1 (f.getD p.1 0 ||| 2 ^ p.2)) (List.replicate n 0)
theorem stepF_go : ∀ (ps : List (Nat × Nat)) (f : List Nat), (ps.foldl (fun f p => f.set p.1 (f.getD p.1 0 ||| 2 ^ p.2)) f).length = f.length ∧ ∀ a b, a < f.length → (((ps.foldl (fun f p => f.set p.1 (f.getD p.1 0 ||| 2 ^ p.2)) f).getD a 0).testBit b = ((f.getD a 0).testBit b || decide ((a, b) ∈ ps)))
  | [], f => ⟨rfl, fun a b _ => by simp⟩
  | p :: ps, f => by
    obtain ⟨h1, h2⟩ := stepF_go ps (f.set p.1 (f.getD p.1 0 ||| 2 ^ p.2))
    rw [List.foldl_cons]
    refine ⟨by rw [h1, List.length_set], fun a b ha => ?_⟩
    rw [h2 a b (by rw [List.length_set]; exact ha)]
    by_cases e : p.1 = a
    · subst e
      rw [List.getD_eq_getElem?_getD, List.getElem?_set_self ha, Option.getD_some, Nat.testBit_or, Nat.testBit_two_pow]
      obtain ⟨p1, p2⟩ := p
      by_cases e2 : p2 = b
      · subst e2; simp
      · have : ¬ b = p2 := fun h => e2 h.symm
        simp [e2, this]
    · rw [List.getD_eq_getElem?_getD, List.getElem?_set_ne e, ← List.getD_eq_getElem?_getD]
      obtain ⟨p1, p2⟩ := p
      have : ¬ a = p1 := fun h => e h.symm
      simp [this]
theorem stepF_len {n : Nat} {ps : List (Nat × Nat)} : (stepF n ps).length = n := by unfold stepF; rw [(stepF_go ps _).1, List.length_replicate]
theorem stepF_adj {n a b : Nat} {ps : List (Nat × Nat)} (h : a < n) : adjM (stepF n ps) a b ↔ (a, b) ∈ ps := by
  unfold adjM stepF
  rw [(stepF_go ps _).2 a b (by simpa using h)]
  simp [List.getD_eq_getElem?_getD, List.getElem?_replicate, h]
theorem step_list_eq [h : C_step_list B] (hl : 1 ≤ l) {d : D} {n : Nat} {ps : List (Nat × Nat)} (hd : items d = .ok (ps.map dP)) (hn : n ≤ 1000) (hp : ∀ p ∈ ps, p.1 < n ∧ p.2 ≤ 1000) : callAt B l 48 0 [dN n, d] = .ok (dL dN (stepF n ps), 1, dN n) := by
  refine call_eq h.d_step_list hl rfl ?_
  unfold b_step_list
  walk_at "ev"
  refine wp_fold dP ps (fun (f : List Nat) (j : Option D × Option D) => ⟨[some (dN n), some d, some (.lst (f.map dN)), j.1, j.2], [0, 0, 1, 0, 0]⟩) (fun f p => f.set p.1 (f.getD p.1 0 ||| 2 ^ p.2)) (List.replicate n 0) (none, none) (s := _) (by rw [use_var0 rfl rfl, List.map_replicate]; rfl) hd ?_ ?_
  · intro pre x post j hx
    obtain ⟨hx1, hx2⟩ := hp x (by rw [← hx]; simp)
    have hlen := (stepF_go pre (List.replicate n 0)).1
    rw [List.length_replicate] at hlen
    generalize pre.foldl (fun f p => f.set p.1 (f.getD p.1 0 ||| 2 ^ p.2)) (List.replicate n 0) = f at hlen
    have e1 : ixN (f.map dN).length (x.1 : Int) = some x.1 := by rw [ixN_ok (by omega) (by rw [List.length_map]; omega), Int.toNat_natCast]
    walk_at "ev"
    rw [List.length_map] at e1
    rw [e1]
    walk_at "ev"
    rw [getD_mapN (by omega)]
    walk_at "ev"
    rw [set_mapN]
    exact ⟨(some (dN x.1), some (dN x.2)), rfl⟩
  · intro j
    walk_at "ev"
    exact ⟨fend_rt⟩
open Classical in
/-- what spread finds -/
noncomputable def spreadM (f : List Nat) (st inside : Nat) : Nat := bitsOf ((List.range (inside.log2 + 1)).filter fun r => decide (∃ s, insM st s ∧ Conn (adjM f) (insM inside) s r))
theorem ins_log {n r : Nat} (h : insM n r) : r < n.log2 + 1 := by
  apply Classical.byContradiction
  intro hc
  have : n.testBit r = false := Nat.testBit_lt_two_pow (Nat.lt_of_lt_of_le Nat.lt_log2_self (Nat.pow_le_pow_right (by omega) (by omega)))
  rw [insM, this] at h; cases h
open Classical in
theorem spreadM_test {f : List Nat} {st inside r : Nat} : (spreadM f st inside).testBit r = true ↔ ∃ s, insM st s ∧ Conn (adjM f) (insM inside) s r := by
  unfold spreadM
  rw [bitsOf_test, decide_eq_true_iff, List.mem_filter, List.mem_range, decide_eq_true_iff]
  exact ⟨fun h => h.2, fun h => ⟨ins_log (by obtain ⟨s, _, c⟩ := h; exact c.r), h⟩⟩
theorem lt_pow_of_ins {n k : Nat} (h : ∀ r, insM n r → r < k) : n < 2 ^ k := lt_pow_of_bits h
theorem sub_of {a b : Nat} (h : ∀ j, b.testBit j = true → a.testBit j = true) : a - b = andn a b ∧ b ≤ a := by
  have e : a &&& b = b := by
    apply Nat.eq_of_testBit_eq
    intro i
    rw [Nat.testBit_and]
    by_cases q : b.testBit i = true
    · rw [q, h i q]; rfl
    · rw [Bool.not_eq_true] at q; rw [q, Bool.and_false]
  unfold andn
  rw [e]
  exact ⟨rfl, by rw [← e]; exact Nat.and_le_left⟩
theorem or_add {x y : Nat} (h : ∀ j, x.testBit j = true → y.testBit j = false) : x ||| y = x + y := by
  have h1 : ∀ j, x.testBit j = true → (x ||| y).testBit j = true := fun j q => by rw [Nat.testBit_or, q, Bool.true_or]
  obtain ⟨e1, e2⟩ := sub_of h1
  have e3 : andn (x ||| y) x = y := by
    apply Nat.eq_of_testBit_eq
    intro i
    rw [andn_test, Nat.testBit_or]
    have := h i
    cases hx : x.testBit i <;> cases hy : y.testBit i <;> simp_all
  omega
theorem spread_eq [h : C_spread B] [F : Fu B] (hl : 1 ≤ l) {f : List Nat} {st inside : Nat} (hi : inside < 2 ^ 16) (hf : ∀ r, insM inside r → r < f.length) : callAt B l 3 0 [dL dN f, dN st, dN inside] = .ok (dN (spreadM f st inside), 9, dL dN f) := by
  refine call_eq h.d_spread hl rfl ?_
  unfold b_spread
  walk_at "ev"
  refine wp_whl (fun m s => ∃ (Fd W : Nat) (j5 j6 : Option D) (k3 k4 k5 k6 : Nat), s = ⟨[some (dL dN f), some (dN st), some (dN inside), some (dN Fd), some (dN W), j5, j6], [0, 0, 0, k3, k4, k5, k6]⟩ ∧ k3 = 9 ∧ m = 2 * andn inside Fd + W ∧ (∀ r, insM W r → insM Fd r) ∧ (∀ r, insM Fd r → ∃ s, insM st s ∧ Conn (adjM f) (insM inside) s r) ∧ (∀ s, insM st s → insM inside s → insM Fd s) ∧ (∀ b c, insM Fd b → ¬ insM W b → adjM f b c → insM inside c → insM Fd c))
    (2 * andn inside (st &&& inside) + (st &&& inside)) (by
      rw [ev_fuel, F.fuel]
      have h1 : andn inside (st &&& inside) ≤ inside := Nat.sub_le _ _
      have h2 : st &&& inside ≤ inside := Nat.and_le_right
      omega) ⟨st &&& inside, st &&& inside, none, none, 9, 0, 0, 0, rfl, rfl, rfl, fun r h => h, fun r h => ?_, fun s h1 h2 => ?_, fun b c h1 h2 => absurd h1 h2⟩ ?_
  · have h' : (st &&& inside).testBit r = true := h
    rw [Nat.testBit_and, Bool.and_eq_true] at h'
    exact ⟨r, h'.1, .refl h'.2⟩
  · show (st &&& inside).testBit s = true
    rw [Nat.testBit_and, Bool.and_eq_true]; exact ⟨h1, h2⟩
  rintro m s ⟨Fd, W, j5, j6, k3, k4, k5, k6, rfl, rfl, rfl, q1, q2, q3, q4⟩
  by_cases hb : W = 0
  · subst hb
    refine ⟨false, rfl, ?_⟩
    have e : Fd = spreadM f st inside := by
      apply Nat.eq_of_testBit_eq
      intro r
      rw [Bool.eq_iff_iff, spreadM_test]
      refine ⟨q2 r, fun ⟨s, h1, c⟩ => ?_⟩
      exact c.closed (p := insM Fd) (q3 s h1 c.l) fun x y hx _ e hy => q4 x y hx (by unfold insM; simp) e hy
    subst e
    walk_at "ev"
    exact ⟨fend_rt⟩
  · have hb' : 0 < W := by omega
    obtain ⟨c, h1, h2, h3, h4, h5, h6, h7, h8⟩ := bitsL_step hb'
    have e1 := band_neg W hb'
    rw [h1] at e1
    obtain ⟨s0, hs0, hc0⟩ := q2 c (q1 c h2)
    have hcl : c < f.length := hf c hc0.r
    refine ⟨true, by walk_at "ev"; simp [hb'], ?_⟩
    walk_at "ev"
    simp only [e1]
    walk_at "ev"
    have e2 : (W : Int) - ((2 ^ c : Nat) : Int) = ((W - 2 ^ c : Nat) : Int) := by omega
    simp only [e2]
    walk_at "ev"
    generalize hg : andn (f.getD c 0 &&& inside) Fd = g
    have hg' : f.getD c default = f.getD c 0 := rfl
    have gt : ∀ r, g.testBit r = true ↔ (adjM f c r ∧ insM inside r ∧ ¬ insM Fd r) := fun r => by
      rw [← hg, andn_test, Nat.testBit_and]
      unfold adjM insM
      simp [and_assoc]
    have wt : ∀ r, (W - 2 ^ c).testBit r = true ↔ (insM W r ∧ r ≠ c) := fun r => by
      rw [← h4, h8]; unfold insM; simp
    have d1 : ∀ j, (W - 2 ^ c).testBit j = true → g.testBit j = false := fun j hj => by
      rw [← Bool.not_eq_true, gt]
      exact fun hh => hh.2.2 (q1 j ((wt j).mp hj).1)
    have hA : andn inside (Fd ||| g) = andn inside Fd - g := by
      have := (sub_of (a := andn inside Fd) (b := g) fun j hj => by
        rw [andn_test]
        obtain ⟨_, g2, g3⟩ := (gt j).mp hj
        unfold insM at g2 g3
        simp [g2, g3]).1
      rw [this]
      apply Nat.eq_of_testBit_eq
      intro i
      simp only [andn_test, Nat.testBit_or]
      cases inside.testBit i <;> cases Fd.testBit i <;> cases g.testBit i <;> rfl
    have hAl := (sub_of (a := andn inside Fd) (b := g) fun j hj => by
        rw [andn_test]
        obtain ⟨_, g2, g3⟩ := (gt j).mp hj
        unfold insM at g2 g3
        simp [g2, g3]).2
    have ho := or_add d1
    have hp : 0 < 2 ^ c := Nat.two_pow_pos c
    refine ⟨_, ?_, Fd ||| g, (W - 2 ^ c) ||| g, some (dN (2 ^ c)), some (dN g), 9, 9, 9, 9, rfl, rfl, rfl, fun r hr => ?_, fun r hr => ?_, fun s hs1 hs2 => ?_, fun b d hb1 hb2 hb3 hb4 => ?_⟩
    · rw [hA, ho]; omega
    · have hr : ((W - 2 ^ c) ||| g).testBit r = true := hr
      show (Fd ||| g).testBit r = true
      rw [Nat.testBit_or, Bool.or_eq_true] at hr ⊢
      rcases hr with hr | hr
      · exact .inl (q1 r ((wt r).mp hr).1)
      · exact .inr hr
    · have hr : (Fd ||| g).testBit r = true := hr
      rw [Nat.testBit_or, Bool.or_eq_true] at hr
      rcases hr with hr | hr
      · exact q2 r hr
      · obtain ⟨g1, g2, g3⟩ := (gt r).mp hr
        exact ⟨s0, hs0, hc0.step g1 g2⟩
    · show (Fd ||| g).testBit s = true
      rw [Nat.testBit_or, Bool.or_eq_true]
      exact .inl (q3 s hs1 hs2)
    · show (Fd ||| g).testBit d = true
      have hb1 : (Fd ||| g).testBit b = true := hb1
      have hb2 : ¬ ((W - 2 ^ c) ||| g).testBit b = true := hb2
      rw [Nat.testBit_or, Bool.or_eq_true] at hb1 hb2 ⊢
      by_cases hF : insM Fd b
      · by_cases hbc : b = c
        · subst hbc
          by_cases hd : insM Fd d
          · exact .inl hd
          · exact .inr ((gt d).mpr ⟨hb3, hb4, hd⟩)
        · refine .inl (q4 b d hF (fun hw => hb2 (.inl ((wt b).mpr ⟨hw, hbc⟩))) hb3 hb4)
      · rcases hb1 with h | h
        · exact absurd h hF
        · exact absurd (.inr h) hb2
end Hc
set_option Elab.async false
set_option linter.all false
set_option maxRecDepth 100000
set_option maxHeartbeats 4000000
set_option exponentiation.threshold 2000
/-! Pieces. -/
namespace Hc
open PySem PySem.Spec PyProof.Rows L2 Bd
local macro_rules | `(tactic| walk_at "ev") => `(tactic| simp -failIfUnchanged (disch := first | assumption | omega | (show nv _ = true; with_unfolding_all rfl) | (show nn _ = true; with_unfolding_all rfl) | (show scal _ = true; with_unfolding_all rfl) | (show ∀ _, scal _ = true; intro _; with_unfolding_all rfl) | (show ∀ _, cleanN _ _ = true; intro _; with_unfolding_all rfl) | (simp only [List.length_cons, List.length_nil, List.length_append, List.length_map, List.length_take, List.length_drop]; omega)) only [ys_nilE, ys_consE, sq_nx, sq_rt, sq_bk, sq_ct, sq_bad, rs_and, rs_or, sq_ite, oc_ite, rb_ite, oc_okk, oc_bad, rb_ok, rb_bad, of_some, x_varE, x_non, x_bl, x_int, x_str, x_bin, x_neg, x_inv, x_nt, x_cmp, x_chain, x_and, x_or, x_ite, x_tup, x_lst, x_lsnE, x_emp, x_dnew, x_idx, x_callE, x_bi, x_mth, x_rng, x_lrng, x_enm, x_rvd, x_fld, x_mcallE, x_pget, x_cv, x_make, xs_nilE, xs_consE, xn_nilE, xn_consE, and_nil, and_cons, or_nil, or_cons, x_slc, sb_nop, y_setE, y_setTE, y_augE, y_appE, y_extE, y_popE, y_revE, y_stoE, y_staE, y_sflE, y_sfaE, y_mscE, y_ifcE, y_dropE, y_tapE, y_retV, y_retE, List.length_map, List.length_append, lt_lim, lt_limP, fldx_obj, fldx_own, le_lim, cast_pred, List.map_append, y_retnE, y_iteE, y_brkE, y_contE, y_passE, hold_call, hold_keep, hold_meth, hold_init, hold_has, hold_prop, hold_cval, ev_call, ev_keep, ev_meth, ev_init, ev_has, ev_prop, ev_cval, sg0, use, getP, putP, bindS, bt_nm, bt_tt, bt_tl, bts_nil, bts_cons, o_add, o_sub, o_mulr, o_mull, o_fdiv, o_mod, o_pow, o_shl1, o_shr, o_band, o_bor, o_addS, o_addL, o_addT, o_mulL1, c_eqI, c_neI, c_ltI, c_leI, c_gtI, c_geI, c_eqS, c_neS, c_eqW, cls_obj, cls_own, c_isN, c_isnN, c_isB, c_in, c_nin, inN, inNT, ix_lst, ix_tup, ix_20, ix_21, at_20, at_21, in_20, in_21, cast_0, cast_1, ix_t0, ix_t1, ix_t2, ix_scr, it_lst, it_tup, boolR, isFlat, clean, cl_int, cl_str, cl_non, cl_bl, cl_scr, cl_lst, cl_dW, cl_0l, cl_0o, cl_0b, cl_0d, cl_tup, letters_eq, empty_eq, o_addSS, ix_str, sl_strL, sl_strR, sb_var, sb_int, sb_bin, sb_bi, sb_neg, cn_nop, cn_cmp, cn_call, cn_nt, cn_and, cn_or, bnd_int, List.contains_cons, cl_nil, sc_map, sc_dW, cl_sc, scal, scalL, fit, mscE, lend, rootP, backS, tgs, tgsL, Sg.frz, zero, vars, varsL, so_N, so_P, isi_0n, isi_0b, isi_0i, isi_0s, isi_0t, isi_0l, isi_1n, isi_1b, isi_1i, isi_1s, isi_1t, isi_1l, isi_2n, isi_2b, isi_2i, isi_2s, isi_2t, isi_2l, isi_3n, isi_3b, isi_3i, isi_3s, isi_3t, isi_3l, isi_4n, isi_4b, isi_4i, isi_4s, isi_4t, isi_4l, bi_lenL, bi_lenT, bi_lenC, bi_lenS, bi_int, bi_abs, bi_listL, bi_listT, bi_tupL, bi_tupT, bi_minN, bi_maxN, mtD, intBits_pow, bor_nat, band_nat, band_not, List.any_nil, List.any_cons, List.all_nil, List.all_cons, List.contains_nil, List.elem_nil, List.idxOf?_cons, List.idxOf?_nil, beq_self_eq_true, List.getElem?_cons_zero, List.getElem?_cons_succ, List.set_cons_zero, List.set_cons_succ, List.length_cons, List.length_nil, List.length_set, List.map_cons, List.map_nil, List.replicate, List.nil_append, List.cons_append, List.headD_cons, List.getD_cons_zero, List.getD_cons_succ, Int.toNat_natCast, Nat.reduceAdd, Nat.reduceSub, Nat.reduceLT, Nat.reduceLeDiff, Nat.reduceEqDiff, Nat.reduceBEq, decide_true, decide_false, Bool.and_true, Bool.true_and, Bool.and_false, Bool.false_and, Bool.or_true, Bool.true_or, Bool.or_false, Bool.false_or, Bool.not_false, Bool.not_true, Bool.and_self, if_true, if_false, reduceIte, ite_true, ite_false, ite_self, Bool.false_eq_true, Nat.zero_lt_succ, Option.bind_some, Option.map_some, Option.bind_none, Option.map_none])
variable {B : Tb} {l : Nat}
noncomputable def pieceM (f : List Nat) (inside : Nat) : List Nat := (pieceC (adjM f) (insM inside) f.length).map bitsOf
open Classical in
theorem pieces_of_eq [h : C_pieces_of B] [F : Fu B] (hl : 2 ≤ l) {f : List Nat} {inside : Nat} (sy : ∀ x y, adjM f x y → adjM f y x) (hi : inside < 2 ^ 16) (hf : ∀ r, insM inside r → r < f.length) : callAt B l 4 0 [dL dN f, dN inside] = .ok (dL dN (pieceM f inside), 1, dL dN f) := by
  refine call_eq h.d_pieces_of (by omega) rfl ?_
  unfold b_pieces_of
  walk_at "ev"
  have hlen : (pieceM f inside).length ≤ f.length := by
    unfold pieceM pieceC leadC
    rw [List.length_map, List.length_map]
    exact Nat.le_trans (List.length_filter_le _ _) (by simp)
  refine wp_whl (fun m s => ∃ (R : Nat) (acc : List Nat) (j : Option D) (k1 k3 : Nat), s = ⟨[some (dL dN f), some (dN R), some (dL dN acc), j], [0, k1, 1, k3]⟩ ∧ m = R ∧ R ≤ inside ∧ (∀ r, insM R r → insM inside r) ∧ (∀ x y, insM R x → Conn (adjM f) (insM inside) x y → insM R y) ∧
      acc ++ (((leadC (adjM f) (insM inside) f.length).filter fun r => decide (insM R r)).map (roomC (adjM f) (insM inside) f.length)).map bitsOf = pieceM f inside ∧ acc.length + R ≤ inside)
    inside (by rw [ev_fuel, F.fuel]; omega) ⟨inside, [], none, 0, 0, rfl, rfl, Nat.le_refl _, fun _ h => h, fun _ _ _ c => c.r, ?_, by simp⟩ ?_
  · rw [List.nil_append]
    unfold pieceM pieceC
    congr 2
    rw [List.filter_eq_self]
    intro r hr
    rw [leadC_mem] at hr
    exact decide_eq_true hr.2.1
  rintro m s ⟨R, acc, j, k1, k3, rfl, rfl, q0, q1, q2, q3, q4⟩
  by_cases hb : m = 0
  · subst hb
    refine ⟨false, rfl, ?_⟩
    have e : ((leadC (adjM f) (insM inside) f.length).filter fun r => decide (insM 0 r)) = [] := by
      rw [List.filter_eq_nil_iff]
      intro r _
      unfold insM
      simp
    rw [e, List.map_nil, List.map_nil, List.append_nil] at q3
    subst q3
    walk_at "ev"
    exact ⟨fend_rt⟩
  · have hb' : 0 < m := by omega
    obtain ⟨c, h1, h2, h3, h4, h5, h6, h7, h8⟩ := bitsL_step hb'
    have e1 := band_neg m hb'
    rw [h1] at e1
    refine ⟨true, by walk_at "ev"; simp [hb'], ?_⟩
    walk_at "ev"
    simp only [e1]
    rw [spread_eq (by omega) (by omega) fun r hr => hf r (q1 r hr)]
    have ec : spreadM f (2 ^ c) m = bitsOf (roomC (adjM f) (insM inside) f.length c) := by
      apply Nat.eq_of_testBit_eq
      intro r
      rw [Bool.eq_iff_iff, spreadM_test, bitsOf_test, decide_eq_true_iff, roomC_mem]
      constructor
      · rintro ⟨s, hs, hc⟩
        have : c = s := by unfold insM at hs; simpa [Nat.testBit_two_pow] using hs
        subst this
        exact ⟨hf r (q1 r hc.r), hc.mono (fun _ _ e _ _ => e) q1⟩
      · rintro ⟨_, hc⟩
        refine ⟨c, by unfold insM; simp [Nat.testBit_two_pow], hc.part q1 (fun x y hx e hy => q2 x y hx (.step (.refl (q1 x hx)) e hy)) h2⟩
    have et : ∀ r, (spreadM f (2 ^ c) m).testBit r = true ↔ Conn (adjM f) (insM inside) c r := fun r => by
      rw [ec, bitsOf_test, decide_eq_true_iff, roomC_mem]
      exact ⟨fun h => h.2, fun h => ⟨hf r h.r, h⟩⟩
    obtain ⟨g1, g2⟩ := sub_of (a := m) (b := spreadM f (2 ^ c) m) fun r hr => q2 c r h2 ((et r).mp hr)
    have hpos : 0 < spreadM f (2 ^ c) m := by
      apply Nat.pos_of_ne_zero
      intro h0
      have := (et c).mpr (.refl (q1 c h2))
      rw [h0] at this; simp at this
    have hacc : acc.length ≤ inside ∧ acc.length < 100000 := ⟨by omega, by omega⟩
    walk_at "ev"
    have e2 : (m : Int) - ((spreadM f (2 ^ c) m : Nat) : Int) = ((m - spreadM f (2 ^ c) m : Nat) : Int) := by omega
    have rt : ∀ r, insM (m - spreadM f (2 ^ c) m) r ↔ insM m r ∧ ¬ Conn (adjM f) (insM inside) c r := fun r => by
      rw [g1]
      unfold insM
      rw [andn_test, Bool.and_eq_true, Bool.not_eq_true', ← Bool.not_eq_true, et]
      rfl
    refine ⟨m - spreadM f (2 ^ c) m, by omega, m - spreadM f (2 ^ c) m, acc ++ [spreadM f (2 ^ c) m], some (dN (spreadM f (2 ^ c) m)), 9, 9, by rw [e2]; simp only [dL, List.map_append, List.map_cons, List.map_nil], rfl, by omega, fun r hr => q1 r ((rt r).mp hr).1, fun x y hx hc => ?_, ?_, ?_⟩
    · obtain ⟨hx1, hx2⟩ := (rt x).mp hx
      exact (rt y).mpr ⟨q2 x y hx1 hc, fun hcy => hx2 (hcy.trans (hc.symm sy))⟩
    · rw [← q3, pieceC_step (k := c) sy q1 (fun x y hx hc => q2 x y hx hc) h2 (hf c (q1 c h2)) (fun j hj hh => by
        have := h7 j hj
        unfold insM at hh
        rw [this] at hh; cases hh), List.map_cons, List.map_cons, List.append_assoc, List.singleton_append, ec]
      congr 3
      apply congrArg
      apply List.filter_congr
      intro r _
      rw [decide_eq_decide, ← ec]
      exact rt r
    · rw [List.length_append, List.length_singleton]; omega
end Hc
set_option Elab.async false
set_option linter.all false
set_option maxRecDepth 100000
set_option maxHeartbeats 4000000
set_option exponentiation.threshold 2000
/-! What a law draws: cells, numbers, names, doors. -/
namespace Hc
open PySem PySem.Spec PyProof.Rows L2 Bd
local macro_rules | `(tactic| walk_at "ev") => `(tactic| simp -failIfUnchanged (disch := first | assumption | omega | (show nv _ = true; with_unfolding_all rfl) | (show nn _ = true; with_unfolding_all rfl) | (show scal _ = true; with_unfolding_all rfl) | (show ∀ _, scal _ = true; intro _; with_unfolding_all rfl) | (show ∀ _, cleanN _ _ = true; intro _; with_unfolding_all rfl) | (simp only [List.length_cons, List.length_nil, List.length_append, List.length_map, List.length_take, List.length_drop]; omega)) only [ys_nilE, ys_consE, sq_nx, sq_rt, sq_bk, sq_ct, sq_bad, rs_and, rs_or, sq_ite, oc_ite, rb_ite, oc_okk, oc_bad, rb_ok, rb_bad, of_some, x_varE, x_non, x_bl, x_int, x_str, x_bin, x_neg, x_inv, x_nt, x_cmp, x_chain, x_and, x_or, x_ite, x_tup, x_lst, x_lsnE, x_emp, x_dnew, x_idx, x_callE, x_bi, x_mth, x_rng, x_lrng, x_enm, x_rvd, x_fld, x_mcallE, x_pget, x_cv, x_make, xs_nilE, xs_consE, xn_nilE, xn_consE, and_nil, and_cons, or_nil, or_cons, x_slc, sb_nop, y_setE, y_setTE, y_augE, y_appE, y_extE, y_popE, y_revE, y_stoE, y_staE, y_sflE, y_sfaE, y_mscE, y_ifcE, y_dropE, y_tapE, y_retV, y_retE, List.length_map, List.length_append, lt_lim, lt_limP, fldx_obj, fldx_own, le_lim, cast_pred, List.map_append, y_retnE, y_iteE, y_brkE, y_contE, y_passE, hold_call, hold_keep, hold_meth, hold_init, hold_has, hold_prop, hold_cval, ev_call, ev_keep, ev_meth, ev_init, ev_has, ev_prop, ev_cval, sg0, use, getP, putP, bindS, bt_nm, bt_tt, bt_tl, bts_nil, bts_cons, o_add, o_sub, o_mulr, o_mull, o_fdiv, o_mod, o_pow, o_shl1, o_shr, o_band, o_bor, o_addS, o_addL, o_addT, o_mulL1, c_eqI, c_neI, c_ltI, c_leI, c_gtI, c_geI, c_eqS, c_neS, c_eqW, cls_obj, cls_own, c_isN, c_isnN, c_isB, c_in, c_nin, inN, inNT, ix_lst, ix_tup, ix_20, ix_21, at_20, at_21, in_20, in_21, cast_0, cast_1, ix_t0, ix_t1, ix_t2, ix_scr, it_lst, it_tup, boolR, isFlat, clean, cl_int, cl_str, cl_non, cl_bl, cl_scr, cl_lst, cl_dW, cl_0l, cl_0o, cl_0b, cl_0d, cl_tup, letters_eq, empty_eq, o_addSS, ix_str, sl_strL, sl_strR, sb_var, sb_int, sb_bin, sb_bi, sb_neg, cn_nop, cn_cmp, cn_call, cn_nt, cn_and, cn_or, bnd_int, List.contains_cons, cl_nil, sc_map, sc_dW, cl_sc, scal, scalL, fit, mscE, lend, rootP, backS, tgs, tgsL, Sg.frz, zero, vars, varsL, so_N, so_P, isi_0n, isi_0b, isi_0i, isi_0s, isi_0t, isi_0l, isi_1n, isi_1b, isi_1i, isi_1s, isi_1t, isi_1l, isi_2n, isi_2b, isi_2i, isi_2s, isi_2t, isi_2l, isi_3n, isi_3b, isi_3i, isi_3s, isi_3t, isi_3l, isi_4n, isi_4b, isi_4i, isi_4s, isi_4t, isi_4l, bi_lenL, bi_lenT, bi_lenC, bi_lenS, bi_int, bi_abs, bi_listL, bi_listT, bi_tupL, bi_tupT, bi_minN, bi_maxN, mtD, intBits_pow, bor_nat, band_nat, band_not, List.any_nil, List.any_cons, List.all_nil, List.all_cons, List.contains_nil, List.elem_nil, List.idxOf?_cons, List.idxOf?_nil, beq_self_eq_true, List.getElem?_cons_zero, List.getElem?_cons_succ, List.set_cons_zero, List.set_cons_succ, List.length_cons, List.length_nil, List.length_set, List.map_cons, List.map_nil, List.replicate, List.nil_append, List.cons_append, List.headD_cons, List.getD_cons_zero, List.getD_cons_succ, Int.toNat_natCast, Nat.reduceAdd, Nat.reduceSub, Nat.reduceLT, Nat.reduceLeDiff, Nat.reduceEqDiff, Nat.reduceBEq, decide_true, decide_false, Bool.and_true, Bool.true_and, Bool.and_false, Bool.false_and, Bool.or_true, Bool.true_or, Bool.or_false, Bool.false_or, Bool.not_false, Bool.not_true, Bool.and_self, if_true, if_false, reduceIte, ite_true, ite_false, ite_self, Bool.false_eq_true, Nat.zero_lt_succ, Option.bind_some, Option.map_some, Option.bind_none, Option.map_none])
variable {B : Tb} {l : Nat}
def cellN (ns : List Int) (k : Nat) : Nat := if k < ns.length then (ns.getD k 0).natAbs else 0
theorem law_cell_eq [h : C_law_cell B] (hl : 1 ≤ l) {ns : List Int} {k : Nat} : callAt B l 15 0 [.scr ns, dN k] = .ok (dN (cellN ns k), 9, .scr ns) := by
  refine call_eq h.d_law_cell hl rfl ?_
  unfold b_law_cell cellN
  by_cases hk : k < ns.length
  · have hk' : 0 ≤ (k : Int) ∧ (k : Int) < ns.length := by omega
    have e : decide ((k : Int) < (ns.length : Int)) = true := decide_eq_true hk'.2
    walk_at "ev"
    rw [e]
    walk_at "ev"
    rw [if_pos hk]
    have : (if ns.getD k 0 < 0 then -ns.getD k 0 else ns.getD k 0) = ((ns.getD k 0).natAbs : Int) := by split <;> omega
    rw [this]
    exact ⟨fend_rt⟩
  · have e : decide ((k : Int) < (ns.length : Int)) = false := decide_eq_false (by omega)
    walk_at "ev"
    rw [e]
    walk_at "ev"
    rw [if_neg hk]
    exact ⟨fend_rt⟩
theorem law_numbers_eq [h : C_law_numbers B] (hl : 1 ≤ l) {cell count : Nat} (hc : count ≤ 1000) : ∃ ns : List Nat, ns.length = count ∧ (∀ x ∈ ns, x < 997) ∧ callAt B l 16 0 [dN cell, dN count] = .ok (dL dN ns, 1, dN cell) := by
  refine call_wp (Q := fun r => ∃ ns : List Nat, ns.length = count ∧ (∀ x ∈ ns, x < 997) ∧ r = .ok (dL dN ns, 1, dN cell)) h.d_law_numbers hl rfl ?_
  unfold b_law_numbers
  walk_at "ev"
  refine wp_for dN (List.range count) (fun pre post s => ∃ (ns : List Nat) (rest : Nat) (mixed : Int) (j : Option D) (k3 : Nat), s = ⟨[some (dN cell), some (dN count), some (dL dN ns), some (dN rest), some (.int mixed), j], [0, 0, 1, k3, 9, 0]⟩ ∧ ns.length = pre.length ∧ (∀ x ∈ ns, x < 997) ∧ 0 ≤ mixed ∧ mixed < 2147483647) (use_rng0 (k := 0) (n := count) (by walk_at "ev") (by omega)) rfl ⟨[], cell, _, none, 0, rfl, rfl, fun _ h => absurd h (by simp), by omega, by omega⟩ ?_ ?_
  · rintro pre x post s hx ⟨ns, rest, mixed, j, k3, rfl, h1, h2, h3, h4⟩
    have hlen : pre.length < count := by
      have := congrArg List.length hx
      simp only [List.length_append, List.length_cons, List.length_range] at this; omega
    have hm : (-18446744073709551616 < mixed ∧ mixed < 18446744073709551616) := by omega
    walk_at "ev"
    generalize hq : (mixed * 48271 + 7919 * (x : Int) + 12345) % 2147483647 = q
    have hq1 : 0 ≤ q ∧ q < 2147483647 := by omega
    refine wp_ite (fun hc => ?_) fun hc => ?_
    · walk_at "ev"
      refine ⟨ns ++ [rest % 997], rest / 997, q, some (dN x), 9, ?_, by simp [h1], fun y hy => ?_, hq1.1, hq1.2⟩
      · have e1 : (rest : Int) % 997 = ((rest % 997 : Nat) : Int) := by omega
        have e2 : (rest : Int) / 997 = ((rest / 997 : Nat) : Int) := by omega
        simp only [dL, List.map_append, List.map_cons, List.map_nil, e1, e2]
      · rcases List.mem_append.mp hy with hy | hy
        · exact h2 y hy
        · rw [List.mem_singleton] at hy; omega
    · walk_at "ev"
      refine ⟨ns ++ [(q / 1009 % 997).toNat], rest, q, some (dN x), k3, ?_, by simp [h1], fun y hy => ?_, hq1.1, hq1.2⟩
      · simp only [dL, List.map_append, List.map_cons, List.map_nil]
        have e1 : D.int (q / 1009 % 997) = dN (q / 1009 % 997).toNat := congrArg D.int (by omega)
        rw [e1]
      · rcases List.mem_append.mp hy with hy | hy
        · exact h2 y hy
        · rw [List.mem_singleton] at hy; omega
  · rintro s ⟨ns, rest, mixed, j, k3, rfl, h1, h2, h3, h4⟩
    walk_at "ev"
    exact ⟨ns, by rw [h1, List.length_range], h2, fend_rt⟩
end Hc
set_option Elab.async false
set_option linter.all false
set_option maxRecDepth 100000
set_option maxHeartbeats 4000000
set_option exponentiation.threshold 2000
/-! What a law draws: names, doors. -/
namespace Hc
open PySem PySem.Spec PyProof.Rows L2 Bd
local macro_rules | `(tactic| walk_at "ev") => `(tactic| simp -failIfUnchanged (disch := first | assumption | omega | (show nv _ = true; with_unfolding_all rfl) | (show nn _ = true; with_unfolding_all rfl) | (show scal _ = true; with_unfolding_all rfl) | (show ∀ _, scal _ = true; intro _; with_unfolding_all rfl) | (show ∀ _, cleanN _ _ = true; intro _; with_unfolding_all rfl) | (simp only [List.length_cons, List.length_nil, List.length_append, List.length_map, List.length_take, List.length_drop]; omega)) only [ys_nilE, ys_consE, sq_nx, sq_rt, sq_bk, sq_ct, sq_bad, rs_and, rs_or, sq_ite, oc_ite, rb_ite, oc_okk, oc_bad, rb_ok, rb_bad, of_some, x_varE, x_non, x_bl, x_int, x_str, x_bin, x_neg, x_inv, x_nt, x_cmp, x_chain, x_and, x_or, x_ite, x_tup, x_lst, x_lsnE, x_emp, x_dnew, x_idx, x_callE, x_bi, x_mth, x_rng, x_lrng, x_enm, x_rvd, x_fld, x_mcallE, x_pget, x_cv, x_make, xs_nilE, xs_consE, xn_nilE, xn_consE, and_nil, and_cons, or_nil, or_cons, x_slc, sb_nop, y_setE, y_setTE, y_augE, y_appE, y_extE, y_popE, y_revE, y_stoE, y_staE, y_sflE, y_sfaE, y_mscE, y_ifcE, y_dropE, y_tapE, y_retV, y_retE, List.length_map, List.length_append, lt_lim, lt_limP, fldx_obj, fldx_own, le_lim, cast_pred, List.map_append, y_retnE, y_iteE, y_brkE, y_contE, y_passE, hold_call, hold_keep, hold_meth, hold_init, hold_has, hold_prop, hold_cval, ev_call, ev_keep, ev_meth, ev_init, ev_has, ev_prop, ev_cval, sg0, use, getP, putP, bindS, bt_nm, bt_tt, bt_tl, bts_nil, bts_cons, o_add, o_sub, o_mulr, o_mull, o_fdiv, o_mod, o_pow, o_shl1, o_shr, o_band, o_bor, o_addS, o_addL, o_addT, o_mulL1, c_eqI, c_neI, c_ltI, c_leI, c_gtI, c_geI, c_eqS, c_neS, c_eqW, cls_obj, cls_own, c_isN, c_isnN, c_isB, c_in, c_nin, inN, inNT, ix_lst, ix_tup, ix_20, ix_21, at_20, at_21, in_20, in_21, cast_0, cast_1, ix_t0, ix_t1, ix_t2, ix_scr, it_lst, it_tup, boolR, isFlat, clean, cl_int, cl_str, cl_non, cl_bl, cl_scr, cl_lst, cl_dW, cl_0l, cl_0o, cl_0b, cl_0d, cl_tup, letters_eq, empty_eq, o_addSS, ix_str, sl_strL, sl_strR, sb_var, sb_int, sb_bin, sb_bi, sb_neg, cn_nop, cn_cmp, cn_call, cn_nt, cn_and, cn_or, bnd_int, List.contains_cons, cl_nil, sc_map, sc_dW, cl_sc, scal, scalL, fit, mscE, lend, rootP, backS, tgs, tgsL, Sg.frz, zero, vars, varsL, so_N, so_P, isi_0n, isi_0b, isi_0i, isi_0s, isi_0t, isi_0l, isi_1n, isi_1b, isi_1i, isi_1s, isi_1t, isi_1l, isi_2n, isi_2b, isi_2i, isi_2s, isi_2t, isi_2l, isi_3n, isi_3b, isi_3i, isi_3s, isi_3t, isi_3l, isi_4n, isi_4b, isi_4i, isi_4s, isi_4t, isi_4l, bi_lenL, bi_lenT, bi_lenC, bi_lenS, bi_int, bi_abs, bi_listL, bi_listT, bi_tupL, bi_tupT, bi_minN, bi_maxN, mtD, intBits_pow, bor_nat, band_nat, band_not, List.any_nil, List.any_cons, List.all_nil, List.all_cons, List.contains_nil, List.elem_nil, List.idxOf?_cons, List.idxOf?_nil, beq_self_eq_true, List.getElem?_cons_zero, List.getElem?_cons_succ, List.set_cons_zero, List.set_cons_succ, List.length_cons, List.length_nil, List.length_set, List.map_cons, List.map_nil, List.replicate, List.nil_append, List.cons_append, List.headD_cons, List.getD_cons_zero, List.getD_cons_succ, Int.toNat_natCast, Nat.reduceAdd, Nat.reduceSub, Nat.reduceLT, Nat.reduceLeDiff, Nat.reduceEqDiff, Nat.reduceBEq, decide_true, decide_false, Bool.and_true, Bool.true_and, Bool.and_false, Bool.false_and, Bool.or_true, Bool.true_or, Bool.or_false, Bool.false_or, Bool.not_false, Bool.not_true, Bool.and_self, if_true, if_false, reduceIte, ite_true, ite_false, ite_self, Bool.false_eq_true, Nat.zero_lt_succ, Option.bind_some, Option.map_some, Option.bind_none, Option.map_none])
variable {B : Tb} {l : Nat}
theorem getD_lt {α : Type} {xs : List α} {p : α → Prop} {k : Nat} {d : α} (h : ∀ x ∈ xs, p x) (hk : k < xs.length) : p (xs.getD k d) := by
  rw [List.getD_eq_getElem?_getD, List.getElem?_eq_getElem hk]
  exact h _ (List.getElem_mem hk)
theorem at_range {pre post : List Nat} {x n : Nat} (h : pre ++ x :: post = List.range n) : pre.length = x ∧ x < n := by
  have h1 : (List.range n)[pre.length]? = some x := by rw [← h]; simp
  have h2 := List.getElem?_eq_some_iff.mp h1
  obtain ⟨h3, h4⟩ := h2
  rw [List.getElem_range] at h4
  rw [List.length_range] at h3
  omega
theorem at_range' {pre post : List Nat} {x a n : Nat} (h : pre ++ x :: post = List.range' a n) : a + pre.length = x ∧ x < a + n := by
  have h1 : (List.range' a n)[pre.length]? = some x := by rw [← h]; simp
  have h2 := List.getElem?_eq_some_iff.mp h1
  obtain ⟨h3, h4⟩ := h2
  rw [List.getElem_range'] at h4
  rw [List.length_range'] at h3
  omega
theorem swap_perm {xs : List Nat} {i j : Nat} (hi : i < xs.length) (hj : j < xs.length) : ((xs.set i (xs.getD j 0)).set j (xs.getD i 0)).Perm xs := by
  have e1 : xs.getD j 0 = xs[j] := by rw [List.getD_eq_getElem?_getD, List.getElem?_eq_getElem hj]; rfl
  have e2 : xs.getD i 0 = xs[i] := by rw [List.getD_eq_getElem?_getD, List.getElem?_eq_getElem hi]; rfl
  rw [e1, e2]
  exact List.set_set_perm hi hj
theorem law_names_eq [h : C_law_names B] (hl : 1 ≤ l) {ns : List Nat} {at' n : Nat} (hn : n ≤ 1000) (hlen : at' + n ≤ ns.length) (hns : ns.length ≤ 100000) : ∃ nm : List Nat, nm.Perm (List.range n) ∧ callAt B l 17 0 [dL dN ns, dN at', dN n] = .ok (dL dN nm, 1, dL dN ns) := by
  refine call_wp (Q := fun r => ∃ nm : List Nat, nm.Perm (List.range n) ∧ r = .ok (dL dN nm, 1, dL dN ns)) h.d_law_names hl rfl ?_
  unfold b_law_names
  have e0 : rngOk 0 (n : Int) = true := rgo_ok (by omega)
  have e1 : (rngOk 0 (n : Int) && decide (((n : Int) - 0).toNat ≤ 1000000)) = true := by
    rw [e0, Bool.true_and]; exact decide_eq_true (by omega)
  walk_at "ev"
  rw [e1]
  walk_at "ev"
  rw [rngL_0]
  walk_at "ev"
  refine wp_for dN (List.range n) (fun pre post s => ∃ (nm : List Nat) (j k m : Option D) (k5 k6 : Nat), s = ⟨[some (dL dN ns), some (dN at'), some (dN n), some (dL dN nm), j, k, m], [0, 0, 0, 1, 0, k5, k6]⟩ ∧ nm.Perm (List.range n)) (use_rng0 (k := 0) (n := n) (by walk_at "ev") (by omega)) rfl ⟨List.range n, none, none, none, 0, 0, rfl, .refl _⟩ ?_ ?_
  · rintro pre x post s hx ⟨nm, j, k, m, k5, k6, rfl, hp⟩
    have hxn : x < n := by
      have : x ∈ List.range n := by rw [← hx]; simp
      exact List.mem_range.mp this
    have hnl : nm.length = n := by rw [hp.length_eq, List.length_range]
    have hmod : (0 : Int) < (n : Int) - (x : Int) := by omega
    walk_at "ev"
    generalize hq : (x : Int) + ((ns.getD ((at' : Int) + (x : Int)).toNat default : Nat) : Int) % ((n : Int) - (x : Int)) = q
    have hq1 : 0 ≤ q ∧ q < n := by
      have h1 := Int.emod_nonneg ((ns.getD ((at' : Int) + (x : Int)).toNat default : Nat) : Int) (show (n : Int) - (x : Int) ≠ 0 by omega)
      have h2 := Int.emod_lt_of_pos ((ns.getD ((at' : Int) + (x : Int)).toNat default : Nat) : Int) hmod
      omega
    obtain ⟨z, rfl⟩ : ∃ z : Nat, q = (z : Int) := ⟨q.toNat, by omega⟩
    have hz : z < n := by omega
    have i1 : ixN nm.length (x : Int) = some x := by rw [ixN_ok (by omega) (by omega), Int.toNat_natCast]
    have i2 : ixN nm.length (z : Int) = some z := by rw [ixN_ok (by omega) (by omega), Int.toNat_natCast]
    walk_at "ev"
    rw [i1]
    walk_at "ev"
    rw [i2]
    walk_at "ev"
    rw [set_mapN, set_mapN]
    refine ⟨_, some (dN x), some (dN z), some (dN (nm.getD x 0)), 9, 0, rfl, (swap_perm (by omega) (by omega)).trans hp⟩
  · rintro s ⟨nm, j, k, m, k5, k6, rfl, hp⟩
    walk_at "ev"
    exact ⟨nm, hp, fend_rt⟩
theorem law_joined_eq [h : C_law_joined B] (hl : 1 ≤ l) {kind a b n x y : Nat} (hb : 0 < b) : ∃ r : Bool, callAt B l 18 0 [dN kind, dN a, dN b, dN n, dN x, dN y] = .ok (.bl r, 9, dN kind) := by
  refine call_wp (Q := fun r => ∃ z : Bool, r = .ok (.bl z, 9, dN kind)) h.d_law_joined hl rfl ?_
  unfold b_law_joined
  walk_at "ev"
  repeat' (first | exact ⟨_, fend_rt⟩ | refine wp_ite (fun _ => ?_) fun _ => ?_)
end Hc
set_option Elab.async false
set_option linter.all false
set_option maxRecDepth 100000
set_option maxHeartbeats 4000000
set_option exponentiation.threshold 2000
/-! What a law draws: doors. -/
namespace Hc
open PySem PySem.Spec PyProof.Rows L2 Bd
local macro_rules | `(tactic| walk_at "ev") => `(tactic| simp -failIfUnchanged (disch := first | assumption | omega | (show nv _ = true; with_unfolding_all rfl) | (show nn _ = true; with_unfolding_all rfl) | (show scal _ = true; with_unfolding_all rfl) | (show ∀ _, scal _ = true; intro _; with_unfolding_all rfl) | (show ∀ _, cleanN _ _ = true; intro _; with_unfolding_all rfl) | (simp only [List.length_cons, List.length_nil, List.length_append, List.length_map, List.length_take, List.length_drop]; omega)) only [ys_nilE, ys_consE, sq_nx, sq_rt, sq_bk, sq_ct, sq_bad, rs_and, rs_or, sq_ite, oc_ite, rb_ite, oc_okk, oc_bad, rb_ok, rb_bad, of_some, x_varE, x_non, x_bl, x_int, x_str, x_bin, x_neg, x_inv, x_nt, x_cmp, x_chain, x_and, x_or, x_ite, x_tup, x_lst, x_lsnE, x_emp, x_dnew, x_idx, x_callE, x_bi, x_mth, x_rng, x_lrng, x_enm, x_rvd, x_fld, x_mcallE, x_pget, x_cv, x_make, xs_nilE, xs_consE, xn_nilE, xn_consE, and_nil, and_cons, or_nil, or_cons, x_slc, sb_nop, y_setE, y_setTE, y_augE, y_appE, y_extE, y_popE, y_revE, y_stoE, y_staE, y_sflE, y_sfaE, y_mscE, y_ifcE, y_dropE, y_tapE, y_retV, y_retE, List.length_map, List.length_append, lt_lim, lt_limP, fldx_obj, fldx_own, le_lim, cast_pred, List.map_append, y_retnE, y_iteE, y_brkE, y_contE, y_passE, hold_call, hold_keep, hold_meth, hold_init, hold_has, hold_prop, hold_cval, ev_call, ev_keep, ev_meth, ev_init, ev_has, ev_prop, ev_cval, sg0, use, getP, putP, bindS, bt_nm, bt_tt, bt_tl, bts_nil, bts_cons, o_add, o_sub, o_mulr, o_mull, o_fdiv, o_mod, o_pow, o_shl1, o_shr, o_band, o_bor, o_addS, o_addL, o_addT, o_mulL1, c_eqI, c_neI, c_ltI, c_leI, c_gtI, c_geI, c_eqS, c_neS, c_eqW, cls_obj, cls_own, c_isN, c_isnN, c_isB, c_in, c_nin, inN, inNT, ix_lst, ix_tup, ix_20, ix_21, at_20, at_21, in_20, in_21, cast_0, cast_1, ix_t0, ix_t1, ix_t2, ix_scr, it_lst, it_tup, boolR, isFlat, clean, cl_int, cl_str, cl_non, cl_bl, cl_scr, cl_lst, cl_dW, cl_0l, cl_0o, cl_0b, cl_0d, cl_tup, letters_eq, empty_eq, o_addSS, ix_str, sl_strL, sl_strR, sb_var, sb_int, sb_bin, sb_bi, sb_neg, cn_nop, cn_cmp, cn_call, cn_nt, cn_and, cn_or, bnd_int, List.contains_cons, cl_nil, sc_map, sc_dW, cl_sc, scal, scalL, fit, mscE, lend, rootP, backS, tgs, tgsL, Sg.frz, zero, vars, varsL, so_N, so_P, isi_0n, isi_0b, isi_0i, isi_0s, isi_0t, isi_0l, isi_1n, isi_1b, isi_1i, isi_1s, isi_1t, isi_1l, isi_2n, isi_2b, isi_2i, isi_2s, isi_2t, isi_2l, isi_3n, isi_3b, isi_3i, isi_3s, isi_3t, isi_3l, isi_4n, isi_4b, isi_4i, isi_4s, isi_4t, isi_4l, bi_lenL, bi_lenT, bi_lenC, bi_lenS, bi_int, bi_abs, bi_listL, bi_listT, bi_tupL, bi_tupT, bi_minN, bi_maxN, mtD, intBits_pow, bor_nat, band_nat, band_not, List.any_nil, List.any_cons, List.all_nil, List.all_cons, List.contains_nil, List.elem_nil, List.idxOf?_cons, List.idxOf?_nil, beq_self_eq_true, List.getElem?_cons_zero, List.getElem?_cons_succ, List.set_cons_zero, List.set_cons_succ, List.length_cons, List.length_nil, List.length_set, List.map_cons, List.map_nil, List.replicate, List.nil_append, List.cons_append, List.headD_cons, List.getD_cons_zero, List.getD_cons_succ, Int.toNat_natCast, Nat.reduceAdd, Nat.reduceSub, Nat.reduceLT, Nat.reduceLeDiff, Nat.reduceEqDiff, Nat.reduceBEq, decide_true, decide_false, Bool.and_true, Bool.true_and, Bool.and_false, Bool.false_and, Bool.or_true, Bool.true_or, Bool.or_false, Bool.false_or, Bool.not_false, Bool.not_true, Bool.and_self, if_true, if_false, reduceIte, ite_true, ite_false, ite_self, Bool.false_eq_true, Nat.zero_lt_succ, Option.bind_some, Option.map_some, Option.bind_none, Option.map_none])
variable {B : Tb} {l : Nat}
structure Doors (n : Nat) (ds : List (Nat × Nat)) : Prop where
  lt : ∀ p ∈ ds, p.1 < p.2 ∧ p.2 < n
  nd : ds.Nodup
  so : sortE dP ds = ds
theorem Doors.len {n : Nat} {ds : List (Nat × Nat)} (h : Doors n ds) (hn : n ≤ 12) : ds.length ≤ 144 := by
  have h1 : (ds.map fun p => 12 * p.1 + p.2).Nodup := by
    unfold List.Nodup
    rw [List.pairwise_map]
    exact List.Pairwise.imp_of_mem (fun {a b} ha hb hne e => hne (by
      have := h.lt a ha; have := h.lt b hb
      ext <;> omega)) h.nd
  have h2 : (ds.map fun p => 12 * p.1 + p.2) ⊆ List.range 144 := fun x hx => by
    obtain ⟨p, hp, rfl⟩ := List.mem_map.mp hx
    have := h.lt p hp
    exact List.mem_range.mpr (by omega)
  have h3 := h1.length_le_of_subset h2
  simpa using h3
theorem mul_pred {b : Nat} (h : 0 < b) : (b : Int) * ((b : Int) - 1) = ((b * (b - 1) : Nat) : Int) := by
  obtain ⟨c, rfl⟩ : ∃ c, b = c + 1 := ⟨b - 1, by omega⟩
  have : ((c + 1 : Nat) : Int) - 1 = (c : Int) := by omega
  rw [this]; simp
theorem mul_small {b : Nat} (h : b < 12) : b * (b - 1) ≤ 110 := by
  have := Nat.mul_le_mul (show b ≤ 11 by omega) (show b - 1 ≤ 10 by omega)
  omega
def mmP (nm : List Nat) (p : Nat × Nat) : Nat × Nat := (min (nm.getD p.1 0) (nm.getD p.2 0), max (nm.getD p.1 0) (nm.getD p.2 0))
theorem perm_getD {nm : List Nat} {n : Nat} (hp : nm.Perm (List.range n)) : nm.length = n ∧ (∀ i < n, nm.getD i 0 < n) ∧ ∀ i < n, ∀ j < n, nm.getD i 0 = nm.getD j 0 → i = j := by
  have hl : nm.length = n := by rw [hp.length_eq, List.length_range]
  refine ⟨hl, fun i hi => ?_, fun i hi j hj e => ?_⟩
  · have := getD_lt (xs := nm) (p := fun x => x < n) (d := 0) (k := i) (fun x hx => List.mem_range.mp (hp.mem_iff.mp hx)) (by omega)
    exact this
  · have hn : nm.Nodup := hp.nodup_iff.mpr List.nodup_range
    rw [List.getD_eq_getElem?_getD, List.getD_eq_getElem?_getD, List.getElem?_eq_getElem (by omega), List.getElem?_eq_getElem (by omega)] at e
    exact (List.getElem_inj hn).mp e
theorem mm_nodup {nm : List Nat} {n : Nat} (hp : nm.Perm (List.range n)) {ix : List (Nat × Nat)} (hn : ix.Nodup) (h : ∀ p ∈ ix, p.1 < p.2 ∧ p.2 < n) : (ix.map (mmP nm)).Nodup ∧ ∀ q ∈ ix.map (mmP nm), q.1 < q.2 ∧ q.2 < n := by
  obtain ⟨_, h1, h2⟩ := perm_getD hp
  constructor
  · unfold List.Nodup
    rw [List.pairwise_map]
    refine List.Pairwise.imp_of_mem (fun {a b} ha hb hne e => hne ?_) hn
    have qa := h a ha
    have qb := h b hb
    unfold mmP at e
    injection e with e1 e2
    have key : (nm.getD a.1 0 = nm.getD b.1 0 ∧ nm.getD a.2 0 = nm.getD b.2 0) ∨ (nm.getD a.1 0 = nm.getD b.2 0 ∧ nm.getD a.2 0 = nm.getD b.1 0) := by omega
    rcases key with ⟨k1, k2⟩ | ⟨k1, k2⟩
    · have := h2 _ (by omega) _ (by omega) k1
      have := h2 _ (by omega) _ (by omega) k2
      ext <;> assumption
    · have := h2 _ (by omega) _ (by omega) k1
      have := h2 _ (by omega) _ (by omega) k2
      omega
  · intro q hq
    obtain ⟨p, hpm, rfl⟩ := List.mem_map.mp hq
    have qa := h p hpm
    have i1 := h1 p.1 (by omega)
    have i2 := h1 p.2 (by omega)
    have i3 : nm.getD p.1 0 ≠ nm.getD p.2 0 := fun e => by
      have := h2 _ (by omega) _ (by omega) e; omega
    unfold mmP
    dsimp only
    omega
theorem law_doors_eq [h : C_law_doors B] (hl : 2 ≤ l) {ns : List Nat} {n : Nat} (hn : 1 ≤ n ∧ n ≤ 12) (hlen : 79 ≤ ns.length) (hns : ns.length ≤ 100000) : ∃ ds : List (Nat × Nat), Doors n ds ∧ callAt B l 19 0 [dL dN ns, dN n] = .ok (dL dP ds, 1, dL dN ns) := by
  refine call_wp (Q := fun r => ∃ ds : List (Nat × Nat), Doors n ds ∧ r = .ok (dL dP ds, 1, dL dN ns)) h.d_law_doors (by omega) rfl ?_
  unfold b_law_doors
  walk_at "ev"
  obtain ⟨nm, hp, e1⟩ := law_names_eq (B := B) (l := l - 1) (by omega) (ns := ns) (at' := 1) (n := n) (by omega) (by omega) hns
  rw [show callAt B (l - 1) 17 0 [dL dN ns, .int 1, dN n] = _ from e1]
  obtain ⟨p1, p2, p3⟩ := perm_getD hp
  walk_at "ev"
  generalize hk : ((ns.getD (0 : Int).toNat default : Nat) : Int) % 8 = kd
  obtain ⟨kn, rfl⟩ : ∃ z : Nat, kd = (z : Int) := ⟨kd.toNat, by omega⟩
  refine wp_rng 1 n 0 9 (fun pre post s => ∃ (ix : List (Nat × Nat)) (j5 j6 j7 : Option D) (k6 : Nat), s = ⟨[some (dL dN ns), some (dN n), some (dN kn), some (dL dN nm), some (dL dP (ix.map (mmP nm))), j5, j6, j7], [0, 0, 9, 1, 1, 0, k6, 0]⟩ ∧ ix.Nodup ∧ (∀ p ∈ ix, p.1 < p.2 ∧ p.2 < 1 + pre.length) ∧ ix.length ≤ 12 * pre.length) ?h1 ?h2 (by omega) (by omega) ?h0 ?_ ?_
  case h1 => walk_at "ev"; rfl
  case h2 => walk_at "ev"
  case h0 => exact ⟨[], none, none, none, 0, rfl, List.nodup_nil, fun _ h => absurd h (by simp), by simp⟩
  · intro pre b post s hx hI
    obtain ⟨ix, j5, j6, j7, k6, hs, q1, q2, q3⟩ := hI
    subst hs
    have hb0 := at_range' hx
    have hb : 1 ≤ b ∧ b < n ∧ pre.length + 1 = b := by omega
    have hmul := mul_small (show b < 12 by omega)
    have e2 := mul_pred (show 0 < b by omega)
    walk_at "ev"
    rw [e2]
    walk_at "ev"
    have e3 : 1 + (n : Int) + ((b * (b - 1) : Nat) : Int) / 2 = ((1 + n + b * (b - 1) / 2 : Nat) : Int) := by omega
    rw [e3]
    generalize hf2 : 1 + n + b * (b - 1) / 2 = f
    have hfa : ∀ a < b, f + a < ns.length := by
      intro a ha
      by_cases h11 : b = 11
      · subst h11; omega
      · have := Nat.mul_le_mul (show b ≤ 10 by omega) (show b - 1 ≤ 9 by omega)
        omega
    refine wp_rng0 b 0 (fun pre' post s => ∃ (ix : List (Nat × Nat)) (j7 : Option D), s = ⟨[some (dL dN ns), some (dN n), some (dN kn), some (dL dN nm), some (dL dP (ix.map (mmP nm))), some (dN b), some (dN f), j7], [0, 0, 9, 1, 1, 0, 9, 0]⟩ ∧ ix.Nodup ∧ (∀ p ∈ ix, p.1 < p.2 ∧ (p.2 < b ∨ p.2 = b ∧ p.1 < pre'.length)) ∧ ix.length ≤ 12 * pre.length + pre'.length) ?h1 (by omega) ?h0 ?_ ?_
    case h1 => walk_at "ev"
    case h0 =>
      refine ⟨ix, j7, rfl, q1, ?_, ?_⟩
      · intro p hp
        have := q2 p hp
        omega
      · simpa using q3
    · intro pre' a post' s hx' hI
      obtain ⟨ix, j7, hs, q1, q2, q3⟩ := hI
      subst hs
      have ha0 := at_range hx'
      have ha : a < b ∧ pre'.length = a := by omega
      have hfa' := hfa a ha.1
      have hfa0 := hfa 0 (by omega)
      have hixl : ix.length ≤ 300 := by omega
      walk_at "ev"
      obtain ⟨r, hr⟩ := law_joined_eq (B := B) (l := l - 1) (by omega) (kind := kn) (a := a) (b := b) (n := n) (x := ns.getD ((f : Int) + (a : Int)).toNat default) (y := ns.getD f default) (by omega)
      rw [hr]
      walk_at "ev"
      cases r with
      | false =>
        walk_at "ev"
        exact ⟨ix, some (dN a), rfl, q1, fun p hp => by have := q2 p hp; (first | omega | (simp; omega)), by (first | omega | (simp; omega))⟩
      | true =>
        walk_at "ev"
        refine ⟨ix ++ [(a, b)], some (dN a), ?_, ?_, fun p hp => ?_, by (first | omega | (simp; omega))⟩
        · simp only [dL, List.map_append, List.map_cons, List.map_nil]; rfl
        · rw [List.nodup_append]
          refine ⟨q1, by simp, fun x hx y hy e => ?_⟩
          rw [List.mem_singleton] at hy
          subst hy; subst e
          have := q2 _ hx
          dsimp only at this; omega
        · rcases List.mem_append.mp hp with hp | hp
          · have := q2 p hp; (first | omega | (simp; omega))
          · rw [List.mem_singleton] at hp; subst hp; (first | omega | (simp; omega))
    · intro s hI
      obtain ⟨ix, j7, hs, q1, q2, q3⟩ := hI
      subst hs
      walk_at "ev"
      refine ⟨ix, some (dN b), some (dN f), j7, 9, rfl, q1, fun p hp => ?_, ?_⟩
      · have := q2 p hp
        simp at this ⊢; omega
      · simp at q3 ⊢; omega
  · intro s hI
    obtain ⟨ix, j5, j6, j7, k6, hs, q1, q2, q3⟩ := hI
    subst hs
    walk_at "ev"
    obtain ⟨m1, m2⟩ := mm_nodup hp q1 fun p hp => by
      have := q2 p hp
      simp at this; omega
    refine ⟨sortE dP (ix.map (mmP nm)), ⟨fun p hp => m2 p ((sortE_perm dP _).mem_iff.mp hp), (sortE_perm dP _).nodup_iff.mpr m1, sortE_idem dP _⟩, fend_rt⟩
end Hc
set_option Elab.async false
set_option linter.all false
set_option maxRecDepth 100000
set_option maxHeartbeats 4000000
set_option exponentiation.threshold 2000
/-! What a law draws: words, calls. -/
namespace Hc
open PySem PySem.Spec PyProof.Rows L2 Bd
local macro_rules | `(tactic| walk_at "ev") => `(tactic| simp -failIfUnchanged (disch := first | assumption | omega | (show nv _ = true; with_unfolding_all rfl) | (show nn _ = true; with_unfolding_all rfl) | (show scal _ = true; with_unfolding_all rfl) | (show ∀ _, scal _ = true; intro _; with_unfolding_all rfl) | (show ∀ _, cleanN _ _ = true; intro _; with_unfolding_all rfl) | (simp only [List.length_cons, List.length_nil, List.length_append, List.length_map, List.length_take, List.length_drop]; omega)) only [ys_nilE, ys_consE, sq_nx, sq_rt, sq_bk, sq_ct, sq_bad, rs_and, rs_or, sq_ite, oc_ite, rb_ite, oc_okk, oc_bad, rb_ok, rb_bad, of_some, x_varE, x_non, x_bl, x_int, x_str, x_bin, x_neg, x_inv, x_nt, x_cmp, x_chain, x_and, x_or, x_ite, x_tup, x_lst, x_lsnE, x_emp, x_dnew, x_idx, x_callE, x_bi, x_mth, x_rng, x_lrng, x_enm, x_rvd, x_fld, x_mcallE, x_pget, x_cv, x_make, xs_nilE, xs_consE, xn_nilE, xn_consE, and_nil, and_cons, or_nil, or_cons, x_slc, sb_nop, y_setE, y_setTE, y_augE, y_appE, y_extE, y_popE, y_revE, y_stoE, y_staE, y_sflE, y_sfaE, y_mscE, y_ifcE, y_dropE, y_tapE, y_retV, y_retE, List.length_map, List.length_append, lt_lim, lt_limP, fldx_obj, fldx_own, le_lim, cast_pred, List.map_append, y_retnE, y_iteE, y_brkE, y_contE, y_passE, hold_call, hold_keep, hold_meth, hold_init, hold_has, hold_prop, hold_cval, ev_call, ev_keep, ev_meth, ev_init, ev_has, ev_prop, ev_cval, sg0, use, getP, putP, bindS, bt_nm, bt_tt, bt_tl, bts_nil, bts_cons, o_add, o_sub, o_mulr, o_mull, o_fdiv, o_mod, o_pow, o_shl1, o_shr, o_band, o_bor, o_addS, o_addL, o_addT, o_mulL1, c_eqI, c_neI, c_ltI, c_leI, c_gtI, c_geI, c_eqS, c_neS, c_eqW, cls_obj, cls_own, c_isN, c_isnN, c_isB, c_in, c_nin, inN, inNT, ix_lst, ix_tup, ix_20, ix_21, at_20, at_21, in_20, in_21, cast_0, cast_1, ix_t0, ix_t1, ix_t2, ix_scr, it_lst, it_tup, boolR, isFlat, clean, cl_int, cl_str, cl_non, cl_bl, cl_scr, cl_lst, cl_dW, cl_0l, cl_0o, cl_0b, cl_0d, cl_tup, letters_eq, empty_eq, o_addSS, ix_str, sl_strL, sl_strR, sb_var, sb_int, sb_bin, sb_bi, sb_neg, cn_nop, cn_cmp, cn_call, cn_nt, cn_and, cn_or, bnd_int, List.contains_cons, cl_nil, sc_map, sc_dW, cl_sc, scal, scalL, fit, mscE, lend, rootP, backS, tgs, tgsL, Sg.frz, zero, vars, varsL, so_N, so_P, isi_0n, isi_0b, isi_0i, isi_0s, isi_0t, isi_0l, isi_1n, isi_1b, isi_1i, isi_1s, isi_1t, isi_1l, isi_2n, isi_2b, isi_2i, isi_2s, isi_2t, isi_2l, isi_3n, isi_3b, isi_3i, isi_3s, isi_3t, isi_3l, isi_4n, isi_4b, isi_4i, isi_4s, isi_4t, isi_4l, bi_lenL, bi_lenT, bi_lenC, bi_lenS, bi_int, bi_abs, bi_listL, bi_listT, bi_tupL, bi_tupT, bi_minN, bi_maxN, mtD, intBits_pow, bor_nat, band_nat, band_not, List.any_nil, List.any_cons, List.all_nil, List.all_cons, List.contains_nil, List.elem_nil, List.idxOf?_cons, List.idxOf?_nil, beq_self_eq_true, List.getElem?_cons_zero, List.getElem?_cons_succ, List.set_cons_zero, List.set_cons_succ, List.length_cons, List.length_nil, List.length_set, List.map_cons, List.map_nil, List.replicate, List.nil_append, List.cons_append, List.headD_cons, List.getD_cons_zero, List.getD_cons_succ, Int.toNat_natCast, Nat.reduceAdd, Nat.reduceSub, Nat.reduceLT, Nat.reduceLeDiff, Nat.reduceEqDiff, Nat.reduceBEq, decide_true, decide_false, Bool.and_true, Bool.true_and, Bool.and_false, Bool.false_and, Bool.or_true, Bool.true_or, Bool.or_false, Bool.false_or, Bool.not_false, Bool.not_true, Bool.and_self, if_true, if_false, reduceIte, ite_true, ite_false, ite_self, Bool.false_eq_true, Nat.zero_lt_succ, Option.bind_some, Option.map_some, Option.bind_none, Option.map_none])
variable {B : Tb} {l : Nat}
theorem let_at {x : Int} (h : 0 ≤ x) : isL ((List.range' 97 26).getD (x % 26).toNat 0) := letter_at (by omega)
theorem all_snoc {xs : List Nat} {c : Nat} (h : ∀ c ∈ xs, isL c) (hc : isL c) : ∀ d ∈ xs ++ [c], isL d := fun d hd => by
  rcases List.mem_append.mp hd with hd | hd
  · exact h d hd
  · rw [List.mem_singleton] at hd; subst hd; exact hc
theorem law_unlike_eq [h : C_law_unlike B] (hl : 1 ≤ l) {ns : List Nat} {at' many : Nat} (hm : many ≤ 100) (hlen : at' + 15 ≤ ns.length) (hns : ns.length ≤ 100000) : ∃ ws : List Str, ws.length = many ∧ (∀ w ∈ ws, goodW w) ∧ callAt B l 55 0 [dL dN ns, dN at', dN many] = .ok (dL D.str ws, 1, dL dN ns) := by
  refine call_wp (Q := fun r => ∃ ws : List Str, ws.length = many ∧ (∀ w ∈ ws, goodW w) ∧ r = .ok (dL D.str ws, 1, dL dN ns)) h.d_law_unlike hl rfl ?_
  unfold b_law_unlike
  walk_at "ev"
  have h26 : (List.range' 97 26).length = 26 := by simp
  generalize hL : List.range' 97 26 = Lt at h26
  have hLt : ∀ x : Int, 0 ≤ x → isL (Lt.getD (x % 26).toNat 0) := fun x hx => by rw [← hL]; exact let_at hx
  refine wp_rng0 many 0 (fun pre post s => ∃ (ws : List Str) (j5 j6 j7 j8 j9 j10 : Option D) (k6 k7 k8 k9 : Nat), s = ⟨[some (dL dN ns), some (dN at'), some (dN many), some (.str (sS Lt)), some (dL D.str ws), j5, j6, j7, j8, j9, j10], [0, 0, 0, 9, 1, 0, k6, k7, k8, k9, 0]⟩ ∧ ws.length = pre.length ∧ ∀ w ∈ ws, goodW w) ?h1 (by omega) ?h0 ?_ ?_
  case h1 => walk_at "ev"
  case h0 => exact ⟨[], _, _, _, _, _, _, _, _, _, _, rfl, rfl, fun _ h => absurd h (by simp)⟩
  · intro pre k post s hx hI
    obtain ⟨ws, j5, j6, j7, j8, j9, j10, k6, k7, k8, k9, hs, q1, q2⟩ := hI
    subst hs
    have hk := at_range hx
    walk_at "ev"
    generalize hc : Lt.getD ((((ns.getD at' default : Nat) : Int) + 7 * (k : Int)) % 26).toNat 0 = c
    have hcl : isL c := by rw [← hc]; exact hLt _ (by omega)
    generalize hsz : ((ns.getD ((at' : Int) + 1).toNat default : Nat) : Int) % 8 = szi
    obtain ⟨sz, hsz'⟩ : ∃ z : Nat, szi = (z : Int) := ⟨szi.toNat, by omega⟩
    subst hsz'
    have hsz7 : sz ≤ 7 := by omega
    generalize hpl : ((ns.getD ((at' : Int) + 2).toNat default : Nat) : Int) / 2 % ((sz : Int) + 1) = pli
    have hpl0 : 0 ≤ pli := by rw [← hpl]; exact Int.emod_nonneg _ (by omega)
    obtain ⟨pl, hpl'⟩ : ∃ z : Nat, pli = (z : Int) := ⟨pli.toNat, by omega⟩
    subst hpl'
    refine wp_rng0 sz 0 (fun pre' post' s => ∃ (xs : List Nat) (j10 : Option D), s = ⟨[some (dL dN ns), some (dN at'), some (dN many), some (.str (sS Lt)), some (dL D.str ws), some (dN k), some (.str (sS [c])), some (dN sz), some (dN pl), some (.str (sS xs)), j10], [0, 0, 0, 9, 1, 0, 9, 9, 9, 9, 0]⟩ ∧ xs.length = pre'.length ∧ ∀ d ∈ xs, isL d) ?h1 (by omega) ?h0 ?_ ?_
    case h1 => walk_at "ev"
    case h0 => exact ⟨[], _, rfl, rfl, fun _ h => absurd h (by simp)⟩
    · intro pre' j post' s hx' hI
      obtain ⟨xs, j10, hs, r1, r2⟩ := hI
      subst hs
      have hj := at_range hx'
      have hxl : xs.length ≤ 10 := by omega
      walk_at "ev"
      exact ⟨_, some (dN j), rfl, by simp [r1], all_snoc r2 (hLt _ (by omega))⟩
    · intro s hI
      obtain ⟨xs, j10, hs, r1, r2⟩ := hI
      subst hs
      rw [List.length_range] at r1
      have hxl : xs.length ≤ 16000000 := by omega
      walk_at "ev"
      refine wp_ite (fun hc1 => ?_) fun hc1 => ?_
      · generalize hsz : ((ns.getD ((at' : Int) + 3 + (5 * (k : Int) + 1) % 12).toNat default : Nat) : Int) % 8 = szi
        obtain ⟨sz2, hsz'⟩ : ∃ z : Nat, szi = (z : Int) := ⟨szi.toNat, by omega⟩
        subst hsz'
        refine wp_sq ?_
        refine wp_rng0 sz2 0 (fun pre' post' s => ∃ (xs : List Nat) (j10 : Option D), s = ⟨[some (dL dN ns), some (dN at'), some (dN many), some (.str (sS Lt)), some (dL D.str ws), some (dN k), some (.str (sS [c])), some (dN sz2), some (dN pl), some (.str (sS xs)), j10], [0, 0, 0, 9, 1, 0, 9, 9, 9, 9, 0]⟩ ∧ xs.length = pre'.length ∧ ∀ d ∈ xs, isL d) ?h1 (by omega) ?h0 ?_ ?_
        case h1 => walk_at "ev"
        case h0 => exact ⟨[], _, rfl, rfl, fun _ h => absurd h (by simp)⟩
        · intro pre' j post' s hx' hI
          obtain ⟨xs, j10, hs, r1, r2⟩ := hI
          subst hs
          have hj := at_range hx'
          have hxl : xs.length ≤ 10 := by omega
          walk_at "ev"
          exact ⟨_, some (dN j), rfl, by simp [r1], all_snoc r2 (hLt _ (by omega))⟩
        · intro s hI
          obtain ⟨xs, j10, hs, r1, r2⟩ := hI
          subst hs
          rw [List.length_range] at r1
          have hxl : xs.length ≤ 16000000 := by omega
          have hml : (xs.take sz2).length ≤ 10 := by rw [List.length_take]; omega
          have hmr : (xs.drop sz2).length ≤ 10 := by rw [List.length_drop]; omega
          walk_at "ev"
          refine wp_nx ?_
          walk_at "ev"
          rw [map_snoc (e := D.str)]
          refine ⟨_, _, _, _, _, _, _, _, _, _, _, rfl, by simp [q1], fun w hw => ?_⟩
          rcases List.mem_append.mp hw with hw | hw
          · exact q2 w hw
          · rw [List.mem_singleton] at hw; rw [hw]; exact good_mid (by omega) r2 hcl
      · have hml : (xs.take pl).length ≤ 10 := by rw [List.length_take]; omega
        have hmr : (xs.drop pl).length ≤ 10 := by rw [List.length_drop]; omega
        walk_at "ev"
        rw [map_snoc (e := D.str)]
        refine ⟨_, _, _, _, _, _, _, _, _, _, _, rfl, by simp [q1], fun w hw => ?_⟩
        rcases List.mem_append.mp hw with hw | hw
        · exact q2 w hw
        · rw [List.mem_singleton] at hw; rw [hw]; exact good_mid (by omega) r2 hcl
  · intro s hI
    obtain ⟨ws, j5, j6, j7, j8, j9, j10, k6, k7, k8, k9, hs, q1, q2⟩ := hI
    subst hs
    walk_at "ev"
    exact ⟨ws, by rw [q1, List.length_range], q2, fend_rt⟩
/-- a log over some words -/
structure LogOk (n : Nat) (ws : List Str) (log : List (Nat × Str)) : Prop where
  room : ∀ c ∈ log, c.1 < n
  word : ∀ c ∈ log, c.2 ∈ ws
theorem LogOk.app {n : Nat} {ws : List Str} {a b : List (Nat × Str)} (h : LogOk n ws a) (k : LogOk n ws b) : LogOk n ws (a ++ b) :=
  ⟨fun c hc => (List.mem_append.mp hc).elim (h.room c) (k.room c), fun c hc => (List.mem_append.mp hc).elim (h.word c) (k.word c)⟩
theorem mem_getD {α : Type} {xs : List α} {k : Nat} {d : α} (h : k < xs.length) : xs.getD k d ∈ xs := by
  rw [List.getD_eq_getElem?_getD, List.getElem?_eq_getElem h]; exact List.getElem_mem h
theorem LogOk.snoc {n : Nat} {ws : List Str} {a : List (Nat × Str)} {r : Nat} {w : Str} (h : LogOk n ws a) (hr : r < n) (hw : w ∈ ws) : LogOk n ws (a ++ [(r, w)]) :=
  h.app ⟨fun c hc => by rw [List.mem_singleton] at hc; subst hc; exact hr, fun c hc => by rw [List.mem_singleton] at hc; subst hc; exact hw⟩
theorem law_log_eq [h : C_law_log B] (hl : 1 ≤ l) {ns : List Nat} {at' many n : Nat} {ws : List Str} (hm : many ≤ 100) (hn : 0 < n) (hw : 0 < ws.length) (hlen : at' + 2 * many ≤ ns.length) (hns : ns.length ≤ 100000) : ∃ log : List (Nat × Str), log.length = many ∧ LogOk n ws log ∧ callAt B l 56 0 [dL dN ns, dN at', dN many, dN n, dL D.str ws] = .ok (dL dC log, 1, dL dN ns) := by
  refine call_wp (Q := fun r => ∃ log : List (Nat × Str), log.length = many ∧ LogOk n ws log ∧ r = .ok (dL dC log, 1, dL dN ns)) h.d_law_log hl rfl ?_
  unfold b_law_log
  walk_at "ev"
  refine wp_rng0 many 0 (fun pre post s => ∃ (log : List (Nat × Str)) (j6 j7 : Option D) (k7 : Nat), s = ⟨[some (dL dN ns), some (dN at'), some (dN many), some (dN n), some (dL D.str ws), some (dL dC log), j6, j7], [0, 0, 0, 0, 0, 1, 0, k7]⟩ ∧ log.length = pre.length ∧ LogOk n ws log) ?h1 (by omega) ?h0 ?_ ?_
  case h1 => walk_at "ev"
  case h0 => exact ⟨[], _, _, _, rfl, rfl, fun _ h => absurd h (by simp), fun _ h => absurd h (by simp)⟩
  · intro pre k post s hx hI
    obtain ⟨log, j6, j7, k7, hs, q1, q2⟩ := hI
    subst hs
    have hk := at_range hx
    walk_at "ev"
    generalize hr : ((ns.getD ((at' : Int) + 2 * (k : Int)).toNat default : Nat) : Int) % (n : Int) = ri
    have hr0 : 0 ≤ ri ∧ ri < n := by rw [← hr]; exact ⟨Int.emod_nonneg _ (by omega), Int.emod_lt_of_pos _ (by omega)⟩
    obtain ⟨r, hr'⟩ : ∃ z : Nat, ri = (z : Int) := ⟨ri.toNat, by omega⟩
    subst hr'
    generalize hz : ((ns.getD ((at' : Int) + 2 * (k : Int) + 1).toNat default : Nat) : Int) % (ws.length : Int) = zi
    have hz0 : 0 ≤ zi ∧ zi < ws.length := by rw [← hz]; exact ⟨Int.emod_nonneg _ (by omega), Int.emod_lt_of_pos _ (by omega)⟩
    walk_at "ev"
    rw [map_snoc (e := dC) (x := (r, ws.getD zi.toNat default))]
    exact ⟨_, _, _, _, rfl, by simp [q1], q2.snoc (by omega) (mem_getD (by omega))⟩
  · intro s hI
    obtain ⟨log, j6, j7, k7, hs, q1, q2⟩ := hI
    subst hs
    walk_at "ev"
    exact ⟨log, by rw [q1, List.length_range], q2, fend_rt⟩
theorem law_calls_eq [h : C_law_calls B] (hl : 2 ≤ l) {sc : List Int} {at' most n : Nat} {ws : List Str} (hsc : sc.length ≤ 63) (ha : at' ≤ 1000) (hm : most ≤ 1000) (hn : 0 < n) (hw : 0 < ws.length) : ∃ log : List (Nat × Str), log.length ≤ most ∧ log.length ≤ 63 ∧ LogOk n ws log ∧ callAt B l 57 0 [.scr sc, dN at', dN n, dL D.str ws, dN most] = .ok (dL dC log, 1, .scr sc) := by
  refine call_wp (Q := fun r => ∃ log : List (Nat × Str), log.length ≤ most ∧ log.length ≤ 63 ∧ LogOk n ws log ∧ r = .ok (dL dC log, 1, .scr sc)) h.d_law_calls (by omega) rfl ?_
  unfold b_law_calls
  walk_at "ev"
  refine wp_rng at' (min sc.length (at' + most)) 9 0 (fun pre post s => ∃ (log : List (Nat × Str)) (j6 j7 : Option D) (k7 : Nat), s = ⟨[some (.scr sc), some (dN at'), some (dN n), some (dL D.str ws), some (dN most), some (dL dC log), j6, j7], [0, 0, 0, 0, 0, 1, 0, k7]⟩ ∧ log.length = pre.length ∧ LogOk n ws log) ?h1 ?h2 (by omega) (by omega) ?h0 ?_ ?_
  case h1 => walk_at "ev"
  case h2 =>
    walk_at "ev"
    have : (at' : Int) + (most : Int) = ((at' + most : Nat) : Int) := by omega
    rw [this]
    walk_at "ev"
  case h0 => exact ⟨[], _, _, _, rfl, rfl, fun _ h => absurd h (by simp), fun _ h => absurd h (by simp)⟩
  · intro pre k post s hx hI
    obtain ⟨log, j6, j7, k7, hs, q1, q2⟩ := hI
    subst hs
    have hk := at_range' hx
    walk_at "ev"
    rw [law_cell_eq (by omega)]
    walk_at "ev"
    generalize hr : ((cellN sc k : Nat) : Int) % (n : Int) = ri
    have hr0 : 0 ≤ ri ∧ ri < n := by rw [← hr]; exact ⟨Int.emod_nonneg _ (by omega), Int.emod_lt_of_pos _ (by omega)⟩
    obtain ⟨r, hr'⟩ : ∃ z : Nat, ri = (z : Int) := ⟨ri.toNat, by omega⟩
    subst hr'
    generalize hz : ((cellN sc k : Nat) : Int) / 13 % (ws.length : Int) = zi
    have hz0 : 0 ≤ zi ∧ zi < ws.length := by rw [← hz]; exact ⟨Int.emod_nonneg _ (by omega), Int.emod_lt_of_pos _ (by omega)⟩
    walk_at "ev"
    rw [map_snoc (e := dC) (x := (r, ws.getD zi.toNat default))]
    exact ⟨_, _, _, _, rfl, by simp [q1], q2.snoc (by omega) (mem_getD (by omega))⟩
  · intro s hI
    obtain ⟨log, j6, j7, k7, hs, q1, q2⟩ := hI
    subst hs
    rw [List.length_range'] at q1
    walk_at "ev"
    exact ⟨log, by omega, by omega, q2, fend_rt⟩
end Hc
set_option Elab.async false
set_option linter.all false
set_option maxRecDepth 100000
set_option maxHeartbeats 4000000
set_option exponentiation.threshold 2000
/-! A law's own walk: neighbours, layers, what is reached, pieces. -/
namespace Hc
open PySem PySem.Spec PyProof.Rows L2 Bd
local macro_rules | `(tactic| walk_at "ev") => `(tactic| simp -failIfUnchanged (disch := first | assumption | omega | (show nv _ = true; with_unfolding_all rfl) | (show nn _ = true; with_unfolding_all rfl) | (show scal _ = true; with_unfolding_all rfl) | (show ∀ _, scal _ = true; intro _; with_unfolding_all rfl) | (show ∀ _, cleanN _ _ = true; intro _; with_unfolding_all rfl) | (simp only [List.length_cons, List.length_nil, List.length_append, List.length_map, List.length_take, List.length_drop]; omega)) only [ys_nilE, ys_consE, sq_nx, sq_rt, sq_bk, sq_ct, sq_bad, rs_and, rs_or, sq_ite, oc_ite, rb_ite, oc_okk, oc_bad, rb_ok, rb_bad, of_some, x_varE, x_non, x_bl, x_int, x_str, x_bin, x_neg, x_inv, x_nt, x_cmp, x_chain, x_and, x_or, x_ite, x_tup, x_lst, x_lsnE, x_emp, x_dnew, x_idx, x_callE, x_bi, x_mth, x_rng, x_lrng, x_enm, x_rvd, x_fld, x_mcallE, x_pget, x_cv, x_make, xs_nilE, xs_consE, xn_nilE, xn_consE, and_nil, and_cons, or_nil, or_cons, x_slc, sb_nop, y_setE, y_setTE, y_augE, y_appE, y_extE, y_popE, y_revE, y_stoE, y_staE, y_sflE, y_sfaE, y_mscE, y_ifcE, y_dropE, y_tapE, y_retV, y_retE, List.length_map, List.length_append, lt_lim, lt_limP, fldx_obj, fldx_own, le_lim, cast_pred, List.map_append, y_retnE, y_iteE, y_brkE, y_contE, y_passE, hold_call, hold_keep, hold_meth, hold_init, hold_has, hold_prop, hold_cval, ev_call, ev_keep, ev_meth, ev_init, ev_has, ev_prop, ev_cval, sg0, use, getP, putP, bindS, bt_nm, bt_tt, bt_tl, bts_nil, bts_cons, o_add, o_sub, o_mulr, o_mull, o_fdiv, o_mod, o_pow, o_shl1, o_shr, o_band, o_bor, o_addS, o_addL, o_addT, o_mulL1, c_eqI, c_neI, c_ltI, c_leI, c_gtI, c_geI, c_eqS, c_neS, c_eqW, cls_obj, cls_own, c_isN, c_isnN, c_isB, c_in, c_nin, inN, inNT, ix_lst, ix_tup, ix_20, ix_21, at_20, at_21, in_20, in_21, cast_0, cast_1, ix_t0, ix_t1, ix_t2, ix_scr, it_lst, it_tup, boolR, isFlat, clean, cl_int, cl_str, cl_non, cl_bl, cl_scr, cl_lst, cl_dW, cl_0l, cl_0o, cl_0b, cl_0d, cl_tup, letters_eq, empty_eq, o_addSS, ix_str, sl_strL, sl_strR, sb_var, sb_int, sb_bin, sb_bi, sb_neg, cn_nop, cn_cmp, cn_call, cn_nt, cn_and, cn_or, bnd_int, List.contains_cons, cl_nil, sc_map, sc_dW, cl_sc, scal, scalL, fit, mscE, lend, rootP, backS, tgs, tgsL, Sg.frz, zero, vars, varsL, so_N, so_P, isi_0n, isi_0b, isi_0i, isi_0s, isi_0t, isi_0l, isi_1n, isi_1b, isi_1i, isi_1s, isi_1t, isi_1l, isi_2n, isi_2b, isi_2i, isi_2s, isi_2t, isi_2l, isi_3n, isi_3b, isi_3i, isi_3s, isi_3t, isi_3l, isi_4n, isi_4b, isi_4i, isi_4s, isi_4t, isi_4l, bi_lenL, bi_lenT, bi_lenC, bi_lenS, bi_int, bi_abs, bi_listL, bi_listT, bi_tupL, bi_tupT, bi_minN, bi_maxN, mtD, intBits_pow, bor_nat, band_nat, band_not, List.any_nil, List.any_cons, List.all_nil, List.all_cons, List.contains_nil, List.elem_nil, List.idxOf?_cons, List.idxOf?_nil, beq_self_eq_true, List.getElem?_cons_zero, List.getElem?_cons_succ, List.set_cons_zero, List.set_cons_succ, List.length_cons, List.length_nil, List.length_set, List.map_cons, List.map_nil, List.replicate, List.nil_append, List.cons_append, List.headD_cons, List.getD_cons_zero, List.getD_cons_succ, Int.toNat_natCast, Nat.reduceAdd, Nat.reduceSub, Nat.reduceLT, Nat.reduceLeDiff, Nat.reduceEqDiff, Nat.reduceBEq, decide_true, decide_false, Bool.and_true, Bool.true_and, Bool.and_false, Bool.false_and, Bool.or_true, Bool.true_or, Bool.or_false, Bool.false_or, Bool.not_false, Bool.not_true, Bool.and_self, if_true, if_false, reduceIte, ite_true, ite_false, ite_self, Bool.false_eq_true, Nat.zero_lt_succ, Option.bind_some, Option.map_some, Option.bind_none, Option.map_none])
variable {B : Tb} {l : Nat}
def adjD (ds : List (Nat × Nat)) (a b : Nat) : Prop := (a, b) ∈ ds ∨ (b, a) ∈ ds
theorem adjD_symm {ds : List (Nat × Nat)} : ∀ a b, adjD ds a b → adjD ds b a := fun _ _ h => h.symm
/-- lists of neighbours -/
structure Bes (n : Nat) (adj : Nat → Nat → Prop) (bs : List (List Nat)) : Prop where
  len : bs.length = n
  mem : ∀ a < n, ∀ b, b ∈ bs.getD a [] ↔ adj a b
  row : ∀ a, (bs.getD a []).length ≤ 1000
abbrev dLL (bs : List (List Nat)) : D := .lst (bs.map (dL dN))
theorem getD_mapL {bs : List (List Nat)} {j : Nat} (h : j < bs.length) : L2.atI (bs.map (dL dN)) (j : Int) = some (dL dN (bs.getD j [])) := by
  rw [atI_nat]
  rw [List.getElem?_map, List.getD_eq_getElem?_getD, List.getElem?_eq_getElem h]; rfl
theorem set_mapL {bs : List (List Nat)} {j : Nat} {v : List Nat} : (bs.map (dL dN)).set j (dL dN v) = (bs.set j v).map (dL dN) := by rw [List.map_set]
theorem getD_set {α : Type} {xs : List α} {i j : Nat} {v d : α} (h : i < xs.length) : (xs.set i v).getD j d = if i = j then v else xs.getD j d := by
  rw [List.getD_eq_getElem?_getD, List.getElem?_set, List.getD_eq_getElem?_getD]
  by_cases e : i = j
  · rw [if_pos e, if_pos e]; simp [h]
  · rw [if_neg e, if_neg e]
theorem law_beside_eq [h : C_law_beside B] (hl : 1 ≤ l) {n : Nat} {ds : List (Nat × Nat)} (hn : n ≤ 1000) (hd : ∀ p ∈ ds, p.1 < n ∧ p.2 < n) (hdl : ds.length ≤ 500) : ∃ bs : List (List Nat), Bes n (adjD ds) bs ∧ callAt B l 20 0 [dL dP ds, dN n] = .ok (dLL bs, 2, dL dP ds) := by
  refine call_wp (Q := fun r => ∃ bs : List (List Nat), Bes n (adjD ds) bs ∧ r = .ok (dLL bs, 2, dL dP ds)) h.d_law_beside hl rfl ?_
  unfold b_law_beside
  have e0 : rngOk 0 (n : Int) = true := rgo_ok (by omega)
  walk_at "ev"
  rw [x_comp, x_rng, x_int, rb_ok, x_varE]
  walk_at "ev"
  rw [e0, if_pos rfl, rngL_0]
  walk_at "ev"
  rw [List.length_range, if_pos (show n ≤ lim by unfold lim; omega), comp_all (h := fun _ => .lst []) (n := 1) (fun x _ => ⟨by unfold cpF; walk_at "ev", rfl⟩)]
  walk_at "ev"
  have hr : (List.range n).map (fun _ => (.lst [] : D)) = (List.replicate n ([] : List Nat)).map (dL dN) := by
    rw [List.map_replicate, List.map_const', List.length_range]; rfl
  rw [hr]
  have e1 : cleanN 2 (.lst ((List.replicate n ([] : List Nat)).map (dL dN))) = true := cl_lst fun x => cl_lst fun _ => cl_int
  try rw [e1]
  walk_at "ev"
  refine wp_var (dL dP ds) dP ds (fun pre post s => ∃ (bs : List (List Nat)) (j3 j4 j5 : Option D), s = ⟨[some (dL dP ds), some (dN n), some (dLL bs), j3, j4, j5], [0, 0, 2, 0, 0, 0]⟩ ∧ bs.length = n ∧ (∀ a < n, ∀ b, b ∈ bs.getD a [] ↔ adjD pre a b) ∧ ∀ a, (bs.getD a []).length ≤ 2 * pre.length) ?h1 ?h2 ?h3 ?h0 ?_ ?_
  case h1 => rfl
  case h2 => rfl
  case h3 => rfl
  case h0 =>
    refine ⟨List.replicate n [], _, _, _, rfl, by simp, fun a ha b => ?_, fun a => ?_⟩
    · unfold adjD; simp [List.getD_eq_getElem?_getD, List.getElem?_replicate, ha]
    · rw [List.getD_eq_getElem?_getD, List.getElem?_replicate]; split <;> simp
  · intro pre p post s hx hI
    obtain ⟨bs, j3, j4, j5, hs, q1, q2, q3⟩ := hI
    subst hs
    have hp := hd p (by rw [← hx]; simp)
    have hpl : pre.length ≤ 500 := by
      have := congrArg List.length hx
      simp only [List.length_append, List.length_cons] at this; omega
    have b1 := q3 p.1
    walk_at "ev"
    rw [getD_mapL (by omega)]
    walk_at "ev"
    have i1 : ixN bs.length (p.1 : Int) = some p.1 := by rw [ixN_ok (by omega) (by omega), Int.toNat_natCast]
    rw [i1]
    walk_at "ev"
    rw [map_snoc (e := dN), set_mapL]
    have hl2 : p.2 < (bs.set p.1 (bs.getD p.1 [] ++ [p.2])).length := by rw [List.length_set]; omega
    have b2 : ((bs.set p.1 (bs.getD p.1 [] ++ [p.2])).getD p.2 []).length ≤ 2 * pre.length + 1 := by
      rw [getD_set (by omega)]
      split
      · rw [List.length_append, List.length_singleton]; omega
      · have := q3 p.2; omega
    rw [getD_mapL hl2]
    walk_at "ev"
    have i2 : ixN (bs.set p.1 (bs.getD p.1 [] ++ [p.2])).length (p.2 : Int) = some p.2 := by rw [List.length_set, ixN_ok (by omega) (by omega), Int.toNat_natCast]
    try rw [List.length_set] at i2
    rw [i2]
    walk_at "ev"
    rw [map_snoc (e := dN), set_mapL]
    refine ⟨_, _, _, _, rfl, by rw [List.length_set, List.length_set]; exact q1, fun a ha b => ?_, fun a => ?_⟩
    · rw [getD_set (by rw [List.length_set]; omega), getD_set (by omega), getD_set (by omega)]
      have key := q2 a ha b
      unfold adjD at key ⊢
      obtain ⟨p1, p2⟩ := p
      dsimp only
      by_cases h1 : p2 = a
      · by_cases h2 : p1 = p2
        · rw [if_pos h1, if_pos h2]
          subst h1 h2
          grind
        · rw [if_pos h1, if_neg h2]
          subst h1
          grind
      · rw [if_neg h1]
        by_cases h2 : p1 = a
        · rw [if_pos h2]
          subst h2
          grind
        · rw [if_neg h2]
          grind
    · rw [getD_set (by rw [List.length_set]; omega)]
      have := q3 a
      have := q3 p.1
      split
      · rw [List.length_append, List.length_singleton]; omega
      · rw [getD_set (by omega)]
        split
        · rw [List.length_append, List.length_singleton]; omega
        · omega
  · intro s hI
    obtain ⟨bs, j3, j4, j5, hs, q1, q2, q3⟩ := hI
    subst hs
    walk_at "ev"
    exact ⟨bs, ⟨q1, q2, fun a => by have := q3 a; omega⟩, fend_rt⟩
/-- a list or tuple of rooms -/
structure SeqN (d : D) (xs : List Nat) : Prop where
  it : items d = .ok (xs.map dN)
  isin : ∀ a, inD (dN a) d = .ok (decide (a ∈ xs))
  ln : biD .len [d] = .ok (.int xs.length, 9)
theorem SeqN.lst {xs : List Nat} : SeqN (.lst (xs.map dN)) xs := ⟨rfl, fun _ => inN, by rw [bi_lenL, List.length_map]⟩
theorem SeqN.tup {xs : List Nat} : SeqN (.tup (xs.map dN)) xs := ⟨rfl, fun _ => inNT, by rw [bi_lenT, List.length_map]⟩
/-- where the walk stands behind some layers -/
structure Lay (bs : List (List Nat)) (ins : List Nat) (st : Nat) (ls : List (List Nat)) (ly kn : List Nat) : Prop where
  eq : kn = ls.flatten ++ ly
  nd : kn.Nodup
  mem : ∀ x ∈ kn, Conn (fun a b => b ∈ bs.getD a []) (fun r => r ∈ ins) st x
  cl : ∀ y ∈ ls.flatten, ∀ x ∈ bs.getD y [], x ∈ ins → x ∈ kn
  s0 : st ∈ ins → st ∈ kn
theorem nodup_len {xs ys : List Nat} (h : xs.Nodup) (hs : ∀ x ∈ xs, x ∈ ys) : xs.length ≤ ys.length := h.length_le_of_subset hs
theorem law_layers_eq [h : C_law_layers B] (hl : 1 ≤ l) {bs : List (List Nat)} {st : Nat} {d : D} {ins : List Nat} (S : SeqN d ins) (hnd : ins.Nodup) (hb : ∀ r ∈ ins, r < bs.length) (hrow : ∀ a, (bs.getD a []).length ≤ 1000) (hi : ins.length ≤ 1000) : ∃ ls : List (List Nat), ls.flatten.Nodup ∧ (∀ x, x ∈ ls.flatten ↔ Conn (fun a b => b ∈ bs.getD a []) (fun r => r ∈ ins) st x) ∧ callAt B l 21 0 [dLL bs, dN st, d] = .ok (dLL ls, 1, dLL bs) := by
  refine call_wp (Q := fun r => ∃ ls : List (List Nat), ls.flatten.Nodup ∧ (∀ x, x ∈ ls.flatten ↔ Conn (fun a b => b ∈ bs.getD a []) (fun r => r ∈ ins) st x) ∧ r = .ok (dLL ls, 1, dLL bs)) h.d_law_layers hl rfl ?_
  unfold b_law_layers
  walk_at "ev"
  rw [x_comp, x_varE]
  walk_at "ev"
  rw [S.it]
  walk_at "ev"
  rw [comp_flt (n := 0) (h := dN) (p := fun x => decide (x = st)) (fun x _ => ⟨by
    unfold cpF
    walk_at "ev"
    by_cases e : x = st
    · subst e; simp
    · have : ¬ (x : Int) = st := by omega
      simp [e, this], rfl⟩)]
  walk_at "ev"
  generalize hly0 : ins.filter (fun x => decide (x = st)) = ly0
  have hl0 : ly0 = if st ∈ ins then [st] else [] := by
    rw [← hly0]
    by_cases e : st ∈ ins
    · rw [if_pos e]
      have := List.Pairwise.filter (p := fun x => decide (x = st)) hnd
      refine asc_ext ?_ (by simp) fun x => ?_
      · refine List.Pairwise.imp_of_mem (fun {a b} ha hb hne => absurd ?_ hne) this
        simp at ha hb
        rw [ha.2, hb.2]
      · simp; intro e2; subst e2; exact e
    · rw [if_neg e, List.filter_eq_nil_iff]
      intro x hx hxe
      simp at hxe; subst hxe; exact e hx
  have L0 : Lay bs ins st [] ly0 ly0 := by
    refine ⟨by simp, by rw [hl0]; split <;> simp, fun x hx => ?_, fun y hy => absurd hy (by simp), fun e => by rw [hl0, if_pos e]; simp⟩
    rw [hl0] at hx
    split at hx
    · rename_i e; rw [List.mem_singleton] at hx; subst hx; exact .refl e
    · simp at hx
  have fin : ∀ ls kn, Lay bs ins st ls [] kn → ls.flatten.Nodup ∧ ∀ x, x ∈ ls.flatten ↔ Conn (fun a b => b ∈ bs.getD a []) (fun r => r ∈ ins) st x := fun ls kn L => by
    have e : kn = ls.flatten := by rw [L.eq, List.append_nil]
    subst e
    exact ⟨L.nd, fun x => ⟨L.mem x, fun c => c.closed (p := fun r => r ∈ ls.flatten) (L.s0 c.l) fun y z hy _ e hz => L.cl y hy z e hz⟩⟩
  refine wp_rng0 ins.length 9 (fun pre post s => ∃ (ls : List (List Nat)) (ly kn : List Nat) (j6 j7 j8 j9 j10 : Option D) (k7 : Nat), s = ⟨[some (dLL bs), some (dN st), some d, some (dLL ls), some (dL dN ly), some (dL dN kn), j6, j7, j8, j9, j10], [0, 0, 0, 1, 1, 1, 0, k7, 0, 0, 0]⟩ ∧ Lay bs ins st ls ly kn ∧ pre.length = ls.length ∧ ls.length ≤ ls.flatten.length) ?h1 (by omega) ?h0 ?_ ?_
  case h1 => walk_at "ev"; rw [S.ln]
  case h0 => exact ⟨[], ly0, ly0, _, _, _, _, _, _, rfl, L0, rfl, Nat.le_refl _⟩
  · intro pre k post s hx hI
    obtain ⟨ls, ly, kn, j6, j7, j8, j9, j10, k7, hs, L, q1, q2⟩ := hI
    subst hs
    have hk := at_range hx
    walk_at "ev"
    refine wp_ite (fun hc => ?_) fun hc => ?_
    · have hly : ly = [] := by
        have : ly.length = 0 := by simpa using hc
        exact List.eq_nil_of_length_eq_zero this
      subst hly
      refine ⟨?_⟩
      walk_at "ev"
      obtain ⟨f1, f2⟩ := fin ls kn L
      exact ⟨ls, f1, f2, fend_rt⟩
    · have hlyp : 0 < ly.length := by
        apply Nat.pos_of_ne_zero
        intro e; rw [e] at hc; simp at hc
      have hls : ls.length ≤ 1000 := by omega
      walk_at "ev"
      rw [map_snoc (e := dL dN)]
      refine wp_var (dL dN ly) dN ly (fun pre2 post2 s => ∃ (kn2 fu : List Nat) (j8 j10 : Option D), s = ⟨[some (dLL bs), some (dN st), some d, some (dLL (ls ++ [ly])), some (dL dN ly), some (dL dN kn2), some (dN k), some (dL dN fu), j8, j9, j10], [0, 0, 0, 1, 0, 1, 0, 1, 0, 0, 0]⟩ ∧ kn2 = kn ++ fu ∧ kn2.Nodup ∧ (∀ x ∈ kn2, Conn (fun a b => b ∈ bs.getD a []) (fun r => r ∈ ins) st x) ∧ ∀ y ∈ pre2, ∀ x ∈ bs.getD y [], x ∈ ins → x ∈ kn2) ?h1 ?h2 ?h3 ?h0 ?_ ?_
      case h1 => rfl
      case h2 => rfl
      case h3 => rfl
      case h0 => exact ⟨kn, [], _, _, rfl, by simp, L.nd, L.mem, fun y hy => absurd hy (by simp)⟩
      · intro pre2 y post2 s hx2 hI
        obtain ⟨kn2, fu, j8, j10, hs, r1, r2, r3, r4⟩ := hI
        subst hs
        have hyly : y ∈ ly := by rw [← hx2]; simp
        have hyk : y ∈ kn := by rw [L.eq]; exact List.mem_append_right _ hyly
        have hyc := L.mem y hyk
        have hyb : y < bs.length := hb y hyc.r
        walk_at "ev"
        refine wp_src (dL dN (bs.getD y [])) 0 dN (bs.getD y []) (fun pre3 post3 s => ∃ (kn2 fu : List Nat) (j10 : Option D), s = ⟨[some (dLL bs), some (dN st), some d, some (dLL (ls ++ [ly])), some (dL dN ly), some (dL dN kn2), some (dN k), some (dL dN fu), some (dN y), j9, j10], [0, 0, 0, 1, 0, 1, 0, 1, 0, 0, 0]⟩ ∧ kn2 = kn ++ fu ∧ kn2.Nodup ∧ (∀ x ∈ kn2, Conn (fun a b => b ∈ bs.getD a []) (fun r => r ∈ ins) st x) ∧ (∀ y ∈ pre2, ∀ x ∈ bs.getD y [], x ∈ ins → x ∈ kn2) ∧ ∀ x ∈ pre3, x ∈ ins → x ∈ kn2) ?h1 ?h2 ?h3 ?h0 ?_ ?_
        case h1 => walk_at "ev"; rfl
        case h2 => intro i hi; simp only [vars, List.mem_append, List.mem_cons, List.not_mem_nil, or_false] at hi; rcases hi with rfl | rfl <;> exact .inl rfl
        case h3 => rfl
        case h0 => exact ⟨kn2, fu, _, rfl, r1, r2, r3, r4, fun x hx => absurd hx (by simp)⟩
        · intro pre3 x post3 s hx3 hI
          obtain ⟨kn2, fu, j10, hs, r1, r2, r3, r4, r5⟩ := hI
          subst hs
          have hxr : x ∈ bs.getD y [] := by rw [← hx3]; simp
          have hkl : kn2.length ≤ 1000 := Nat.le_trans (nodup_len r2 fun z hz => (r3 z hz).r) hi
          have hfl : fu.length ≤ 1000 := by rw [r1, List.length_append] at hkl; omega
          walk_at "ev"
          rw [S.isin]
          walk_at "ev"
          refine wp_ite (fun hc => ?_) fun hc => ?_
          · simp only [Bool.and_eq_true, decide_eq_true_eq, Bool.not_eq_true', decide_eq_false_iff_not] at hc
            walk_at "ev"
            rw [map_snoc (e := dN), map_snoc (e := dN)]
            refine ⟨_, _, _, rfl, by rw [r1, List.append_assoc], ?_, fun z hz => ?_, fun y' hy' z hz hzi => List.mem_append_left _ (r4 y' hy' z hz hzi), fun z hz hzi => ?_⟩
            · rw [List.nodup_append]
              exact ⟨r2, by simp, fun a ha b hb => by rw [List.mem_singleton] at hb; subst hb; exact fun e => hc.2 (e ▸ ha)⟩
            · rcases List.mem_append.mp hz with hz | hz
              · exact r3 z hz
              · rw [List.mem_singleton] at hz; subst hz; exact hyc.step hxr hc.1
            · rcases List.mem_append.mp hz with hz | hz
              · exact List.mem_append_left _ (r5 z hz hzi)
              · rw [List.mem_singleton] at hz; subst hz; exact List.mem_append_right _ (by simp)
          · simp only [Bool.and_eq_true, decide_eq_true_eq, Bool.not_eq_true', decide_eq_false_iff_not, not_and, Classical.not_not] at hc
            walk_at "ev"
            refine ⟨kn2, fu, _, rfl, r1, r2, r3, r4, fun z hz hzi => ?_⟩
            rcases List.mem_append.mp hz with hz | hz
            · exact r5 z hz hzi
            · rw [List.mem_singleton] at hz; subst hz; exact hc hzi
        · intro s hI
          obtain ⟨kn2, fu, j10, hs, r1, r2, r3, r4, r5⟩ := hI
          subst hs
          walk_at "ev"
          refine ⟨kn2, fu, _, _, rfl, r1, r2, r3, fun y' hy' z hz hzi => ?_⟩
          rcases List.mem_append.mp hy' with hy' | hy'
          · exact r4 y' hy' z hz hzi
          · rw [List.mem_singleton] at hy'; subst hy'; exact r5 z hz hzi
      · intro s hI
        obtain ⟨kn2, fu, j8, j10, hs, r1, r2, r3, r4⟩ := hI
        subst hs
        walk_at "ev"
        refine ⟨ls ++ [ly], fu, kn2, _, _, _, _, _, _, rfl, ⟨?_, r2, r3, fun y hy x hx hxi => ?_, fun e => ?_⟩, by simp [q1], ?_⟩
        · rw [r1, L.eq]; simp
        · rw [List.flatten_append] at hy
          rcases List.mem_append.mp hy with hy | hy
          · rw [r1]; exact List.mem_append_left _ (L.cl y hy x hx hxi)
          · exact r4 y (by simpa using hy) x hx hxi
        · rw [r1]; exact List.mem_append_left _ (L.s0 e)
        · rw [List.flatten_append, List.length_append, List.length_append]; simp only [List.flatten_cons, List.flatten_nil, List.append_nil, List.length_cons, List.length_nil]; omega
  · intro s hI
    obtain ⟨ls, ly, kn, j6, j7, j8, j9, j10, k7, hs, L, q1, q2⟩ := hI
    subst hs
    rw [List.length_range] at q1
    have hkl : kn.length ≤ ins.length := nodup_len L.nd fun z hz => (L.mem z hz).r
    have hly : ly = [] := by
      have := congrArg List.length L.eq
      rw [List.length_append] at this
      exact List.eq_nil_of_length_eq_zero (by omega)
    subst hly
    obtain ⟨f1, f2⟩ := fin ls kn L
    walk_at "ev"
    exact ⟨ls, f1, f2, fend_rt⟩
end Hc
set_option Elab.async false
set_option linter.all false
set_option maxRecDepth 100000
set_option maxHeartbeats 4000000
set_option exponentiation.threshold 2000
/-! What is reached, pieces. -/
namespace Hc
open PySem PySem.Spec PyProof.Rows L2 Bd
local macro_rules | `(tactic| walk_at "ev") => `(tactic| simp -failIfUnchanged (disch := first | assumption | omega | (show nv _ = true; with_unfolding_all rfl) | (show nn _ = true; with_unfolding_all rfl) | (show scal _ = true; with_unfolding_all rfl) | (show ∀ _, scal _ = true; intro _; with_unfolding_all rfl) | (show ∀ _, cleanN _ _ = true; intro _; with_unfolding_all rfl) | (simp only [List.length_cons, List.length_nil, List.length_append, List.length_map, List.length_take, List.length_drop]; omega)) only [ys_nilE, ys_consE, sq_nx, sq_rt, sq_bk, sq_ct, sq_bad, rs_and, rs_or, sq_ite, oc_ite, rb_ite, oc_okk, oc_bad, rb_ok, rb_bad, of_some, x_varE, x_non, x_bl, x_int, x_str, x_bin, x_neg, x_inv, x_nt, x_cmp, x_chain, x_and, x_or, x_ite, x_tup, x_lst, x_lsnE, x_emp, x_dnew, x_idx, x_callE, x_bi, x_mth, x_rng, x_lrng, x_enm, x_rvd, x_fld, x_mcallE, x_pget, x_cv, x_make, xs_nilE, xs_consE, xn_nilE, xn_consE, and_nil, and_cons, or_nil, or_cons, x_slc, sb_nop, y_setE, y_setTE, y_augE, y_appE, y_extE, y_popE, y_revE, y_stoE, y_staE, y_sflE, y_sfaE, y_mscE, y_ifcE, y_dropE, y_tapE, y_retV, y_retE, List.length_map, List.length_append, lt_lim, lt_limP, fldx_obj, fldx_own, le_lim, cast_pred, List.map_append, y_retnE, y_iteE, y_brkE, y_contE, y_passE, hold_call, hold_keep, hold_meth, hold_init, hold_has, hold_prop, hold_cval, ev_call, ev_keep, ev_meth, ev_init, ev_has, ev_prop, ev_cval, sg0, use, getP, putP, bindS, bt_nm, bt_tt, bt_tl, bts_nil, bts_cons, o_add, o_sub, o_mulr, o_mull, o_fdiv, o_mod, o_pow, o_shl1, o_shr, o_band, o_bor, o_addS, o_addL, o_addT, o_mulL1, c_eqI, c_neI, c_ltI, c_leI, c_gtI, c_geI, c_eqS, c_neS, c_eqW, cls_obj, cls_own, c_isN, c_isnN, c_isB, c_in, c_nin, inN, inNT, ix_lst, ix_tup, ix_20, ix_21, at_20, at_21, in_20, in_21, cast_0, cast_1, ix_t0, ix_t1, ix_t2, ix_scr, it_lst, it_tup, boolR, isFlat, clean, cl_int, cl_str, cl_non, cl_bl, cl_scr, cl_lst, cl_dW, cl_0l, cl_0o, cl_0b, cl_0d, cl_tup, letters_eq, empty_eq, o_addSS, ix_str, sl_strL, sl_strR, sb_var, sb_int, sb_bin, sb_bi, sb_neg, cn_nop, cn_cmp, cn_call, cn_nt, cn_and, cn_or, bnd_int, List.contains_cons, cl_nil, sc_map, sc_dW, cl_sc, scal, scalL, fit, mscE, lend, rootP, backS, tgs, tgsL, Sg.frz, zero, vars, varsL, so_N, so_P, isi_0n, isi_0b, isi_0i, isi_0s, isi_0t, isi_0l, isi_1n, isi_1b, isi_1i, isi_1s, isi_1t, isi_1l, isi_2n, isi_2b, isi_2i, isi_2s, isi_2t, isi_2l, isi_3n, isi_3b, isi_3i, isi_3s, isi_3t, isi_3l, isi_4n, isi_4b, isi_4i, isi_4s, isi_4t, isi_4l, bi_lenL, bi_lenT, bi_lenC, bi_lenS, bi_int, bi_abs, bi_listL, bi_listT, bi_tupL, bi_tupT, bi_minN, bi_maxN, mtD, intBits_pow, bor_nat, band_nat, band_not, List.any_nil, List.any_cons, List.all_nil, List.all_cons, List.contains_nil, List.elem_nil, List.idxOf?_cons, List.idxOf?_nil, beq_self_eq_true, List.getElem?_cons_zero, List.getElem?_cons_succ, List.set_cons_zero, List.set_cons_succ, List.length_cons, List.length_nil, List.length_set, List.map_cons, List.map_nil, List.replicate, List.nil_append, List.cons_append, List.headD_cons, List.getD_cons_zero, List.getD_cons_succ, Int.toNat_natCast, Nat.reduceAdd, Nat.reduceSub, Nat.reduceLT, Nat.reduceLeDiff, Nat.reduceEqDiff, Nat.reduceBEq, decide_true, decide_false, Bool.and_true, Bool.true_and, Bool.and_false, Bool.false_and, Bool.or_true, Bool.true_or, Bool.or_false, Bool.false_or, Bool.not_false, Bool.not_true, Bool.and_self, if_true, if_false, reduceIte, ite_true, ite_false, ite_self, Bool.false_eq_true, Nat.zero_lt_succ, Option.bind_some, Option.map_some, Option.bind_none, Option.map_none])
variable {B : Tb} {l : Nat}
theorem Bes.conn {n : Nat} {adj : Nat → Nat → Prop} {bs : List (List Nat)} (b : Bes n adj bs) {ins : List Nat} (hb : ∀ r ∈ ins, r < n) {x y : Nat} : Conn (fun a b => b ∈ bs.getD a []) (fun r => r ∈ ins) x y ↔ Conn adj (fun r => r ∈ ins) x y :=
  Conn.iff (fun x y hx _ => b.mem x (hb x hx) y) fun _ => Iff.rfl
open Classical in
theorem law_reach_eq [h : C_law_reach B] (hl : 2 ≤ l) {n : Nat} {adj : Nat → Nat → Prop} {bs : List (List Nat)} (b : Bes n adj bs) {st : Nat} {d : D} {ins : List Nat} (S : SeqN d ins) (hnd : ins.Nodup) (hb : ∀ r ∈ ins, r < n) (hi : ins.length ≤ 1000) : callAt B l 22 0 [dLL bs, dN st, d] = .ok (dL dN (roomC adj (fun r => r ∈ ins) n st), 1, dLL bs) := by
  refine call_eq h.d_law_reach (by omega) rfl ?_
  unfold b_law_reach
  obtain ⟨ls, f1, f2, e1⟩ := law_layers_eq (B := B) (l := l - 1) (by omega) (bs := bs) (st := st) S hnd (by rw [b.len]; exact hb) b.row hi
  walk_at "ev"
  refine wp_src (dLL ls) 1 (dL dN) ls (fun pre post s => ∃ (fo : List Nat) (j4 : Option D), s = ⟨[some (dLL bs), some (dN st), some d, some (dL dN fo), j4], [0, 0, 0, 1, 0]⟩ ∧ fo = pre.flatten) ?h1 ?h2 ?h3 ?h0 ?_ ?_
  case h1 => walk_at "ev"; rw [e1]; rfl
  case h2 => intro i hi; simp only [vars, varsL, List.mem_append, List.mem_cons, List.not_mem_nil, or_false, List.append_nil] at hi; rcases hi with rfl | rfl | rfl <;> exact .inl rfl
  case h3 => rfl
  case h0 => exact ⟨[], _, rfl, rfl⟩
  · intro pre x post s hx hI
    obtain ⟨fo, j4, hs, q1⟩ := hI
    subst hs
    have hfl : fo.length + x.length ≤ ls.flatten.length := by
      rw [q1, ← hx]; simp only [List.flatten_append, List.flatten_cons, List.length_append]; omega
    have hfl2 : ls.flatten.length ≤ 1000 := Nat.le_trans (nodup_len f1 fun z hz => ((f2 z).mp hz).r) hi
    walk_at "ev"
    refine ⟨fo ++ x, _, by simp only [dL, List.map_append]; rfl, by rw [q1]; simp⟩
  · intro s hI
    obtain ⟨fo, j4, hs, q1⟩ := hI
    subst hs
    subst q1
    walk_at "ev"
    have e2 : sortE dN ls.flatten = roomC adj (fun r => r ∈ ins) n st := by
      unfold roomC
      refine sortN_eq f1 fun x => ?_
      rw [f2, b.conn hb, decide_eq_true_iff]
      exact ⟨fun c => ⟨hb x c.r, c⟩, fun c => c.2⟩
    rw [e2]
    exact ⟨fend_rt⟩
open Classical in
theorem ins_filter {ins : List Nat} {n : Nat} (hnd : ins.Nodup) (hb : ∀ r ∈ ins, r < n) : sortE dN ins = (List.range n).filter fun r => decide (r ∈ ins) := sortN_eq hnd fun x => by
  rw [decide_eq_true_iff]; exact ⟨fun h => ⟨hb x h, h⟩, fun h => h.2⟩
theorem roomC_len {adj : Nat → Nat → Prop} {ins : Nat → Prop} {n r : Nat} : (roomC adj ins n r).length ≤ n := by
  unfold roomC; exact Nat.le_trans (List.length_filter_le _ _) (by simp)
open Classical in
theorem law_pieces_eq [h : C_law_pieces B] (hl : 3 ≤ l) {n : Nat} {adj : Nat → Nat → Prop} (sy : ∀ x y, adj x y → adj y x) {bs : List (List Nat)} (b : Bes n adj bs) {ins : List Nat} (hnd : ins.Nodup) (hb : ∀ r ∈ ins, r < n) (hn : n ≤ 1000) : callAt B l 23 0 [dLL bs, dL dN ins] = .ok (dL (dT dN) (pieceC adj (fun r => r ∈ ins) n), 1, dLL bs) := by
  refine call_eq h.d_law_pieces (by omega) rfl ?_
  have hi : ins.length ≤ 1000 := Nat.le_trans (Nat.le_trans (nodup_len hnd (ys := List.range n) fun x hx => List.mem_range.mpr (hb x hx)) (by simp)) hn
  unfold b_law_pieces
  walk_at "ev"
  refine wp_cln (dL dN ((List.range n).filter fun r => decide (r ∈ ins))) 1 dN ((List.range n).filter fun r => decide (r ∈ ins)) (fun pre post s => ∃ (dn : List Nat) (j4 j5 : Option D) (k5 : Nat), s = ⟨[some (dLL bs), some (dL dN ins), some (dL (dT dN) ((pre.filter fun r => decide (∀ r' < r, ¬ Conn adj (fun r => r ∈ ins) r r')).map (roomC adj (fun r => r ∈ ins) n))), some (dL dN dn), j4, j5], [0, 0, 1, 1, 0, k5]⟩ ∧ (∀ x, x ∈ dn ↔ ∃ y ∈ pre, Conn adj (fun r => r ∈ ins) y x) ∧ dn.length ≤ pre.length * 1000) ?h1 ?h2 ?h3 ?h0 ?_ ?_
  case h1 => walk_at "ev"; rw [ins_filter hnd hb]
  case h2 => exact cl_lst fun _ => cl_int
  case h3 => rfl
  case h0 => exact ⟨[], _, _, _, rfl, fun x => by simp, by simp⟩
  · intro pre x post s hx hI
    obtain ⟨dn, j4, j5, k5, hs, q1, q2⟩ := hI
    subst hs
    have hxi : x ∈ ins := by
      have : x ∈ (List.range n).filter fun r => decide (r ∈ ins) := by rw [← hx]; simp
      simpa using (List.mem_filter.mp this).2
    have hpl : pre.length ≤ n := by
      have h1 := congrArg List.length hx
      have h2 : ((List.range n).filter fun r => decide (r ∈ ins)).length ≤ n := Nat.le_trans (List.length_filter_le _ _) (by simp)
      rw [← h1, List.length_append] at h2; omega
    have hpre : ∀ y, y ∈ pre ↔ y ∈ ins ∧ y < x := fun y => by
      have hasc := range_filter_asc (n := n) (p := fun r => decide (r ∈ ins))
      rw [← hx, List.pairwise_append] at hasc
      obtain ⟨a1, a2, a3⟩ := hasc
      rw [List.pairwise_cons] at a2
      constructor
      · intro hy
        refine ⟨?_, a3 y hy x List.mem_cons_self⟩
        have : y ∈ (List.range n).filter fun r => decide (r ∈ ins) := by rw [← hx]; exact List.mem_append_left _ hy
        simpa using (List.mem_filter.mp this).2
      · rintro ⟨hy, hlt⟩
        have : y ∈ (List.range n).filter fun r => decide (r ∈ ins) := List.mem_filter.mpr ⟨List.mem_range.mpr (hb y hy), by simpa using hy⟩
        rw [← hx] at this
        rcases List.mem_append.mp this with h | h
        · exact h
        · rcases List.mem_cons.mp h with h | h
          · omega
          · have := a2.1 y h; omega
    have hlead : (x ∈ dn) ↔ ¬ ∀ r' < x, ¬ Conn adj (fun r => r ∈ ins) x r' := by
      rw [q1]
      constructor
      · rintro ⟨y, hy, c⟩ hh
        exact hh y ((hpre y).mp hy).2 (c.symm sy)
      · intro hh
        simp only [Classical.not_forall, Classical.not_not] at hh
        obtain ⟨y, hy, c⟩ := hh
        exact ⟨y, (hpre y).mpr ⟨c.r, hy⟩, c.symm sy⟩
    have hfl : (pre.filter fun r => decide (∀ r' < r, ¬ Conn adj (fun r => r ∈ ins) r r')).length ≤ 1000 := Nat.le_trans (List.length_filter_le _ _) (by omega)
    have hrl := roomC_len (adj := adj) (ins := fun r => r ∈ ins) (n := n) (r := x)
    have hdl : dn.length + (roomC adj (fun r => r ∈ ins) n x).length ≤ 16000000 := by
      have : pre.length * 1000 ≤ 1000 * 1000 := Nat.mul_le_mul_right _ (by omega)
      omega
    walk_at "ev"
    by_cases hd : x ∈ dn
    · have e : decide (x ∈ dn) = true := decide_eq_true hd
      rw [e]
      walk_at "ev"
      refine ⟨dn, some (dN x), j5, k5, ?_, fun z => ?_, by simp only [List.length_append, List.length_cons, List.length_nil, Nat.add_mul]; omega⟩
      · rw [List.filter_append]
        have : ¬ ∀ r' < x, ¬ Conn adj (fun r => r ∈ ins) x r' := hlead.mp hd
        rw [List.filter_cons_of_neg (by rw [decide_eq_true_iff]; exact this), List.filter_nil, List.append_nil]
      · rw [q1]
        constructor
        · rintro ⟨y, hy, c⟩; exact ⟨y, List.mem_append_left _ hy, c⟩
        · rintro ⟨y, hy, c⟩
          rcases List.mem_append.mp hy with hy | hy
          · exact ⟨y, hy, c⟩
          · rw [List.mem_singleton] at hy; subst hy
            obtain ⟨y', hy', c'⟩ := (q1 y).mp hd
            exact ⟨y', hy', c'.trans c⟩
    · have e : decide (x ∈ dn) = false := decide_eq_false hd
      rw [e]
      walk_at "ev"
      rw [law_reach_eq (by omega) b .lst hnd hb hi]
      walk_at "ev"
      refine ⟨dn ++ roomC adj (fun r => r ∈ ins) n x, some (dN x), some (dL dN (roomC adj (fun r => r ∈ ins) n x)), 0, ?_, fun z => ?_, ?_⟩
      · rw [List.filter_append]
        have : ∀ r' < x, ¬ Conn adj (fun r => r ∈ ins) x r' := Classical.byContradiction fun hh => hd (hlead.mpr hh)
        rw [List.filter_cons_of_pos (by rw [decide_eq_true_iff]; exact this), List.filter_nil, List.map_append, List.map_cons, List.map_nil]
        simp only [dL, List.map_append, List.map_cons, List.map_nil]
      · rw [List.mem_append, q1, roomC_mem]
        constructor
        · rintro (⟨y, hy, c⟩ | ⟨_, c⟩)
          · exact ⟨y, List.mem_append_left _ hy, c⟩
          · exact ⟨x, List.mem_append_right _ (by simp), c⟩
        · rintro ⟨y, hy, c⟩
          rcases List.mem_append.mp hy with hy | hy
          · exact .inl ⟨y, hy, c⟩
          · rw [List.mem_singleton] at hy; subst hy
            exact .inr ⟨hb z c.r, c⟩
      · simp only [List.length_append, List.length_cons, List.length_nil, Nat.add_mul]; omega
  · intro s hI
    obtain ⟨dn, j4, j5, k5, hs, q1, q2⟩ := hI
    subst hs
    walk_at "ev"
    have e : (((List.range n).filter fun r => decide (r ∈ ins)).filter fun r => decide (∀ r' < r, ¬ Conn adj (fun r => r ∈ ins) r r')) = leadC adj (fun r => r ∈ ins) n := by
      unfold leadC
      rw [List.filter_filter]
      apply filter_range_congr
      intro r hr
      rw [Bool.decide_and, Bool.and_comm]
    rw [e]
    exact ⟨fend_rt⟩
end Hc
set_option Elab.async false
set_option linter.all false
set_option maxRecDepth 100000
set_option maxHeartbeats 4000000
set_option exponentiation.threshold 2000
/-! A law's own comparison. -/
namespace Hc
open PySem PySem.Spec PyProof.Rows L2 Bd
local macro_rules | `(tactic| walk_at "ev") => `(tactic| simp -failIfUnchanged (disch := first | assumption | omega | (show nv _ = true; with_unfolding_all rfl) | (show nn _ = true; with_unfolding_all rfl) | (show scal _ = true; with_unfolding_all rfl) | (show ∀ _, scal _ = true; intro _; with_unfolding_all rfl) | (show ∀ _, cleanN _ _ = true; intro _; with_unfolding_all rfl) | (simp only [List.length_cons, List.length_nil, List.length_append, List.length_map, List.length_take, List.length_drop]; omega)) only [ys_nilE, ys_consE, sq_nx, sq_rt, sq_bk, sq_ct, sq_bad, rs_and, rs_or, sq_ite, oc_ite, rb_ite, oc_okk, oc_bad, rb_ok, rb_bad, of_some, x_varE, x_non, x_bl, x_int, x_str, x_bin, x_neg, x_inv, x_nt, x_cmp, x_chain, x_and, x_or, x_ite, x_tup, x_lst, x_lsnE, x_emp, x_dnew, x_idx, x_callE, x_bi, x_mth, x_rng, x_lrng, x_enm, x_rvd, x_fld, x_mcallE, x_pget, x_cv, x_make, xs_nilE, xs_consE, xn_nilE, xn_consE, and_nil, and_cons, or_nil, or_cons, x_slc, sb_nop, y_setE, y_setTE, y_augE, y_appE, y_extE, y_popE, y_revE, y_stoE, y_staE, y_sflE, y_sfaE, y_mscE, y_ifcE, y_dropE, y_tapE, y_retV, y_retE, List.length_map, List.length_append, lt_lim, lt_limP, fldx_obj, fldx_own, le_lim, cast_pred, List.map_append, y_retnE, y_iteE, y_brkE, y_contE, y_passE, hold_call, hold_keep, hold_meth, hold_init, hold_has, hold_prop, hold_cval, ev_call, ev_keep, ev_meth, ev_init, ev_has, ev_prop, ev_cval, sg0, use, getP, putP, bindS, bt_nm, bt_tt, bt_tl, bts_nil, bts_cons, o_add, o_sub, o_mulr, o_mull, o_fdiv, o_mod, o_pow, o_shl1, o_shr, o_band, o_bor, o_addS, o_addL, o_addT, o_mulL1, c_eqI, c_neI, c_ltI, c_leI, c_gtI, c_geI, c_eqS, c_neS, c_eqW, cls_obj, cls_own, c_isN, c_isnN, c_isB, c_in, c_nin, inN, inNT, ix_lst, ix_tup, ix_20, ix_21, at_20, at_21, in_20, in_21, cast_0, cast_1, ix_t0, ix_t1, ix_t2, ix_scr, it_lst, it_tup, boolR, isFlat, clean, cl_int, cl_str, cl_non, cl_bl, cl_scr, cl_lst, cl_dW, cl_0l, cl_0o, cl_0b, cl_0d, cl_tup, letters_eq, empty_eq, o_addSS, ix_str, sl_strL, sl_strR, sb_var, sb_int, sb_bin, sb_bi, sb_neg, cn_nop, cn_cmp, cn_call, cn_nt, cn_and, cn_or, bnd_int, List.contains_cons, cl_nil, sc_map, sc_dW, cl_sc, scal, scalL, fit, mscE, lend, rootP, backS, tgs, tgsL, Sg.frz, zero, vars, varsL, so_N, so_P, isi_0n, isi_0b, isi_0i, isi_0s, isi_0t, isi_0l, isi_1n, isi_1b, isi_1i, isi_1s, isi_1t, isi_1l, isi_2n, isi_2b, isi_2i, isi_2s, isi_2t, isi_2l, isi_3n, isi_3b, isi_3i, isi_3s, isi_3t, isi_3l, isi_4n, isi_4b, isi_4i, isi_4s, isi_4t, isi_4l, bi_lenL, bi_lenT, bi_lenC, bi_lenS, bi_int, bi_abs, bi_listL, bi_listT, bi_tupL, bi_tupT, bi_minN, bi_maxN, mtD, intBits_pow, bor_nat, band_nat, band_not, List.any_nil, List.any_cons, List.all_nil, List.all_cons, List.contains_nil, List.elem_nil, List.idxOf?_cons, List.idxOf?_nil, beq_self_eq_true, List.getElem?_cons_zero, List.getElem?_cons_succ, List.set_cons_zero, List.set_cons_succ, List.length_cons, List.length_nil, List.length_set, List.map_cons, List.map_nil, List.replicate, List.nil_append, List.cons_append, List.headD_cons, List.getD_cons_zero, List.getD_cons_succ, Int.toNat_natCast, Nat.reduceAdd, Nat.reduceSub, Nat.reduceLT, Nat.reduceLeDiff, Nat.reduceEqDiff, Nat.reduceBEq, decide_true, decide_false, Bool.and_true, Bool.true_and, Bool.and_false, Bool.false_and, Bool.or_true, Bool.true_or, Bool.or_false, Bool.false_or, Bool.not_false, Bool.not_true, Bool.and_self, if_true, if_false, reduceIte, ite_true, ite_false, ite_self, Bool.false_eq_true, Nat.zero_lt_succ, Option.bind_some, Option.map_some, Option.bind_none, Option.map_none])
variable {B : Tb} {l : Nat}
mutual
/-- plain data -/
def pd : D → Bool
  | .non => true
  | .bl _ => true
  | .int _ => true
  | .str _ => true
  | .tup xs => pdL xs
  | .lst xs => pdL xs
  | _ => false
def pdL : List D → Bool
  | [] => true
  | d :: ds => pd d && pdL ds
end
mutual
def nodes : D → Nat
  | .tup xs => 1 + nodesL xs
  | .lst xs => 1 + nodesL xs
  | _ => 1
def nodesL : List D → Nat
  | [] => 0
  | d :: ds => nodes d + nodesL ds
end
theorem pdL_all : ∀ ds : List D, pdL ds = true ↔ ∀ d ∈ ds, pd d = true
  | [] => by simp [pdL]
  | d :: ds => by simp [pdL, pdL_all ds]
theorem nodesL_app : ∀ a b : List D, nodesL (a ++ b) = nodesL a + nodesL b
  | [], b => by simp [nodesL]
  | d :: ds, b => by simp [nodesL, nodesL_app ds b]; omega
theorem nodes_pos (d : D) : 1 ≤ nodes d := by cases d <;> simp [nodes]
theorem nodesL_len : ∀ ds : List D, ds.length ≤ nodesL ds
  | [] => by simp [nodesL]
  | d :: ds => by have := nodesL_len ds; have := nodes_pos d; simp [nodesL]; omega
theorem nodes_map {α : Type} {e : α → D} {m : Nat} : ∀ {xs : List α}, (∀ x ∈ xs, nodes (e x) ≤ m) → nodesL (xs.map e) ≤ m * xs.length
  | [], _ => by simp [nodesL]
  | x :: xs, h => by
    have h1 := h x List.mem_cons_self
    have h2 := nodes_map (xs := xs) fun y hy => h y (List.mem_cons_of_mem _ hy)
    simp only [List.map_cons, nodesL, List.length_cons, Nat.mul_add]
    omega
theorem pd_map {α : Type} {e : α → D} {xs : List α} (h : ∀ x ∈ xs, pd (e x) = true) : pdL (xs.map e) = true := by
  rw [pdL_all]
  intro d hd
  obtain ⟨x, hx, rfl⟩ := List.mem_map.mp hd
  exact h x hx
abbrev dD (d : D) : D := .tup [d, d]
theorem take_snoc {ds : List D} {k : Nat} (h : k < ds.length) : ds.take k ++ [ds.getD k .non] = ds.take (k + 1) := by
  rw [List.getD_eq_getElem?_getD, List.getElem?_eq_getElem h, List.take_add_one, List.getElem?_eq_getElem h]; rfl
theorem law_same_eq [h : C_law_same B] (hl : 1 ≤ l) {d : D} (hp : pd d = true) (hn : nodes d ≤ 900000) : callAt B l 24 0 [d, d] = .ok (.bl true, 9, d) := by
  refine call_eq h.d_law_same hl rfl ?_
  unfold b_law_same
  walk_at "ev"
  have e6 : ∀ ev : Ev, ∀ r, evE ev (.bin .pow (.int 10) (.int 6)) r = .ok (dN 1000000, 9) := fun ev r => by
    rw [x_bin, x_int, rb_ok, x_int, rb_ok, o_pow (by omega) (by omega)]; rfl
  have w0 : ∀ (k2 : Nat), k2 = 1 → wp (fun o => fend 0 [d, d] o = .ok (.bl true, 9, d)) (Oc.sq (B.ev (callAt B (l - 1)) []) (evS (B.ev (callAt B (l - 1)) []) (.for (.nm 3) (.rng (.int 0) (.bin .pow (.int 10) (.int 6))) (match b_law_same with | .cons _ (.cons (.for _ _ b) _) => b | _ => .nil)) ⟨[some d, some d, some (.lst [dD d]), none, none, none, none, none], [0, 0, k2, 0, 0, 0, 0, 0]⟩) (.cons (.ret (.bl false)) .nil)) := by
    intro k2 hk2
    subst hk2
    unfold b_law_same
    refine wp_rng0 1000000 9 (fun pre post s => ∃ (zs : List D) (j3 j4 j5 j6 j7 : Option D) (k6 : Nat), s = ⟨[some d, some d, some (dL dD zs), j3, j4, j5, j6, j7], [0, 0, 1, 0, 0, 0, k6, 0]⟩ ∧ pdL zs = true ∧ nodesL zs + pre.length ≤ 900000) ?h1 (by omega) ?h0 ?_ ?_
    case h1 => exact e6 _ _
    case h0 => exact ⟨[d], _, _, _, _, _, _, rfl, by simp [pdL, hp], by simp [nodesL]; omega⟩
    · intro pre k post s hx hI
      obtain ⟨zs, j3, j4, j5, j6, j7, k6, hs, q1, q2⟩ := hI
      subst hs
      rcases List.eq_nil_or_concat zs with rfl | ⟨ys, z, rfl⟩
      · walk_at "ev"
        refine ⟨?_⟩
        exact fend_rt
      · rw [List.concat_eq_append] at q1 q2 ⊢
        have hz := (pdL_all _).mp q1
        have hzp : pd z = true := hz z (by simp)
        have hys : pdL ys = true := (pdL_all _).mpr fun y hy => hz y (by simp [hy])
        rw [nodesL_app] at q2
        have hzn : nodesL [z] = nodes z := by simp [nodesL]
        rw [hzn] at q2
        have hyl := nodesL_len ys
        have g1 : (ys.map dD ++ [dD z])[ys.length + 1 - 1]? = some (dD z) := by simp
        have g2 : (ys.map dD ++ [dD z]).dropLast = ys.map dD := by simp
        have g3 : decide (((ys.length + 1 : Nat) : Int) = 0) = false := decide_eq_false (by omega)
        unfold dL
        walk_at "ev"
        rw [g3, if_neg (by simp), g1, g2]
        have fin1 : nodes z = 1 → nodesL ys + (pre.length + 1) ≤ 900000 := fun e => by omega
        have inner : ∀ (ds : List D) (zz : D) (P : Oc → Prop) (k6 : Nat), pdL ds = true → nodesL ys + nodesL ds + pre.length < 900000 → (∀ i : Nat, i < ds.length → ixD zz (dN i) = .ok (ds.getD i .non, 0)) → biD .len [zz] = .ok (.int ds.length, 9) →
            (∀ j7 : Option D, P (.nx ⟨[some d, some d, some (dL dD (ys ++ ds)), some (dN k), some zz, some zz, some (.bl true), j7], [0, 0, 1, 0, 0, 0, k6, 0]⟩)) →
            wp P (Oc.sq (B.ev (callAt B (l - 1)) []) (evS (B.ev (callAt B (l - 1)) []) (.for (.nm 7) (.rng (.int 0) (.bi .len (.cons (.var 5) .nil))) (.cons (.app (.v 2) (.tup (.cons (.idx (.var 4) (.var 7)) (.cons (.idx (.var 5) (.var 7)) .nil)))) .nil)) ⟨[some d, some d, some (dL dD ys), some (dN k), some zz, some zz, some (.bl true), j7], [0, 0, 1, 0, 0, 0, k6, 0]⟩) .nil) := by
          intro ds zz P k6 hd hb hix hln hend
          have hdl := nodesL_len ds
          refine wp_rng0 ds.length 9 (fun pre2 post2 s => ∃ (j7 : Option D), s = ⟨[some d, some d, some (dL dD (ys ++ ds.take pre2.length)), some (dN k), some zz, some zz, some (.bl true), j7], [0, 0, 1, 0, 0, 0, k6, 0]⟩) ?h1 (by omega) ?h0 ?_ ?_
          case h1 => walk_at "ev"; rw [hln]
          case h0 => exact ⟨j7, by simp⟩
          · intro pre2 x post2 s hx2 hI
            obtain ⟨j7, hs⟩ := hI
            subst hs
            have hk2 := at_range hx2
            have hix2 := hix x hk2.2
            have hlen : ys.length + (ds.take pre2.length).length ≤ 1000000 := by rw [List.length_take]; omega
            walk_at "ev"
            rw [hix2]
            walk_at "ev"
            have hz9 : cleanN 9 (dD (ds.getD x .non)) = true ∨ cleanN 9 (dD (ds.getD x .non)) = false := by cases cleanN 9 (dD (ds.getD x .non)) <;> simp
            refine ⟨some (dN x), ?_⟩
            rw [← List.map_append, map_snoc (e := dD), List.append_assoc, hk2.1, take_snoc hk2.2]
          · intro s hI
            obtain ⟨j7, hs⟩ := hI
            subst hs
            rw [List.length_range, List.take_length]
            walk_at "ev"
            exact ⟨hend j7⟩
        cases z with
        | non => walk_at "ev"; exact ⟨ys, _, _, _, _, _, _, rfl, hys, fin1 rfl⟩
        | bl b => cases b <;> (walk_at "ev"; exact ⟨ys, _, _, _, _, _, _, rfl, hys, fin1 rfl⟩)
        | int i => walk_at "ev"; exact ⟨ys, _, _, _, _, _, _, rfl, hys, fin1 rfl⟩
        | str x => walk_at "ev"; exact ⟨ys, _, _, _, _, _, _, rfl, hys, fin1 rfl⟩
        | tup ds =>
          have hdp : pdL ds = true := by simpa [pd] using hzp
          have hzn2 : nodes (.tup ds) = 1 + nodesL ds := by rw [nodes]
          rw [hzn2] at q2
          have hdl := nodesL_len ds
          walk_at "ev"
          refine wp_sq (inner ds (.tup ds) _ 9 hdp (by omega) (fun i hi => by rw [ix_dt (by omega), Int.toNat_natCast]) bi_lenT fun j7' => ?_)
          show wp _ (evSs _ .nil _)
          walk_at "ev"
          refine ⟨ys ++ ds, _, _, _, _, _, _, rfl, (pdL_all _).mpr fun y hy => ?_, by rw [nodesL_app]; omega⟩
          rcases List.mem_append.mp hy with hy | hy
          · exact (pdL_all _).mp hys y hy
          · exact (pdL_all _).mp hdp y hy
        | lst ds =>
          have hdp : pdL ds = true := by simpa [pd] using hzp
          have hzn2 : nodes (.lst ds) = 1 + nodesL ds := by rw [nodes]
          rw [hzn2] at q2
          have hdl := nodesL_len ds
          walk_at "ev"
          refine wp_sq (inner ds (.lst ds) _ 9 hdp (by omega) (fun i hi => by rw [ix_dl (by omega), Int.toNat_natCast]) bi_lenL fun j7' => ?_)
          show wp _ (evSs _ .nil _)
          walk_at "ev"
          refine ⟨ys ++ ds, _, _, _, _, _, _, rfl, (pdL_all _).mpr fun y hy => ?_, by rw [nodesL_app]; omega⟩
          rcases List.mem_append.mp hy with hy | hy
          · exact (pdL_all _).mp hys y hy
          · exact (pdL_all _).mp hdp y hy
        | scr _ => simp [pd] at hzp
        | dct _ _ _ => simp [pd] at hzp
        | obj _ _ _ => simp [pd] at hzp
        | own _ _ _ => simp [pd] at hzp
    · intro s hI
      obtain ⟨zs, j3, j4, j5, j6, j7, k6, hs, q1, q2⟩ := hI
      rw [List.length_range] at q2
      omega
  exact w0 1 rfl
end Hc
set_option Elab.async false
set_option linter.all false
set_option maxRecDepth 100000
set_option maxHeartbeats 4000000
set_option exponentiation.threshold 2000
/-! Logs: words, tops, last calls. -/
namespace Hc
open PySem PySem.Spec PyProof.Rows L2 Bd
local macro_rules | `(tactic| walk_at "ev") => `(tactic| simp -failIfUnchanged (disch := first | assumption | omega | (show nv _ = true; with_unfolding_all rfl) | (show nn _ = true; with_unfolding_all rfl) | (show scal _ = true; with_unfolding_all rfl) | (show ∀ _, scal _ = true; intro _; with_unfolding_all rfl) | (show ∀ _, cleanN _ _ = true; intro _; with_unfolding_all rfl) | (simp only [List.length_cons, List.length_nil, List.length_append, List.length_map, List.length_take, List.length_drop]; omega)) only [ys_nilE, ys_consE, sq_nx, sq_rt, sq_bk, sq_ct, sq_bad, rs_and, rs_or, sq_ite, oc_ite, rb_ite, oc_okk, oc_bad, rb_ok, rb_bad, of_some, x_varE, x_non, x_bl, x_int, x_str, x_bin, x_neg, x_inv, x_nt, x_cmp, x_chain, x_and, x_or, x_ite, x_tup, x_lst, x_lsnE, x_emp, x_dnew, x_idx, x_callE, x_bi, x_mth, x_rng, x_lrng, x_enm, x_rvd, x_fld, x_mcallE, x_pget, x_cv, x_make, xs_nilE, xs_consE, xn_nilE, xn_consE, and_nil, and_cons, or_nil, or_cons, x_slc, sb_nop, y_setE, y_setTE, y_augE, y_appE, y_extE, y_popE, y_revE, y_stoE, y_staE, y_sflE, y_sfaE, y_mscE, y_ifcE, y_dropE, y_tapE, y_retV, y_retE, List.length_map, List.length_append, lt_lim, lt_limP, fldx_obj, fldx_own, le_lim, cast_pred, List.map_append, y_retnE, y_iteE, y_brkE, y_contE, y_passE, hold_call, hold_keep, hold_meth, hold_init, hold_has, hold_prop, hold_cval, ev_call, ev_keep, ev_meth, ev_init, ev_has, ev_prop, ev_cval, sg0, use, getP, putP, bindS, bt_nm, bt_tt, bt_tl, bts_nil, bts_cons, o_add, o_sub, o_mulr, o_mull, o_fdiv, o_mod, o_pow, o_shl1, o_shr, o_band, o_bor, o_addS, o_addL, o_addT, o_mulL1, c_eqI, c_neI, c_ltI, c_leI, c_gtI, c_geI, c_eqS, c_neS, c_eqW, cls_obj, cls_own, c_isN, c_isnN, c_isB, c_in, c_nin, inN, inNT, ix_lst, ix_tup, ix_20, ix_21, at_20, at_21, in_20, in_21, cast_0, cast_1, ix_t0, ix_t1, ix_t2, ix_scr, it_lst, it_tup, boolR, isFlat, clean, cl_int, cl_str, cl_non, cl_bl, cl_scr, cl_lst, cl_dW, cl_0l, cl_0o, cl_0b, cl_0d, cl_tup, letters_eq, empty_eq, o_addSS, ix_str, sl_strL, sl_strR, sb_var, sb_int, sb_bin, sb_bi, sb_neg, cn_nop, cn_cmp, cn_call, cn_nt, cn_and, cn_or, bnd_int, List.contains_cons, cl_nil, sc_map, sc_dW, cl_sc, scal, scalL, fit, mscE, lend, rootP, backS, tgs, tgsL, Sg.frz, zero, vars, varsL, so_N, so_P, isi_0n, isi_0b, isi_0i, isi_0s, isi_0t, isi_0l, isi_1n, isi_1b, isi_1i, isi_1s, isi_1t, isi_1l, isi_2n, isi_2b, isi_2i, isi_2s, isi_2t, isi_2l, isi_3n, isi_3b, isi_3i, isi_3s, isi_3t, isi_3l, isi_4n, isi_4b, isi_4i, isi_4s, isi_4t, isi_4l, bi_lenL, bi_lenT, bi_lenC, bi_lenS, bi_int, bi_abs, bi_listL, bi_listT, bi_tupL, bi_tupT, bi_minN, bi_maxN, mtD, intBits_pow, bor_nat, band_nat, band_not, List.any_nil, List.any_cons, List.all_nil, List.all_cons, List.contains_nil, List.elem_nil, List.idxOf?_cons, List.idxOf?_nil, beq_self_eq_true, List.getElem?_cons_zero, List.getElem?_cons_succ, List.set_cons_zero, List.set_cons_succ, List.length_cons, List.length_nil, List.length_set, List.map_cons, List.map_nil, List.replicate, List.nil_append, List.cons_append, List.headD_cons, List.getD_cons_zero, List.getD_cons_succ, Int.toNat_natCast, Nat.reduceAdd, Nat.reduceSub, Nat.reduceLT, Nat.reduceLeDiff, Nat.reduceEqDiff, Nat.reduceBEq, decide_true, decide_false, Bool.and_true, Bool.true_and, Bool.and_false, Bool.false_and, Bool.or_true, Bool.true_or, Bool.or_false, Bool.false_or, Bool.not_false, Bool.not_true, Bool.and_self, if_true, if_false, reduceIte, ite_true, ite_false, ite_self, Bool.false_eq_true, Nat.zero_lt_succ, Option.bind_some, Option.map_some, Option.bind_none, Option.map_none])
variable {B : Tb} {l : Nat}
def lastIn (log : List (Nat × Str)) (ins : List Nat) : Option (Nat × Str) := log.reverse.find? fun c => decide (c.1 ∈ ins)
def wordOf (log : List (Nat × Str)) (ins : List Nat) : Option Str := (lastIn log ins).map (·.2)
def topOf (log : List (Nat × Str)) (ins : List Nat) : Option Nat := (lastIn log ins).map (·.1)
def dO : Option Nat → D
  | none => .non
  | some x => dN x
def nO {α : Type} : Option α → Nat
  | none => 9
  | some _ => 0
theorem lastIn_snoc {log : List (Nat × Str)} {c : Nat × Str} {ins : List Nat} : lastIn (log ++ [c]) ins = if c.1 ∈ ins then some c else lastIn log ins := by
  unfold lastIn
  rw [List.reverse_append, List.reverse_singleton, List.singleton_append, List.find?_cons]
  by_cases h : c.1 ∈ ins <;> simp [h]
theorem wordOf_snoc {log : List (Nat × Str)} {c : Nat × Str} {ins : List Nat} : wordOf (log ++ [c]) ins = if c.1 ∈ ins then some c.2 else wordOf log ins := by
  unfold wordOf; rw [lastIn_snoc]; split <;> rfl
theorem find_pre {pre post : List (Nat × Str)} {c : Nat × Str} {p : Nat × Str → Bool} (h : ∀ x ∈ pre, p x = false) (hc : p c = true) : (pre ++ c :: post).find? p = some c := by
  rw [List.find?_append, List.find?_eq_none.mpr fun x hx => by rw [h x hx]; simp, List.find?_cons]
  simp [hc]
theorem word_of_eq [h : C_word_of B] (hl : 1 ≤ l) {log : List (Nat × Str)} {d : D} {ins : List Nat} (S : SeqN d ins) : callAt B l 46 0 [dL dC log, d] = .ok (dW (wordOf log ins), nO (wordOf log ins), dL dC log) := by
  refine call_eq h.d_word_of hl rfl ?_
  unfold b_word_of
  walk_at "ev"
  refine wp_src (dL dC log.reverse) 0 dC log.reverse (fun pre post s => ∃ (j2 j3 : Option D), s = ⟨[some (dL dC log), some d, j2, j3], [0, 0, 0, 0]⟩ ∧ ∀ c ∈ pre, decide (c.1 ∈ ins) = false) ?h1 ?h2 ?h3 ?h0 ?_ ?_
  case h1 => walk_at "ev"; simp only [dL, List.map_reverse]
  case h2 => intro i hi; simp only [vars, List.mem_cons, List.not_mem_nil, or_false] at hi; subst hi; exact .inl rfl
  case h3 => rfl
  case h0 => exact ⟨_, _, rfl, fun c hc => absurd hc (by simp)⟩
  · intro pre c post s hx hI
    obtain ⟨j2, j3, hs, q1⟩ := hI
    subst hs
    walk_at "ev"
    rw [S.isin]
    walk_at "ev"
    by_cases hc : c.1 ∈ ins
    · have e : decide (c.1 ∈ ins) = true := decide_eq_true hc
      rw [e]
      walk_at "ev"
      have : lastIn log ins = some c := by unfold lastIn; rw [← hx]; exact find_pre q1 e
      unfold wordOf
      rw [this]
      exact ⟨fend_rt⟩
    · have e : decide (c.1 ∈ ins) = false := decide_eq_false hc
      rw [e]
      walk_at "ev"
      refine ⟨_, _, rfl, fun x hx => ?_⟩
      rcases List.mem_append.mp hx with hx | hx
      · exact q1 x hx
      · rw [List.mem_singleton] at hx; subst hx; exact e
  · intro s hI
    obtain ⟨j2, j3, hs, q1⟩ := hI
    subst hs
    walk_at "ev"
    have : lastIn log ins = none := by unfold lastIn; exact List.find?_eq_none.mpr fun x hx => by rw [q1 x hx]; simp
    unfold wordOf
    rw [this]
    exact ⟨fend_rt⟩
theorem top_room_eq [h : C_top_room B] (hl : 1 ≤ l) {log : List (Nat × Str)} {d : D} {ins : List Nat} (S : SeqN d ins) : callAt B l 45 0 [dL dC log, d] = .ok (dO (topOf log ins), nO (topOf log ins), dL dC log) := by
  refine call_eq h.d_top_room hl rfl ?_
  unfold b_top_room
  walk_at "ev"
  refine wp_src (dL dC log.reverse) 0 dC log.reverse (fun pre post s => ∃ (j2 j3 : Option D), s = ⟨[some (dL dC log), some d, j2, j3], [0, 0, 0, 0]⟩ ∧ ∀ c ∈ pre, decide (c.1 ∈ ins) = false) ?h1 ?h2 ?h3 ?h0 ?_ ?_
  case h1 => walk_at "ev"; simp only [dL, List.map_reverse]
  case h2 => intro i hi; simp only [vars, List.mem_cons, List.not_mem_nil, or_false] at hi; subst hi; exact .inl rfl
  case h3 => rfl
  case h0 => exact ⟨_, _, rfl, fun c hc => absurd hc (by simp)⟩
  · intro pre c post s hx hI
    obtain ⟨j2, j3, hs, q1⟩ := hI
    subst hs
    walk_at "ev"
    rw [S.isin]
    walk_at "ev"
    by_cases hc : c.1 ∈ ins
    · have e : decide (c.1 ∈ ins) = true := decide_eq_true hc
      rw [e]
      walk_at "ev"
      have : lastIn log ins = some c := by unfold lastIn; rw [← hx]; exact find_pre q1 e
      unfold topOf
      rw [this]
      exact ⟨fend_rt⟩
    · have e : decide (c.1 ∈ ins) = false := decide_eq_false hc
      rw [e]
      walk_at "ev"
      refine ⟨_, _, rfl, fun x hx => ?_⟩
      rcases List.mem_append.mp hx with hx | hx
      · exact q1 x hx
      · rw [List.mem_singleton] at hx; subst hx; exact e
  · intro s hI
    obtain ⟨j2, j3, hs, q1⟩ := hI
    subst hs
    walk_at "ev"
    have : lastIn log ins = none := by unfold lastIn; exact List.find?_eq_none.mpr fun x hx => by rw [q1 x hx]; simp
    unfold topOf
    rw [this]
    exact ⟨fend_rt⟩
theorem law_word_of_eq [h : C_law_word_of B] (hl : 1 ≤ l) {log : List (Nat × Str)} {d : D} {ins : List Nat} (S : SeqN d ins) : callAt B l 58 0 [dL dC log, d] = .ok (dW (wordOf log ins), nO (wordOf log ins), dL dC log) := by
  refine call_eq h.d_law_word_of hl rfl ?_
  unfold b_law_word_of
  walk_at "ev"
  refine wp_var (dL dC log) dC log (fun pre post s => ∃ (j3 : Option D), s = ⟨[some (dL dC log), some d, some (dW (wordOf pre ins)), j3], [0, 0, nO (wordOf pre ins), 0]⟩) ?h1 ?h2 ?h3 ?h0 ?_ ?_
  case h1 => rfl
  case h2 => rfl
  case h3 => rfl
  case h0 => exact ⟨_, rfl⟩
  · intro pre c post s hx hI
    obtain ⟨j3, hs⟩ := hI
    subst hs
    walk_at "ev"
    rw [S.isin]
    walk_at "ev"
    by_cases hc : c.1 ∈ ins
    · have e : decide (c.1 ∈ ins) = true := decide_eq_true hc
      rw [e]
      walk_at "ev"
      refine ⟨some (dC c), ?_⟩
      rw [wordOf_snoc, if_pos hc]; rfl
    · have e : decide (c.1 ∈ ins) = false := decide_eq_false hc
      rw [e]
      walk_at "ev"
      refine ⟨some (dC c), ?_⟩
      rw [wordOf_snoc, if_neg hc]
  · intro s hI
    obtain ⟨j3, hs⟩ := hI
    subst hs
    walk_at "ev"
    exact ⟨fend_rt⟩
/-! last calls -/
def lastR : List (Nat × Str) → List Nat → List (Nat × Str)
  | [], _ => []
  | c :: cs, seen => if c.1 ∈ seen then lastR cs seen else c :: lastR cs (seen ++ [c.1])
def lastCalls (log : List (Nat × Str)) : List (Nat × Str) := (lastR log.reverse []).reverse
theorem lastR_find {q : Nat → Bool} : ∀ {cs : List (Nat × Str)} {seen : List Nat}, (∀ r ∈ seen, q r = false) → (lastR cs seen).find? (fun c => q c.1) = cs.find? fun c => q c.1
  | [], _, _ => rfl
  | c :: cs, seen, h => by
    rw [lastR]
    by_cases hc : c.1 ∈ seen
    · rw [if_pos hc, lastR_find h, List.find?_cons, h _ hc]
    · rw [if_neg hc, List.find?_cons, List.find?_cons]
      by_cases hq : q c.1 = true
      · rw [hq]
      · rw [Bool.not_eq_true] at hq
        rw [hq]
        exact lastR_find fun r hr => by
          rcases List.mem_append.mp hr with hr | hr
          · exact h r hr
          · rw [List.mem_singleton] at hr; subst hr; exact hq
theorem lastIn_last {log : List (Nat × Str)} {ins : List Nat} : lastIn (lastCalls log) ins = lastIn log ins := by
  unfold lastIn lastCalls
  rw [List.reverse_reverse]
  exact lastR_find (q := fun r => decide (r ∈ ins)) fun r hr => absurd hr (by simp)
theorem wordOf_last {log : List (Nat × Str)} {ins : List Nat} : wordOf (lastCalls log) ins = wordOf log ins := by unfold wordOf; rw [lastIn_last]
theorem topOf_last {log : List (Nat × Str)} {ins : List Nat} : topOf (lastCalls log) ins = topOf log ins := by unfold topOf; rw [lastIn_last]
abbrev dSet (ks : List Nat) : D := .dct false (ks.map dN) (ks.map fun _ => .bl true)
theorem ki_dN {a : Nat} : ∀ {ks : List Nat}, (ki (.inl (a : Int)) (ks.map dN)).isSome = decide (a ∈ ks)
  | [] => by simp [ki]
  | k :: ks => by
    rw [List.map_cons, ki]
    by_cases h : k = a
    · subst h; simp [keyOf]
    · have h1 : ¬ (k : Int) = a := by omega
      have h2 : ¬ a = k := fun e => h e.symm
      have h3 : ¬ keyOf (dN k) = some (Sum.inl (a : Int)) := by
        simp only [keyOf, Option.some.injEq, Sum.inl.injEq]; exact h1
      rw [if_neg h3, Option.isSome_map, ki_dN]
      simp [h2]
theorem in_dSet {a : Nat} {ks : List Nat} : inD (dN a) (dSet ks) = .ok (decide (a ∈ ks)) := by
  rw [← ki_dN (ks := ks)]; rfl
theorem put_dSet {a : Nat} {ks : List Nat} (h : a ∉ ks) : (D.dct false (putD (.inl (a : Int)) (.bl true) (ks.map dN) (ks.map fun _ => .bl true)).1 (putD (.inl (a : Int)) (.bl true) (ks.map dN) (ks.map fun _ => .bl true)).2) = dSet (ks ++ [a]) := by
  unfold putD
  rw [ki_dN]
  simp [h, keyD]
theorem last_calls_eq [h : C_last_calls B] (hl : 1 ≤ l) {log : List (Nat × Str)} (hn : log.length ≤ 100000) : callAt B l 44 0 [dL dC log] = .ok (dL dC (lastCalls log), 1, dL dC log) := by
  refine call_eq h.d_last_calls hl rfl ?_
  unfold b_last_calls
  walk_at "ev"
  refine wp_src (dL dC log.reverse) 0 dC log.reverse (fun pre post s => ∃ (fo : List (Nat × Str)) (ks : List Nat) (j3 j4 : Option D), s = ⟨[some (dL dC log), some (dL dC fo), some (dSet ks), j3, j4], [0, 1, 1, 0, 0]⟩ ∧ fo ++ lastR post ks = lastR log.reverse [] ∧ fo.length ≤ pre.length ∧ ks.length ≤ pre.length) ?h1 ?h2 ?h3 ?h0 ?_ ?_
  case h1 => walk_at "ev"; simp only [dL, List.map_reverse]
  case h2 => intro i hi; simp only [vars, List.mem_cons, List.not_mem_nil, or_false] at hi; subst hi; exact .inl rfl
  case h3 => rfl
  case h0 => exact ⟨[], [], _, _, rfl, rfl, Nat.le_refl _, Nat.le_refl _⟩
  · intro pre c post s hx hI
    obtain ⟨fo, ks, j3, j4, hs, q1, q2, q3⟩ := hI
    subst hs
    have hpl : pre.length ≤ 100000 := by
      have := congrArg List.length hx
      rw [List.length_reverse, List.length_append] at this; omega
    rw [lastR] at q1
    walk_at "ev"
    rw [in_dSet]
    walk_at "ev"
    by_cases hc : c.1 ∈ ks
    · have e : decide (c.1 ∈ ks) = true := decide_eq_true hc
      rw [e]
      rw [if_pos hc] at q1
      walk_at "ev"
      exact ⟨fo, ks, _, _, rfl, q1, by omega, by omega⟩
    · have e : decide (c.1 ∈ ks) = false := decide_eq_false hc
      rw [e]
      rw [if_neg hc] at q1
      walk_at "ev"
      simp only [keyOf]
      walk_at "ev"
      rw [put_dSet hc]
      walk_at "ev"
      rw [map_snoc (e := dC) (x := c)]
      exact ⟨fo ++ [c], ks ++ [c.1], _, _, rfl, by rw [← q1, List.append_assoc]; rfl, by simp; omega, by simp; omega⟩
  · intro s hI
    obtain ⟨fo, ks, j3, j4, hs, q1, q2, q3⟩ := hI
    subst hs
    rw [lastR, List.append_nil] at q1
    subst q1
    walk_at "ev"
    rw [← List.map_reverse]
    exact ⟨fend_rt⟩
end Hc
set_option Elab.async false
set_option linter.all false
set_option maxRecDepth 100000
set_option maxHeartbeats 4000000
set_option exponentiation.threshold 2000
/-! Houses. -/
namespace Hc
open PySem PySem.Spec PyProof.Rows L2 Bd
local macro_rules | `(tactic| walk_at "ev") => `(tactic| simp -failIfUnchanged (disch := first | assumption | omega | (show nv _ = true; with_unfolding_all rfl) | (show nn _ = true; with_unfolding_all rfl) | (show scal _ = true; with_unfolding_all rfl) | (show ∀ _, scal _ = true; intro _; with_unfolding_all rfl) | (show ∀ _, cleanN _ _ = true; intro _; with_unfolding_all rfl) | (simp only [List.length_cons, List.length_nil, List.length_append, List.length_map, List.length_take, List.length_drop]; omega)) only [ys_nilE, ys_consE, sq_nx, sq_rt, sq_bk, sq_ct, sq_bad, rs_and, rs_or, sq_ite, oc_ite, rb_ite, oc_okk, oc_bad, rb_ok, rb_bad, of_some, x_varE, x_non, x_bl, x_int, x_str, x_bin, x_neg, x_inv, x_nt, x_cmp, x_chain, x_and, x_or, x_ite, x_tup, x_lst, x_lsnE, x_emp, x_dnew, x_idx, x_callE, x_bi, x_mth, x_rng, x_lrng, x_enm, x_rvd, x_fld, x_mcallE, x_pget, x_cv, x_make, xs_nilE, xs_consE, xn_nilE, xn_consE, and_nil, and_cons, or_nil, or_cons, x_slc, sb_nop, y_setE, y_setTE, y_augE, y_appE, y_extE, y_popE, y_revE, y_stoE, y_staE, y_sflE, y_sfaE, y_mscE, y_ifcE, y_dropE, y_tapE, y_retV, y_retE, List.length_map, List.length_append, lt_lim, lt_limP, fldx_obj, fldx_own, le_lim, cast_pred, List.map_append, y_retnE, y_iteE, y_brkE, y_contE, y_passE, hold_call, hold_keep, hold_meth, hold_init, hold_has, hold_prop, hold_cval, ev_call, ev_keep, ev_meth, ev_init, ev_has, ev_prop, ev_cval, sg0, use, getP, putP, bindS, bt_nm, bt_tt, bt_tl, bts_nil, bts_cons, o_add, o_sub, o_mulr, o_mull, o_fdiv, o_mod, o_pow, o_shl1, o_shr, o_band, o_bor, o_addS, o_addL, o_addT, o_mulL1, c_eqI, c_neI, c_ltI, c_leI, c_gtI, c_geI, c_eqS, c_neS, c_eqW, cls_obj, cls_own, c_isN, c_isnN, c_isB, c_in, c_nin, inN, inNT, ix_lst, ix_tup, ix_20, ix_21, at_20, at_21, in_20, in_21, cast_0, cast_1, ix_t0, ix_t1, ix_t2, ix_scr, it_lst, it_tup, boolR, isFlat, clean, cl_int, cl_str, cl_non, cl_bl, cl_scr, cl_lst, cl_dW, cl_0l, cl_0o, cl_0b, cl_0d, cl_tup, letters_eq, empty_eq, o_addSS, ix_str, sl_strL, sl_strR, sb_var, sb_int, sb_bin, sb_bi, sb_neg, cn_nop, cn_cmp, cn_call, cn_nt, cn_and, cn_or, bnd_int, List.contains_cons, cl_nil, sc_map, sc_dW, cl_sc, scal, scalL, fit, mscE, lend, rootP, backS, tgs, tgsL, Sg.frz, zero, vars, varsL, so_N, so_P, isi_0n, isi_0b, isi_0i, isi_0s, isi_0t, isi_0l, isi_1n, isi_1b, isi_1i, isi_1s, isi_1t, isi_1l, isi_2n, isi_2b, isi_2i, isi_2s, isi_2t, isi_2l, isi_3n, isi_3b, isi_3i, isi_3s, isi_3t, isi_3l, isi_4n, isi_4b, isi_4i, isi_4s, isi_4t, isi_4l, bi_lenL, bi_lenT, bi_lenC, bi_lenS, bi_int, bi_abs, bi_listL, bi_listT, bi_tupL, bi_tupT, bi_minN, bi_maxN, mtD, intBits_pow, bor_nat, band_nat, band_not, List.any_nil, List.any_cons, List.all_nil, List.all_cons, List.contains_nil, List.elem_nil, List.idxOf?_cons, List.idxOf?_nil, beq_self_eq_true, List.getElem?_cons_zero, List.getElem?_cons_succ, List.set_cons_zero, List.set_cons_succ, List.length_cons, List.length_nil, List.length_set, List.map_cons, List.map_nil, List.replicate, List.nil_append, List.cons_append, List.headD_cons, List.getD_cons_zero, List.getD_cons_succ, Int.toNat_natCast, Nat.reduceAdd, Nat.reduceSub, Nat.reduceLT, Nat.reduceLeDiff, Nat.reduceEqDiff, Nat.reduceBEq, decide_true, decide_false, Bool.and_true, Bool.true_and, Bool.and_false, Bool.false_and, Bool.or_true, Bool.true_or, Bool.or_false, Bool.false_or, Bool.not_false, Bool.not_true, Bool.and_self, if_true, if_false, reduceIte, ite_true, ite_false, ite_self, Bool.false_eq_true, Nat.zero_lt_succ, Option.bind_some, Option.map_some, Option.bind_none, Option.map_none])
variable {B : Tb} {l : Nat}
theorem check_rooms_eq [h : C_check_rooms B] [H : C_House___init__ B] (hl : 1 ≤ l) {n : Nat} (hn : 1 ≤ n ∧ n ≤ 12) : callAt B l 5 0 [dN n] = .ok (.non, 9, dN n) := by
  refine call_eq h.d_check_rooms hl rfl ?_
  unfold b_check_rooms
  have e1 : decide ((1 : Int) ≤ (n : Int)) = true := decide_eq_true (by omega)
  have e2 : decide ((n : Int) ≤ 12) = true := decide_eq_true (by omega)
  walk_at "ev"
  rw [H.v_House_MOST_ROOMS]
  walk_at "ev"
  rw [e1, e2]
  walk_at "ev"
  exact ⟨fend_nx⟩
/-- a house as the program holds it -/
abbrev hsD (n : Nat) (f : List Nat) (ds : List (Nat × Nat)) : D := .obj 3 [2, 3, 4] [dN n, dL dN f, dL dP ds]
structure HouseOk (n : Nat) (ds : List (Nat × Nat)) (f : List Nat) : Prop where
  n1 : 1 ≤ n
  n12 : n ≤ 12
  doors : Doors n ds
  len : f.length = n
  adj : ∀ a b, adjM f a b ↔ adjD ds a b
theorem HouseOk.sy {n : Nat} {ds : List (Nat × Nat)} {f : List Nat} (H : HouseOk n ds f) : ∀ x y, adjM f x y → adjM f y x := fun x y h => by
  rw [H.adj] at h ⊢; exact h.symm
abbrev dE (p : (Nat × Nat) × Nat) : D := .tup [dN p.2, dP p.1]
theorem enum_zip : ∀ (ds : List (Nat × Nat)) (k : Nat), enumL k (ds.map dP) = (ds.zipIdx k).map dE
  | [], _ => rfl
  | p :: ds, k => by rw [List.map_cons, enumL, enum_zip ds (k + 1)]; rfl
theorem adjM_lt {f : List Nat} {a b : Nat} (h : adjM f a b) : a < f.length := by
  apply Classical.byContradiction
  intro hc
  unfold adjM at h
  rw [List.getD_eq_getElem?_getD, List.getElem?_eq_none (by omega)] at h
  simp at h
theorem init_eq [h : C_House___init__ B] [C_check_rooms B] [C_rooms_of B] [Fu B] (hl : 2 ≤ l) {n : Nat} {ds : List (Nat × Nat)} (hn : 1 ≤ n ∧ n ≤ 12) (hd : Doors n ds) : ∃ f : List Nat, HouseOk n ds f ∧ callAt B l 34 2 [.own 3 [] [], dN n, dL dP ds] = .ok (.non, 9, .own 3 [2, 3, 4] [dN n, dL dN f, dL dP ds]) := by
  refine call_wp (Q := fun r => ∃ f : List Nat, HouseOk n ds f ∧ r = .ok (.non, 9, .own 3 [2, 3, 4] [dN n, dL dN f, dL dP ds])) h.d_House___init__ (by omega) rfl ?_
  unfold b_House___init__
  have h1 := h.h_House_rooms
  have h2 := h.h_House_joined
  have h3 := h.h_House_doors
  have hdl := hd.len hn.2
  walk_at "ev"
  rw [check_rooms_eq (by omega) hn]
  walk_at "ev"
  rw [put_new rfl]
  walk_at "ev"
  simp only [h1, h2]
  walk_at "ev"
  rw [put_new rfl]
  walk_at "ev"
  refine wp_src (.lst ((ds.zipIdx 0).map dE)) 0 dE (ds.zipIdx 0) (fun pre post s => ∃ (f : List Nat) (j3 j4 j5 : Option D), s = ⟨[some (.own 3 [2, 3] [dN n, dL dN f]), some (dN n), some (dL dP ds), j3, j4, j5], [2, 0, 0, 0, 0, 0]⟩ ∧ f.length = n ∧ ∀ a b, adjM f a b ↔ adjD (pre.map (·.1)) a b) ?h1 ?h2 ?h3 ?h0 ?_ ?_
  case h1 => rw [x_enm, x_varE]; walk_at "ev"; rw [enum_zip]
  case h2 => intro i hi; simp only [vars, List.mem_cons, List.not_mem_nil, or_false] at hi; subst hi; exact .inl rfl
  case h3 => rfl
  case h0 => exact ⟨List.replicate n 0, none, none, none, by simp only [dL, List.map_replicate]; rfl, by simp, fun a b => by unfold adjM adjD; simp [List.getD_eq_getElem?_getD, List.getElem?_replicate]; split <;> simp⟩
  · intro pre x post s hx hI
    obtain ⟨f, j3, j4, j5, hs, q1, q2⟩ := hI
    subst hs
    obtain ⟨⟨a, b⟩, i⟩ := x
    have hm : pre.map (·.1) ++ (a, b) :: post.map (·.1) = ds := by
      have := congrArg (List.map Prod.fst) hx
      rw [List.zipIdx_map_fst, List.map_append, List.map_cons] at this
      exact this
    obtain ⟨hab, hbn⟩ := hd.lt (a, b) (by rw [← hm]; simp)
    dsimp only at hab hbn
    have hnot : (a, b) ∉ pre.map (·.1) := fun hh => by
      have hnd := hd.nd
      rw [← hm, List.nodup_append] at hnd
      exact hnd.2.2 _ hh _ List.mem_cons_self rfl
    have hnot2 : (b, a) ∉ pre.map (·.1) := fun hh => by
      have := (hd.lt (b, a) (by rw [← hm]; exact List.mem_append_left _ hh)).1
      dsimp only at this; omega
    have hsmall : ∀ c, f.getD c 0 < 2 ^ 1000 := fun c => lt_pow_of_bits fun j hj => by
      have := (q2 c j).mp hj
      have hl : ∀ p ∈ pre.map (·.1), p.1 < p.2 ∧ p.2 < n := fun p hp => hd.lt p (by rw [← hm]; exact List.mem_append_left _ hp)
      rcases this with h | h
      · have := hl _ h; dsimp only at this; omega
      · have := hl _ h; dsimp only at this; omega
    have c1 : decide ((a : Int) = (b : Int)) = false := decide_eq_false (by omega)
    have c2 : decide ((0 : Int) ≤ (a : Int)) = true := decide_eq_true (by omega)
    have c3 : decide ((a : Int) < (n : Int)) = true := decide_eq_true (by omega)
    have c4 : decide ((0 : Int) ≤ (b : Int)) = true := decide_eq_true (by omega)
    have c5 : decide ((b : Int) < (n : Int)) = true := decide_eq_true (by omega)
    walk_at "ev"
    simp only [c1, c2, c3, c4, c5]
    walk_at "ev"
    rw [show f.getD a default = f.getD a 0 from rfl, rooms_of_eq (by omega) (hsmall a)]
    walk_at "ev"
    have c6 : decide (b ∈ bitsL (f.getD a 0)) = false := decide_eq_false fun hh => by
      rw [bitsL_mem] at hh
      have := (q2 a b).mp hh
      unfold adjD at this
      rcases this with h | h
      · exact hnot h
      · exact hnot2 h
    rw [c6]
    walk_at "ev"
    try simp only [h2]
    walk_at "ev"
    have i1 : ixN f.length (a : Int) = some a := by rw [ixN_ok (by omega) (by omega), Int.toNat_natCast]
    rw [i1]
    walk_at "ev"
    rw [getD_mapN (by omega)]
    walk_at "ev"
    try simp only [h2]
    walk_at "ev"
    rw [set_mapN]
    have i2 : ixN (f.set a (f.getD a 0 ||| 2 ^ b)).length (b : Int) = some b := by rw [ixN_ok (by omega) (by rw [List.length_set]; omega), Int.toNat_natCast]
    have i3 : ixN f.length (b : Int) = some b := by rw [ixN_ok (by omega) (by omega), Int.toNat_natCast]
    try simp only [h2]
    walk_at "ev"
    rw [i3]
    walk_at "ev"
    rw [getD_mapN (by rw [List.length_set]; omega)]
    walk_at "ev"
    try simp only [h2]
    walk_at "ev"
    rw [set_mapN]
    refine ⟨_, some (dN i), some (dN a), some (dN b), rfl, by rw [List.length_set, List.length_set]; exact q1, fun c d => ?_⟩
    unfold adjM adjD
    rw [getD_set (by rw [List.length_set]; omega)]
    have key := q2 c d
    unfold adjM adjD at key
    by_cases e1 : b = c
    · subst e1
      rw [if_pos rfl, Nat.testBit_or, Nat.testBit_two_pow, getD_set (by omega), if_neg (by omega)]
      simp only [Bool.or_eq_true, decide_eq_true_eq]
      rw [key]
      simp only [List.mem_append, List.mem_singleton, Prod.mk.injEq]
      grind
    · rw [if_neg e1, getD_set (by omega)]
      by_cases e2 : a = c
      · subst e2
        rw [if_pos rfl, Nat.testBit_or, Nat.testBit_two_pow]
        simp only [Bool.or_eq_true, decide_eq_true_eq]
        rw [key]
        simp only [List.mem_append, List.mem_singleton, Prod.mk.injEq]
        grind
      · rw [if_neg e2, key]
        simp only [List.mem_append, List.mem_singleton, Prod.mk.injEq]
        grind
  · intro s hI
    obtain ⟨f, j3, j4, j5, hs, q1, q2⟩ := hI
    subst hs
    rw [List.zipIdx_map_fst] at q2
    walk_at "ev"
    rw [x_comp, x_varE]
    walk_at "ev"
    rw [comp_all (n := 9) (h := fun p => dP p) (fun p hp => ⟨by
      unfold cpF
      walk_at "ev"
      have := (hd.lt p hp).1
      rw [Nat.min_eq_left (by omega), Nat.max_eq_right (by omega)], rfl⟩)]
    walk_at "ev"
    rw [hd.so]
    rw [put_new rfl]
    simp only [h3]
    walk_at "ev"
    exact ⟨f, ⟨hn.1, hn.2, hd, q1, q2⟩, rfl⟩
end Hc
set_option Elab.async false
set_option linter.all false
set_option maxRecDepth 100000
set_option maxHeartbeats 4000000
set_option exponentiation.threshold 2000
/-! What is reached in a house; views. -/
namespace Hc
open PySem PySem.Spec PyProof.Rows L2 Bd
local macro_rules | `(tactic| walk_at "ev") => `(tactic| simp -failIfUnchanged (disch := first | assumption | omega | (show nv _ = true; with_unfolding_all rfl) | (show nn _ = true; with_unfolding_all rfl) | (show scal _ = true; with_unfolding_all rfl) | (show ∀ _, scal _ = true; intro _; with_unfolding_all rfl) | (show ∀ _, cleanN _ _ = true; intro _; with_unfolding_all rfl) | (simp only [List.length_cons, List.length_nil, List.length_append, List.length_map, List.length_take, List.length_drop]; omega)) only [ys_nilE, ys_consE, sq_nx, sq_rt, sq_bk, sq_ct, sq_bad, rs_and, rs_or, sq_ite, oc_ite, rb_ite, oc_okk, oc_bad, rb_ok, rb_bad, of_some, x_varE, x_non, x_bl, x_int, x_str, x_bin, x_neg, x_inv, x_nt, x_cmp, x_chain, x_and, x_or, x_ite, x_tup, x_lst, x_lsnE, x_emp, x_dnew, x_idx, x_callE, x_bi, x_mth, x_rng, x_lrng, x_enm, x_rvd, x_fld, x_mcallE, x_pget, x_cv, x_make, xs_nilE, xs_consE, xn_nilE, xn_consE, and_nil, and_cons, or_nil, or_cons, x_slc, sb_nop, y_setE, y_setTE, y_augE, y_appE, y_extE, y_popE, y_revE, y_stoE, y_staE, y_sflE, y_sfaE, y_mscE, y_ifcE, y_dropE, y_tapE, y_retV, y_retE, List.length_map, List.length_append, lt_lim, lt_limP, fldx_obj, fldx_own, le_lim, cast_pred, List.map_append, y_retnE, y_iteE, y_brkE, y_contE, y_passE, hold_call, hold_keep, hold_meth, hold_init, hold_has, hold_prop, hold_cval, ev_call, ev_keep, ev_meth, ev_init, ev_has, ev_prop, ev_cval, sg0, use, getP, putP, bindS, bt_nm, bt_tt, bt_tl, bts_nil, bts_cons, o_add, o_sub, o_mulr, o_mull, o_fdiv, o_mod, o_pow, o_shl1, o_shr, o_band, o_bor, o_addS, o_addL, o_addT, o_mulL1, c_eqI, c_neI, c_ltI, c_leI, c_gtI, c_geI, c_eqS, c_neS, c_eqW, cls_obj, cls_own, c_isN, c_isnN, c_isB, c_in, c_nin, inN, inNT, ix_lst, ix_tup, ix_20, ix_21, at_20, at_21, in_20, in_21, cast_0, cast_1, ix_t0, ix_t1, ix_t2, ix_scr, it_lst, it_tup, boolR, isFlat, clean, cl_int, cl_str, cl_non, cl_bl, cl_scr, cl_lst, cl_dW, cl_0l, cl_0o, cl_0b, cl_0d, cl_tup, letters_eq, empty_eq, o_addSS, ix_str, sl_strL, sl_strR, sb_var, sb_int, sb_bin, sb_bi, sb_neg, cn_nop, cn_cmp, cn_call, cn_nt, cn_and, cn_or, bnd_int, List.contains_cons, cl_nil, sc_map, sc_dW, cl_sc, scal, scalL, fit, mscE, lend, rootP, backS, tgs, tgsL, Sg.frz, zero, vars, varsL, so_N, so_P, isi_0n, isi_0b, isi_0i, isi_0s, isi_0t, isi_0l, isi_1n, isi_1b, isi_1i, isi_1s, isi_1t, isi_1l, isi_2n, isi_2b, isi_2i, isi_2s, isi_2t, isi_2l, isi_3n, isi_3b, isi_3i, isi_3s, isi_3t, isi_3l, isi_4n, isi_4b, isi_4i, isi_4s, isi_4t, isi_4l, bi_lenL, bi_lenT, bi_lenC, bi_lenS, bi_int, bi_abs, bi_listL, bi_listT, bi_tupL, bi_tupT, bi_minN, bi_maxN, mtD, intBits_pow, bor_nat, band_nat, band_not, List.any_nil, List.any_cons, List.all_nil, List.all_cons, List.contains_nil, List.elem_nil, List.idxOf?_cons, List.idxOf?_nil, beq_self_eq_true, List.getElem?_cons_zero, List.getElem?_cons_succ, List.set_cons_zero, List.set_cons_succ, List.length_cons, List.length_nil, List.length_set, List.map_cons, List.map_nil, List.replicate, List.nil_append, List.cons_append, List.headD_cons, List.getD_cons_zero, List.getD_cons_succ, Int.toNat_natCast, Nat.reduceAdd, Nat.reduceSub, Nat.reduceLT, Nat.reduceLeDiff, Nat.reduceEqDiff, Nat.reduceBEq, decide_true, decide_false, Bool.and_true, Bool.true_and, Bool.and_false, Bool.false_and, Bool.or_true, Bool.true_or, Bool.or_false, Bool.false_or, Bool.not_false, Bool.not_true, Bool.and_self, if_true, if_false, reduceIte, ite_true, ite_false, ite_self, Bool.false_eq_true, Nat.zero_lt_succ, Option.bind_some, Option.map_some, Option.bind_none, Option.map_none])
variable {B : Tb} {l : Nat}
theorem nsets_eq [h : C_House_neighbour_sets B] [H : C_House___init__ B] (hl : 1 ≤ l) {n : Nat} {f : List Nat} {ds : List (Nat × Nat)} : callAt B l 37 0 [hsD n f ds] = .ok (dL dN f, 1, hsD n f ds) := by
  refine call_eq h.d_House_neighbour_sets hl rfl ?_
  unfold b_House_neighbour_sets
  have h2 := H.h_House_joined
  walk_at "ev"
  exact ⟨fend_rt⟩
theorem doors_eq [h : C_House_doors B] [H : C_House___init__ B] (hl : 1 ≤ l) {n : Nat} {f : List Nat} {ds : List (Nat × Nat)} : callAt B l 35 0 [hsD n f ds] = .ok (dL dP ds, 1, hsD n f ds) := by
  refine call_eq h.d_House_doors hl rfl ?_
  unfold b_House_doors
  have h2 := H.h_House_doors
  walk_at "ev"
  exact ⟨fend_rt⟩
theorem bitsOf_lt {ins : List Nat} {k : Nat} (h : ∀ r ∈ ins, r < k) : bitsOf ins < 2 ^ k := lt_pow_of_bits fun j hj => by
  rw [bitsOf_test, decide_eq_true_iff] at hj; exact h j hj
theorem insM_bits {ins : List Nat} {r : Nat} : insM (bitsOf ins) r ↔ r ∈ ins := by unfold insM; rw [bitsOf_test, decide_eq_true_iff]
open Classical in
theorem spread_room {n : Nat} {ds : List (Nat × Nat)} {f : List Nat} (H : HouseOk n ds f) {ins : List Nat} (hb : ∀ r ∈ ins, r < n) {st : Nat} : bitsL (spreadM f (2 ^ st) (bitsOf ins)) = roomC (adjD ds) (fun r => r ∈ ins) n st := by
  have e : ∀ r, (spreadM f (2 ^ st) (bitsOf ins)).testBit r = true ↔ Conn (adjD ds) (fun r => r ∈ ins) st r := fun r => by
    rw [spreadM_test]
    have hc : ∀ s, Conn (adjM f) (insM (bitsOf ins)) s r ↔ Conn (adjD ds) (fun r => r ∈ ins) s r := fun s => Conn.iff (fun x y _ _ => H.adj x y) fun x => insM_bits
    constructor
    · rintro ⟨s, hs, c⟩
      have : st = s := by unfold insM at hs; simpa [Nat.testBit_two_pow] using hs
      subst this
      exact (hc _).mp c
    · intro c
      exact ⟨st, by unfold insM; simp [Nat.testBit_two_pow], (hc _).mpr c⟩
  have hlt : spreadM f (2 ^ st) (bitsOf ins) < 2 ^ n := lt_pow_of_bits fun j hj => hb j ((e j).mp hj).r
  rw [bitsL_lt hlt]
  unfold roomC
  apply filter_range_congr
  intro r _
  rw [Bool.eq_iff_iff, e, decide_eq_true_iff]
theorem pow_12 {n : Nat} (h : n ≤ 12) : 2 ^ n ≤ 4096 := Nat.pow_le_pow_right (n := 2) (by omega) h
theorem reached_eq [h : C_reached B] [C_House___init__ B] [C_rooms_of B] [C_spread B] [C_bits_of B] [hn : C_House_neighbour_sets B] [Fu B] (hl : 2 ≤ l) {n : Nat} {ds : List (Nat × Nat)} {f : List Nat} (H : HouseOk n ds f) {st : Nat} (hst : st < n) {d : D} {ins : List Nat} (hd : items d = .ok (ins.map dN)) (hb : ∀ r ∈ ins, r < n) : callAt B l 49 0 [hsD n f ds, dN st, d] = .ok (dT dN (roomC (adjD ds) (fun r => r ∈ ins) n st), 9, hsD n f ds) := by
  refine call_eq h.d_reached (by omega) rfl ?_
  unfold b_reached
  have h12 := H.n12
  walk_at "ev"
  simp only [hn.m_House_neighbour_sets]
  walk_at "ev"
  rw [nsets_eq (by omega)]
  walk_at "ev"
  rw [bits_of_eq (by omega) hd (fun x hx => by have := hb x hx; omega)]
  walk_at "ev"
  have hp := pow_12 h12
  have hlt := bitsOf_lt hb
  rw [spread_eq (by omega) (by omega) fun r hr => by rw [H.len]; exact hb r (insM_bits.mp hr)]
  walk_at "ev"
  have hs : spreadM f (2 ^ st) (bitsOf ins) < 2 ^ 1000 := lt_pow_of_bits fun j hj => by
    obtain ⟨_, _, c⟩ := spreadM_test.mp hj
    have := hb j (insM_bits.mp c.r); omega
  rw [rooms_of_eq (by omega) hs]
  walk_at "ev"
  rw [spread_room H hb]
  exact ⟨fend_rt⟩
theorem piece_with_eq [h : C_piece_with B] [C_reached B] [Hi : C_House___init__ B] [C_rooms_of B] [C_spread B] [C_bits_of B] [C_House_neighbour_sets B] [Fu B] (hl : 3 ≤ l) {n : Nat} {ds : List (Nat × Nat)} {f : List Nat} (H : HouseOk n ds f) {st : Nat} (hst : st < n) : callAt B l 50 0 [hsD n f ds, dN st] = .ok (dT dN (roomC (adjD ds) (fun r => r ∈ List.range n) n st), 9, hsD n f ds) := by
  refine call_eq h.d_piece_with (by omega) rfl ?_
  unfold b_piece_with
  have h12 := H.n12
  have h1 := Hi.h_House_rooms
  have e0 : rngOk 0 (n : Int) = true := rgo_ok (by omega)
  have e1 : (rngOk 0 (n : Int) && decide (((n : Int) - 0).toNat ≤ 1000000)) = true := by
    rw [e0, Bool.true_and]; exact decide_eq_true (by omega)
  walk_at "ev"
  rw [e1]
  walk_at "ev"
  rw [rngL_0, reached_eq (by omega) H hst rfl fun r hr => List.mem_range.mp hr]
  walk_at "ev"
  exact ⟨fend_rt⟩
/-! parts with a room -/
def isPart (adj : Nat → Nat → Prop) (room : Nat) (P : List Nat) : Prop := room ∈ P ∧ ∀ x ∈ P, Conn adj (fun r => r ∈ P) room x
theorem isPart.room {adj : Nat → Nat → Prop} {room n : Nat} {P : List Nat} (h : isPart adj room P) (hb : ∀ r ∈ P, r < n) {ins : List Nat} (hs : ∀ x ∈ P, x ∈ ins) : ∀ x ∈ P, x ∈ roomC adj (fun r => r ∈ ins) n room := fun x hx => roomC_mem.mpr ⟨hb x hx, (h.2 x hx).mono (fun _ _ e _ _ => e) hs⟩
theorem roomC_part {adj : Nat → Nat → Prop} {room n : Nat} {ins : List Nat} (hr : room ∈ ins) (hb : ∀ r ∈ ins, r < n) : isPart adj room (roomC adj (fun r => r ∈ ins) n room) := by
  refine ⟨roomC_mem.mpr ⟨hb _ hr, .refl hr⟩, fun x hx => ?_⟩
  obtain ⟨_, c⟩ := roomC_mem.mp hx
  exact c.part (p := fun r => r ∈ roomC adj (fun r => r ∈ ins) n room) (fun y hy => (roomC_mem.mp hy).2.r) (fun y z hy e hz => roomC_mem.mpr ⟨hb z hz, (roomC_mem.mp hy).2.step e hz⟩) (roomC_mem.mpr ⟨hb _ hr, .refl hr⟩)
theorem roomC_asc {adj : Nat → Nat → Prop} {ins : Nat → Prop} {n r : Nat} : (roomC adj ins n r).Pairwise (· < ·) := by unfold roomC; exact range_filter_asc
theorem asc_nodup {xs : List Nat} (h : xs.Pairwise (· < ·)) : xs.Nodup := h.imp fun h => by omega
theorem lastIn_mem {log : List (Nat × Str)} {ins : List Nat} {c : Nat × Str} (h : lastIn log ins = some c) : c.1 ∈ ins := by
  have := List.find?_some h; simpa using this
theorem lastIn_sub {log : List (Nat × Str)} {ins P : List Nat} {c : Nat × Str} (h : lastIn log ins = some c) (hs : ∀ x ∈ P, x ∈ ins) (hc : c.1 ∈ P) : lastIn log P = some c := by
  unfold lastIn at h ⊢
  rw [List.find?_eq_some_iff_append] at h ⊢
  obtain ⟨h1, as, bs, h2, h3⟩ := h
  refine ⟨by simpa using hc, as, bs, h2, fun a ha => ?_⟩
  have := h3 a ha
  simp only [Bool.not_eq_true', decide_eq_false_iff_not] at this ⊢
  exact fun hh => this (hs _ hh)
theorem lastIn_none {log : List (Nat × Str)} {ins P : List Nat} (h : lastIn log ins = none) (hs : ∀ x ∈ P, x ∈ ins) : lastIn log P = none := by
  unfold lastIn at h ⊢
  rw [List.find?_eq_none] at h ⊢
  intro c hc hh
  exact h c hc (by simp only [decide_eq_true_eq] at hh ⊢; exact hs _ hh)
/-- what the search for a lesser part gives -/
structure Lesser (adj : Nat → Nat → Prop) (n room : Nat) (log : List (Nat × Str)) (ins : List Nat) (res : Option (List Nat)) : Prop where
  non : res = none → ∀ P, isPart adj room P → (∀ x ∈ P, x ∈ ins) → wordOf log P = wordOf log ins
  som : ∀ r, res = some r → isPart adj room r ∧ r.Pairwise (· < ·) ∧ (∀ x ∈ r, x ∈ ins) ∧ r.length < ins.length ∧ wordOf log r ≠ wordOf log ins ∧ ∀ P, isPart adj room P → (∀ x ∈ P, x ∈ ins) → (∀ x ∈ P, x ∈ r) ∨ wordOf log P = wordOf log ins
def dOT : Option (List Nat) → D
  | none => .non
  | some r => dT dN r
theorem lesser_part_eq [h : C_lesser_part B] [C_word_of B] [C_top_room B] [C_reached B] [Hi : C_House___init__ B] [C_rooms_of B] [C_spread B] [C_bits_of B] [C_House_neighbour_sets B] [F : Fu B] (hl : 3 ≤ l) {n : Nat} {ds : List (Nat × Nat)} {f : List Nat} (H : HouseOk n ds f) {room : Nat} {log : List (Nat × Str)} {ins : List Nat} (hr : isPart (adjD ds) room ins) (ha : ins.Pairwise (· < ·)) (hb : ∀ r ∈ ins, r < n) : ∃ res m, Lesser (adjD ds) n room log ins res ∧ callAt B l 51 0 [hsD n f ds, dL dC log, dN room, dT dN ins] = .ok (dOT res, m, hsD n f ds) := by
  refine call_wp (Q := fun r => ∃ res m, Lesser (adjD ds) n room log ins res ∧ r = .ok (dOT res, m, hsD n f ds)) h.d_lesser_part (by omega) rfl ?_
  unfold b_lesser_part
  have h12 := H.n12
  have hrn := hb room hr.1
  have hil : ins.length ≤ 12 := Nat.le_trans (Nat.le_trans (nodup_len (asc_nodup ha) (ys := List.range n) fun x hx => List.mem_range.mpr (hb x hx)) (by simp)) h12
  walk_at "ev"
  rw [word_of_eq (by omega) .tup]
  walk_at "ev"
  refine wp_whl (fun m s => ∃ (rest : List Nat) (j6 j7 : Option D) (k5 k6 : Nat), s = ⟨[some (hsD n f ds), some (dL dC log), some (dN room), some (dT dN ins), some (dW (wordOf log ins)), some (dT dN rest), j6, j7], [0, 0, 0, 0, nO (wordOf log ins), k5, k6, 0]⟩ ∧ m = rest.length ∧ isPart (adjD ds) room rest ∧ rest.Pairwise (· < ·) ∧ (∀ x ∈ rest, x ∈ ins) ∧ (∀ P, isPart (adjD ds) room P → (∀ x ∈ P, x ∈ ins) → (∀ x ∈ P, x ∈ rest) ∨ wordOf log P = wordOf log ins) ∧ (rest = ins ∨ rest.length < ins.length)) ins.length ?h1 ?h0 ?_
  case h1 => rw [ev_fuel, F.fuel]; omega
  case h0 => exact ⟨ins, _, _, _, _, rfl, rfl, hr, ha, fun _ h => h, fun P _ hP => .inl hP, .inl rfl⟩
  intro m s hI
  obtain ⟨rest, j6, j7, k5, k6, hs, hm, q1, q2, q3, q4, q5⟩ := hI
  subst hs
  subst hm
  have hbr : ∀ r ∈ rest, r < n := fun r hr => hb r (q3 r hr)
  have hrl : rest.length ≤ 12 := by rcases q5 with q | q <;> (try rw [q]) <;> omega
  by_cases hw : wordOf log rest = wordOf log ins
  · refine ⟨true, by walk_at "ev"; rw [word_of_eq (by omega) .tup]; walk_at "ev"; rw [hw]; simp, ?_⟩
    rw [if_pos rfl]
    walk_at "ev"
    rw [top_room_eq (by omega) .tup]
    walk_at "ev"
    cases ht : lastIn log rest with
    | none =>
      have : topOf log rest = none := by unfold topOf; rw [ht]; rfl
      rw [this]
      unfold dO nO
      walk_at "ev"
      refine ⟨none, 9, ⟨fun _ P hP hPi => ?_, fun r e => by cases e⟩, fend_rt⟩
      rcases q4 P hP hPi with q | q
      · rw [← hw]; unfold wordOf; rw [lastIn_none ht q, ht]
      · exact q
    | some c =>
      have htop : topOf log rest = some c.1 := by unfold topOf; rw [ht]; rfl
      have hcr := lastIn_mem ht
      rw [htop]
      unfold dO nO
      walk_at "ev"
      by_cases hc : c.1 = room
      · have e : decide ((c.1 : Int) = (room : Int)) = true := decide_eq_true (by omega)
        rw [e]
        walk_at "ev"
        refine ⟨none, 9, ⟨fun _ P hP hPi => ?_, fun r e => by cases e⟩, fend_rt⟩
        rcases q4 P hP hPi with q | q
        · rw [← hw]; unfold wordOf; rw [lastIn_sub ht q (by rw [hc]; exact hP.1), ht]
        · exact q
      · have e : decide ((c.1 : Int) = (room : Int)) = false := decide_eq_false (by omega)
        rw [e]
        walk_at "ev"
        rw [x_comp, x_varE]
        walk_at "ev"
        rw [comp_flt (n := 0) (h := dN) (p := fun x => !decide (x = c.1)) (fun x _ => ⟨by
          unfold cpF
          walk_at "ev"
          by_cases e : x = c.1
          · have e' : (x : Int) = c.1 := by omega
            simp [e, e']
          · have e' : ¬ (x : Int) = c.1 := by omega
            simp [e, e'], rfl⟩)]
        walk_at "ev"
        generalize hrest' : rest.filter (fun x => !decide (x = c.1)) = rest'
        have hm' : ∀ x, x ∈ rest' ↔ x ∈ rest ∧ x ≠ c.1 := fun x => by rw [← hrest', List.mem_filter]; simp
        have hb' : ∀ r ∈ rest', r < n := fun r hr => hbr r ((hm' r).mp hr).1
        rw [reached_eq (by omega) H hrn rfl hb']
        walk_at "ev"
        have hroom' : room ∈ rest' := (hm' room).mpr ⟨q1.1, fun e => hc e.symm⟩
        have hsub : ∀ x ∈ roomC (adjD ds) (fun r => r ∈ rest') n room, x ∈ rest' := fun x hx => (roomC_mem.mp hx).2.r
        have hlt : (roomC (adjD ds) (fun r => r ∈ rest') n room).length < rest.length := by
          have h1 : (roomC (adjD ds) (fun r => r ∈ rest') n room).length ≤ rest'.length := nodup_len (asc_nodup roomC_asc) hsub
          have h2 : (c.1 :: rest').length ≤ rest.length := nodup_len (by
            rw [List.nodup_cons]
            exact ⟨fun hh => ((hm' _).mp hh).2 rfl, by rw [← hrest']; exact (asc_nodup q2).filter _⟩) fun x hx => by
            rcases List.mem_cons.mp hx with e | hx
            · rw [e]; exact hcr
            · exact ((hm' x).mp hx).1
          simp at h2; omega
        refine ⟨_, hlt, _, _, _, _, _, rfl, rfl, roomC_part hroom' hb', roomC_asc, fun x hx => q3 x ((hm' x).mp (hsub x hx)).1, fun P hP hPi => ?_, .inr (by rcases q5 with q | q <;> (try rw [q] at hlt) <;> omega)⟩
        rcases q4 P hP hPi with q | q
        · by_cases hcP : c.1 ∈ P
          · right; rw [← hw]; unfold wordOf; rw [lastIn_sub ht q hcP, ht]
          · left
            exact hP.room (fun r hr => hbr r (q r hr)) fun x hx => (hm' x).mpr ⟨q x hx, fun e => hcP (e ▸ hx)⟩
        · exact .inr q
  · refine ⟨false, by walk_at "ev"; rw [word_of_eq (by omega) .tup]; walk_at "ev"; simp [hw], ?_⟩
    walk_at "ev"
    refine ⟨some rest, _, ⟨fun e => (by cases e), fun r e => ?_⟩, fend_rt⟩
    cases e
    refine ⟨q1, q2, q3, ?_, hw, q4⟩
    rcases q5 with q | q
    · exact absurd (by rw [q]) hw
    · exact q
/-- a view, from some pair on -/
def Vw (adj : Nat → Nat → Prop) (n room : Nat) (log : List (Nat × Str)) : List (Option Str × List Nat) → Prop
  | [] => False
  | [p] => (isPart adj room p.2 ∧ p.2.Pairwise (· < ·) ∧ (∀ x ∈ p.2, x < n) ∧ p.1 = wordOf log p.2) ∧ ∀ P, isPart adj room P → (∀ x ∈ P, x ∈ p.2) → wordOf log P = p.1
  | p :: q :: vs => (isPart adj room p.2 ∧ p.2.Pairwise (· < ·) ∧ (∀ x ∈ p.2, x < n) ∧ p.1 = wordOf log p.2) ∧ (∀ x ∈ q.2, x ∈ p.2) ∧ q.2.length < p.2.length ∧ q.1 ≠ p.1 ∧ (∀ P, isPart adj room P → (∀ x ∈ P, x ∈ p.2) → (∀ x ∈ P, x ∈ q.2) ∨ wordOf log P = p.1) ∧ Vw adj n room log (q :: vs)
abbrev dV (vs : List (Option Str × List Nat)) : D := .tup (vs.map fun p => .tup [dW p.1, dT dN p.2])
theorem sc_V {vs : List (Option Str × List Nat)} : scalL (vs.map fun p => .tup [dW p.1, dT dN p.2]) = true := sc_map fun p => by
  rw [scal, scalL, sc_dW, scalL, sc_dT fun _ => rfl]; rfl
theorem sc_V1 {vs : List (Option Str × List Nat)} {w : Option Str} {r : List Nat} : scalL ((vs.map fun p => .tup [dW p.1, dT dN p.2]) ++ [.tup [dW w, dT dN r]]) = true := by
  have := sc_V (vs := vs ++ [(w, r)])
  simpa using this
theorem view_of_eq [h : C_view_of B] [C_lesser_part B] [C_piece_with B] [C_last_calls B] [C_word_of B] [C_top_room B] [C_reached B] [Hi : C_House___init__ B] [C_rooms_of B] [C_spread B] [C_bits_of B] [C_House_neighbour_sets B] [F : Fu B] (hl : 4 ≤ l) {n : Nat} {ds : List (Nat × Nat)} {f : List Nat} (H : HouseOk n ds f) {room : Nat} (hrn : room < n) {log : List (Nat × Str)} (hlog : log.length ≤ 100000) : ∃ vs m, Vw (adjD ds) n room log vs ∧ vs.head?.map (·.2) = some (roomC (adjD ds) (fun r => r ∈ List.range n) n room) ∧ vs.length ≤ 13 ∧ callAt B l 52 0 [hsD n f ds, dL dC log, dN room] = .ok (dV vs, m, hsD n f ds) := by
  refine call_wp (Q := fun r => ∃ vs m, Vw (adjD ds) n room log vs ∧ vs.head?.map (·.2) = some (roomC (adjD ds) (fun r => r ∈ List.range n) n room) ∧ vs.length ≤ 13 ∧ r = .ok (dV vs, m, hsD n f ds)) h.d_view_of (by omega) rfl ?_
  unfold b_view_of
  have h12 := H.n12
  walk_at "ev"
  rw [last_calls_eq (by omega) hlog]
  walk_at "ev"
  rw [piece_with_eq (by omega) H hrn]
  walk_at "ev"
  generalize hpc : roomC (adjD ds) (fun r => r ∈ List.range n) n room = pc
  have hpcp : isPart (adjD ds) room pc := by rw [← hpc]; exact roomC_part (List.mem_range.mpr hrn) fun r hr => List.mem_range.mp hr
  have hpca : pc.Pairwise (· < ·) := by rw [← hpc]; exact roomC_asc
  have hpcn : ∀ r ∈ pc, r < n := fun r hr => by rw [← hpc] at hr; exact (roomC_mem.mp hr).1
  have hpcl : pc.length ≤ 12 := by rw [← hpc]; exact Nat.le_trans roomC_len h12
  refine wp_whl (fun m s => ∃ (acc : List (Option Str × List Nat)) (cur : Option (List Nat)) (k4 k5 : Nat), s = ⟨[some (hsD n f ds), some (dL dC log), some (dN room), some (dL dC (lastCalls log)), some (dOT cur), some (dV acc)], [0, 0, 0, 1, k4, k5]⟩ ∧
      (match cur with
        | none => m = 0 ∧ acc.length ≤ 13 ∧ Vw (adjD ds) n room log acc ∧ acc.head?.map (·.2) = some pc
        | some r => m = r.length ∧ acc.length + r.length ≤ 12 ∧ isPart (adjD ds) room r ∧ r.Pairwise (· < ·) ∧ (∀ x ∈ r, x < n) ∧ (acc = [] → r = pc) ∧ (acc ≠ [] → acc.head?.map (·.2) = some pc) ∧ (acc ≠ [] → ∀ w : Option Str × List Nat, acc.getLast?.map (·.1) = some w.1 → w.1 ≠ wordOf log r) ∧ ∀ tail, (tail.head?.map (·.2) = some r) → Vw (adjD ds) n room log tail → Vw (adjD ds) n room log (acc ++ tail))) pc.length ?h1 ?h0 ?_
  case h1 => rw [ev_fuel, F.fuel]; omega
  case h0 => exact ⟨[], some pc, _, _, rfl, rfl, by simpa using hpcl, hpcp, hpca, hpcn, fun _ => rfl, fun e => absurd rfl e, fun e => absurd rfl e, fun _ _ h => h⟩
  intro m s hI
  obtain ⟨acc, cur, k4, k5, hs, hc⟩ := hI
  subst hs
  cases cur with
  | none =>
    obtain ⟨hm, h1, h2, h3⟩ := hc
    refine ⟨false, by unfold dOT; walk_at "ev", ?_⟩
    walk_at "ev"
    exact ⟨acc, _, h2, h3, h1, fend_rt⟩
  | some r =>
    obtain ⟨hm, h1, h2, h3, h4, h5, h6, h7, h8⟩ := hc
    subst hm
    refine ⟨true, by unfold dOT; walk_at "ev", ?_⟩
    rw [if_pos rfl]
    unfold dOT
    walk_at "ev"
    rw [word_of_eq (by omega) .tup, wordOf_last]
    have hrp : 0 < r.length := List.length_pos_of_mem h2.1
    have hal : acc.length ≤ 12 := by omega
    walk_at "ev"
    simp only [sc_V1]
    walk_at "ev"
    obtain ⟨res, m, L, e⟩ := lesser_part_eq (B := B) (l := l - 1) (by omega) H (log := lastCalls log) h2 h3 h4
    rw [e]
    walk_at "ev"
    have LN := L.non
    have LS := L.som
    simp only [wordOf_last] at LN LS
    cases res with
    | none =>
      simp only [dOT]
      walk_at "ev"
      refine ⟨0, hrp, acc ++ [(wordOf log r, r)], none, m, 9, by simp only [dV, List.map_append, List.map_cons, List.map_nil, dOT], rfl, by simp; omega, h8 _ rfl ?_, ?_⟩
      · exact ⟨⟨h2, h3, h4, rfl⟩, LN rfl⟩
      · cases acc with
        | nil => rw [h5 rfl]; rfl
        | cons a as => simpa using h6 (by simp)
    | some r' =>
      obtain ⟨g1, g2, g3, g4, g5, g6⟩ := LS r' rfl
      simp only [dOT]
      walk_at "ev"
      refine ⟨r'.length, g4, acc ++ [(wordOf log r, r)], some r', m, 9, by simp only [dV, List.map_append, List.map_cons, List.map_nil, dOT], rfl, by simp; omega, g1, g2, fun x hx => h4 x (g3 x hx), fun e => absurd e (by simp), fun _ => ?_, fun _ w hw => ?_, fun tail ht hV => ?_⟩
      · cases acc with
        | nil => rw [h5 rfl]; rfl
        | cons a as => simpa using h6 (by simp)
      · simp at hw; rw [← hw]; exact fun e => g5 e.symm
      · rw [List.append_assoc]
        refine h8 _ rfl ?_
        cases tail with
        | nil => cases ht
        | cons q vs =>
          have hq : q.2 = r' := by simpa using ht
          have hq1 : q.1 = wordOf log r' := by
            cases vs with
            | nil => rw [← hq]; exact hV.1.2.2.2
            | cons _ _ => rw [← hq]; exact hV.1.2.2.2
          refine ⟨⟨h2, h3, h4, rfl⟩, by rw [hq]; exact g3, by rw [hq]; exact g4, by rw [hq1]; exact g5, fun P hP hPr => ?_, hV⟩
          rw [hq]; exact g6 P hP hPr
end Hc
set_option Elab.async false
set_option linter.all false
set_option maxRecDepth 100000
set_option maxHeartbeats 4000000
set_option exponentiation.threshold 2000
/-! Areas and what is heard. -/
namespace Hc
open PySem PySem.Spec PyProof.Rows L2 Bd
local macro_rules | `(tactic| walk_at "ev") => `(tactic| simp -failIfUnchanged (disch := first | assumption | omega | (show nv _ = true; with_unfolding_all rfl) | (show nn _ = true; with_unfolding_all rfl) | (show scal _ = true; with_unfolding_all rfl) | (show ∀ _, scal _ = true; intro _; with_unfolding_all rfl) | (show ∀ _, cleanN _ _ = true; intro _; with_unfolding_all rfl) | (simp only [List.length_cons, List.length_nil, List.length_append, List.length_map, List.length_take, List.length_drop]; omega)) only [ys_nilE, ys_consE, sq_nx, sq_rt, sq_bk, sq_ct, sq_bad, rs_and, rs_or, sq_ite, oc_ite, rb_ite, oc_okk, oc_bad, rb_ok, rb_bad, of_some, x_varE, x_non, x_bl, x_int, x_str, x_bin, x_neg, x_inv, x_nt, x_cmp, x_chain, x_and, x_or, x_ite, x_tup, x_lst, x_lsnE, x_emp, x_dnew, x_idx, x_callE, x_bi, x_mth, x_rng, x_lrng, x_enm, x_rvd, x_fld, x_mcallE, x_pget, x_cv, x_make, xs_nilE, xs_consE, xn_nilE, xn_consE, and_nil, and_cons, or_nil, or_cons, x_slc, sb_nop, y_setE, y_setTE, y_augE, y_appE, y_extE, y_popE, y_revE, y_stoE, y_staE, y_sflE, y_sfaE, y_mscE, y_ifcE, y_dropE, y_tapE, y_retV, y_retE, List.length_map, List.length_append, lt_lim, lt_limP, fldx_obj, fldx_own, le_lim, cast_pred, List.map_append, y_retnE, y_iteE, y_brkE, y_contE, y_passE, hold_call, hold_keep, hold_meth, hold_init, hold_has, hold_prop, hold_cval, ev_call, ev_keep, ev_meth, ev_init, ev_has, ev_prop, ev_cval, sg0, use, getP, putP, bindS, bt_nm, bt_tt, bt_tl, bts_nil, bts_cons, o_add, o_sub, o_mulr, o_mull, o_fdiv, o_mod, o_pow, o_shl1, o_shr, o_band, o_bor, o_addS, o_addL, o_addT, o_mulL1, c_eqI, c_neI, c_ltI, c_leI, c_gtI, c_geI, c_eqS, c_neS, c_eqW, cls_obj, cls_own, c_isN, c_isnN, c_isB, c_in, c_nin, inN, inNT, ix_lst, ix_tup, ix_20, ix_21, at_20, at_21, in_20, in_21, cast_0, cast_1, ix_t0, ix_t1, ix_t2, ix_scr, it_lst, it_tup, boolR, isFlat, clean, cl_int, cl_str, cl_non, cl_bl, cl_scr, cl_lst, cl_dW, cl_0l, cl_0o, cl_0b, cl_0d, cl_tup, letters_eq, empty_eq, o_addSS, ix_str, sl_strL, sl_strR, sb_var, sb_int, sb_bin, sb_bi, sb_neg, cn_nop, cn_cmp, cn_call, cn_nt, cn_and, cn_or, bnd_int, List.contains_cons, cl_nil, sc_map, sc_dW, cl_sc, scal, scalL, fit, mscE, lend, rootP, backS, tgs, tgsL, Sg.frz, zero, vars, varsL, so_N, so_P, isi_0n, isi_0b, isi_0i, isi_0s, isi_0t, isi_0l, isi_1n, isi_1b, isi_1i, isi_1s, isi_1t, isi_1l, isi_2n, isi_2b, isi_2i, isi_2s, isi_2t, isi_2l, isi_3n, isi_3b, isi_3i, isi_3s, isi_3t, isi_3l, isi_4n, isi_4b, isi_4i, isi_4s, isi_4t, isi_4l, bi_lenL, bi_lenT, bi_lenC, bi_lenS, bi_int, bi_abs, bi_listL, bi_listT, bi_tupL, bi_tupT, bi_minN, bi_maxN, mtD, intBits_pow, bor_nat, band_nat, band_not, List.any_nil, List.any_cons, List.all_nil, List.all_cons, List.contains_nil, List.elem_nil, List.idxOf?_cons, List.idxOf?_nil, beq_self_eq_true, List.getElem?_cons_zero, List.getElem?_cons_succ, List.set_cons_zero, List.set_cons_succ, List.length_cons, List.length_nil, List.length_set, List.map_cons, List.map_nil, List.replicate, List.nil_append, List.cons_append, List.headD_cons, List.getD_cons_zero, List.getD_cons_succ, Int.toNat_natCast, Nat.reduceAdd, Nat.reduceSub, Nat.reduceLT, Nat.reduceLeDiff, Nat.reduceEqDiff, Nat.reduceBEq, decide_true, decide_false, Bool.and_true, Bool.true_and, Bool.and_false, Bool.false_and, Bool.or_true, Bool.true_or, Bool.or_false, Bool.false_or, Bool.not_false, Bool.not_true, Bool.and_self, if_true, if_false, reduceIte, ite_true, ite_false, ite_self, Bool.false_eq_true, Nat.zero_lt_succ, Option.bind_some, Option.map_some, Option.bind_none, Option.map_none])
variable {B : Tb} {l : Nat}
theorem all_bits_eq [h : C_all_bits B] (hl : 1 ≤ l) {n : Nat} (hn : n ≤ 1000) : callAt B l 47 0 [dN n] = .ok (dN (2 ^ n - 1), 9, dN n) := by
  refine call_eq h.d_all_bits hl rfl ?_
  unfold b_all_bits
  walk_at "ev"
  have : ((2 ^ n : Nat) : Int) - 1 = ((2 ^ n - 1 : Nat) : Int) := by have := Nat.two_pow_pos n; omega
  rw [this]
  exact ⟨fend_rt⟩
/-- an opening -/
structure OpenOk (n : Nat) (op : List (Nat × Nat)) : Prop where
  lt : ∀ p ∈ op, p.1 < n ∧ p.2 < n
  len : op.length ≤ 500
noncomputable def zoneC (op : List (Nat × Nat)) (n r : Nat) : List Nat := roomC (adjD op) (fun r => r ∈ List.range n) n r
noncomputable def zoneL (op : List (Nat × Nat)) (n : Nat) : List (List Nat) := pieceC (adjD op) (fun r => r ∈ List.range n) n
theorem zone_eq {op : List (Nat × Nat)} {n a b : Nat} (h : b ∈ zoneC op n a) : zoneC op n b = zoneC op n a := by
  obtain ⟨_, c⟩ := roomC_mem.mp h
  exact roomC_congr fun x _ => ⟨fun d => c.trans d, fun d => (c.symm adjD_symm).trans d⟩
theorem zone_self {op : List (Nat × Nat)} {n r : Nat} (h : r < n) : r ∈ zoneC op n r := roomC_mem.mpr ⟨h, .refl (List.mem_range.mpr h)⟩
theorem least_of {p : Nat → Prop} : ∀ k, p k → ∃ m, p m ∧ ∀ j < m, ¬ p j := by
  intro k
  induction k using Nat.strongRecOn with
  | ind k ih =>
    intro h
    by_cases hc : ∃ j, j < k ∧ p j
    · obtain ⟨j, h1, h2⟩ := hc; exact ih j h1 h2
    · exact ⟨k, h, fun j hj hp => hc ⟨j, hj, hp⟩⟩
theorem zone_in {op : List (Nat × Nat)} {n r : Nat} (h : r < n) : zoneC op n r ∈ zoneL op n := by
  obtain ⟨m, h1, h2⟩ := least_of (p := fun x => Conn (adjD op) (fun r => r ∈ List.range n) r x) r (.refl (List.mem_range.mpr h))
  refine List.mem_map.mpr ⟨m, leadC_mem.mpr ⟨List.mem_range.mp h1.r, h1.r, fun j hj c => h2 j hj (h1.trans c)⟩, ?_⟩
  exact roomC_congr fun x _ => ⟨fun d => h1.trans d, fun d => (h1.symm adjD_symm).trans d⟩
theorem zoneL_mem {op : List (Nat × Nat)} {n : Nat} {a : List Nat} (h : a ∈ zoneL op n) : (∀ r ∈ a, r < n) ∧ ∀ r ∈ a, zoneC op n r = a := by
  obtain ⟨k, hk, rfl⟩ := List.mem_map.mp h
  exact ⟨fun r hr => (roomC_mem.mp hr).1, fun r hr => zone_eq hr⟩
theorem zoneL_len {op : List (Nat × Nat)} {n : Nat} : (zoneL op n).length ≤ n := by
  unfold zoneL pieceC leadC
  rw [List.length_map]
  exact Nat.le_trans (List.length_filter_le _ _) (by simp)
theorem bitsL_bitsOf {xs : List Nat} {n : Nat} (ha : xs.Pairwise (· < ·)) (hb : ∀ r ∈ xs, r < n) : bitsL (bitsOf xs) = xs := by
  rw [bitsL_lt (bitsOf_lt hb)]
  refine asc_ext range_filter_asc ha fun x => ?_
  rw [List.mem_filter, List.mem_range, bitsOf_test, decide_eq_true_iff]
  exact ⟨fun h => h.2, fun h => ⟨hb x h, h⟩⟩
open Classical in
theorem areas_eq [h : C_areas B] [C_all_bits B] [C_step_list B] [C_pieces_of B] [C_spread B] [C_rooms_of B] [Hi : C_House___init__ B] [F : Fu B] (hl : 3 ≤ l) {n : Nat} {ds : List (Nat × Nat)} {f : List Nat} (H : HouseOk n ds f) {op : List (Nat × Nat)} (O : OpenOk n op) : callAt B l 53 0 [hsD n f ds, dL dP op] = .ok (dL (dT dN) (zoneL op n), 1, hsD n f ds) := by
  refine call_eq h.d_areas (by omega) rfl ?_
  unfold b_areas
  have h12 := H.n12
  have h1 := Hi.h_House_rooms
  have hol := O.len
  walk_at "ev"
  rw [x_comp, x_varE]
  walk_at "ev"
  rw [comp_all (n := 9) (h := fun p => dP (p.2, p.1)) (fun p _ => ⟨by unfold cpF; walk_at "ev", rfl⟩)]
  walk_at "ev"
  have e1 : op.map dP ++ op.map (fun p => dP (p.2, p.1)) = (op ++ op.map fun p => (p.2, p.1)).map dP := by rw [List.map_append, List.map_map]; rfl
  rw [e1, step_list_eq (by omega) (ps := op ++ op.map fun p => (p.2, p.1)) rfl (by omega) (fun p hp => by
    rcases List.mem_append.mp hp with hp | hp
    · have := O.lt p hp; omega
    · obtain ⟨q, hq, rfl⟩ := List.mem_map.mp hp
      have := O.lt q hq; dsimp only; omega)]
  walk_at "ev"
  generalize hf : stepF n (op ++ op.map fun p => (p.2, p.1)) = g
  have gl : g.length = n := by rw [← hf]; exact stepF_len
  have ga : ∀ a b, adjM g a b ↔ adjD op a b := fun a b => by
    constructor
    · intro hh
      have ha := adjM_lt hh
      rw [gl] at ha
      rw [← hf, stepF_adj ha] at hh
      rcases List.mem_append.mp hh with h | h
      · exact .inl h
      · obtain ⟨q, hq, e⟩ := List.mem_map.mp h
        injection e with e1 e2
        subst e1 e2
        exact .inr hq
    · intro hh
      have ha : a < n := by
        rcases hh with h | h
        · exact (O.lt _ h).1
        · exact (O.lt _ h).2
      rw [← hf, stepF_adj ha]
      rcases hh with h | h
      · exact List.mem_append_left _ h
      · exact List.mem_append_right _ (List.mem_map.mpr ⟨(b, a), h, rfl⟩)
  rw [x_comp]
  walk_at "ev"
  rw [all_bits_eq (by omega) (by omega)]
  walk_at "ev"
  have hp := pow_12 h12
  have hins : ∀ r, insM (2 ^ n - 1) r ↔ r ∈ List.range n := fun r => by
    unfold insM
    rw [Nat.testBit_two_pow_sub_one, decide_eq_true_iff, List.mem_range]
  rw [pieces_of_eq (by omega) (fun x y hh => by rw [ga] at hh ⊢; exact hh.symm) (by omega) (fun r hr => by rw [gl]; exact List.mem_range.mp ((hins r).mp hr))]
  walk_at "ev"
  have hpm : pieceM g (2 ^ n - 1) = (zoneL op n).map bitsOf := by
    unfold pieceM zoneL pieceC
    rw [gl]
    have hc : ∀ a b, Conn (adjM g) (insM (2 ^ n - 1)) a b ↔ Conn (adjD op) (fun r => r ∈ List.range n) a b := fun a b => Conn.iff (fun x y _ _ => ga x y) hins
    have e2 : leadC (adjM g) (insM (2 ^ n - 1)) n = leadC (adjD op) (fun r => r ∈ List.range n) n := by
      unfold leadC
      apply filter_range_congr
      intro r _
      rw [decide_eq_decide, hins]
      exact and_congr_right fun _ => ⟨fun h r' hr c => h r' hr ((hc _ _).mpr c), fun h r' hr c => h r' hr ((hc _ _).mp c)⟩
    rw [e2]
    congr 1
    apply List.map_congr_left
    intro k _
    exact roomC_congr fun c _ => hc k c
  rw [hpm]
  have hzl := zoneL_len (op := op) (n := n)
  have e3 : ((zoneL op n).map bitsOf).map dN = (zoneL op n).map fun a => dN (bitsOf a) := by rw [List.map_map]; rfl
  rw [e3]
  walk_at "ev"
  rw [comp_all (n := 9) (h := dT dN) (fun a ha => ⟨by
    obtain ⟨k, hk, rfl⟩ := List.mem_map.mp ha
    have hlt : ∀ r ∈ roomC (adjD op) (fun r => r ∈ List.range n) n k, r < n := fun r hr => (roomC_mem.mp hr).1
    unfold cpF
    walk_at "ev"
    rw [rooms_of_eq (by omega) (bitsOf_lt fun r hr => Nat.lt_of_lt_of_le (hlt r hr) (by omega)), bitsL_bitsOf roomC_asc hlt]
    walk_at "ev", rfl⟩)]
  walk_at "ev"
  exact ⟨fend_rt⟩
noncomputable def wordsM (op : List (Nat × Nat)) (n : Nat) (log : List (Nat × Str)) : List (Option Str) := (List.range n).map fun r => wordOf log (zoneC op n r)
theorem fill_end {α : Type} {ws : List α} {n : Nat} {X : Nat → α} {d : α} (hl : ws.length = n) (h : ∀ r < n, ws.getD r d = X r) : ws = (List.range n).map X := by
  apply List.ext_getElem?
  intro i
  by_cases hi : i < n
  · rw [List.getElem?_map, List.getElem?_range hi, List.getElem?_eq_getElem (by omega)]
    have := h i hi
    rw [List.getD_eq_getElem?_getD, List.getElem?_eq_getElem (by omega)] at this
    simp at this; simp [this]
  · rw [List.getElem?_eq_none (by omega), List.getElem?_eq_none (by simp; omega)]
theorem set_mapE {α : Type} {e : α → D} {xs : List α} {j : Nat} {v : α} : (xs.map e).set j (e v) = (xs.set j v).map e := by rw [List.map_set]
theorem hear_eq [h : C_hear B] [C_areas B] [C_word_of B] [C_all_bits B] [C_step_list B] [C_pieces_of B] [C_spread B] [C_rooms_of B] [Hi : C_House___init__ B] [F : Fu B] (hl : 4 ≤ l) {n : Nat} {ds : List (Nat × Nat)} {f : List Nat} (H : HouseOk n ds f) {op : List (Nat × Nat)} (O : OpenOk n op) {log : List (Nat × Str)} : callAt B l 54 0 [hsD n f ds, dL dC log, dL dP op] = .ok (dL dW (wordsM op n log), 1, hsD n f ds) := by
  refine call_eq h.d_hear (by omega) rfl ?_
  unfold b_hear
  have h12 := H.n12
  have h1 := Hi.h_House_rooms
  walk_at "ev"
  have e0 : List.replicate n (D.non) = (List.replicate n (none : Option Str)).map dW := by rw [List.map_replicate]; rfl
  rw [e0]
  refine wp_src (dL (dT dN) (zoneL op n)) 1 (dT dN) (zoneL op n) (fun pre post s => ∃ (ws : List (Option Str)) (j4 j5 j6 : Option D) (k5 : Nat), s = ⟨[some (hsD n f ds), some (dL dC log), some (dL dP op), some (dL dW ws), j4, j5, j6], [0, 0, 0, 1, 0, k5, 0]⟩ ∧ ws.length = n ∧ ∀ a ∈ pre, ∀ r ∈ a, ws.getD r none = wordOf log (zoneC op n r)) ?h1 ?h2 ?h3 ?h0 ?_ ?_
  case h1 => walk_at "ev"; rw [areas_eq (by omega) H O]; rfl
  case h2 => intro i hi; simp only [vars, varsL, List.mem_append, List.mem_cons, List.not_mem_nil, or_false, List.append_nil] at hi; rcases hi with rfl | rfl <;> exact .inl rfl
  case h3 => rfl
  case h0 => exact ⟨_, _, _, _, _, rfl, by simp, fun a ha => absurd ha (by simp)⟩
  · intro pre a post s hx hI
    obtain ⟨ws, j4, j5, j6, k5, hs, q1, q2⟩ := hI
    subst hs
    obtain ⟨z1, z2⟩ := zoneL_mem (op := op) (n := n) (a := a) (by rw [← hx]; simp)
    walk_at "ev"
    rw [word_of_eq (by omega) .tup]
    walk_at "ev"
    refine wp_var (dT dN a) dN a (fun pre2 post2 s => ∃ (ws : List (Option Str)) (j6 : Option D), s = ⟨[some (hsD n f ds), some (dL dC log), some (dL dP op), some (dL dW ws), some (dT dN a), some (dW (wordOf log a)), j6], [0, 0, 0, 1, 0, nO (wordOf log a), 0]⟩ ∧ ws.length = n ∧ (∀ a ∈ pre, ∀ r ∈ a, ws.getD r none = wordOf log (zoneC op n r)) ∧ ∀ r ∈ pre2, ws.getD r none = wordOf log (zoneC op n r)) ?h1 ?h2 ?h3 ?h0 ?_ ?_
    case h1 => rfl
    case h2 => rfl
    case h3 => rfl
    case h0 => exact ⟨ws, _, rfl, q1, q2, fun r hr => absurd hr (by simp)⟩
    · intro pre2 r post2 s hx2 hI
      obtain ⟨ws, j6, hs, q1, q2, q3⟩ := hI
      subst hs
      have hra : r ∈ a := by rw [← hx2]; simp
      have hrn := z1 r hra
      have i1 : ixN ws.length (r : Int) = some r := by rw [ixN_ok (by omega) (by omega), Int.toNat_natCast]
      walk_at "ev"
      rw [i1]
      walk_at "ev"
      rw [set_mapE]
      have hz := z2 r hra
      have key : ∀ r', (ws.getD r' none = wordOf log (zoneC op n r')) → (ws.set r (wordOf log a)).getD r' none = wordOf log (zoneC op n r') := fun r' hh => by
        rw [getD_set (by omega)]
        split
        · rename_i e; subst e; rw [hz]
        · exact hh
      refine ⟨_, _, rfl, by rw [List.length_set]; exact q1, fun a' ha' r' hr' => key r' (q2 a' ha' r' hr'), fun r' hr' => ?_⟩
      rcases List.mem_append.mp hr' with hr' | hr'
      · exact key r' (q3 r' hr')
      · rw [List.mem_singleton] at hr'; subst hr'
        rw [getD_set (by omega), if_pos rfl, hz]
    · intro s hI
      obtain ⟨ws, j6, hs, q1, q2, q3⟩ := hI
      subst hs
      walk_at "ev"
      refine ⟨ws, _, _, _, _, rfl, q1, fun a' ha' r hr => ?_⟩
      rcases List.mem_append.mp ha' with ha' | ha'
      · exact q2 a' ha' r hr
      · rw [List.mem_singleton] at ha'; subst ha'; exact q3 r hr
  · intro s hI
    obtain ⟨ws, j4, j5, j6, k5, hs, q1, q2⟩ := hI
    subst hs
    have e := fill_end (d := none) q1 (X := fun r => wordOf log (zoneC op n r)) fun r hr => q2 _ (zone_in hr) r (zone_self hr)
    subst e
    walk_at "ev"
    exact ⟨fend_rt⟩
end Hc
set_option Elab.async false
set_option linter.all false
set_option maxRecDepth 100000
set_option maxHeartbeats 4000000
set_option exponentiation.threshold 2000
/-! Live houses. -/
namespace Hc
open PySem PySem.Spec PyProof.Rows L2 Bd
local macro_rules | `(tactic| walk_at "ev") => `(tactic| simp -failIfUnchanged (disch := first | assumption | omega | (show nv _ = true; with_unfolding_all rfl) | (show nn _ = true; with_unfolding_all rfl) | (show scal _ = true; with_unfolding_all rfl) | (show ∀ _, scal _ = true; intro _; with_unfolding_all rfl) | (show ∀ _, cleanN _ _ = true; intro _; with_unfolding_all rfl) | (simp only [List.length_cons, List.length_nil, List.length_append, List.length_map, List.length_take, List.length_drop]; omega)) only [ys_nilE, ys_consE, sq_nx, sq_rt, sq_bk, sq_ct, sq_bad, rs_and, rs_or, sq_ite, oc_ite, rb_ite, oc_okk, oc_bad, rb_ok, rb_bad, of_some, x_varE, x_non, x_bl, x_int, x_str, x_bin, x_neg, x_inv, x_nt, x_cmp, x_chain, x_and, x_or, x_ite, x_tup, x_lst, x_lsnE, x_emp, x_dnew, x_idx, x_callE, x_bi, x_mth, x_rng, x_lrng, x_enm, x_rvd, x_fld, x_mcallE, x_pget, x_cv, x_make, xs_nilE, xs_consE, xn_nilE, xn_consE, and_nil, and_cons, or_nil, or_cons, x_slc, sb_nop, y_setE, y_setTE, y_augE, y_appE, y_extE, y_popE, y_revE, y_stoE, y_staE, y_sflE, y_sfaE, y_mscE, y_ifcE, y_dropE, y_tapE, y_retV, y_retE, List.length_map, List.length_append, lt_lim, lt_limP, fldx_obj, fldx_own, le_lim, cast_pred, List.map_append, y_retnE, y_iteE, y_brkE, y_contE, y_passE, hold_call, hold_keep, hold_meth, hold_init, hold_has, hold_prop, hold_cval, ev_call, ev_keep, ev_meth, ev_init, ev_has, ev_prop, ev_cval, sg0, use, getP, putP, bindS, bt_nm, bt_tt, bt_tl, bts_nil, bts_cons, o_add, o_sub, o_mulr, o_mull, o_fdiv, o_mod, o_pow, o_shl1, o_shr, o_band, o_bor, o_addS, o_addL, o_addT, o_mulL1, c_eqI, c_neI, c_ltI, c_leI, c_gtI, c_geI, c_eqS, c_neS, c_eqW, cls_obj, cls_own, c_isN, c_isnN, c_isB, c_in, c_nin, inN, inNT, ix_lst, ix_tup, ix_20, ix_21, at_20, at_21, in_20, in_21, cast_0, cast_1, ix_t0, ix_t1, ix_t2, ix_scr, it_lst, it_tup, boolR, isFlat, clean, cl_int, cl_str, cl_non, cl_bl, cl_scr, cl_lst, cl_dW, cl_0l, cl_0o, cl_0b, cl_0d, cl_tup, letters_eq, empty_eq, o_addSS, ix_str, sl_strL, sl_strR, sb_var, sb_int, sb_bin, sb_bi, sb_neg, cn_nop, cn_cmp, cn_call, cn_nt, cn_and, cn_or, bnd_int, List.contains_cons, cl_nil, sc_map, sc_dW, cl_sc, scal, scalL, fit, mscE, lend, rootP, backS, tgs, tgsL, Sg.frz, zero, vars, varsL, so_N, so_P, isi_0n, isi_0b, isi_0i, isi_0s, isi_0t, isi_0l, isi_1n, isi_1b, isi_1i, isi_1s, isi_1t, isi_1l, isi_2n, isi_2b, isi_2i, isi_2s, isi_2t, isi_2l, isi_3n, isi_3b, isi_3i, isi_3s, isi_3t, isi_3l, isi_4n, isi_4b, isi_4i, isi_4s, isi_4t, isi_4l, bi_lenL, bi_lenT, bi_lenC, bi_lenS, bi_int, bi_abs, bi_listL, bi_listT, bi_tupL, bi_tupT, bi_minN, bi_maxN, mtD, intBits_pow, bor_nat, band_nat, band_not, List.any_nil, List.any_cons, List.all_nil, List.all_cons, List.contains_nil, List.elem_nil, List.idxOf?_cons, List.idxOf?_nil, beq_self_eq_true, List.getElem?_cons_zero, List.getElem?_cons_succ, List.set_cons_zero, List.set_cons_succ, List.length_cons, List.length_nil, List.length_set, List.map_cons, List.map_nil, List.replicate, List.nil_append, List.cons_append, List.headD_cons, List.getD_cons_zero, List.getD_cons_succ, Int.toNat_natCast, Nat.reduceAdd, Nat.reduceSub, Nat.reduceLT, Nat.reduceLeDiff, Nat.reduceEqDiff, Nat.reduceBEq, decide_true, decide_false, Bool.and_true, Bool.true_and, Bool.and_false, Bool.false_and, Bool.or_true, Bool.true_or, Bool.or_false, Bool.false_or, Bool.not_false, Bool.not_true, Bool.and_self, if_true, if_false, reduceIte, ite_true, ite_false, ite_self, Bool.false_eq_true, Nat.zero_lt_succ, Option.bind_some, Option.map_some, Option.bind_none, Option.map_none])
variable {B : Tb} {l : Nat}
abbrev lvD (k : Nat) (ws : List (Option Str)) (hs : List (List Nat)) : D := .own 5 [7, 8, 9] [dN k, dL dW ws, dL (dT dN) hs]
noncomputable def hearM (op : List (Nat × Nat)) (n : Nat) : List (List Nat) := (List.range n).map (zoneC op n)
theorem live_init_eq [h : C_LiveHouse___init__ B] [C_areas B] [C_all_bits B] [C_step_list B] [C_pieces_of B] [C_spread B] [C_rooms_of B] [Hi : C_House___init__ B] [F : Fu B] (hl : 4 ≤ l) {n : Nat} {ds : List (Nat × Nat)} {f : List Nat} (H : HouseOk n ds f) {op : List (Nat × Nat)} (O : OpenOk n op) : callAt B l 66 2 [.own 5 [] [], hsD n f ds, dL dP op] = .ok (.non, 9, lvD 0 (List.replicate n none) (hearM op n)) := by
  refine call_eq h.d_LiveHouse___init__ (by omega) rfl ?_
  unfold b_LiveHouse___init__
  have h12 := H.n12
  have h1 := Hi.h_House_rooms
  have g1 := h.h_LiveHouse_calls
  have g2 := h.h_LiveHouse_words
  have g3 := h.h_LiveHouse_hearers
  have e0 : List.replicate n (D.non) = (List.replicate n (none : Option Str)).map dW := by rw [List.map_replicate]; rfl
  have e9 : List.replicate n (D.tup []) = (List.replicate n ([] : List Nat)).map (dT dN) := by rw [List.map_replicate]; rfl
  walk_at "ev"
  simp only [putFd, g1, g2, g3]
  walk_at "ev"
  try simp only [putFd, g1, g2, g3]
  walk_at "ev"
  rw [e0, e9]
  refine wp_src (dL (dT dN) (zoneL op n)) 1 (dT dN) (zoneL op n) (fun pre post s => ∃ (hs : List (List Nat)) (j3 j4 : Option D), s = ⟨[some (lvD 0 (List.replicate n none) hs), some (hsD n f ds), some (dL dP op), j3, j4], [2, 0, 0, 0, 0]⟩ ∧ hs.length = n ∧ ∀ a ∈ pre, ∀ r ∈ a, hs.getD r [] = zoneC op n r) ?h1 ?h2 ?h3 ?h0 ?_ ?_
  case h1 => walk_at "ev"; rw [areas_eq (by omega) H O]; rfl
  case h2 => intro i hi; simp only [vars, varsL, List.mem_append, List.mem_cons, List.not_mem_nil, or_false, List.append_nil] at hi; rcases hi with rfl | rfl <;> exact .inl rfl
  case h3 => rfl
  case h0 => exact ⟨_, _, _, rfl, by simp, fun a ha => absurd ha (by simp)⟩
  · intro pre a post s hx hI
    obtain ⟨hs, j3, j4, hh, q1, q2⟩ := hI
    subst hh
    obtain ⟨z1, z2⟩ := zoneL_mem (op := op) (n := n) (a := a) (by rw [← hx]; simp)
    walk_at "ev"
    refine wp_var (dT dN a) dN a (fun pre2 post2 s => ∃ (hs : List (List Nat)) (j4 : Option D), s = ⟨[some (lvD 0 (List.replicate n none) hs), some (hsD n f ds), some (dL dP op), some (dT dN a), j4], [2, 0, 0, 0, 0]⟩ ∧ hs.length = n ∧ (∀ a ∈ pre, ∀ r ∈ a, hs.getD r [] = zoneC op n r) ∧ ∀ r ∈ pre2, hs.getD r [] = zoneC op n r) ?h1 ?h2 ?h3 ?h0 ?_ ?_
    case h1 => rfl
    case h2 => rfl
    case h3 => rfl
    case h0 => exact ⟨hs, _, rfl, q1, q2, fun r hr => absurd hr (by simp)⟩
    · intro pre2 r post2 s hx2 hI
      obtain ⟨hs, j4, hh, q1, q2, q3⟩ := hI
      subst hh
      have hra : r ∈ a := by rw [← hx2]; simp
      have hrn := z1 r hra
      have i1 : ixN hs.length (r : Int) = some r := by rw [ixN_ok (by omega) (by omega), Int.toNat_natCast]
      walk_at "ev"
      simp only [g3]
      walk_at "ev"
      rw [i1]
      walk_at "ev"
      try simp only [g3]
      walk_at "ev"
      rw [set_mapE (e := dT dN)]
      have hz := z2 r hra
      have key : ∀ r', (hs.getD r' [] = zoneC op n r') → (hs.set r a).getD r' [] = zoneC op n r' := fun r' hh => by
        rw [getD_set (by omega)]
        split
        · rename_i e; subst e; rw [hz]
        · exact hh
      refine ⟨_, _, rfl, by rw [List.length_set]; exact q1, fun a' ha' r' hr' => key r' (q2 a' ha' r' hr'), fun r' hr' => ?_⟩
      rcases List.mem_append.mp hr' with hr' | hr'
      · exact key r' (q3 r' hr')
      · rw [List.mem_singleton] at hr'; subst hr'
        rw [getD_set (by omega), if_pos rfl, hz]
    · intro s hI
      obtain ⟨hs, j4, hh, q1, q2, q3⟩ := hI
      subst hh
      walk_at "ev"
      refine ⟨hs, _, _, rfl, q1, fun a' ha' r hr => ?_⟩
      rcases List.mem_append.mp ha' with ha' | ha'
      · exact q2 a' ha' r hr
      · rw [List.mem_singleton] at ha'; subst ha'; exact q3 r hr
  · intro s hI
    obtain ⟨hs, j3, j4, hh, q1, q2⟩ := hI
    subst hh
    have e := fill_end (d := []) q1 (X := zoneC op n) fun r hr => q2 _ (zone_in hr) r (zone_self hr)
    subst e
    walk_at "ev"
    exact ⟨rfl⟩
/-- a word called in some rooms -/
def fillW (ws : List (Option Str)) (rs : List Nat) (w : Str) : List (Option Str) := rs.foldl (fun ws r => ws.set r (some w)) ws
theorem fillW_len {rs : List Nat} {w : Str} : ∀ {ws : List (Option Str)}, (fillW ws rs w).length = ws.length := by
  unfold fillW
  induction rs with
  | nil => intro ws; rfl
  | cons r rs ih => intro ws; rw [List.foldl_cons, ih, List.length_set]
theorem live_call_eq [h : C_LiveHouse_call B] [Hl : C_LiveHouse___init__ B] (hl : 1 ≤ l) {n k r : Nat} {ws : List (Option Str)} {hs : List (List Nat)} {w : Str} (hw : ws.length = n) (hh : hs.length = n) (hr : r < n) (ha : ∀ x ∈ hs.getD r [], x < n) : callAt B l 68 2 [lvD k ws hs, dN r, .str w] = .ok (dL dN (hs.getD r []), 1, lvD (k + 1) (fillW ws (hs.getD r []) w) hs) := by
  refine call_eq h.d_LiveHouse_call (by omega) rfl ?_
  unfold b_LiveHouse_call
  have g1 := Hl.h_LiveHouse_calls
  have g2 := Hl.h_LiveHouse_words
  have g3 := Hl.h_LiveHouse_hearers
  walk_at "ev"
  simp only [g1]
  walk_at "ev"
  generalize hz : hs.getD r [] = z at ha
  have hzd : hs.getD r default = z := hz
  have e1 : (k : Int) + 1 = ((k + 1 : Nat) : Int) := by omega
  rw [e1]
  refine wp_cln (dT dN z) 0 dN z (fun pre post s => ∃ (j3 : Option D), s = ⟨[some (lvD (k + 1) (fillW ws pre w) hs), some (dN r), some (.str w), j3], [2, 0, 0, 0]⟩) ?h1 ?h2 ?h3 ?h0 ?_ ?_
  case h1 => walk_at "ev"; rw [hzd]
  case h2 => exact cl_sc (sc_dT fun _ => rfl)
  case h3 => rfl
  case h0 => exact ⟨_, rfl⟩
  · intro pre x post s hx hI
    obtain ⟨j3, hh2⟩ := hI
    subst hh2
    have hxn := ha x (by rw [← hx]; simp)
    have hfl := fillW_len (ws := ws) (rs := pre) (w := w)
    have i1 : ixN (fillW ws pre w).length (x : Int) = some x := by rw [ixN_ok (by omega) (by omega), Int.toNat_natCast]
    walk_at "ev"
    simp only [g2]
    walk_at "ev"
    rw [i1]
    walk_at "ev"
    rw [show D.str w = dW (some w) from rfl, set_mapE (e := dW)]
    refine ⟨some (dN x), ?_⟩
    unfold fillW
    rw [List.foldl_append]
    rfl
  · intro s hI
    obtain ⟨j3, hh2⟩ := hI
    subst hh2
    walk_at "ev"
    rw [hzd]
    exact ⟨rfl⟩
theorem live_calls_eq [h : C_LiveHouse_calls B] [Hl : C_LiveHouse___init__ B] (hl : 1 ≤ l) {k : Nat} {ws : List (Option Str)} {hs : List (List Nat)} : callAt B l 67 0 [lvD k ws hs] = .ok (dN k, 0, lvD k ws hs) := by
  refine call_eq h.d_LiveHouse_calls (by omega) rfl ?_
  unfold b_LiveHouse_calls
  have g1 := Hl.h_LiveHouse_calls
  walk_at "ev"
  exact ⟨fend_rt⟩
theorem live_words_eq [h : C_LiveHouse_words B] [Hl : C_LiveHouse___init__ B] (hl : 1 ≤ l) {k : Nat} {ws : List (Option Str)} {hs : List (List Nat)} : callAt B l 69 0 [lvD k ws hs] = .ok (dL dW ws, 1, lvD k ws hs) := by
  refine call_eq h.d_LiveHouse_words (by omega) rfl ?_
  unfold b_LiveHouse_words
  have g2 := Hl.h_LiveHouse_words
  walk_at "ev"
  exact ⟨fend_rt⟩
theorem area_lists_eq [h : C_law_area_lists B] [C_law_pieces B] [C_law_beside B] (hl : 4 ≤ l) {n : Nat} {op : List (Nat × Nat)} (hn : n ≤ 12) (O : OpenOk n op) : callAt B l 59 0 [dN n, dL dP op] = .ok (dLL (hearM op n), 1, dN n) := by
  refine call_eq h.d_law_area_lists (by omega) rfl ?_
  unfold b_law_area_lists
  have e0 : rngOk 0 (n : Int) = true := rgo_ok (by omega)
  have e1 : (rngOk 0 (n : Int) && decide (((n : Int) - 0).toNat ≤ 1000000)) = true := by
    rw [e0, Bool.true_and]; exact decide_eq_true (by omega)
  walk_at "ev"
  rw [x_comp, x_rng, x_int, rb_ok, x_varE]
  walk_at "ev"
  rw [e0, if_pos rfl, rngL_0]
  walk_at "ev"
  rw [List.length_range, if_pos (show n ≤ lim by unfold lim; omega), comp_all (h := fun _ => .lst []) (n := 1) (fun x _ => ⟨by unfold cpF; walk_at "ev", rfl⟩)]
  walk_at "ev"
  have hr : (List.range n).map (fun _ => (.lst [] : D)) = (List.replicate n ([] : List Nat)).map (dL dN) := by
    rw [List.map_replicate, List.map_const', List.length_range]; rfl
  rw [hr]
  walk_at "ev"
  obtain ⟨bs, hbs, e5⟩ := law_beside_eq (B := B) (l := l - 1) (by omega) (n := n) (ds := op) (by omega) O.lt O.len
  have e6 := law_pieces_eq (B := B) (l := l - 1) (by omega) adjD_symm hbs (ins := List.range n) List.nodup_range (fun r hr => List.mem_range.mp hr) (by omega)
  refine wp_src (dL (dT dN) (zoneL op n)) 1 (dT dN) (zoneL op n) (fun pre post s => ∃ (hs : List (List Nat)) (j3 j4 : Option D), s = ⟨[some (dN n), some (dL dP op), some (dLL hs), j3, j4], [0, 0, 1, 0, 0]⟩ ∧ hs.length = n ∧ ∀ a ∈ pre, ∀ r ∈ a, hs.getD r [] = zoneC op n r) ?h1 ?h2 ?h3 ?h0 ?_ ?_
  case h1 =>
    walk_at "ev"
    rw [e5]
    walk_at "ev"
    rw [e1]
    walk_at "ev"
    rw [rngL_0, e6]
    rfl
  case h2 =>
    intro i hi
    have : i = 0 ∨ i = 1 := by simp [vars, varsL] at hi; omega
    rcases this with rfl | rfl <;> exact .inl rfl
  case h3 => rfl
  case h0 => exact ⟨_, _, _, rfl, by simp, fun a ha => absurd ha (by simp)⟩
  · intro pre a post s hx hI
    obtain ⟨hs, j3, j4, hh, q1, q2⟩ := hI
    subst hh
    obtain ⟨z1, z2⟩ := zoneL_mem (op := op) (n := n) (a := a) (by rw [← hx]; simp)
    walk_at "ev"
    refine wp_var (dT dN a) dN a (fun pre2 post2 s => ∃ (hs : List (List Nat)) (j4 : Option D), s = ⟨[some (dN n), some (dL dP op), some (dLL hs), some (dT dN a), j4], [0, 0, 1, 0, 0]⟩ ∧ hs.length = n ∧ (∀ a ∈ pre, ∀ r ∈ a, hs.getD r [] = zoneC op n r) ∧ ∀ r ∈ pre2, hs.getD r [] = zoneC op n r) ?h1 ?h2 ?h3 ?h0 ?_ ?_
    case h1 => rfl
    case h2 => rfl
    case h3 => rfl
    case h0 => exact ⟨hs, _, rfl, q1, q2, fun r hr => absurd hr (by simp)⟩
    · intro pre2 r post2 s hx2 hI
      obtain ⟨hs, j4, hh, q1, q2, q3⟩ := hI
      subst hh
      have hra : r ∈ a := by rw [← hx2]; simp
      have hrn := z1 r hra
      have i1 : ixN hs.length (r : Int) = some r := by rw [ixN_ok (by omega) (by omega), Int.toNat_natCast]
      walk_at "ev"
      rw [i1]
      walk_at "ev"
      rw [set_mapL]
      have hz := z2 r hra
      have key : ∀ r', (hs.getD r' [] = zoneC op n r') → (hs.set r a).getD r' [] = zoneC op n r' := fun r' hh => by
        rw [getD_set (by omega)]
        split
        · rename_i e; subst e; rw [hz]
        · exact hh
      refine ⟨_, _, rfl, by rw [List.length_set]; exact q1, fun a' ha' r' hr' => key r' (q2 a' ha' r' hr'), fun r' hr' => ?_⟩
      rcases List.mem_append.mp hr' with hr' | hr'
      · exact key r' (q3 r' hr')
      · rw [List.mem_singleton] at hr'; subst hr'
        rw [getD_set (by omega), if_pos rfl, hz]
    · intro s hI
      obtain ⟨hs, j4, hh, q1, q2, q3⟩ := hI
      subst hh
      walk_at "ev"
      refine ⟨hs, _, _, rfl, q1, fun a' ha' r hr => ?_⟩
      rcases List.mem_append.mp ha' with ha' | ha'
      · exact q2 a' ha' r hr
      · rw [List.mem_singleton] at ha'; subst ha'; exact q3 r hr
  · intro s hI
    obtain ⟨hs, j3, j4, hh, q1, q2⟩ := hI
    subst hh
    have e := fill_end (d := []) q1 (X := zoneC op n) fun r hr => q2 _ (zone_in hr) r (zone_self hr)
    subst e
    walk_at "ev"
    exact ⟨fend_rt⟩
theorem words_kept_eq [h : C_law_words_kept B] [C_law_word_of B] (hl : 2 ≤ l) {zs : List (List Nat)} {log : List (Nat × Str)} (hz : zs.length ≤ 1000) : callAt B l 60 0 [dLL zs, dL dC log] = .ok (dL dW (zs.map (wordOf log)), 1, dLL zs) := by
  refine call_eq h.d_law_words_kept (by omega) rfl ?_
  unfold b_law_words_kept
  walk_at "ev"
  rw [x_comp, x_varE]
  walk_at "ev"
  have key : compL 0 (cpF (B.ev (callAt B (l - 1)) []) (.nm 2) .nop (.call 58 (.cons (.var 1) (.cons (.var 2) .nil))) [some (dLL zs), some (dL dC log), none]) (zs.map (dL dN)) = .ok (zs.map fun z => dW (wordOf log z)) := by
    have := compL_map (m := 0) (g := cpF (B.ev (callAt B (l - 1)) []) (.nm 2) .nop (.call 58 (.cons (.var 1) (.cons (.var 2) .nil))) [some (dLL zs), some (dL dC log), none]) (e := dL dN) (h := fun z => some (dW (wordOf log z), nO (wordOf log z))) (xs := zs) fun z _ => ⟨by
      unfold cpF
      walk_at "ev"
      rw [law_word_of_eq (by omega) .lst]
      walk_at "ev", fun d n _ => rfl⟩
    rw [this]
    congr 1
    induction zs with
    | nil => rfl
    | cons z zs ih => simp
  rw [key]
  walk_at "ev"
  have e : zs.map (fun z => dW (wordOf log z)) = (zs.map (wordOf log)).map dW := by rw [List.map_map]; rfl
  rw [e]
  exact ⟨fend_rt⟩
theorem words_hear {op : List (Nat × Nat)} {n : Nat} {log : List (Nat × Str)} : (hearM op n).map (wordOf log) = wordsM op n log := by
  unfold hearM wordsM; rw [List.map_map]; rfl
end Hc
set_option Elab.async false
set_option linter.all false
set_option maxRecDepth 100000
set_option maxHeartbeats 4000000
set_option exponentiation.threshold 2000
/-! The law's judges of views. -/
namespace Hc
open PySem PySem.Spec PyProof.Rows L2 Bd
local macro_rules | `(tactic| walk_at "ev") => `(tactic| simp -failIfUnchanged (disch := first | assumption | omega | (show nv _ = true; with_unfolding_all rfl) | (show nn _ = true; with_unfolding_all rfl) | (show scal _ = true; with_unfolding_all rfl) | (show ∀ _, scal _ = true; intro _; with_unfolding_all rfl) | (show ∀ _, cleanN _ _ = true; intro _; with_unfolding_all rfl) | (simp only [List.length_cons, List.length_nil, List.length_append, List.length_map, List.length_take, List.length_drop]; omega)) only [ys_nilE, ys_consE, sq_nx, sq_rt, sq_bk, sq_ct, sq_bad, rs_and, rs_or, sq_ite, oc_ite, rb_ite, oc_okk, oc_bad, rb_ok, rb_bad, of_some, x_varE, x_non, x_bl, x_int, x_str, x_bin, x_neg, x_inv, x_nt, x_cmp, x_chain, x_and, x_or, x_ite, x_tup, x_lst, x_lsnE, x_emp, x_dnew, x_idx, x_callE, x_bi, x_mth, x_rng, x_lrng, x_enm, x_rvd, x_fld, x_mcallE, x_pget, x_cv, x_make, xs_nilE, xs_consE, xn_nilE, xn_consE, and_nil, and_cons, or_nil, or_cons, x_slc, sb_nop, y_setE, y_setTE, y_augE, y_appE, y_extE, y_popE, y_revE, y_stoE, y_staE, y_sflE, y_sfaE, y_mscE, y_ifcE, y_dropE, y_tapE, y_retV, y_retE, List.length_map, List.length_append, lt_lim, lt_limP, fldx_obj, fldx_own, le_lim, cast_pred, List.map_append, y_retnE, y_iteE, y_brkE, y_contE, y_passE, hold_call, hold_keep, hold_meth, hold_init, hold_has, hold_prop, hold_cval, ev_call, ev_keep, ev_meth, ev_init, ev_has, ev_prop, ev_cval, sg0, use, getP, putP, bindS, bt_nm, bt_tt, bt_tl, bts_nil, bts_cons, o_add, o_sub, o_mulr, o_mull, o_fdiv, o_mod, o_pow, o_shl1, o_shr, o_band, o_bor, o_addS, o_addL, o_addT, o_mulL1, c_eqI, c_neI, c_ltI, c_leI, c_gtI, c_geI, c_eqS, c_neS, c_eqW, cls_obj, cls_own, c_isN, c_isnN, c_isB, c_in, c_nin, inN, inNT, ix_lst, ix_tup, ix_20, ix_21, at_20, at_21, in_20, in_21, cast_0, cast_1, ix_t0, ix_t1, ix_t2, ix_scr, it_lst, it_tup, boolR, isFlat, clean, cl_int, cl_str, cl_non, cl_bl, cl_scr, cl_lst, cl_dW, cl_0l, cl_0o, cl_0b, cl_0d, cl_tup, letters_eq, empty_eq, o_addSS, ix_str, sl_strL, sl_strR, sb_var, sb_int, sb_bin, sb_bi, sb_neg, cn_nop, cn_cmp, cn_call, cn_nt, cn_and, cn_or, bnd_int, List.contains_cons, cl_nil, sc_map, sc_dW, cl_sc, scal, scalL, fit, mscE, lend, rootP, backS, tgs, tgsL, Sg.frz, zero, vars, varsL, so_N, so_P, isi_0n, isi_0b, isi_0i, isi_0s, isi_0t, isi_0l, isi_1n, isi_1b, isi_1i, isi_1s, isi_1t, isi_1l, isi_2n, isi_2b, isi_2i, isi_2s, isi_2t, isi_2l, isi_3n, isi_3b, isi_3i, isi_3s, isi_3t, isi_3l, isi_4n, isi_4b, isi_4i, isi_4s, isi_4t, isi_4l, bi_lenL, bi_lenT, bi_lenC, bi_lenS, bi_int, bi_abs, bi_listL, bi_listT, bi_tupL, bi_tupT, bi_minN, bi_maxN, mtD, intBits_pow, bor_nat, band_nat, band_not, List.any_nil, List.any_cons, List.all_nil, List.all_cons, List.contains_nil, List.elem_nil, List.idxOf?_cons, List.idxOf?_nil, beq_self_eq_true, List.getElem?_cons_zero, List.getElem?_cons_succ, List.set_cons_zero, List.set_cons_succ, List.length_cons, List.length_nil, List.length_set, List.map_cons, List.map_nil, List.replicate, List.nil_append, List.cons_append, List.headD_cons, List.getD_cons_zero, List.getD_cons_succ, Int.toNat_natCast, Nat.reduceAdd, Nat.reduceSub, Nat.reduceLT, Nat.reduceLeDiff, Nat.reduceEqDiff, Nat.reduceBEq, decide_true, decide_false, Bool.and_true, Bool.true_and, Bool.and_false, Bool.false_and, Bool.or_true, Bool.true_or, Bool.or_false, Bool.false_or, Bool.not_false, Bool.not_true, Bool.and_self, if_true, if_false, reduceIte, ite_true, ite_false, ite_self, Bool.false_eq_true, Nat.zero_lt_succ, Option.bind_some, Option.map_some, Option.bind_none, Option.map_none])
variable {B : Tb} {l : Nat}
section
variable {adj : Nat → Nat → Prop} {n room : Nat} {log : List (Nat × Str)}
theorem Vw.hd {p : Option Str × List Nat} : ∀ {vs : List (Option Str × List Nat)}, Vw adj n room log (p :: vs) → isPart adj room p.2 ∧ p.2.Pairwise (· < ·) ∧ (∀ x ∈ p.2, x < n) ∧ p.1 = wordOf log p.2
  | [], h => h.1
  | _ :: _, h => h.1
theorem Vw.at : ∀ {pre : List (Option Str × List Nat)} {x : Option Str × List Nat} {post : List (Option Str × List Nat)}, Vw adj n room log (pre ++ x :: post) → (isPart adj room x.2 ∧ x.2.Pairwise (· < ·) ∧ (∀ y ∈ x.2, y < n) ∧ x.1 = wordOf log x.2) ∧ ∀ y, pre.getLast? = some y → (∀ z ∈ x.2, z ∈ y.2) ∧ x.2.length < y.2.length ∧ y.2.Pairwise (· < ·) ∧ ∀ z ∈ y.2, z < n
  | [], x, post, h => ⟨h.hd, fun y e => by cases e⟩
  | [p], x, post, h => by
    obtain ⟨h1, h2, h3, _, _, h4⟩ := h
    refine ⟨h4.hd, fun y e => ?_⟩
    simp at e; subst e
    exact ⟨h2, h3, h1.2.1, h1.2.2.1⟩
  | p :: q :: pre, x, post, h => by
    obtain ⟨_, _, _, _, _, h4⟩ := h
    have := Vw.at (pre := q :: pre) h4
    refine ⟨this.1, fun y e => this.2 y (by simpa using e)⟩
/-- the word of the last pair that holds an area -/
def byV (P : List Nat) (vs : List (Option Str × List Nat)) (acc : Option Str) : Option Str := vs.foldl (fun w p => if (P.filter fun r => !decide (r ∈ p.2)).length = 0 then p.1 else w) acc
theorem sub_iff {P Q : List Nat} : (P.filter fun r => !decide (r ∈ Q)).length = 0 ↔ ∀ x ∈ P, x ∈ Q := by
  rw [List.length_eq_zero_iff, List.filter_eq_nil_iff]; simp
theorem byV_not {P : List Nat} : ∀ {vs : List (Option Str × List Nat)} {p : Option Str × List Nat} {acc : Option Str}, Vw adj n room log (p :: vs) → (¬ ∀ x ∈ P, x ∈ p.2) → byV P (p :: vs) acc = acc
  | [], p, acc, _, h => by unfold byV; rw [List.foldl_cons, if_neg (fun e => h (sub_iff.mp e))]; rfl
  | q :: vs, p, acc, hV, h => by
    obtain ⟨_, h2, _, _, _, h4⟩ := hV
    unfold byV; rw [List.foldl_cons, if_neg (fun e => h (sub_iff.mp e))]
    exact byV_not h4 fun hq => h fun x hx => h2 x (hq x hx)
theorem byV_eq {P : List Nat} (hP : isPart adj room P) : ∀ {vs : List (Option Str × List Nat)} {p : Option Str × List Nat} {acc : Option Str}, Vw adj n room log (p :: vs) → (∀ x ∈ P, x ∈ p.2) → byV P (p :: vs) acc = wordOf log P
  | [], p, acc, hV, h => by unfold byV; rw [List.foldl_cons, if_pos (sub_iff.mpr h)]; exact (hV.2 P hP h).symm
  | q :: vs, p, acc, hV, h => by
    obtain ⟨_, h2, _, _, h5, h4⟩ := hV
    unfold byV; rw [List.foldl_cons, if_pos (sub_iff.mpr h)]
    by_cases hq : ∀ x ∈ P, x ∈ q.2
    · exact byV_eq hP h4 hq
    · have := byV_not (P := P) (acc := p.1) h4 hq
      unfold byV at this
      rw [this]
      rcases h5 P hP h with h | h
      · exact absurd h hq
      · exact h.symm
theorem asc_filter {xs ys : List Nat} (hx : xs.Pairwise (· < ·)) (hy : ys.Pairwise (· < ·)) (h : ∀ z ∈ ys, z ∈ xs) : xs.filter (fun r => decide (r ∈ ys)) = ys := asc_ext (hx.filter _) hy fun z => by
  rw [List.mem_filter, decide_eq_true_iff]; exact ⟨fun h => h.2, fun hz => ⟨h z hz, hz⟩⟩
end
abbrev dVp (p : Option Str × List Nat) : D := .tup [dW p.1, dT dN p.2]
theorem law_by_view_eq [h : C_law_by_view B] (hl : 1 ≤ l) {vs : List (Option Str × List Nat)} {P : List Nat} (hP : P.length ≤ 1000) : ∃ m, callAt B l 63 0 [dV vs, dL dN P] = .ok (dW (byV P vs none), m, dV vs) := by
  refine call_wp (Q := fun r => ∃ m, r = .ok (dW (byV P vs none), m, dV vs)) h.d_law_by_view hl rfl ?_
  unfold b_law_by_view
  walk_at "ev"
  refine wp_var (dV vs) dVp vs (fun pre post s => ∃ (j3 : Option D) (k2 : Nat), s = ⟨[some (dV vs), some (dL dN P), some (dW (byV P pre none)), j3, none], [0, 0, k2, 0, 0]⟩) ?h1 ?h2 ?h3 ?h0 ?_ ?_
  case h1 => rfl
  case h2 => rfl
  case h3 => rfl
  case h0 => exact ⟨_, _, rfl⟩
  · intro pre p post s hx hI
    obtain ⟨j3, k2, hs⟩ := hI
    subst hs
    walk_at "ev"
    rw [x_comp, x_varE]
    walk_at "ev"
    rw [comp_flt (n := 0) (h := dN) (p := fun x => !decide (x ∈ p.2)) (fun x _ => ⟨by
      unfold cpF
      walk_at "ev"
      split <;> rfl, rfl⟩)]
    walk_at "ev"
    by_cases hc : (P.filter fun x => !decide (x ∈ p.2)).length = 0
    · have e : decide (((P.filter fun x => !decide (x ∈ p.2)).length : Int) = 0) = true := decide_eq_true (by omega)
      rw [e]
      walk_at "ev"
      refine ⟨some (dVp p), 0, ?_⟩
      unfold byV
      rw [List.foldl_append, List.foldl_cons, if_pos hc]
      rfl
    · have e : decide (((P.filter fun x => !decide (x ∈ p.2)).length : Int) = 0) = false := decide_eq_false (by omega)
      rw [e]
      walk_at "ev"
      refine ⟨some (dVp p), k2, ?_⟩
      unfold byV
      rw [List.foldl_append, List.foldl_cons, if_neg hc]
      rfl
  · intro s hI
    obtain ⟨j3, k2, hs⟩ := hI
    subst hs
    walk_at "ev"
    exact ⟨_, fend_rt⟩
theorem law_chain_eq [h : C_law_chain B] [C_law_same B] (hl : 2 ≤ l) {adj : Nat → Nat → Prop} {n room : Nat} {log : List (Nat × Str)} {vs : List (Option Str × List Nat)} (hV : Vw adj n room log vs) {pc : List Nat} (hpc : vs.head?.map (·.2) = some pc) (hn : n ≤ 12) (hvl : vs.length ≤ 13) : callAt B l 62 0 [dV vs, dN room, dT dN pc] = .ok (.bl true, 9, dV vs) := by
  refine call_eq h.d_law_chain (by omega) rfl ?_
  unfold b_law_chain
  have hv0 : decide ((vs.length : Int) = 0) = false := decide_eq_false (by cases vs with | nil => cases hpc | cons _ _ => simp; omega)
  walk_at "ev"
  rw [hv0]
  walk_at "ev"
  refine wp_var (dV vs) dVp vs (fun pre post s => ∃ (j4 j5 : Option D) (k3 k5 : Nat), s = ⟨[some (dV vs), some (dN room), some (dT dN pc), some (match pre.getLast? with | none => .non | some p => dT dN p.2), j4, j5, none], [0, 0, 0, k3, 0, k5, 0]⟩) ?h1 ?h2 ?h3 ?h0 ?_ ?_
  case h1 => rfl
  case h2 => rfl
  case h3 => rfl
  case h0 => exact ⟨_, _, _, _, rfl⟩
  · intro pre p post s hx hI
    obtain ⟨j4, j5, k3, k5, hs⟩ := hI
    subst hs
    have hat := Vw.at (pre := pre) (x := p) (post := post) (by rw [hx]; exact hV)
    obtain ⟨⟨a1, a2, a3, a4⟩, a5⟩ := hat
    have hpl : p.2.length ≤ 12 := Nat.le_trans (nodup_len (asc_nodup a2) (ys := List.range n) fun x hx => List.mem_range.mpr (a3 x hx)) (by simp; omega)
    have hrm : decide (room ∈ p.2) = true := decide_eq_true a1.1
    have hsame : ∀ k, 1 ≤ k → callAt B k 24 0 [dT dN p.2, dT dN p.2] = .ok (.bl true, 9, dT dN p.2) := fun k hk => law_same_eq hk (by rw [pd]; exact pd_map fun _ _ => rfl) (by
      rw [nodes]; have := nodes_map (e := dN) (m := 1) (xs := p.2) (fun _ _ => Nat.le_refl _); omega)
    have d2 : decide (((2 : Nat) : Int) = 2) = true := rfl
    have hgl : (pre ++ [p]).getLast? = some p := by simp
    cases hlast : pre.getLast? with
    | none =>
      have hpre : pre = [] := by simpa using hlast
      subst hpre
      have hpp : p.2 = pc := by
        rw [← hx] at hpc; simpa using hpc
      subst hpp
      obtain ⟨w, r⟩ := p
      dsimp only at hsame hrm
      cases w <;>
      · simp only [dW]
        walk_at "ev"
        simp only [d2, dW]
        walk_at "ev"
        rw [hsame _ (by omega)]
        walk_at "ev"
        simp only [hrm]
        walk_at "ev"
        exact ⟨_, _, _, _, rfl⟩
    | some y =>
      obtain ⟨b1, b2, b3, b4⟩ := a5 y hlast
      have hyl : y.2.length ≤ 12 := Nat.le_trans (nodup_len (asc_nodup b3) (ys := List.range n) fun x hx => List.mem_range.mpr (b4 x hx)) (by simp; omega)
      obtain ⟨w, r⟩ := p
      dsimp only at hsame hrm b1 b2 hpl a2
      have hflt := asc_filter b3 a2 b1
      have hne : decide ((r.length : Int) = (y.2.length : Int)) = false := decide_eq_false (by omega)
      cases w <;>
      · simp only [dW]
        walk_at "ev"
        simp only [d2, dW]
        walk_at "ev"
        rw [x_comp, x_varE]
        walk_at "ev"
        rw [comp_flt (n := 0) (h := dN) (p := fun x => decide (x ∈ r)) (fun x _ => ⟨by
          unfold cpF
          walk_at "ev"
          split <;> rfl, rfl⟩)]
        walk_at "ev"
        rw [hflt, hsame _ (by omega)]
        walk_at "ev"
        simp only [hne]
        walk_at "ev"
        simp only [hrm]
        walk_at "ev"
        refine ⟨?_⟩
        simp only [turnP, hgl]
        exact ⟨_, _, _, _, rfl⟩
  · intro s hI
    obtain ⟨j4, j5, k3, k5, hs⟩ := hI
    subst hs
    walk_at "ev"
    exact ⟨fend_rt⟩
end Hc
set_option Elab.async false
set_option linter.all false
set_option maxRecDepth 100000
set_option maxHeartbeats 4000000
set_option exponentiation.threshold 2000
/-! The law's judge of all views. -/
namespace Hc
open PySem PySem.Spec PyProof.Rows L2 Bd
local macro_rules | `(tactic| walk_at "ev") => `(tactic| simp -failIfUnchanged (disch := first | assumption | omega | (show nv _ = true; with_unfolding_all rfl) | (show nn _ = true; with_unfolding_all rfl) | (show scal _ = true; with_unfolding_all rfl) | (show ∀ _, scal _ = true; intro _; with_unfolding_all rfl) | (show ∀ _, cleanN _ _ = true; intro _; with_unfolding_all rfl) | (simp only [List.length_cons, List.length_nil, List.length_append, List.length_map, List.length_take, List.length_drop]; omega)) only [ys_nilE, ys_consE, sq_nx, sq_rt, sq_bk, sq_ct, sq_bad, rs_and, rs_or, sq_ite, oc_ite, rb_ite, oc_okk, oc_bad, rb_ok, rb_bad, of_some, x_varE, x_non, x_bl, x_int, x_str, x_bin, x_neg, x_inv, x_nt, x_cmp, x_chain, x_and, x_or, x_ite, x_tup, x_lst, x_lsnE, x_emp, x_dnew, x_idx, x_callE, x_bi, x_mth, x_rng, x_lrng, x_enm, x_rvd, x_fld, x_mcallE, x_pget, x_cv, x_make, xs_nilE, xs_consE, xn_nilE, xn_consE, and_nil, and_cons, or_nil, or_cons, x_slc, sb_nop, y_setE, y_setTE, y_augE, y_appE, y_extE, y_popE, y_revE, y_stoE, y_staE, y_sflE, y_sfaE, y_mscE, y_ifcE, y_dropE, y_tapE, y_retV, y_retE, List.length_map, List.length_append, lt_lim, lt_limP, fldx_obj, fldx_own, le_lim, cast_pred, List.map_append, y_retnE, y_iteE, y_brkE, y_contE, y_passE, hold_call, hold_keep, hold_meth, hold_init, hold_has, hold_prop, hold_cval, ev_call, ev_keep, ev_meth, ev_init, ev_has, ev_prop, ev_cval, sg0, use, getP, putP, bindS, bt_nm, bt_tt, bt_tl, bts_nil, bts_cons, o_add, o_sub, o_mulr, o_mull, o_fdiv, o_mod, o_pow, o_shl1, o_shr, o_band, o_bor, o_addS, o_addL, o_addT, o_mulL1, c_eqI, c_neI, c_ltI, c_leI, c_gtI, c_geI, c_eqS, c_neS, c_eqW, cls_obj, cls_own, c_isN, c_isnN, c_isB, c_in, c_nin, inN, inNT, ix_lst, ix_tup, ix_20, ix_21, at_20, at_21, in_20, in_21, cast_0, cast_1, ix_t0, ix_t1, ix_t2, ix_scr, it_lst, it_tup, boolR, isFlat, clean, cl_int, cl_str, cl_non, cl_bl, cl_scr, cl_lst, cl_dW, cl_0l, cl_0o, cl_0b, cl_0d, cl_tup, letters_eq, empty_eq, o_addSS, ix_str, sl_strL, sl_strR, sb_var, sb_int, sb_bin, sb_bi, sb_neg, cn_nop, cn_cmp, cn_call, cn_nt, cn_and, cn_or, bnd_int, List.contains_cons, cl_nil, sc_map, sc_dW, cl_sc, scal, scalL, fit, mscE, lend, rootP, backS, tgs, tgsL, Sg.frz, zero, vars, varsL, so_N, so_P, isi_0n, isi_0b, isi_0i, isi_0s, isi_0t, isi_0l, isi_1n, isi_1b, isi_1i, isi_1s, isi_1t, isi_1l, isi_2n, isi_2b, isi_2i, isi_2s, isi_2t, isi_2l, isi_3n, isi_3b, isi_3i, isi_3s, isi_3t, isi_3l, isi_4n, isi_4b, isi_4i, isi_4s, isi_4t, isi_4l, bi_lenL, bi_lenT, bi_lenC, bi_lenS, bi_int, bi_abs, bi_listL, bi_listT, bi_tupL, bi_tupT, bi_minN, bi_maxN, mtD, intBits_pow, bor_nat, band_nat, band_not, List.any_nil, List.any_cons, List.all_nil, List.all_cons, List.contains_nil, List.elem_nil, List.idxOf?_cons, List.idxOf?_nil, beq_self_eq_true, List.getElem?_cons_zero, List.getElem?_cons_succ, List.set_cons_zero, List.set_cons_succ, List.length_cons, List.length_nil, List.length_set, List.map_cons, List.map_nil, List.replicate, List.nil_append, List.cons_append, List.headD_cons, List.getD_cons_zero, List.getD_cons_succ, Int.toNat_natCast, Nat.reduceAdd, Nat.reduceSub, Nat.reduceLT, Nat.reduceLeDiff, Nat.reduceEqDiff, Nat.reduceBEq, decide_true, decide_false, Bool.and_true, Bool.true_and, Bool.and_false, Bool.false_and, Bool.or_true, Bool.true_or, Bool.or_false, Bool.false_or, Bool.not_false, Bool.not_true, Bool.and_self, if_true, if_false, reduceIte, ite_true, ite_false, ite_self, Bool.false_eq_true, Nat.zero_lt_succ, Option.bind_some, Option.map_some, Option.bind_none, Option.map_none])
variable {B : Tb} {l : Nat}
theorem getD_mapG {α β : Type} {f : α → β} {xs : List α} {k : Nat} {d : β} {d' : α} (h : k < xs.length) : (xs.map f).getD k d = f (xs.getD k d') := by
  rw [List.getD_eq_getElem?_getD, List.getD_eq_getElem?_getD, List.getElem?_map, List.getElem?_eq_getElem h]; rfl
theorem same_log [C_law_same B] (hl : 1 ≤ l) {log : List (Nat × Str)} (h : log.length ≤ 1000) : callAt B l 24 0 [dL dC log, dL dC log] = .ok (.bl true, 9, dL dC log) := law_same_eq hl (by rw [pd]; exact pd_map fun _ _ => rfl) (by
  rw [nodes]; have := nodes_map (e := dC) (m := 3) (xs := log) (fun _ _ => Nat.le_refl _); omega)
theorem same_W [C_law_same B] (hl : 1 ≤ l) {w : Option Str} : callAt B l 24 0 [dW w, dW w] = .ok (.bl true, 9, dW w) := law_same_eq hl (by cases w <;> rfl) (by cases w <;> (simp only [dW, nodes]; omega))
theorem same_LW [C_law_same B] (hl : 1 ≤ l) {ws : List (Option Str)} (h : ws.length ≤ 1000) : callAt B l 24 0 [dL dW ws, dL dW ws] = .ok (.bl true, 9, dL dW ws) := law_same_eq hl (by rw [pd]; exact pd_map fun w _ => by cases w <;> rfl) (by
  rw [nodes]; have := nodes_map (e := dW) (m := 1) (xs := ws) (fun w _ => by cases w <;> (simp only [dW, nodes]; omega)); omega)
theorem same_LN [C_law_same B] (hl : 1 ≤ l) {ns : List Nat} (h : ns.length ≤ 1000) : callAt B l 24 0 [dL dN ns, dL dN ns] = .ok (.bl true, 9, dL dN ns) := law_same_eq hl (by rw [pd]; exact pd_map fun w _ => rfl) (by
  rw [nodes]; have := nodes_map (e := dN) (m := 1) (xs := ns) (fun w _ => Nat.le_refl _); omega)
theorem same_N [C_law_same B] (hl : 1 ≤ l) {k : Nat} : callAt B l 24 0 [dN k, dN k] = .ok (.bl true, 9, dN k) := law_same_eq hl rfl (by simp only [nodes]; omega)
/-- zones of a house -/
structure ZoneOk (adj : Nat → Nat → Prop) (n : Nat) (z : List (List Nat)) : Prop where
  len : z.length = n
  part : ∀ r < n, isPart adj r (z.getD r []) ∧ (z.getD r []).Pairwise (· < ·) ∧ ∀ x ∈ z.getD r [], x < n
theorem ZoneOk.le {adj : Nat → Nat → Prop} {n r : Nat} {z : List (List Nat)} (h : ZoneOk adj n z) (hr : r < n) : (z.getD r []).length ≤ n := by
  obtain ⟨_, h2, h3⟩ := h.part r hr
  exact Nat.le_trans (nodup_len (asc_nodup h2) (ys := List.range n) fun x hx => List.mem_range.mpr (h3 x hx)) (by simp)
theorem views_right_eq [h : C_law_views_right B] [C_law_chain B] [C_law_by_view B] [C_law_same B] [C_law_words_kept B] [C_law_word_of B] [C_law_reach B] [C_law_layers B] [C_view_of B] [C_lesser_part B] [C_piece_with B] [C_last_calls B] [C_word_of B] [C_top_room B] [C_reached B] [Hi : C_House___init__ B] [C_rooms_of B] [C_spread B] [C_bits_of B] [C_House_neighbour_sets B] [F : Fu B] (hl : 5 ≤ l) {n : Nat} {ds : List (Nat × Nat)} {f : List Nat} (H : HouseOk n ds f) {bs : List (List Nat)} (hb : Bes n (adjD ds) bs) {zs : List (List (List Nat))} (hz : ∀ z ∈ zs, ZoneOk (adjD ds) n z) (hzl : zs.length ≤ 10) {log : List (Nat × Str)} (hlog : log.length ≤ 1000) : callAt B l 64 0 [hsD n f ds, dLL bs, dN n, .lst (zs.map dLL), dL dC log] = .ok (.bl true, 9, hsD n f ds) := by
  refine call_eq h.d_law_views_right (by omega) rfl ?_
  unfold b_law_views_right
  have h12 := H.n12
  have e0 : rngOk 0 (n : Int) = true := rgo_ok (by omega)
  have e1 : (rngOk 0 (n : Int) && decide (((n : Int) - 0).toNat ≤ 1000000)) = true := by
    rw [e0, Bool.true_and]; exact decide_eq_true (by omega)
  walk_at "ev"
  rw [x_comp, x_varE]
  walk_at "ev"
  rw [comp_all (n := 1) (h := fun z => dL dW (z.map (wordOf log))) (fun z hzm => ⟨by
    unfold cpF
    walk_at "ev"
    rw [words_kept_eq (by omega) (by have := (hz z hzm).len; omega)]
    walk_at "ev", rfl⟩)]
  walk_at "ev"
  refine wp_rng0 n 0 (fun pre post s => ∃ (j7 j8 j9 : Option D) (k8 : Nat), s = ⟨[some (hsD n f ds), some (dLL bs), some (dN n), some (.lst (zs.map dLL)), some (dL dC log), some (dL dC log), some (.lst (zs.map fun z => dL dW (z.map (wordOf log)))), j7, j8, j9, none], [0, 0, 0, 0, 0, 1, 1, 0, k8, 0, 0]⟩) ?h1 (by omega) ?h0 ?_ ?_
  case h1 => walk_at "ev"
  case h0 => exact ⟨_, _, _, _, rfl⟩
  · intro pre room post s hx hI
    obtain ⟨j7, j8, j9, k8, hs⟩ := hI
    subst hs
    have hr := (at_range hx).2
    walk_at "ev"
    obtain ⟨vs, m, hV, hd, hvl, ev⟩ := view_of_eq (B := B) (l := l - 1) (by omega) H hr (log := log) (by omega)
    rw [ev]
    walk_at "ev"
    simp only [sc_V]
    walk_at "ev"
    rw [e1]
    walk_at "ev"
    rw [rngL_0, law_reach_eq (by omega) hb (ins := List.range n) .lst List.nodup_range (fun r hr => List.mem_range.mp hr) (by simp; omega)]
    walk_at "ev"
    rw [law_chain_eq (by omega) hV hd (by omega) hvl]
    walk_at "ev"
    refine wp_rng0 zs.length 9 (fun pre2 post2 s => ∃ (j9 : Option D), s = ⟨[some (hsD n f ds), some (dLL bs), some (dN n), some (.lst (zs.map dLL)), some (dL dC log), some (dL dC log), some (.lst (zs.map fun z => dL dW (z.map (wordOf log)))), some (dN room), some (dV vs), j9, none], [0, 0, 0, 0, 0, 1, 1, 0, m, 0, 0]⟩) ?h1 (by omega) ?h0 ?_ ?_
    case h1 => walk_at "ev"
    case h0 => exact ⟨_, rfl⟩
    · intro pre2 k post2 s hx2 hI
      obtain ⟨j9, hs⟩ := hI
      subst hs
      have hk := (at_range hx2).2
      have hzk : zs.getD k [] ∈ zs := mem_getD hk
      have hzo := hz _ hzk
      have hzlen := hzo.len
      obtain ⟨p1, p2, p3⟩ := hzo.part room hr
      have hple := hzo.le hr
      walk_at "ev"
      have hde : zs.getD k default = zs.getD k [] := rfl
      rw [hde]
      walk_at "ev"
      have hde2 : (zs.getD k []).getD room default = (zs.getD k []).getD room [] := rfl
      rw [hde2]
      obtain ⟨m2, e2⟩ := law_by_view_eq (B := B) (l := l - 1) (by omega) (vs := vs) (P := (zs.getD k []).getD room []) (by omega)
      rw [e2]
      walk_at "ev"
      have hmw : ((zs.getD k []).map (wordOf log)).getD room default = wordOf log ((zs.getD k []).getD room []) := by
        exact getD_mapG (by omega)
      have hml : (room : Int) < ((zs.getD k []).map (wordOf log)).length := by rw [List.length_map]; omega
      walk_at "ev"
      rw [hmw]
      have hbv : byV ((zs.getD k []).getD room []) vs none = wordOf log ((zs.getD k []).getD room []) := by
        cases vs with
        | nil => cases hd
        | cons p vs =>
          refine byV_eq p1 hV ?_
          have : p.2 = roomC (adjD ds) (fun r => r ∈ List.range n) n room := by simpa using hd
          rw [this]
          exact p1.room p3 fun x hx => List.mem_range.mpr (p3 x hx)
      rw [hbv, same_W (by omega)]
      walk_at "ev"
      exact ⟨some (dN k), rfl⟩
    · intro s hI
      obtain ⟨j9, hs⟩ := hI
      subst hs
      walk_at "ev"
      exact ⟨some (dN room), some (dV vs), j9, m, rfl⟩
  · intro s hI
    obtain ⟨j7, j8, j9, k8, hs⟩ := hI
    subst hs
    walk_at "ev"
    rw [same_log (by omega) hlog]
    walk_at "ev"
    exact ⟨fend_rt⟩
end Hc
set_option Elab.async false
set_option linter.all false
set_option maxRecDepth 100000
set_option maxHeartbeats 4000000
set_option exponentiation.threshold 2000
/-! The law's judge of live houses. -/
namespace Hc
open PySem PySem.Spec PyProof.Rows L2 Bd
local macro_rules | `(tactic| walk_at "ev") => `(tactic| simp -failIfUnchanged (disch := first | assumption | omega | (show nv _ = true; with_unfolding_all rfl) | (show nn _ = true; with_unfolding_all rfl) | (show scal _ = true; with_unfolding_all rfl) | (show ∀ _, scal _ = true; intro _; with_unfolding_all rfl) | (show ∀ _, cleanN _ _ = true; intro _; with_unfolding_all rfl) | (simp only [List.length_cons, List.length_nil, List.length_append, List.length_map, List.length_take, List.length_drop]; omega)) only [ys_nilE, ys_consE, sq_nx, sq_rt, sq_bk, sq_ct, sq_bad, rs_and, rs_or, sq_ite, oc_ite, rb_ite, oc_okk, oc_bad, rb_ok, rb_bad, of_some, x_varE, x_non, x_bl, x_int, x_str, x_bin, x_neg, x_inv, x_nt, x_cmp, x_chain, x_and, x_or, x_ite, x_tup, x_lst, x_lsnE, x_emp, x_dnew, x_idx, x_callE, x_bi, x_mth, x_rng, x_lrng, x_enm, x_rvd, x_fld, x_mcallE, x_pget, x_cv, x_make, xs_nilE, xs_consE, xn_nilE, xn_consE, and_nil, and_cons, or_nil, or_cons, x_slc, sb_nop, y_setE, y_setTE, y_augE, y_appE, y_extE, y_popE, y_revE, y_stoE, y_staE, y_sflE, y_sfaE, y_mscE, y_ifcE, y_dropE, y_tapE, y_retV, y_retE, List.length_map, List.length_append, lt_lim, lt_limP, fldx_obj, fldx_own, le_lim, cast_pred, List.map_append, y_retnE, y_iteE, y_brkE, y_contE, y_passE, hold_call, hold_keep, hold_meth, hold_init, hold_has, hold_prop, hold_cval, ev_call, ev_keep, ev_meth, ev_init, ev_has, ev_prop, ev_cval, sg0, use, getP, putP, bindS, bt_nm, bt_tt, bt_tl, bts_nil, bts_cons, o_add, o_sub, o_mulr, o_mull, o_fdiv, o_mod, o_pow, o_shl1, o_shr, o_band, o_bor, o_addS, o_addL, o_addT, o_mulL1, c_eqI, c_neI, c_ltI, c_leI, c_gtI, c_geI, c_eqS, c_neS, c_eqW, cls_obj, cls_own, c_isN, c_isnN, c_isB, c_in, c_nin, inN, inNT, ix_lst, ix_tup, ix_20, ix_21, at_20, at_21, in_20, in_21, cast_0, cast_1, ix_t0, ix_t1, ix_t2, ix_scr, it_lst, it_tup, boolR, isFlat, clean, cl_int, cl_str, cl_non, cl_bl, cl_scr, cl_lst, cl_dW, cl_0l, cl_0o, cl_0b, cl_0d, cl_tup, letters_eq, empty_eq, o_addSS, ix_str, sl_strL, sl_strR, sb_var, sb_int, sb_bin, sb_bi, sb_neg, cn_nop, cn_cmp, cn_call, cn_nt, cn_and, cn_or, bnd_int, List.contains_cons, cl_nil, sc_map, sc_dW, cl_sc, scal, scalL, fit, mscE, lend, rootP, backS, tgs, tgsL, Sg.frz, zero, vars, varsL, so_N, so_P, isi_0n, isi_0b, isi_0i, isi_0s, isi_0t, isi_0l, isi_1n, isi_1b, isi_1i, isi_1s, isi_1t, isi_1l, isi_2n, isi_2b, isi_2i, isi_2s, isi_2t, isi_2l, isi_3n, isi_3b, isi_3i, isi_3s, isi_3t, isi_3l, isi_4n, isi_4b, isi_4i, isi_4s, isi_4t, isi_4l, bi_lenL, bi_lenT, bi_lenC, bi_lenS, bi_int, bi_abs, bi_listL, bi_listT, bi_tupL, bi_tupT, bi_minN, bi_maxN, mtD, intBits_pow, bor_nat, band_nat, band_not, List.any_nil, List.any_cons, List.all_nil, List.all_cons, List.contains_nil, List.elem_nil, List.idxOf?_cons, List.idxOf?_nil, beq_self_eq_true, List.getElem?_cons_zero, List.getElem?_cons_succ, List.set_cons_zero, List.set_cons_succ, List.length_cons, List.length_nil, List.length_set, List.map_cons, List.map_nil, List.replicate, List.nil_append, List.cons_append, List.headD_cons, List.getD_cons_zero, List.getD_cons_succ, Int.toNat_natCast, Nat.reduceAdd, Nat.reduceSub, Nat.reduceLT, Nat.reduceLeDiff, Nat.reduceEqDiff, Nat.reduceBEq, decide_true, decide_false, Bool.and_true, Bool.true_and, Bool.and_false, Bool.false_and, Bool.or_true, Bool.true_or, Bool.or_false, Bool.false_or, Bool.not_false, Bool.not_true, Bool.and_self, if_true, if_false, reduceIte, ite_true, ite_false, ite_self, Bool.false_eq_true, Nat.zero_lt_succ, Option.bind_some, Option.map_some, Option.bind_none, Option.map_none])
variable {B : Tb} {l : Nat}
theorem ix_20n {a b : D} : ixD (.lst [a, b]) (dN 0) = .ok (a, 0) := ix_20
theorem ix_21n {a b : D} : ixD (.lst [a, b]) (dN 1) = .ok (b, 0) := ix_21
local macro_rules | `(tactic| walk_at "evv") => `(tactic| (walk_at "ev"; repeat (simp only [ix_20n, ix_21n]; walk_at "ev")))
theorem fill_step {ws : List (Option Str)} {rs : List Nat} {r : Nat} {w : Str} : fillW ws (rs ++ [r]) w = (fillW ws rs w).set r (some w) := by
  unfold fillW; rw [List.foldl_append]; rfl
theorem live_right_eq [h : C_law_live_right B] [C_law_same B] [Hl : C_LiveHouse___init__ B] [Hc' : C_LiveHouse_call B] [Hk : C_LiveHouse_calls B] [Hw : C_LiveHouse_words B] (hl : 3 ≤ l) {n : Nat} (hn : n ≤ 12) {z0 z1 : List (List Nat)} (adj : Nat → Nat → Prop) (o0 : ZoneOk adj n z0) (o1 : ZoneOk adj n z1) {log : List (Nat × Str)} (hlog : log.length ≤ 1000) (hr : ∀ c ∈ log, c.1 < n) : ∃ x, callAt B l 61 3 [.lst [lvD 0 (List.replicate n none) z0, lvD 0 (List.replicate n none) z1], .lst [dLL z0, dLL z1], dL dC log] = .ok (.bl true, 9, x) := by
  refine call_wp (Q := fun r => ∃ x, r = .ok (.bl true, 9, x)) h.d_law_live_right (by omega) rfl ?_
  unfold b_law_live_right
  have e0 : List.replicate n (D.non) = (List.replicate n (none : Option Str)).map dW := by rw [List.map_replicate]; rfl
  have l0 := o0.len
  have l1 := o1.len
  walk_at "ev"
  rw [l0]
  walk_at "ev"
  refine wp_rng0 (2 * log.length) 9 (fun pre post s => ∃ (u0 u1 : List (Option Str)) (j4 j5 j6 j7 j9 : Option D) (k5 k7 : Nat), s = ⟨[some (.lst [lvD pre.length u0 z0, lvD pre.length u1 z1]), some (.lst [dLL z0, dLL z1]), some (dL dC log), some (.lst [dL dW u0, dL dW u1]), j4, j5, j6, j7, none, j9], [3, 0, 0, 2, 0, k5, 0, k7, 0, 0]⟩ ∧ u0.length = n ∧ u1.length = n) ?h1 (by omega) ?h0 ?_ ?_
  case h1 =>
    walk_at "ev"
    have : 2 * (log.length : Int) = ((2 * log.length : Nat) : Int) := by omega
    rw [this]
  case h0 => exact ⟨List.replicate n none, List.replicate n none, none, none, none, none, none, 0, 0, by rw [e0]; rfl, by simp, by simp⟩
  · intro pre k post s hx hI
    obtain ⟨u0, u1, j4, j5, j6, j7, j9, k5, k7, hs, q1, q2⟩ := hI
    subst hs
    have hk := at_range hx
    rw [hk.1]
    walk_at "ev"
    have hmin : biD .min [dN k, .int (2 * (log.length : Int) - 1 - (k : Int))] = .ok (dN (min k (2 * log.length - 1 - k)), 9) := by
      rw [show 2 * (log.length : Int) - 1 - (k : Int) = ((2 * log.length - 1 - k : Nat) : Int) by omega, bi_minN]
    rw [hmin]
    have hix : min k (2 * log.length - 1 - k) < log.length := by omega
    walk_at "ev"
    have hcm : log.getD (min k (2 * log.length - 1 - k)) default ∈ log := mem_getD (by omega)
    generalize log.getD (min k (2 * log.length - 1 - k)) default = c at hcm
    have hcr := hr c hcm
    refine wp_rng0 2 9 (fun pre2 post2 s => ∃ (u0 u1 : List (Option Str)) (c0 c1 : Nat) (j6 j7 j9 : Option D) (k7 : Nat), s = ⟨[some (.lst [lvD c0 u0 z0, lvD c1 u1 z1]), some (.lst [dLL z0, dLL z1]), some (dL dC log), some (.lst [dL dW u0, dL dW u1]), some (dN k), some (dC c), j6, j7, none, j9], [3, 0, 0, 2, 0, 0, 0, k7, 0, 0]⟩ ∧ u0.length = n ∧ u1.length = n ∧ (c0 = if pre2.length = 0 then k else k + 1) ∧ (c1 = if pre2.length ≤ 1 then k else k + 1)) ?h1 (by omega) ?h0 ?_ ?_
    case h1 => walk_at "ev"; rfl
    case h0 => exact ⟨u0, u1, k, k, j6, j7, j9, k7, rfl, q1, q2, rfl, rfl⟩
    · intro pre2 x post2 s hx2 hI
      obtain ⟨u0, u1, c0, c1, j6, j7, j9, k7, hs, q1, q2, q3, q4⟩ := hI
      subst hs
      have hx2 := at_range hx2
      have hx01 : x = 0 ∨ x = 1 := by omega
      rw [hx2.1] at q3 q4
      have hcnt0 : x = 0 → (k : Int) + 1 = ((c0 + 1 : Nat) : Int) := fun e => by subst e; simp at q3; omega
      have hcnt1 : x = 1 → (k : Int) + 1 = ((c1 + 1 : Nat) : Int) := fun e => by subst e; simp at q4; omega
      rcases hx01 with hx0 | hx0
      · subst hx0
        obtain ⟨p1, p2, p3⟩ := o0.part c.1 hcr
        have hple := o0.le hcr
        have hfl := fillW_len (ws := u0) (rs := z0.getD c.1 []) (w := c.2)
        have hdef : z0.getD c.1 default = z0.getD c.1 [] := rfl
        walk_at "evv"
        simp only [Hc'.m_LiveHouse_call]
        walk_at "evv"
        rw [live_call_eq (by omega) q1 l0 hcr p3]
        walk_at "evv"
        rw [hdef, same_LN (by omega) (by omega)]
        walk_at "evv"
        refine wp_loan (d := dL dW u0) (n := 1) ?hg ?hc ?hb
        case hg => walk_at "evv"
        case hc => refine ⟨by simp [rootP], by simp, by simp [rootP], by simp, by simp, by simp [ev_keep]⟩
        case hb =>
          walk_at "evv"
          refine wp_src (dL dN (z0.getD c.1 [])) 0 dN (z0.getD c.1 []) (fun pre3 post3 s => ∃ (j7' j9' : Option D) (k7' : Nat), s = ⟨[some (.lst [lvD (c0 + 1) (fillW u0 (z0.getD c.1 []) c.2) z0, lvD c1 u1 z1]), some (.lst [dLL z0, dLL z1]), some (dL dC log), none, some (dN k), some (dC c), some (dN 0), j7', some (dL dW (fillW u0 pre3 c.2)), j9'], [3, 0, 0, 0, 0, 0, 0, k7', 1, 0]⟩) ?h1 ?h2 ?h3 ?h0 ?_ ?_
          case h1 => walk_at "evv"; rw [hdef]
          case h2 =>
            intro i hi
            have : i = 1 ∨ i = 6 ∨ i = 5 := by simp [vars, varsL] at hi; omega
            rcases this with rfl | rfl | rfl <;> exact .inl rfl
          case h3 => rfl
          case h0 => exact ⟨_, _, _, rfl⟩
          · intro pre3 r post3 s hx3 hI
            obtain ⟨j7', j9', k7', hs⟩ := hI
            subst hs
            have hrn := p3 r (by rw [← hx3]; simp)
            have hfl3 := fillW_len (ws := u0) (rs := pre3) (w := c.2)
            have i1 : ixN (fillW u0 pre3 c.2).length (r : Int) = some r := by rw [ixN_ok (by omega) (by omega), Int.toNat_natCast]
            walk_at "evv"
            rw [i1]
            walk_at "evv"
            rw [show D.str c.2 = dW (some c.2) from rfl, set_mapE (e := dW), ← fill_step]
            exact ⟨_, _, _, rfl⟩
          · intro s hI
            obtain ⟨j7', j9', k7', hs⟩ := hI
            subst hs
            walk_at "evv"
            simp only [Hk.m_LiveHouse_calls]
            walk_at "evv"
            rw [live_calls_eq (by omega)]
            walk_at "evv"
            rw [hcnt0 rfl, same_N (by omega)]
            walk_at "evv"
            simp only [Hw.m_LiveHouse_words]
            walk_at "evv"
            rw [live_words_eq (by omega)]
            walk_at "evv"
            rw [same_LW (by omega) (by omega)]
            walk_at "evv"
            simp only [Hw.m_LiveHouse_words]
            walk_at "evv"
            rw [live_words_eq (by omega)]
            walk_at "evv"
            refine ⟨?_⟩
            show wp _ (backS _ _ _ _ _ _ _)
            walk_at "evv"
            rw [if_pos (show True ∧ True from ⟨trivial, trivial⟩)]
            refine ⟨_, _, _, _, _, _, _, _, rfl, by first | exact q1 | (rw [hfl]; exact q1), by first | exact q2 | (rw [hfl]; exact q2), ?_, ?_⟩
            · have := hx2.1
              have q5 := q3
              clear q3 q4
              first | omega | (split at q5 <;> first | omega | (split <;> omega))
            · have := hx2.1
              have q5 := q4
              clear q3 q4
              first | omega | (split at q5 <;> first | omega | (split <;> omega))
      · subst hx0
        obtain ⟨p1, p2, p3⟩ := o1.part c.1 hcr
        have hple := o1.le hcr
        have hfl := fillW_len (ws := u1) (rs := z1.getD c.1 []) (w := c.2)
        have hdef : z1.getD c.1 default = z1.getD c.1 [] := rfl
        walk_at "evv"
        simp only [Hc'.m_LiveHouse_call]
        walk_at "evv"
        rw [live_call_eq (by omega) q2 l1 hcr p3]
        walk_at "evv"
        rw [hdef, same_LN (by omega) (by omega)]
        walk_at "evv"
        refine wp_loan (d := dL dW u1) (n := 1) ?hg ?hc ?hb
        case hg => walk_at "evv"
        case hc => refine ⟨by simp [rootP], by simp, by simp [rootP], by simp, by simp, by simp [ev_keep]⟩
        case hb =>
          walk_at "evv"
          refine wp_src (dL dN (z1.getD c.1 [])) 0 dN (z1.getD c.1 []) (fun pre3 post3 s => ∃ (j7' j9' : Option D) (k7' : Nat), s = ⟨[some (.lst [lvD c0 u0 z0, lvD (c1 + 1) (fillW u1 (z1.getD c.1 []) c.2) z1]), some (.lst [dLL z0, dLL z1]), some (dL dC log), none, some (dN k), some (dC c), some (dN 1), j7', some (dL dW (fillW u1 pre3 c.2)), j9'], [3, 0, 0, 0, 0, 0, 0, k7', 1, 0]⟩) ?h1 ?h2 ?h3 ?h0 ?_ ?_
          case h1 => walk_at "evv"; rw [hdef]
          case h2 =>
            intro i hi
            have : i = 1 ∨ i = 6 ∨ i = 5 := by simp [vars, varsL] at hi; omega
            rcases this with rfl | rfl | rfl <;> exact .inl rfl
          case h3 => rfl
          case h0 => exact ⟨_, _, _, rfl⟩
          · intro pre3 r post3 s hx3 hI
            obtain ⟨j7', j9', k7', hs⟩ := hI
            subst hs
            have hrn := p3 r (by rw [← hx3]; simp)
            have hfl3 := fillW_len (ws := u1) (rs := pre3) (w := c.2)
            have i1 : ixN (fillW u1 pre3 c.2).length (r : Int) = some r := by rw [ixN_ok (by omega) (by omega), Int.toNat_natCast]
            walk_at "evv"
            rw [i1]
            walk_at "evv"
            rw [show D.str c.2 = dW (some c.2) from rfl, set_mapE (e := dW), ← fill_step]
            exact ⟨_, _, _, rfl⟩
          · intro s hI
            obtain ⟨j7', j9', k7', hs⟩ := hI
            subst hs
            walk_at "evv"
            simp only [Hk.m_LiveHouse_calls]
            walk_at "evv"
            rw [live_calls_eq (by omega)]
            walk_at "evv"
            rw [hcnt1 rfl, same_N (by omega)]
            walk_at "evv"
            simp only [Hw.m_LiveHouse_words]
            walk_at "evv"
            rw [live_words_eq (by omega)]
            walk_at "evv"
            rw [same_LW (by omega) (by omega)]
            walk_at "evv"
            simp only [Hw.m_LiveHouse_words]
            walk_at "evv"
            rw [live_words_eq (by omega)]
            walk_at "evv"
            refine ⟨?_⟩
            show wp _ (backS _ _ _ _ _ _ _)
            walk_at "evv"
            rw [if_pos (show True ∧ True from ⟨trivial, trivial⟩)]
            refine ⟨_, _, _, _, _, _, _, _, rfl, by first | exact q1 | (rw [hfl]; exact q1), by first | exact q2 | (rw [hfl]; exact q2), ?_, ?_⟩
            · have := hx2.1
              have q5 := q3
              clear q3 q4
              first | omega | (split at q5 <;> first | omega | (split <;> omega))
            · have := hx2.1
              have q5 := q4
              clear q3 q4
              first | omega | (split at q5 <;> first | omega | (split <;> omega))
    · intro s hI
      obtain ⟨u0, u1, c0, c1, j6, j7, j9, k7, hs, q1, q2, q3, q4⟩ := hI
      subst hs
      simp at q3 q4
      subst q3 q4
      walk_at "ev"
      exact ⟨u0, u1, some (dN k), some (dC c), j6, j7, j9, 0, k7, by simp only [List.length_append, List.length_cons, List.length_nil, hk.1], q1, q2⟩
  · intro s hI
    obtain ⟨u0, u1, j4, j5, j6, j7, j9, k5, k7, hs, q1, q2⟩ := hI
    subst hs
    walk_at "ev"
    simp only [Hw.m_LiveHouse_words]
    walk_at "ev"
    rw [live_words_eq (by omega)]
    walk_at "ev"
    rw [same_LW (by omega) (by omega)]
    walk_at "ev"
    rw [live_words_eq (by omega)]
    walk_at "ev"
    rw [same_LW (by omega) (by omega)]
    walk_at "ev"
    exact ⟨_, rfl⟩
end Hc
set_option Elab.async false
set_option linter.all false
set_option maxRecDepth 100000
set_option maxHeartbeats 4000000
set_option exponentiation.threshold 2000
/-! The law k07. -/
namespace Hc
open PySem PySem.Spec PyProof.Rows L2 Bd
local macro_rules | `(tactic| walk_at "ev") => `(tactic| simp -failIfUnchanged (disch := first | assumption | omega | (show nv _ = true; with_unfolding_all rfl) | (show nn _ = true; with_unfolding_all rfl) | (show scal _ = true; with_unfolding_all rfl) | (show ∀ _, scal _ = true; intro _; with_unfolding_all rfl) | (show ∀ _, cleanN _ _ = true; intro _; with_unfolding_all rfl) | (simp only [List.length_cons, List.length_nil, List.length_append, List.length_map, List.length_take, List.length_drop]; omega)) only [ys_nilE, ys_consE, sq_nx, sq_rt, sq_bk, sq_ct, sq_bad, rs_and, rs_or, sq_ite, oc_ite, rb_ite, oc_okk, oc_bad, rb_ok, rb_bad, of_some, x_varE, x_non, x_bl, x_int, x_str, x_bin, x_neg, x_inv, x_nt, x_cmp, x_chain, x_and, x_or, x_ite, x_tup, x_lst, x_lsnE, x_emp, x_dnew, x_idx, x_callE, x_bi, x_mth, x_rng, x_lrng, x_enm, x_rvd, x_fld, x_mcallE, x_pget, x_cv, x_make, xs_nilE, xs_consE, xn_nilE, xn_consE, and_nil, and_cons, or_nil, or_cons, x_slc, sb_nop, y_setE, y_setTE, y_augE, y_appE, y_extE, y_popE, y_revE, y_stoE, y_staE, y_sflE, y_sfaE, y_mscE, y_ifcE, y_dropE, y_tapE, y_retV, y_retE, List.length_map, List.length_append, lt_lim, lt_limP, fldx_obj, fldx_own, le_lim, cast_pred, List.map_append, y_retnE, y_iteE, y_brkE, y_contE, y_passE, hold_call, hold_keep, hold_meth, hold_init, hold_has, hold_prop, hold_cval, ev_call, ev_keep, ev_meth, ev_init, ev_has, ev_prop, ev_cval, sg0, use, getP, putP, bindS, bt_nm, bt_tt, bt_tl, bts_nil, bts_cons, o_add, o_sub, o_mulr, o_mull, o_fdiv, o_mod, o_pow, o_shl1, o_shr, o_band, o_bor, o_addS, o_addL, o_addT, o_mulL1, c_eqI, c_neI, c_ltI, c_leI, c_gtI, c_geI, c_eqS, c_neS, c_eqW, cls_obj, cls_own, c_isN, c_isnN, c_isB, c_in, c_nin, inN, inNT, ix_lst, ix_tup, ix_20, ix_21, at_20, at_21, in_20, in_21, cast_0, cast_1, ix_t0, ix_t1, ix_t2, ix_scr, it_lst, it_tup, boolR, isFlat, clean, cl_int, cl_str, cl_non, cl_bl, cl_scr, cl_lst, cl_dW, cl_0l, cl_0o, cl_0b, cl_0d, cl_tup, letters_eq, empty_eq, o_addSS, ix_str, sl_strL, sl_strR, sb_var, sb_int, sb_bin, sb_bi, sb_neg, cn_nop, cn_cmp, cn_call, cn_nt, cn_and, cn_or, bnd_int, List.contains_cons, cl_nil, sc_map, sc_dW, cl_sc, scal, scalL, fit, mscE, lend, rootP, backS, tgs, tgsL, Sg.frz, zero, vars, varsL, so_N, so_P, isi_0n, isi_0b, isi_0i, isi_0s, isi_0t, isi_0l, isi_1n, isi_1b, isi_1i, isi_1s, isi_1t, isi_1l, isi_2n, isi_2b, isi_2i, isi_2s, isi_2t, isi_2l, isi_3n, isi_3b, isi_3i, isi_3s, isi_3t, isi_3l, isi_4n, isi_4b, isi_4i, isi_4s, isi_4t, isi_4l, bi_lenL, bi_lenT, bi_lenC, bi_lenS, bi_int, bi_abs, bi_listL, bi_listT, bi_tupL, bi_tupT, bi_minN, bi_maxN, mtD, intBits_pow, bor_nat, band_nat, band_not, List.any_nil, List.any_cons, List.all_nil, List.all_cons, List.contains_nil, List.elem_nil, List.idxOf?_cons, List.idxOf?_nil, beq_self_eq_true, List.getElem?_cons_zero, List.getElem?_cons_succ, List.set_cons_zero, List.set_cons_succ, List.length_cons, List.length_nil, List.length_set, List.map_cons, List.map_nil, List.replicate, List.nil_append, List.cons_append, List.headD_cons, List.getD_cons_zero, List.getD_cons_succ, Int.toNat_natCast, Nat.reduceAdd, Nat.reduceSub, Nat.reduceLT, Nat.reduceLeDiff, Nat.reduceEqDiff, Nat.reduceBEq, decide_true, decide_false, Bool.and_true, Bool.true_and, Bool.and_false, Bool.false_and, Bool.or_true, Bool.true_or, Bool.or_false, Bool.false_or, Bool.not_false, Bool.not_true, Bool.and_self, if_true, if_false, reduceIte, ite_true, ite_false, ite_self, Bool.false_eq_true, Nat.zero_lt_succ, Option.bind_some, Option.map_some, Option.bind_none, Option.map_none])
variable {B : Tb} {l : Nat}
def allP : List (Nat × Nat) := (List.range 12).flatMap fun b => (List.range b).map fun a => (a, b)
theorem Doors.len66 {n : Nat} {ds : List (Nat × Nat)} (h : Doors n ds) (hn : n ≤ 12) : ds.length ≤ 66 := by
  have h2 : ds ⊆ allP := fun p hp => by
    have := h.lt p hp
    unfold allP
    rw [List.mem_flatMap]
    exact ⟨p.2, List.mem_range.mpr (by omega), List.mem_map.mpr ⟨p.1, List.mem_range.mpr (by omega), rfl⟩⟩
  have h3 := h.nd.length_le_of_subset h2
  have h4 : allP.length = 66 := by decide +kernel
  omega
theorem zone_ok {n : Nat} {ds op : List (Nat × Nat)} (hs : ∀ p ∈ op, p ∈ ds) : ZoneOk (adjD ds) n (hearM op n) := by
  refine ⟨by unfold hearM; simp, fun r hr => ?_⟩
  have e : (hearM op n).getD r [] = zoneC op n r := by
    unfold hearM
    rw [List.getD_eq_getElem?_getD, List.getElem?_map, List.getElem?_range hr]; rfl
  rw [e]
  have hp := roomC_part (adj := adjD op) (room := r) (n := n) (ins := List.range n) (List.mem_range.mpr hr) fun r hr => List.mem_range.mp hr
  refine ⟨⟨hp.1, fun x hx => (hp.2 x hx).mono (fun a b e _ _ => ?_) fun _ h => h⟩, roomC_asc, fun x hx => (roomC_mem.mp hx).1⟩
  rcases e with e | e
  · exact .inl (hs _ e)
  · exact .inr (hs _ e)
theorem sl_lstL {α : Type} {e : α → D} {xs : List α} {k : Nat} : slD (.lst (xs.map e)) none (some (k : Int)) = .ok (.lst ((xs.take k).map e), 1) := by
  rw [slD]
  unfold cutD
  rw [HT.sIx_none, HT.sIx_nat, List.drop_zero, Nat.sub_zero, List.length_map, List.map_take]
  congr 3
  rw [List.take_eq_take_iff, List.length_map]; omega
theorem cl_own {n c : Nat} {fs : List Nat} {ds : List D} : cleanN (n + 1) (.own c fs ds) = ds.all (cleanN n) := by rw [cleanN]
theorem cl_lv {k : Nat} {ws : List (Option Str)} {hs : List (List Nat)} : cleanN 2 (lvD k ws hs) = true := by
  rw [cl_own]
  simp only [List.all_cons, List.all_nil, Bool.and_true]
  rw [cl_int, cl_lst fun _ => cl_dW, cl_lst fun _ => cl_sc (sc_dT fun _ => rfl)]
  rfl
theorem snoc_getD {α : Type} {xs : List α} {x d : α} : (xs ++ [x]).getD xs.length d = x := by
  rw [List.getD_eq_getElem?_getD]; simp
theorem ix_snoc {ds : List D} {x : D} {k : Nat} (h : k = ds.length) : ixD (.lst (ds ++ [x])) (dN k) = .ok (x, 0) := by
  rw [ix_dl (by rw [List.length_append, List.length_singleton]; omega), Int.toNat_natCast, h, snoc_getD]
theorem cl_LL {bs : List (List Nat)} : cleanN 2 (dLL bs) = true := cl_lst fun _ => cl_lst fun _ => cl_int
local macro_rules | `(tactic| walk_at "evv") => `(tactic| (walk_at "ev"; repeat (simp only [cl_LL, cl_lv]; walk_at "ev")))
theorem k07_true [h : C_law_k07 B] [C_check_rooms B] [F : Fu B] (hl : 8 ≤ l) {ns : List Int} (hns : ns.length ≤ 63) : ∃ m x, callAt B l 65 0 [.scr ns] = .ok (.bl true, m, x) := by
  refine call_wp (Q := fun r => ∃ m x, r = .ok (.bl true, m, x)) h.d_law_k07 (by omega) rfl ?_
  unfold b_law_k07
  walk_at "evv"
  obtain ⟨n1, a1, a2, a3⟩ := law_numbers_eq (B := B) (l := l - 1) (by omega) (cell := cellN ns 0) (count := 80) (by omega)
  obtain ⟨m1, b1, b2, b3⟩ := law_numbers_eq (B := B) (l := l - 1) (by omega) (cell := cellN ns 1) (count := 42) (by omega)
  obtain ⟨p1, c1, c2, c3⟩ := law_numbers_eq (B := B) (l := l - 1) (by omega) (cell := cellN ns 2) (count := 140) (by omega)
  rw [show callAt B (l - 1) 15 0 [.scr ns, .int 0] = _ from law_cell_eq (k := 0) (by omega)]
  walk_at "evv"
  rw [show callAt B (l - 1) 16 0 [dN (cellN ns 0), .int 80] = _ from a3]
  walk_at "evv"
  have hn1 : (1 : Int) + ((n1.getD (Int.toNat 79) default : Nat) : Int) % 12 = ((1 + n1.getD 79 0 % 12 : Nat) : Int) := by
    show (1 : Int) + ((n1.getD 79 0 : Nat) : Int) % 12 = _
    omega
  rw [hn1]
  generalize hnr : 1 + n1.getD 79 0 % 12 = n
  have hn : 1 ≤ n ∧ n ≤ 12 := by omega
  obtain ⟨ds, hD, d3⟩ := law_doors_eq (B := B) (l := l - 1) (by omega) (ns := n1) hn (by omega) (by omega)
  have hdl := hD.len66 hn.2
  rw [d3]
  walk_at "evv"
  obtain ⟨bs, hB, e3⟩ := law_beside_eq (B := B) (l := l - 1) (by omega) (n := n) (ds := ds) (by omega) (fun p hp => by have := hD.lt p hp; omega) (by omega)
  rw [e3]
  walk_at "evv"
  rw [show callAt B (l - 1) 15 0 [.scr ns, .int 1] = _ from law_cell_eq (k := 1) (by omega)]
  walk_at "evv"
  rw [show callAt B (l - 1) 16 0 [dN (cellN ns 1), .int 42] = _ from b3]
  walk_at "evv"
  generalize hwm : (1 : Int) + ((m1.getD (Int.toNat 15) default : Nat) : Int) % 6 = wmi
  obtain ⟨wm, hwm'⟩ : ∃ z : Nat, wmi = (z : Int) := ⟨wmi.toNat, by omega⟩
  subst hwm'
  obtain ⟨ws, w1, w2, w3⟩ := law_unlike_eq (B := B) (l := l - 1) (by omega) (ns := m1) (at' := 0) (many := wm) (by omega) (by omega) (by omega)
  rw [show callAt B (l - 1) 55 0 [dL dN m1, .int 0, dN wm] = _ from w3]
  walk_at "evv"
  generalize hlm : ((m1.getD (Int.toNat 16) default : Nat) : Int) % 11 = lmi
  obtain ⟨lm, hlm'⟩ : ∃ z : Nat, lmi = (z : Int) := ⟨lmi.toNat, by omega⟩
  subst hlm'
  obtain ⟨g1, g2, g3, g4⟩ := law_log_eq (B := B) (l := l - 1) (by omega) (ns := m1) (at' := 18) (many := lm) (n := n) (ws := ws) (by omega) (by omega) (by omega) (by omega) (by omega)
  rw [show callAt B (l - 1) 56 0 [dL dN m1, .int 18, dN lm, dN n, dL D.str ws] = _ from g4]
  walk_at "evv"
  obtain ⟨q1, q2, q3, q4, q5⟩ := law_calls_eq (B := B) (l := l - 1) (by omega) (sc := ns) (at' := 3) (most := 50) (n := n) (ws := ws) hns (by omega) (by omega) (by omega) (by omega)
  rw [show callAt B (l - 1) 57 0 [.scr ns, .int 3, dN n, dL D.str ws, .int 50] = _ from q5]
  walk_at "evv"
  rw [← List.map_append]
  have hlen : (g1 ++ q1).length ≤ 100 := by rw [List.length_append]; omega
  have hlog := g3.app q4
  generalize g1 ++ q1 = log at hlen hlog
  walk_at "evv"
  rw [show callAt B (l - 1) 15 0 [.scr ns, .int 2] = _ from law_cell_eq (k := 2) (by omega)]
  walk_at "evv"
  rw [show callAt B (l - 1) 16 0 [dN (cellN ns 2), .int 140] = _ from c3]
  walk_at "evv"
  simp only [h.i_House___init__]
  walk_at "evv"
  obtain ⟨f, H, f3⟩ := init_eq (B := B) (l := l - 1) (by omega) hn hD
  rw [f3]
  walk_at "evv"
  simp only [frzD]
  walk_at "evv"
  refine wp_rng0 2 9 (fun pre post s => ∃ (ops : List (List (Nat × Nat))) (j12 j13 j14 : Option D) (k13 k14 : Nat), s = ⟨[some (.scr ns), some (dL dN n1), some (dN n), some (dL dP ds), some (dLL bs), some (dL dN m1), some (dL D.str ws), some (dL dC log), some (dL dN p1), some (hsD n f ds), some (.lst (ops.map fun op => dLL (hearM op n))), some (.lst (ops.map fun op => lvD 0 (List.replicate n none) (hearM op n))), j12, j13, j14, none], [0, 1, 0, 0, 2, 1, 1, 1, 1, 0, 1, 3, 0, k13, k14, 0]⟩ ∧ ops.length = pre.length ∧ ∀ op ∈ ops, ∀ p ∈ op, p ∈ ds) ?h1 (by omega) ?h0 ?_ ?_
  case h1 => walk_at "evv"; rfl
  case h0 => exact ⟨[], none, none, none, 0, 0, rfl, rfl, fun _ h => absurd h (by simp)⟩
  · intro pre way post s hx hI
    obtain ⟨ops, j12, j13, j14, k13, k14, hs, r1, r2⟩ := hI
    subst hs
    have hw := at_range hx
    walk_at "evv"
    have e0 : rngOk 0 (ds.length : Int) = true := rgo_ok (by omega)
    rw [x_comp, x_rng, x_int, rb_ok]
    walk_at "evv"
    rw [e0, if_pos rfl, rngL_0]
    walk_at "evv"
    rw [List.length_range, if_pos (show ds.length ≤ lim by unfold lim; omega), comp_flt (n := 0) (h := fun k => dP (ds.getD k default)) (p := fun k : Nat => decide ((p1.getD (way : Int).toNat default : Nat) % (5 : Int) ≤ (p1.getD (2 + (way : Int) * 66 + (k : Int)).toNat default : Nat) % (5 : Int))) (fun k hk => ⟨by
      have hk' := List.mem_range.mp hk
      unfold cpF
      walk_at "evv"
      split <;> rfl, rfl⟩)]
    generalize hpp : (fun k : Nat => decide ((p1.getD (way : Int).toNat default : Nat) % (5 : Int) ≤ (p1.getD (2 + (way : Int) * 66 + (k : Int)).toNat default : Nat) % (5 : Int))) = pp
    obtain ⟨op, hop⟩ : ∃ op, op = ((List.range ds.length).filter pp).map fun k => ds.getD k default := ⟨_, rfl⟩
    have hope : ((List.range ds.length).filter pp).map (fun k => dP (ds.getD k default)) = op.map dP := by rw [hop, List.map_map]; rfl
    have hops : ∀ q ∈ op, q ∈ ds := fun q hq => by
      rw [hop] at hq
      obtain ⟨k, hk, rfl⟩ := List.mem_map.mp hq
      exact mem_getD (List.mem_range.mp (List.mem_filter.mp hk).1)
    have hopl : op.length ≤ 66 := by
      rw [hop, List.length_map]
      exact Nat.le_trans (List.length_filter_le _ _) (by simp only [List.length_range]; omega)
    have O : OpenOk n op := ⟨fun q hq => by have := hD.lt q (hops q hq); omega, by omega⟩
    rw [hope]
    walk_at "evv"
    rw [area_lists_eq (by omega) hn.2 O]
    have hcl : cleanN 1 (dLL (hearM op n)) = false := by
      have : 0 ∈ List.range n := List.mem_range.mpr (by omega)
      rw [cleanN, List.all_eq_false]
      refine ⟨dL dN (zoneC op n 0), List.mem_map.mpr ⟨_, List.mem_map.mpr ⟨0, this, rfl⟩, rfl⟩, by rw [cl_0l]; simp⟩
    walk_at "evv"
    simp only [hcl]
    have hol : ops.length ≤ 2 := by omega
    walk_at "evv"
    simp only [h.i_LiveHouse___init__]
    walk_at "evv"
    rw [live_init_eq (by omega) H O]
    walk_at "evv"
    rw [hear_eq (by omega) H O]
    walk_at "evv"
    have hzz : ops.map (fun op => dLL (hearM op n)) ++ [dLL (hearM op n)] = (ops ++ [op]).map (fun op => dLL (hearM op n)) := by simp
    have hll : ops.map (fun op => lvD 0 (List.replicate n none) (hearM op n)) ++ [lvD 0 (List.replicate n none) (hearM op n)] = (ops ++ [op]).map (fun op => lvD 0 (List.replicate n none) (hearM op n)) := by simp
    have hhl : (hearM op n).length = n := by unfold hearM; simp
    rw [ix_snoc (by rw [List.length_map]; omega)]
    walk_at "evv"
    rw [words_kept_eq (by omega) (by omega), words_hear]
    walk_at "evv"
    rw [same_LW (by omega) (by unfold wordsM; simp; omega)]
    walk_at "evv"
    rw [hzz, hll]
    refine ⟨ops ++ [op], some (dN way), some (dL dP op), _, 0, 1, rfl, by simp [r1], fun o ho => ?_⟩
    rcases List.mem_append.mp ho with ho | ho
    · exact r2 o ho
    · rw [List.mem_singleton] at ho; subst ho; exact hops
  · intro s hI
    obtain ⟨ops, j12, j13, j14, k13, k14, hs, r1, r2⟩ := hI
    subst hs
    rw [List.length_range] at r1
    obtain ⟨opa, opb, rfl⟩ : ∃ a b, ops = [a, b] := by
      match ops, r1 with
      | [a, b], _ => exact ⟨a, b, rfl⟩
    have za := zone_ok (n := n) (r2 opa (by simp))
    have zb := zone_ok (n := n) (r2 opb (by simp))
    walk_at "evv"
    obtain ⟨x, ex⟩ := live_right_eq (B := B) (l := l - 1) (by omega) hn.2 (adjD ds) za zb (log := log) (by omega) hlog.room
    rw [ex]
    walk_at "evv"
    have hvr := fun (lg : List (Nat × Str)) (hlg : lg.length ≤ 1000) => views_right_eq (B := B) (l := l - 1) (by omega) H hB (zs := [hearM opa n, hearM opb n]) (by
      intro z hz
      rcases List.mem_cons.mp hz with rfl | hz
      · exact za
      · rw [List.mem_singleton] at hz; subst hz; exact zb) (by simp) (log := lg) hlg
    rw [show callAt B (l - 1) 64 0 [hsD n f ds, dLL bs, dN n, .lst [dLL (hearM opa n), dLL (hearM opb n)], dL dC log] = _ from hvr log (by omega)]
    walk_at "evv"
    generalize hkk : ((m1.getD (Int.toNat 17) default : Nat) : Int) % ((log.length : Int) + 1) = kk
    have hk0 : 0 ≤ kk := by rw [← hkk]; exact Int.emod_nonneg _ (by omega)
    obtain ⟨k, hk'⟩ : ∃ z : Nat, kk = (z : Int) := ⟨kk.toNat, by omega⟩
    subst hk'
    rw [sl_lstL]
    walk_at "evv"
    rw [show callAt B (l - 1) 64 0 [hsD n f ds, dLL bs, dN n, .lst [dLL (hearM opa n), dLL (hearM opb n)], dL dC (log.take k)] = _ from hvr (log.take k) (by rw [List.length_take]; omega)]
    walk_at "evv"
    exact ⟨_, _, fend_rt⟩
end Hc
set_option Elab.async false
set_option linter.all false
set_option maxRecDepth 100000
set_option maxHeartbeats 4000000
/-! The defs of the law K07 in the small language (printed by gen2.py). -/
namespace K07
open PySem PySem.Spec PyProof.Rows L2 Hc Bd
abbrev topS (i : Nat) : Stmt := PySem.Challenge.pw_heardcalls_k07_whole_view_heard.main.body.getD i (.Pass ⟨0, 0, 0, 0⟩)
abbrev s44 : Stmt := topS 5
abbrev s45 : Stmt := topS 6
abbrev s46 : Stmt := topS 7
abbrev s0 : Stmt := topS 9
abbrev s1 : Stmt := topS 10
abbrev s47 : Stmt := topS 11
abbrev s48 : Stmt := topS 12
abbrev s3 : Stmt := topS 13
abbrev s4 : Stmt := topS 14
abbrev s34 : Stmt := inClass (topS 16) 2
abbrev s35 : Stmt := inClass (topS 16) 4
abbrev s36 : Stmt := inClass (topS 16) 5
abbrev s37 : Stmt := inClass (topS 16) 6
abbrev s5 : Stmt := topS 17
abbrev s49 : Stmt := topS 19
abbrev s50 : Stmt := topS 21
abbrev s51 : Stmt := topS 22
abbrev s52 : Stmt := topS 23
abbrev s53 : Stmt := topS 25
abbrev s54 : Stmt := topS 26
abbrev s66 : Stmt := inClass (topS 27) 0
abbrev s67 : Stmt := inClass (topS 27) 1
abbrev s68 : Stmt := inClass (topS 27) 2
abbrev s69 : Stmt := inClass (topS 27) 3
abbrev s15 : Stmt := topS 29
abbrev s16 : Stmt := topS 30
abbrev s17 : Stmt := topS 31
abbrev s18 : Stmt := topS 32
abbrev s19 : Stmt := topS 33
abbrev s55 : Stmt := topS 34
abbrev s56 : Stmt := topS 35
abbrev s57 : Stmt := topS 36
abbrev s20 : Stmt := topS 37
abbrev s21 : Stmt := topS 38
abbrev s22 : Stmt := topS 39
abbrev s23 : Stmt := topS 40
abbrev s58 : Stmt := topS 41
abbrev s24 : Stmt := topS 42
abbrev s59 : Stmt := topS 43
abbrev s60 : Stmt := topS 44
abbrev s61 : Stmt := topS 45
abbrev s62 : Stmt := topS 46
abbrev s63 : Stmt := topS 47
abbrev s64 : Stmt := topS 48
abbrev s65 : Stmt := topS 49
def dn : Nat → Option (Nat × Ss × Nat)
  | 44 => some (1, b_last_calls, 5)
  | 45 => some (2, b_top_room, 4)
  | 46 => some (2, b_word_of, 4)
  | 0 => some (1, b_bits_of, 3)
  | 1 => some (1, b_rooms_of, 3)
  | 47 => some (1, b_all_bits, 1)
  | 48 => some (2, b_step_list, 5)
  | 3 => some (3, b_spread, 7)
  | 4 => some (2, b_pieces_of, 4)
  | 34 => some (3, b_House___init__, 6)
  | 35 => some (1, b_House_doors, 1)
  | 36 => some (2, b_House_neighbours, 2)
  | 37 => some (1, b_House_neighbour_sets, 1)
  | 5 => some (1, b_check_rooms, 1)
  | 49 => some (3, b_reached, 3)
  | 50 => some (2, b_piece_with, 2)
  | 51 => some (4, b_lesser_part, 8)
  | 52 => some (3, b_view_of, 6)
  | 53 => some (2, b_areas, 6)
  | 54 => some (3, b_hear, 7)
  | 66 => some (3, b_LiveHouse___init__, 5)
  | 67 => some (1, b_LiveHouse_calls, 1)
  | 68 => some (3, b_LiveHouse_call, 4)
  | 69 => some (1, b_LiveHouse_words, 1)
  | 15 => some (2, b_law_cell, 2)
  | 16 => some (2, b_law_numbers, 6)
  | 17 => some (3, b_law_names, 7)
  | 18 => some (6, b_law_joined, 6)
  | 19 => some (2, b_law_doors, 8)
  | 55 => some (3, b_law_unlike, 11)
  | 56 => some (5, b_law_log, 8)
  | 57 => some (5, b_law_calls, 8)
  | 20 => some (2, b_law_beside, 6)
  | 21 => some (3, b_law_layers, 11)
  | 22 => some (3, b_law_reach, 5)
  | 23 => some (2, b_law_pieces, 6)
  | 58 => some (2, b_law_word_of, 4)
  | 24 => some (2, b_law_same, 8)
  | 59 => some (2, b_law_area_lists, 5)
  | 60 => some (2, b_law_words_kept, 3)
  | 61 => some (3, b_law_live_right, 10)
  | 62 => some (3, b_law_chain, 7)
  | 63 => some (2, b_law_by_view, 5)
  | 64 => some (5, b_law_views_right, 11)
  | 65 => some (1, b_law_k07, 16)
  | _ => none
def loc : Nat → Nat
  | 44 => 0
  | 45 => 1
  | 46 => 2
  | 0 => 3
  | 1 => 4
  | 47 => 5
  | 48 => 6
  | 3 => 7
  | 4 => 8
  | 34 => 9
  | 35 => 10
  | 36 => 11
  | 37 => 12
  | 5 => 13
  | 49 => 14
  | 50 => 15
  | 51 => 16
  | 52 => 17
  | 53 => 18
  | 54 => 19
  | 66 => 20
  | 67 => 21
  | 68 => 22
  | 69 => 23
  | 15 => 24
  | 16 => 25
  | 17 => 26
  | 18 => 27
  | 19 => 28
  | 55 => 29
  | 56 => 30
  | 57 => 31
  | 20 => 32
  | 21 => 33
  | 22 => 34
  | 23 => 35
  | 58 => 36
  | 24 => 37
  | 59 => 38
  | 60 => 39
  | 61 => 40
  | 62 => 41
  | 63 => 42
  | 64 => 43
  | 65 => 44
  | _ => 45
def fname : Nat → Str
  | 44 => Str.ofString "last_calls"
  | 45 => Str.ofString "top_room"
  | 46 => Str.ofString "word_of"
  | 0 => Str.ofString "bits_of"
  | 1 => Str.ofString "rooms_of"
  | 47 => Str.ofString "all_bits"
  | 48 => Str.ofString "step_list"
  | 3 => Str.ofString "spread"
  | 4 => Str.ofString "pieces_of"
  | 5 => Str.ofString "check_rooms"
  | 49 => Str.ofString "reached"
  | 50 => Str.ofString "piece_with"
  | 51 => Str.ofString "lesser_part"
  | 52 => Str.ofString "view_of"
  | 53 => Str.ofString "areas"
  | 54 => Str.ofString "hear"
  | 15 => Str.ofString "_law_cell"
  | 16 => Str.ofString "_law_numbers"
  | 17 => Str.ofString "_law_names"
  | 18 => Str.ofString "_law_joined"
  | 19 => Str.ofString "_law_doors"
  | 55 => Str.ofString "_law_unlike"
  | 56 => Str.ofString "_law_log"
  | 57 => Str.ofString "_law_calls"
  | 20 => Str.ofString "_law_beside"
  | 21 => Str.ofString "_law_layers"
  | 22 => Str.ofString "_law_reach"
  | 23 => Str.ofString "_law_pieces"
  | 58 => Str.ofString "_law_word_of"
  | 24 => Str.ofString "_law_same"
  | 59 => Str.ofString "_law_area_lists"
  | 60 => Str.ofString "_law_words_kept"
  | 61 => Str.ofString "_law_live_right"
  | 62 => Str.ofString "_law_chain"
  | 63 => Str.ofString "_law_by_view"
  | 64 => Str.ofString "_law_views_right"
  | 65 => Str.ofString "law"
  | _ => Str.empty
def cname (i : Nat) : Str := ([Str.ofString "CallsError", Str.ofString "BadHouse", Str.ofString "TooLarge", Str.ofString "House", Str.ofString "Levels", Str.ofString "LiveHouse", Str.ofString "BadMove", Str.ofString "OneWayHouse", Str.ofString "NoLog", Str.ofString "OutOfRange", Str.ofString "NotAView", Str.ofString "ViewCounts", Str.ofString "TooFewWords", Str.ofString "FittingTable", Str.ofString "BadText", Str.ofString "ScriptReader", Str.ofString "Walks", Str.ofString "NotAnOrder", Str.ofString "NotForced", Str.ofString "NotAForm", Str.ofString "BadFact", Str.ofString "Impossible", Str.ofString "BadWeave", Str.ofString "BadLine", Str.ofString "Refused", Str.ofString "BlockCounts", Str.ofString "NoRoom", Str.ofString "BadWord", Str.ofString "BadLook", Str.ofString "NoDoor", Str.ofString "Known", Str.ofString "Clash", Str.ofString "Full", Str.ofString "NothingToUndo", Str.ofString "NothingToRedo", Str.ofString "BadQuestion", Str.ofString "History", Str.ofString "Desk", Str.ofString "Run", Str.ofString "NotNeighbours", Str.ofString "Facts"] : List Str).getD i Str.empty
def flds : List Str := [Str.ofString "place", Str.ofString "size", Str.ofString "rooms", Str.ofString "_joined", Str.ofString "_doors", Str.ofString "_house", Str.ofString "_levels", Str.ofString "_calls", Str.ofString "_words", Str.ofString "_hearers", Str.ofString "_following", Str.ofString "_preceding", Str.ofString "part", Str.ofString "count", Str.ofString "_parts", Str.ofString "_ways", Str.ofString "needed", Str.ofString "_sound", Str.ofString "_linked", Str.ofString "_together", Str.ofString "_text", Str.ofString "_place", Str.ofString "_items", Str.ofString "_around", Str.ofString "_choices", Str.ofString "written", Str.ofString "_behind", Str.ofString "firsts", Str.ofString "lasts", Str.ofString "may_be_empty", Str.ofString "number", Str.ofString "reason", Str.ofString "_pieces", Str.ofString "_with_word", Str.ofString "_without_word", Str.ofString "room", Str.ofString "door", Str.ofString "answer", Str.ofString "question", Str.ofString "standing", Str.ofString "undone", Str.ofString "_history", Str.ofString "_desk", Str.ofString "_saved", Str.ofString "_output", Str.ofString "_executed", Str.ofString "_pairs", Str.ofString "_heard", Str.ofString "_later", Str.ofString "_barring"]
def mnm (i : Nat) : Str := ([Str.ofString "door_count", Str.ofString "doors", Str.ofString "neighbours", Str.ofString "neighbour_sets", Str.ofString "has_door", Str.ofString "corridor", Str.ofString "ring", Str.ofString "star", Str.ofString "full", Str.ofString "pieces_without", Str.ofString "most_without", Str.ofString "number", Str.ofString "first_top", Str.ofString "log_in", Str.ofString "calls", Str.ofString "call", Str.ofString "words", Str.ofString "following", Str.ofString "following_sets", Str.ofString "preceding_sets", Str.ofString "lesser_parts", Str.ofString "ways", Str.ofString "ways_into", Str.ofString "words_but", Str.ofString "_ways_inside", Str.ofString "_may_be_area", Str.ofString "total", Str.ofString "area_number", Str.ofString "_at", Str.ofString "_at_end_of_script", Str.ofString "_begin", Str.ofString "_read_item_or_begin", Str.ofString "_end_script", Str.ofString "read", Str.ofString "behind", Str.ofString "_link", Str.ofString "_through_script", Str.ofString "_through_item", Str.ofString "pieces_of", Str.ofString "outermost_pieces", Str.ofString "inner_pieces", Str.ofString "words_in", Str.ofString "top_choices", Str.ofString "blocks_with_tops", Str.ofString "blocks_with_word", Str.ofString "blocks_without_word", Str.ofString "forms_in_all", Str.ofString "put", Str.ofString "take_back", Str.ofString "put_again", Str.ofString "replayed", Str.ofString "__iter__", Str.ofString "length", Str.ofString "look", Str.ofString "know", Str.ofString "undo", Str.ofString "redo", Str.ofString "_do", Str.ofString "deeds", Str.ofString "log", Str.ofString "looks", Str.ofString "known_doors", Str.ofString "form", Str.ofString "settled_form", Str.ofString "states", Str.ofString "opening_count", Str.ofString "next_question", Str.ofString "room_state", Str.ofString "_answer", Str.ofString "what_if", Str.ofString "_kept", Str.ofString "_bring_back", Str.ofString "output", Str.ofString "execute_all", Str.ofString "_execute", Str.ofString "_execute_try", Str.ofString "_execute_times", Str.ofString "_compare", Str.ofString "pairs", Str.ofString "heard", Str.ofString "called", Str.ofString "with_pair", Str.ofString "with_heard", Str.ofString "is_free"] : List Str).getD i Str.empty
def knm (i : Nat) : Str := ([Str.ofString "MOST_ROOMS", Str.ofString "SMALL_ROOMS"] : List Str).getD i Str.empty
def meth : Nat → Nat → Option Nat
  | 3, 1 => some 35
  | 3, 2 => some 36
  | 3, 3 => some 37
  | 5, 15 => some 68
  | 5, 16 => some 69
  | _, _ => none
def prop : Nat → Nat → Option Nat
  | 5, 14 => some 67
  | _, _ => none
def init : Nat → Option Nat
  | 3 => some 34
  | 5 => some 66
  | _ => none
def has : Nat → Nat → Bool
  | 3, 2 => true
  | 3, 3 => true
  | 3, 4 => true
  | 5, 7 => true
  | 5, 8 => true
  | 5, 9 => true
  | _, _ => false
def cval : Nat → Nat → Option D
  | 3, 0 => some (.int 12)
  | _, _ => none
def B : Tb := ⟨dn, meth, init, has, prop, cval, 1000000⟩
def cc : Cc := ⟨[], fname, cname, mkNm flds, mnm, knm⟩
theorem sc44 : FnScope N_last_calls ["log"] (defScope s44) := ⟨rfl, rfl, rfl, by decide +kernel, rfl, by decide +kernel, by decide +kernel⟩
theorem cv44 : cvSs { cc with N := N_last_calls } (defScope s44) b_last_calls (defBody s44) = true := by decide +kernel
theorem sc45 : FnScope N_top_room ["log", "rooms"] (defScope s45) := ⟨rfl, rfl, rfl, by decide +kernel, rfl, by decide +kernel, by decide +kernel⟩
theorem cv45 : cvSs { cc with N := N_top_room } (defScope s45) b_top_room (defBody s45) = true := by decide +kernel
theorem sc46 : FnScope N_word_of ["log", "rooms"] (defScope s46) := ⟨rfl, rfl, rfl, by decide +kernel, rfl, by decide +kernel, by decide +kernel⟩
theorem cv46 : cvSs { cc with N := N_word_of } (defScope s46) b_word_of (defBody s46) = true := by decide +kernel
theorem sc0 : FnScope N_bits_of ["rooms"] (defScope s0) := ⟨rfl, rfl, rfl, by decide +kernel, rfl, by decide +kernel, by decide +kernel⟩
theorem cv0 : cvSs { cc with N := N_bits_of } (defScope s0) b_bits_of (defBody s0) = true := by decide +kernel
theorem sc1 : FnScope N_rooms_of ["bits"] (defScope s1) := ⟨rfl, rfl, rfl, by decide +kernel, rfl, by decide +kernel, by decide +kernel⟩
theorem cv1 : cvSs { cc with N := N_rooms_of } (defScope s1) b_rooms_of (defBody s1) = true := by decide +kernel
theorem sc47 : FnScope N_all_bits ["count"] (defScope s47) := ⟨rfl, rfl, rfl, by decide +kernel, rfl, by decide +kernel, by decide +kernel⟩
theorem cv47 : cvSs { cc with N := N_all_bits } (defScope s47) b_all_bits (defBody s47) = true := by decide +kernel
theorem sc48 : FnScope N_step_list ["count", "steps"] (defScope s48) := ⟨rfl, rfl, rfl, by decide +kernel, rfl, by decide +kernel, by decide +kernel⟩
theorem cv48 : cvSs { cc with N := N_step_list } (defScope s48) b_step_list (defBody s48) = true := by decide +kernel
theorem sc3 : FnScope N_spread ["following", "start", "inside"] (defScope s3) := ⟨rfl, rfl, rfl, by decide +kernel, rfl, by decide +kernel, by decide +kernel⟩
theorem cv3 : cvSs { cc with N := N_spread } (defScope s3) b_spread (defBody s3) = true := by decide +kernel
theorem sc4 : FnScope N_pieces_of ["following", "inside"] (defScope s4) := ⟨rfl, rfl, rfl, by decide +kernel, rfl, by decide +kernel, by decide +kernel⟩
theorem cv4 : cvSs { cc with N := N_pieces_of } (defScope s4) b_pieces_of (defBody s4) = true := by decide +kernel
theorem sc34 : FnScope N_House___init__ ["self", "rooms", "doors"] (defScope s34) := ⟨rfl, rfl, rfl, by decide +kernel, rfl, by decide +kernel, by decide +kernel⟩
theorem cv34 : cvSs { cc with N := N_House___init__ } (defScope s34) b_House___init__ (defBody s34) = true := by decide +kernel
theorem sc35 : FnScope N_House_doors ["self"] (defScope s35) := ⟨rfl, rfl, rfl, by decide +kernel, rfl, by decide +kernel, by decide +kernel⟩
theorem cv35 : cvSs { cc with N := N_House_doors } (defScope s35) b_House_doors (defBody s35) = true := by decide +kernel
theorem sc36 : FnScope N_House_neighbours ["self", "room"] (defScope s36) := ⟨rfl, rfl, rfl, by decide +kernel, rfl, by decide +kernel, by decide +kernel⟩
theorem cv36 : cvSs { cc with N := N_House_neighbours } (defScope s36) b_House_neighbours (defBody s36) = true := by decide +kernel
theorem sc37 : FnScope N_House_neighbour_sets ["self"] (defScope s37) := ⟨rfl, rfl, rfl, by decide +kernel, rfl, by decide +kernel, by decide +kernel⟩
theorem cv37 : cvSs { cc with N := N_House_neighbour_sets } (defScope s37) b_House_neighbour_sets (defBody s37) = true := by decide +kernel
theorem sc5 : FnScope N_check_rooms ["rooms"] (defScope s5) := ⟨rfl, rfl, rfl, by decide +kernel, rfl, by decide +kernel, by decide +kernel⟩
theorem cv5 : cvSs { cc with N := N_check_rooms } (defScope s5) b_check_rooms (defBody s5) = true := by decide +kernel
theorem sc49 : FnScope N_reached ["house", "start", "inside"] (defScope s49) := ⟨rfl, rfl, rfl, by decide +kernel, rfl, by decide +kernel, by decide +kernel⟩
theorem cv49 : cvSs { cc with N := N_reached } (defScope s49) b_reached (defBody s49) = true := by decide +kernel
theorem sc50 : FnScope N_piece_with ["house", "room"] (defScope s50) := ⟨rfl, rfl, rfl, by decide +kernel, rfl, by decide +kernel, by decide +kernel⟩
theorem cv50 : cvSs { cc with N := N_piece_with } (defScope s50) b_piece_with (defBody s50) = true := by decide +kernel
theorem sc51 : FnScope N_lesser_part ["house", "log", "room", "rooms"] (defScope s51) := ⟨rfl, rfl, rfl, by decide +kernel, rfl, by decide +kernel, by decide +kernel⟩
theorem cv51 : cvSs { cc with N := N_lesser_part } (defScope s51) b_lesser_part (defBody s51) = true := by decide +kernel
theorem sc52 : FnScope N_view_of ["house", "log", "room"] (defScope s52) := ⟨rfl, rfl, rfl, by decide +kernel, rfl, by decide +kernel, by decide +kernel⟩
theorem cv52 : cvSs { cc with N := N_view_of } (defScope s52) b_view_of (defBody s52) = true := by decide +kernel
theorem sc53 : FnScope N_areas ["house", "opening"] (defScope s53) := ⟨rfl, rfl, rfl, by decide +kernel, rfl, by decide +kernel, by decide +kernel⟩
theorem cv53 : cvSs { cc with N := N_areas } (defScope s53) b_areas (defBody s53) = true := by decide +kernel
theorem sc54 : FnScope N_hear ["house", "log", "opening"] (defScope s54) := ⟨rfl, rfl, rfl, by decide +kernel, rfl, by decide +kernel, by decide +kernel⟩
theorem cv54 : cvSs { cc with N := N_hear } (defScope s54) b_hear (defBody s54) = true := by decide +kernel
theorem sc66 : FnScope N_LiveHouse___init__ ["self", "house", "opening"] (defScope s66) := ⟨rfl, rfl, rfl, by decide +kernel, rfl, by decide +kernel, by decide +kernel⟩
theorem cv66 : cvSs { cc with N := N_LiveHouse___init__ } (defScope s66) b_LiveHouse___init__ (defBody s66) = true := by decide +kernel
theorem sc67 : FnScope N_LiveHouse_calls ["self"] (defScope s67) := ⟨rfl, rfl, rfl, by decide +kernel, rfl, by decide +kernel, by decide +kernel⟩
theorem cv67 : cvSs { cc with N := N_LiveHouse_calls } (defScope s67) b_LiveHouse_calls (defBody s67) = true := by decide +kernel
theorem sc68 : FnScope N_LiveHouse_call ["self", "room", "word"] (defScope s68) := ⟨rfl, rfl, rfl, by decide +kernel, rfl, by decide +kernel, by decide +kernel⟩
theorem cv68 : cvSs { cc with N := N_LiveHouse_call } (defScope s68) b_LiveHouse_call (defBody s68) = true := by decide +kernel
theorem sc69 : FnScope N_LiveHouse_words ["self"] (defScope s69) := ⟨rfl, rfl, rfl, by decide +kernel, rfl, by decide +kernel, by decide +kernel⟩
theorem cv69 : cvSs { cc with N := N_LiveHouse_words } (defScope s69) b_LiveHouse_words (defBody s69) = true := by decide +kernel
theorem sc15 : FnScope N_law_cell ["script", "k"] (defScope s15) := ⟨rfl, rfl, rfl, by decide +kernel, rfl, by decide +kernel, by decide +kernel⟩
theorem cv15 : cvSs { cc with N := N_law_cell } (defScope s15) b_law_cell (defBody s15) = true := by decide +kernel
theorem sc16 : FnScope N_law_numbers ["cell", "count"] (defScope s16) := ⟨rfl, rfl, rfl, by decide +kernel, rfl, by decide +kernel, by decide +kernel⟩
theorem cv16 : cvSs { cc with N := N_law_numbers } (defScope s16) b_law_numbers (defBody s16) = true := by decide +kernel
theorem sc17 : FnScope N_law_names ["numbers", "at", "rooms"] (defScope s17) := ⟨rfl, rfl, rfl, by decide +kernel, rfl, by decide +kernel, by decide +kernel⟩
theorem cv17 : cvSs { cc with N := N_law_names } (defScope s17) b_law_names (defBody s17) = true := by decide +kernel
theorem sc18 : FnScope N_law_joined ["kind", "a", "b", "rooms", "number", "parent"] (defScope s18) := ⟨rfl, rfl, rfl, by decide +kernel, rfl, by decide +kernel, by decide +kernel⟩
theorem cv18 : cvSs { cc with N := N_law_joined } (defScope s18) b_law_joined (defBody s18) = true := by decide +kernel
theorem sc19 : FnScope N_law_doors ["numbers", "rooms"] (defScope s19) := ⟨rfl, rfl, rfl, by decide +kernel, rfl, by decide +kernel, by decide +kernel⟩
theorem cv19 : cvSs { cc with N := N_law_doors } (defScope s19) b_law_doors (defBody s19) = true := by decide +kernel
theorem sc55 : FnScope N_law_unlike ["numbers", "at", "many"] (defScope s55) := ⟨rfl, rfl, rfl, by decide +kernel, rfl, by decide +kernel, by decide +kernel⟩
theorem cv55 : cvSs { cc with N := N_law_unlike } (defScope s55) b_law_unlike (defBody s55) = true := by decide +kernel
theorem sc56 : FnScope N_law_log ["numbers", "at", "many", "rooms", "words"] (defScope s56) := ⟨rfl, rfl, rfl, by decide +kernel, rfl, by decide +kernel, by decide +kernel⟩
theorem cv56 : cvSs { cc with N := N_law_log } (defScope s56) b_law_log (defBody s56) = true := by decide +kernel
theorem sc57 : FnScope N_law_calls ["script", "at", "rooms", "words", "most"] (defScope s57) := ⟨rfl, rfl, rfl, by decide +kernel, rfl, by decide +kernel, by decide +kernel⟩
theorem cv57 : cvSs { cc with N := N_law_calls } (defScope s57) b_law_calls (defBody s57) = true := by decide +kernel
theorem sc20 : FnScope N_law_beside ["doors", "rooms"] (defScope s20) := ⟨rfl, rfl, rfl, by decide +kernel, rfl, by decide +kernel, by decide +kernel⟩
theorem cv20 : cvSs { cc with N := N_law_beside } (defScope s20) b_law_beside (defBody s20) = true := by decide +kernel
theorem sc21 : FnScope N_law_layers ["beside", "start", "inside"] (defScope s21) := ⟨rfl, rfl, rfl, by decide +kernel, rfl, by decide +kernel, by decide +kernel⟩
theorem cv21 : cvSs { cc with N := N_law_layers } (defScope s21) b_law_layers (defBody s21) = true := by decide +kernel
theorem sc22 : FnScope N_law_reach ["beside", "start", "inside"] (defScope s22) := ⟨rfl, rfl, rfl, by decide +kernel, rfl, by decide +kernel, by decide +kernel⟩
theorem cv22 : cvSs { cc with N := N_law_reach } (defScope s22) b_law_reach (defBody s22) = true := by decide +kernel
theorem sc23 : FnScope N_law_pieces ["beside", "rooms"] (defScope s23) := ⟨rfl, rfl, rfl, by decide +kernel, rfl, by decide +kernel, by decide +kernel⟩
theorem cv23 : cvSs { cc with N := N_law_pieces } (defScope s23) b_law_pieces (defBody s23) = true := by decide +kernel
theorem sc58 : FnScope N_law_word_of ["log", "rooms"] (defScope s58) := ⟨rfl, rfl, rfl, by decide +kernel, rfl, by decide +kernel, by decide +kernel⟩
theorem cv58 : cvSs { cc with N := N_law_word_of } (defScope s58) b_law_word_of (defBody s58) = true := by decide +kernel
theorem sc24 : FnScope N_law_same ["got", "due"] (defScope s24) := ⟨rfl, rfl, rfl, by decide +kernel, rfl, by decide +kernel, by decide +kernel⟩
theorem cv24 : cvSs { cc with N := N_law_same } (defScope s24) b_law_same (defBody s24) = true := by decide +kernel
theorem sc59 : FnScope N_law_area_lists ["rooms", "opening"] (defScope s59) := ⟨rfl, rfl, rfl, by decide +kernel, rfl, by decide +kernel, by decide +kernel⟩
theorem cv59 : cvSs { cc with N := N_law_area_lists } (defScope s59) b_law_area_lists (defBody s59) = true := by decide +kernel
theorem sc60 : FnScope N_law_words_kept ["zones", "calls"] (defScope s60) := ⟨rfl, rfl, rfl, by decide +kernel, rfl, by decide +kernel, by decide +kernel⟩
theorem cv60 : cvSs { cc with N := N_law_words_kept } (defScope s60) b_law_words_kept (defBody s60) = true := by decide +kernel
theorem sc61 : FnScope N_law_live_right ["lives", "zones", "log"] (defScope s61) := ⟨rfl, rfl, rfl, by decide +kernel, rfl, by decide +kernel, by decide +kernel⟩
theorem cv61 : cvSs { cc with N := N_law_live_right } (defScope s61) b_law_live_right (defBody s61) = true := by decide +kernel
theorem sc62 : FnScope N_law_chain ["view", "room", "piece"] (defScope s62) := ⟨rfl, rfl, rfl, by decide +kernel, rfl, by decide +kernel, by decide +kernel⟩
theorem cv62 : cvSs { cc with N := N_law_chain } (defScope s62) b_law_chain (defBody s62) = true := by decide +kernel
theorem sc63 : FnScope N_law_by_view ["view", "area"] (defScope s63) := ⟨rfl, rfl, rfl, by decide +kernel, rfl, by decide +kernel, by decide +kernel⟩
theorem cv63 : cvSs { cc with N := N_law_by_view } (defScope s63) b_law_by_view (defBody s63) = true := by decide +kernel
theorem sc64 : FnScope N_law_views_right ["house", "beside", "rooms", "zones", "calls"] (defScope s64) := ⟨rfl, rfl, rfl, by decide +kernel, rfl, by decide +kernel, by decide +kernel⟩
theorem cv64 : cvSs { cc with N := N_law_views_right } (defScope s64) b_law_views_right (defBody s64) = true := by decide +kernel
theorem sc65 : FnScope N_law_k07 ["script"] (defScope s65) := ⟨rfl, rfl, rfl, by decide +kernel, rfl, by decide +kernel, by decide +kernel⟩
theorem cv65 : cvSs { cc with N := N_law_k07 } (defScope s65) b_law_k07 (defBody s65) = true := by decide +kernel
theorem flds_inj : ∀ i j, mkNm flds i = mkNm flds j → i = j := mkNm_inj (by decide +kernel) (by decide +kernel)
set_option maxHeartbeats 0
theorem all_mk {l : PySem.W.OpenLaw} {w : World} {K : PySem.W.Frag} {h : Heap} {mg : Str → Option Value} {fa C3 C5 f44 f45 f46 f0 f1 f47 f48 f3 f4 f34 f35 f36 f37 f5 f49 f50 f51 f52 f53 f54 f66 f67 f68 f69 f15 f16 f17 f18 f19 f55 f56 f57 f20 f21 f22 f23 f58 f24 f59 f60 f61 f62 f63 f64 f65 : Addr}
    {p67 : Addr} {rest67 : List Value}
    {od44 an44 od45 an45 od46 an46 od0 an0 od1 an1 od47 an47 od48 an48 od3 an3 od4 an4 od34 an34 od35 an35 od36 an36 od37 an37 od5 an5 od49 an49 od50 an50 od51 an51 od52 an52 od53 an53 od54 an54 od66 an66 od67 an67 od68 an68 od69 an69 od15 an15 od16 an16 od17 an17 od18 an18 od19 an19 od55 an55 od56 an56 od57 an57 od20 an20 od21 an21 od22 an22 od23 an23 od58 an58 od24 an24 od59 an59 od60 an60 od61 an61 od62 an62 od63 an63 od64 an64 od65 an65 : Option Addr} {sl44 sl45 sl46 sl0 sl1 sl47 sl48 sl3 sl4 sl34 sl35 sl36 sl37 sl5 sl49 sl50 sl51 sl52 sl53 sl54 sl66 sl67 sl68 sl69 sl15 sl16 sl17 sl18 sl19 sl55 sl56 sl57 sl20 sl21 sl22 sl23 sl58 sl24 sl59 sl60 sl61 sl62 sl63 sl64 sl65 : Array (Option Value)}
    {oc44 kV44 dc44 pm44 cd44 ct44 oc45 kV45 dc45 pm45 cd45 ct45 oc46 kV46 dc46 pm46 cd46 ct46 oc0 kV0 dc0 pm0 cd0 ct0 oc1 kV1 dc1 pm1 cd1 ct1 oc47 kV47 dc47 pm47 cd47 ct47 oc48 kV48 dc48 pm48 cd48 ct48 oc3 kV3 dc3 pm3 cd3 ct3 oc4 kV4 dc4 pm4 cd4 ct4 oc34 kV34 dc34 pm34 cd34 ct34 oc35 kV35 dc35 pm35 cd35 ct35 oc36 kV36 dc36 pm36 cd36 ct36 oc37 kV37 dc37 pm37 cd37 ct37 oc5 kV5 dc5 pm5 cd5 ct5 oc49 kV49 dc49 pm49 cd49 ct49 oc50 kV50 dc50 pm50 cd50 ct50 oc51 kV51 dc51 pm51 cd51 ct51 oc52 kV52 dc52 pm52 cd52 ct52 oc53 kV53 dc53 pm53 cd53 ct53 oc54 kV54 dc54 pm54 cd54 ct54 oc66 kV66 dc66 pm66 cd66 ct66 oc67 kV67 dc67 pm67 cd67 ct67 oc68 kV68 dc68 pm68 cd68 ct68 oc69 kV69 dc69 pm69 cd69 ct69 oc15 kV15 dc15 pm15 cd15 ct15 oc16 kV16 dc16 pm16 cd16 ct16 oc17 kV17 dc17 pm17 cd17 ct17 oc18 kV18 dc18 pm18 cd18 ct18 oc19 kV19 dc19 pm19 cd19 ct19 oc55 kV55 dc55 pm55 cd55 ct55 oc56 kV56 dc56 pm56 cd56 ct56 oc57 kV57 dc57 pm57 cd57 ct57 oc20 kV20 dc20 pm20 cd20 ct20 oc21 kV21 dc21 pm21 cd21 ct21 oc22 kV22 dc22 pm22 cd22 ct22 oc23 kV23 dc23 pm23 cd23 ct23 oc58 kV58 dc58 pm58 cd58 ct58 oc24 kV24 dc24 pm24 cd24 ct24 oc59 kV59 dc59 pm59 cd59 ct59 oc60 kV60 dc60 pm60 cd60 ct60 oc61 kV61 dc61 pm61 cd61 ct61 oc62 kV62 dc62 pm62 cd62 ct62 oc63 kV63 dc63 pm63 cd63 ct63 oc64 kV64 dc64 pm64 cd64 ct64 oc65 kV65 dc65 pm65 cd65 ct65 : Value}
    {vt3_0 : Tok}
    (X : K.In h) (G : h.Ns mainGlobals mg) (hfa : mg "law" = some (.ref fa))
    (C3_ : PySem.W.nsIn K mainGlobals "House" = some (some (.ref C3)))
    (C5_ : PySem.W.nsIn K mainGlobals "LiveHouse" = some (some (.ref C5)))
    (a44 : PySem.W.nsIn K mainGlobals "last_calls" = some (some (.ref f44)))
    (l44 : K.lookup f44 = some ⟨oc44, od44, .func (PySem.W.fnOf "last_calls" "last_calls" (defArgs s44) (defBody s44) (defScope s44) .none kV44 dc44 pm44 an44 cd44 ct44), sl44⟩)
    (c44 : PySem.W.codeIn K cd44 "last_calls" = true)
    (k44 : PySem.W.keepIn K (.ref f44) = true)
    (a45 : PySem.W.nsIn K mainGlobals "top_room" = some (some (.ref f45)))
    (l45 : K.lookup f45 = some ⟨oc45, od45, .func (PySem.W.fnOf "top_room" "top_room" (defArgs s45) (defBody s45) (defScope s45) .none kV45 dc45 pm45 an45 cd45 ct45), sl45⟩)
    (c45 : PySem.W.codeIn K cd45 "top_room" = true)
    (k45 : PySem.W.keepIn K (.ref f45) = true)
    (a46 : PySem.W.nsIn K mainGlobals "word_of" = some (some (.ref f46)))
    (l46 : K.lookup f46 = some ⟨oc46, od46, .func (PySem.W.fnOf "word_of" "word_of" (defArgs s46) (defBody s46) (defScope s46) .none kV46 dc46 pm46 an46 cd46 ct46), sl46⟩)
    (c46 : PySem.W.codeIn K cd46 "word_of" = true)
    (k46 : PySem.W.keepIn K (.ref f46) = true)
    (a0 : PySem.W.nsIn K mainGlobals "bits_of" = some (some (.ref f0)))
    (l0 : K.lookup f0 = some ⟨oc0, od0, .func (PySem.W.fnOf "bits_of" "bits_of" (defArgs s0) (defBody s0) (defScope s0) .none kV0 dc0 pm0 an0 cd0 ct0), sl0⟩)
    (c0 : PySem.W.codeIn K cd0 "bits_of" = true)
    (k0 : PySem.W.keepIn K (.ref f0) = true)
    (a1 : PySem.W.nsIn K mainGlobals "rooms_of" = some (some (.ref f1)))
    (l1 : K.lookup f1 = some ⟨oc1, od1, .func (PySem.W.fnOf "rooms_of" "rooms_of" (defArgs s1) (defBody s1) (defScope s1) .none kV1 dc1 pm1 an1 cd1 ct1), sl1⟩)
    (c1 : PySem.W.codeIn K cd1 "rooms_of" = true)
    (k1 : PySem.W.keepIn K (.ref f1) = true)
    (a47 : PySem.W.nsIn K mainGlobals "all_bits" = some (some (.ref f47)))
    (l47 : K.lookup f47 = some ⟨oc47, od47, .func (PySem.W.fnOf "all_bits" "all_bits" (defArgs s47) (defBody s47) (defScope s47) .none kV47 dc47 pm47 an47 cd47 ct47), sl47⟩)
    (c47 : PySem.W.codeIn K cd47 "all_bits" = true)
    (k47 : PySem.W.keepIn K (.ref f47) = true)
    (a48 : PySem.W.nsIn K mainGlobals "step_list" = some (some (.ref f48)))
    (l48 : K.lookup f48 = some ⟨oc48, od48, .func (PySem.W.fnOf "step_list" "step_list" (defArgs s48) (defBody s48) (defScope s48) .none kV48 dc48 pm48 an48 cd48 ct48), sl48⟩)
    (c48 : PySem.W.codeIn K cd48 "step_list" = true)
    (k48 : PySem.W.keepIn K (.ref f48) = true)
    (a3 : PySem.W.nsIn K mainGlobals "spread" = some (some (.ref f3)))
    (l3 : K.lookup f3 = some ⟨oc3, od3, .func (PySem.W.fnOf "spread" "spread" (defArgs s3) (defBody s3) (defScope s3) .none kV3 dc3 pm3 an3 cd3 ct3), sl3⟩)
    (c3 : PySem.W.codeIn K cd3 "spread" = true)
    (k3 : PySem.W.keepIn K (.ref f3) = true)
    (a4 : PySem.W.nsIn K mainGlobals "pieces_of" = some (some (.ref f4)))
    (l4 : K.lookup f4 = some ⟨oc4, od4, .func (PySem.W.fnOf "pieces_of" "pieces_of" (defArgs s4) (defBody s4) (defScope s4) .none kV4 dc4 pm4 an4 cd4 ct4), sl4⟩)
    (c4 : PySem.W.codeIn K cd4 "pieces_of" = true)
    (k4 : PySem.W.keepIn K (.ref f4) = true)
    (a34 : PySem.W.findIn K (.ref C3) "__init__" = some (some (.ref f34)))
    (i34 : PySem.W.isFn K (.ref f34) = true)
    (l34 : K.lookup f34 = some ⟨oc34, od34, .func (PySem.W.fnOf "__init__" "House.__init__" (defArgs s34) (defBody s34) (defScope s34) .none kV34 dc34 pm34 an34 cd34 ct34), sl34⟩)
    (c34 : PySem.W.codeIn K cd34 "House.__init__" = true)
    (k34 : PySem.W.keepIn K (.ref f34) = true)
    (a35 : PySem.W.findIn K (.ref C3) "doors" = some (some (.ref f35)))
    (i35 : PySem.W.isFn K (.ref f35) = true)
    (l35 : K.lookup f35 = some ⟨oc35, od35, .func (PySem.W.fnOf "doors" "House.doors" (defArgs s35) (defBody s35) (defScope s35) .none kV35 dc35 pm35 an35 cd35 ct35), sl35⟩)
    (c35 : PySem.W.codeIn K cd35 "House.doors" = true)
    (k35 : PySem.W.keepIn K (.ref f35) = true)
    (a36 : PySem.W.findIn K (.ref C3) "neighbours" = some (some (.ref f36)))
    (i36 : PySem.W.isFn K (.ref f36) = true)
    (l36 : K.lookup f36 = some ⟨oc36, od36, .func (PySem.W.fnOf "neighbours" "House.neighbours" (defArgs s36) (defBody s36) (defScope s36) .none kV36 dc36 pm36 an36 cd36 ct36), sl36⟩)
    (c36 : PySem.W.codeIn K cd36 "House.neighbours" = true)
    (k36 : PySem.W.keepIn K (.ref f36) = true)
    (a37 : PySem.W.findIn K (.ref C3) "neighbour_sets" = some (some (.ref f37)))
    (i37 : PySem.W.isFn K (.ref f37) = true)
    (l37 : K.lookup f37 = some ⟨oc37, od37, .func (PySem.W.fnOf "neighbour_sets" "House.neighbour_sets" (defArgs s37) (defBody s37) (defScope s37) .none kV37 dc37 pm37 an37 cd37 ct37), sl37⟩)
    (c37 : PySem.W.codeIn K cd37 "House.neighbour_sets" = true)
    (k37 : PySem.W.keepIn K (.ref f37) = true)
    (a5 : PySem.W.nsIn K mainGlobals "check_rooms" = some (some (.ref f5)))
    (l5 : K.lookup f5 = some ⟨oc5, od5, .func (PySem.W.fnOf "check_rooms" "check_rooms" (defArgs s5) (defBody s5) (defScope s5) .none kV5 dc5 pm5 an5 cd5 ct5), sl5⟩)
    (c5 : PySem.W.codeIn K cd5 "check_rooms" = true)
    (k5 : PySem.W.keepIn K (.ref f5) = true)
    (a49 : PySem.W.nsIn K mainGlobals "reached" = some (some (.ref f49)))
    (l49 : K.lookup f49 = some ⟨oc49, od49, .func (PySem.W.fnOf "reached" "reached" (defArgs s49) (defBody s49) (defScope s49) .none kV49 dc49 pm49 an49 cd49 ct49), sl49⟩)
    (c49 : PySem.W.codeIn K cd49 "reached" = true)
    (k49 : PySem.W.keepIn K (.ref f49) = true)
    (a50 : PySem.W.nsIn K mainGlobals "piece_with" = some (some (.ref f50)))
    (l50 : K.lookup f50 = some ⟨oc50, od50, .func (PySem.W.fnOf "piece_with" "piece_with" (defArgs s50) (defBody s50) (defScope s50) .none kV50 dc50 pm50 an50 cd50 ct50), sl50⟩)
    (c50 : PySem.W.codeIn K cd50 "piece_with" = true)
    (k50 : PySem.W.keepIn K (.ref f50) = true)
    (a51 : PySem.W.nsIn K mainGlobals "lesser_part" = some (some (.ref f51)))
    (l51 : K.lookup f51 = some ⟨oc51, od51, .func (PySem.W.fnOf "lesser_part" "lesser_part" (defArgs s51) (defBody s51) (defScope s51) .none kV51 dc51 pm51 an51 cd51 ct51), sl51⟩)
    (c51 : PySem.W.codeIn K cd51 "lesser_part" = true)
    (k51 : PySem.W.keepIn K (.ref f51) = true)
    (a52 : PySem.W.nsIn K mainGlobals "view_of" = some (some (.ref f52)))
    (l52 : K.lookup f52 = some ⟨oc52, od52, .func (PySem.W.fnOf "view_of" "view_of" (defArgs s52) (defBody s52) (defScope s52) .none kV52 dc52 pm52 an52 cd52 ct52), sl52⟩)
    (c52 : PySem.W.codeIn K cd52 "view_of" = true)
    (k52 : PySem.W.keepIn K (.ref f52) = true)
    (a53 : PySem.W.nsIn K mainGlobals "areas" = some (some (.ref f53)))
    (l53 : K.lookup f53 = some ⟨oc53, od53, .func (PySem.W.fnOf "areas" "areas" (defArgs s53) (defBody s53) (defScope s53) .none kV53 dc53 pm53 an53 cd53 ct53), sl53⟩)
    (c53 : PySem.W.codeIn K cd53 "areas" = true)
    (k53 : PySem.W.keepIn K (.ref f53) = true)
    (a54 : PySem.W.nsIn K mainGlobals "hear" = some (some (.ref f54)))
    (l54 : K.lookup f54 = some ⟨oc54, od54, .func (PySem.W.fnOf "hear" "hear" (defArgs s54) (defBody s54) (defScope s54) .none kV54 dc54 pm54 an54 cd54 ct54), sl54⟩)
    (c54 : PySem.W.codeIn K cd54 "hear" = true)
    (k54 : PySem.W.keepIn K (.ref f54) = true)
    (a66 : PySem.W.findIn K (.ref C5) "__init__" = some (some (.ref f66)))
    (i66 : PySem.W.isFn K (.ref f66) = true)
    (l66 : K.lookup f66 = some ⟨oc66, od66, .func (PySem.W.fnOf "__init__" "LiveHouse.__init__" (defArgs s66) (defBody s66) (defScope s66) .none kV66 dc66 pm66 an66 cd66 ct66), sl66⟩)
    (c66 : PySem.W.codeIn K cd66 "LiveHouse.__init__" = true)
    (k66 : PySem.W.keepIn K (.ref f66) = true)
    (q67 : PySem.W.findIn K (.ref C5) "calls" = some (some (.ref p67)))
    (r67 : PySem.W.recIn K p67 "property" = some (.ref f67 :: rest67))
    (g67 : PySem.W.specialIn K (.ref p67) "__get__" = some (some (.builtin "property.__get__")))
    (t67 : PySem.W.takesIn K (.ref p67) = some true)
    (l67 : K.lookup f67 = some ⟨oc67, od67, .func (PySem.W.fnOf "calls" "LiveHouse.calls" (defArgs s67) (defBody s67) (defScope s67) .none kV67 dc67 pm67 an67 cd67 ct67), sl67⟩)
    (c67 : PySem.W.codeIn K cd67 "LiveHouse.calls" = true)
    (k67 : PySem.W.keepIn K (.ref f67) = true)
    (a68 : PySem.W.findIn K (.ref C5) "call" = some (some (.ref f68)))
    (i68 : PySem.W.isFn K (.ref f68) = true)
    (l68 : K.lookup f68 = some ⟨oc68, od68, .func (PySem.W.fnOf "call" "LiveHouse.call" (defArgs s68) (defBody s68) (defScope s68) .none kV68 dc68 pm68 an68 cd68 ct68), sl68⟩)
    (c68 : PySem.W.codeIn K cd68 "LiveHouse.call" = true)
    (k68 : PySem.W.keepIn K (.ref f68) = true)
    (a69 : PySem.W.findIn K (.ref C5) "words" = some (some (.ref f69)))
    (i69 : PySem.W.isFn K (.ref f69) = true)
    (l69 : K.lookup f69 = some ⟨oc69, od69, .func (PySem.W.fnOf "words" "LiveHouse.words" (defArgs s69) (defBody s69) (defScope s69) .none kV69 dc69 pm69 an69 cd69 ct69), sl69⟩)
    (c69 : PySem.W.codeIn K cd69 "LiveHouse.words" = true)
    (k69 : PySem.W.keepIn K (.ref f69) = true)
    (a15 : PySem.W.nsIn K mainGlobals "_law_cell" = some (some (.ref f15)))
    (l15 : K.lookup f15 = some ⟨oc15, od15, .func (PySem.W.fnOf "_law_cell" "_law_cell" (defArgs s15) (defBody s15) (defScope s15) .none kV15 dc15 pm15 an15 cd15 ct15), sl15⟩)
    (c15 : PySem.W.codeIn K cd15 "_law_cell" = true)
    (k15 : PySem.W.keepIn K (.ref f15) = true)
    (a16 : PySem.W.nsIn K mainGlobals "_law_numbers" = some (some (.ref f16)))
    (l16 : K.lookup f16 = some ⟨oc16, od16, .func (PySem.W.fnOf "_law_numbers" "_law_numbers" (defArgs s16) (defBody s16) (defScope s16) .none kV16 dc16 pm16 an16 cd16 ct16), sl16⟩)
    (c16 : PySem.W.codeIn K cd16 "_law_numbers" = true)
    (k16 : PySem.W.keepIn K (.ref f16) = true)
    (a17 : PySem.W.nsIn K mainGlobals "_law_names" = some (some (.ref f17)))
    (l17 : K.lookup f17 = some ⟨oc17, od17, .func (PySem.W.fnOf "_law_names" "_law_names" (defArgs s17) (defBody s17) (defScope s17) .none kV17 dc17 pm17 an17 cd17 ct17), sl17⟩)
    (c17 : PySem.W.codeIn K cd17 "_law_names" = true)
    (k17 : PySem.W.keepIn K (.ref f17) = true)
    (a18 : PySem.W.nsIn K mainGlobals "_law_joined" = some (some (.ref f18)))
    (l18 : K.lookup f18 = some ⟨oc18, od18, .func (PySem.W.fnOf "_law_joined" "_law_joined" (defArgs s18) (defBody s18) (defScope s18) .none kV18 dc18 pm18 an18 cd18 ct18), sl18⟩)
    (c18 : PySem.W.codeIn K cd18 "_law_joined" = true)
    (k18 : PySem.W.keepIn K (.ref f18) = true)
    (a19 : PySem.W.nsIn K mainGlobals "_law_doors" = some (some (.ref f19)))
    (l19 : K.lookup f19 = some ⟨oc19, od19, .func (PySem.W.fnOf "_law_doors" "_law_doors" (defArgs s19) (defBody s19) (defScope s19) .none kV19 dc19 pm19 an19 cd19 ct19), sl19⟩)
    (c19 : PySem.W.codeIn K cd19 "_law_doors" = true)
    (k19 : PySem.W.keepIn K (.ref f19) = true)
    (a55 : PySem.W.nsIn K mainGlobals "_law_unlike" = some (some (.ref f55)))
    (l55 : K.lookup f55 = some ⟨oc55, od55, .func (PySem.W.fnOf "_law_unlike" "_law_unlike" (defArgs s55) (defBody s55) (defScope s55) .none kV55 dc55 pm55 an55 cd55 ct55), sl55⟩)
    (c55 : PySem.W.codeIn K cd55 "_law_unlike" = true)
    (k55 : PySem.W.keepIn K (.ref f55) = true)
    (a56 : PySem.W.nsIn K mainGlobals "_law_log" = some (some (.ref f56)))
    (l56 : K.lookup f56 = some ⟨oc56, od56, .func (PySem.W.fnOf "_law_log" "_law_log" (defArgs s56) (defBody s56) (defScope s56) .none kV56 dc56 pm56 an56 cd56 ct56), sl56⟩)
    (c56 : PySem.W.codeIn K cd56 "_law_log" = true)
    (k56 : PySem.W.keepIn K (.ref f56) = true)
    (a57 : PySem.W.nsIn K mainGlobals "_law_calls" = some (some (.ref f57)))
    (l57 : K.lookup f57 = some ⟨oc57, od57, .func (PySem.W.fnOf "_law_calls" "_law_calls" (defArgs s57) (defBody s57) (defScope s57) .none kV57 dc57 pm57 an57 cd57 ct57), sl57⟩)
    (c57 : PySem.W.codeIn K cd57 "_law_calls" = true)
    (k57 : PySem.W.keepIn K (.ref f57) = true)
    (a20 : PySem.W.nsIn K mainGlobals "_law_beside" = some (some (.ref f20)))
    (l20 : K.lookup f20 = some ⟨oc20, od20, .func (PySem.W.fnOf "_law_beside" "_law_beside" (defArgs s20) (defBody s20) (defScope s20) .none kV20 dc20 pm20 an20 cd20 ct20), sl20⟩)
    (c20 : PySem.W.codeIn K cd20 "_law_beside" = true)
    (k20 : PySem.W.keepIn K (.ref f20) = true)
    (a21 : PySem.W.nsIn K mainGlobals "_law_layers" = some (some (.ref f21)))
    (l21 : K.lookup f21 = some ⟨oc21, od21, .func (PySem.W.fnOf "_law_layers" "_law_layers" (defArgs s21) (defBody s21) (defScope s21) .none kV21 dc21 pm21 an21 cd21 ct21), sl21⟩)
    (c21 : PySem.W.codeIn K cd21 "_law_layers" = true)
    (k21 : PySem.W.keepIn K (.ref f21) = true)
    (a22 : PySem.W.nsIn K mainGlobals "_law_reach" = some (some (.ref f22)))
    (l22 : K.lookup f22 = some ⟨oc22, od22, .func (PySem.W.fnOf "_law_reach" "_law_reach" (defArgs s22) (defBody s22) (defScope s22) .none kV22 dc22 pm22 an22 cd22 ct22), sl22⟩)
    (c22 : PySem.W.codeIn K cd22 "_law_reach" = true)
    (k22 : PySem.W.keepIn K (.ref f22) = true)
    (a23 : PySem.W.nsIn K mainGlobals "_law_pieces" = some (some (.ref f23)))
    (l23 : K.lookup f23 = some ⟨oc23, od23, .func (PySem.W.fnOf "_law_pieces" "_law_pieces" (defArgs s23) (defBody s23) (defScope s23) .none kV23 dc23 pm23 an23 cd23 ct23), sl23⟩)
    (c23 : PySem.W.codeIn K cd23 "_law_pieces" = true)
    (k23 : PySem.W.keepIn K (.ref f23) = true)
    (a58 : PySem.W.nsIn K mainGlobals "_law_word_of" = some (some (.ref f58)))
    (l58 : K.lookup f58 = some ⟨oc58, od58, .func (PySem.W.fnOf "_law_word_of" "_law_word_of" (defArgs s58) (defBody s58) (defScope s58) .none kV58 dc58 pm58 an58 cd58 ct58), sl58⟩)
    (c58 : PySem.W.codeIn K cd58 "_law_word_of" = true)
    (k58 : PySem.W.keepIn K (.ref f58) = true)
    (a24 : PySem.W.nsIn K mainGlobals "_law_same" = some (some (.ref f24)))
    (l24 : K.lookup f24 = some ⟨oc24, od24, .func (PySem.W.fnOf "_law_same" "_law_same" (defArgs s24) (defBody s24) (defScope s24) .none kV24 dc24 pm24 an24 cd24 ct24), sl24⟩)
    (c24 : PySem.W.codeIn K cd24 "_law_same" = true)
    (k24 : PySem.W.keepIn K (.ref f24) = true)
    (a59 : PySem.W.nsIn K mainGlobals "_law_area_lists" = some (some (.ref f59)))
    (l59 : K.lookup f59 = some ⟨oc59, od59, .func (PySem.W.fnOf "_law_area_lists" "_law_area_lists" (defArgs s59) (defBody s59) (defScope s59) .none kV59 dc59 pm59 an59 cd59 ct59), sl59⟩)
    (c59 : PySem.W.codeIn K cd59 "_law_area_lists" = true)
    (k59 : PySem.W.keepIn K (.ref f59) = true)
    (a60 : PySem.W.nsIn K mainGlobals "_law_words_kept" = some (some (.ref f60)))
    (l60 : K.lookup f60 = some ⟨oc60, od60, .func (PySem.W.fnOf "_law_words_kept" "_law_words_kept" (defArgs s60) (defBody s60) (defScope s60) .none kV60 dc60 pm60 an60 cd60 ct60), sl60⟩)
    (c60 : PySem.W.codeIn K cd60 "_law_words_kept" = true)
    (k60 : PySem.W.keepIn K (.ref f60) = true)
    (a61 : PySem.W.nsIn K mainGlobals "_law_live_right" = some (some (.ref f61)))
    (l61 : K.lookup f61 = some ⟨oc61, od61, .func (PySem.W.fnOf "_law_live_right" "_law_live_right" (defArgs s61) (defBody s61) (defScope s61) .none kV61 dc61 pm61 an61 cd61 ct61), sl61⟩)
    (c61 : PySem.W.codeIn K cd61 "_law_live_right" = true)
    (k61 : PySem.W.keepIn K (.ref f61) = true)
    (a62 : PySem.W.nsIn K mainGlobals "_law_chain" = some (some (.ref f62)))
    (l62 : K.lookup f62 = some ⟨oc62, od62, .func (PySem.W.fnOf "_law_chain" "_law_chain" (defArgs s62) (defBody s62) (defScope s62) .none kV62 dc62 pm62 an62 cd62 ct62), sl62⟩)
    (c62 : PySem.W.codeIn K cd62 "_law_chain" = true)
    (k62 : PySem.W.keepIn K (.ref f62) = true)
    (a63 : PySem.W.nsIn K mainGlobals "_law_by_view" = some (some (.ref f63)))
    (l63 : K.lookup f63 = some ⟨oc63, od63, .func (PySem.W.fnOf "_law_by_view" "_law_by_view" (defArgs s63) (defBody s63) (defScope s63) .none kV63 dc63 pm63 an63 cd63 ct63), sl63⟩)
    (c63 : PySem.W.codeIn K cd63 "_law_by_view" = true)
    (k63 : PySem.W.keepIn K (.ref f63) = true)
    (a64 : PySem.W.nsIn K mainGlobals "_law_views_right" = some (some (.ref f64)))
    (l64 : K.lookup f64 = some ⟨oc64, od64, .func (PySem.W.fnOf "_law_views_right" "_law_views_right" (defArgs s64) (defBody s64) (defScope s64) .none kV64 dc64 pm64 an64 cd64 ct64), sl64⟩)
    (c64 : PySem.W.codeIn K cd64 "_law_views_right" = true)
    (k64 : PySem.W.keepIn K (.ref f64) = true)
    (a65 : PySem.W.nsIn K mainGlobals "law" = some (some (.ref f65)))
    (l65 : K.lookup f65 = some ⟨oc65, od65, .func (PySem.W.fnOf "law" "law" (defArgs s65) (defBody s65) (defScope s65) .none kV65 dc65 pm65 an65 cd65 ct65), sl65⟩)
    (c65 : PySem.W.codeIn K cd65 "law" = true)
    (k65 : PySem.W.keepIn K (.ref f65) = true)
    (pg3 : PySem.W.plainGet K C3 Str.empty = true)
    (hd3 : PySem.W.hasDictIn K C3 = true)
    (po3 : PySem.W.plainOver K C3 = true)
    (sa3 : PySem.W.findIn K (.ref C3) "__setattr__" = some (some (.builtin "object.__setattr__")))
    (mk3 : PySem.W.makesIn K C3 = true)
    (kc3 : PySem.W.keepIn K (.ref C3) = true)
    (pg5 : PySem.W.plainGet K C5 Str.empty = true)
    (hd5 : PySem.W.hasDictIn K C5 = true)
    (po5 : PySem.W.plainOver K C5 = true)
    (sa5 : PySem.W.findIn K (.ref C5) "__setattr__" = some (some (.builtin "object.__setattr__")))
    (mk5 : PySem.W.makesIn K C5 = true)
    (kc5 : PySem.W.keepIn K (.ref C5) = true)
    (n3_2 : PySem.W.findIn K (.ref C3) "rooms" = some none)
    (n3_3 : PySem.W.findIn K (.ref C3) "_joined" = some none)
    (n3_4 : PySem.W.findIn K (.ref C3) "_doors" = some none)
    (n5_7 : PySem.W.findIn K (.ref C5) "_calls" = some none)
    (n5_8 : PySem.W.findIn K (.ref C5) "_words" = some none)
    (n5_9 : PySem.W.findIn K (.ref C5) "_hearers" = some none)
    (v3_0 : PySem.W.findCls K (.ref C3) (.type "type") "MOST_ROOMS" = some (.val (.int 12 vt3_0)))
    (rd3 : PySem.W.readsIn K C3 (.type "type") = true)
    (ga3 : PySem.W.specialIn K (.ref C3) "__getattribute__" = some (some (.builtin "type.__getattribute__")))
    (z0 : PySem.W.nsIn K mainGlobals "len" = some none)
    (z1 : PySem.W.nsIn K mainGlobals "int" = some none)
    (z2 : PySem.W.nsIn K mainGlobals "list" = some none)
    (z3 : PySem.W.nsIn K mainGlobals "tuple" = some none)
    (z4 : PySem.W.nsIn K mainGlobals "sorted" = some none)
    (z5 : PySem.W.nsIn K mainGlobals "abs" = some none)
    (z6 : PySem.W.nsIn K mainGlobals "min" = some none)
    (z7 : PySem.W.nsIn K mainGlobals "max" = some none)
    (z8 : PySem.W.nsIn K mainGlobals "sum" = some none)
    (z9 : PySem.W.nsIn K mainGlobals "any" = some none)
    (z10 : PySem.W.nsIn K mainGlobals "all" = some none)
    (z11 : PySem.W.nsIn K mainGlobals "str" = some none)
    (z12 : PySem.W.nsIn K mainGlobals "range" = some none)
    (z13 : PySem.W.nsIn K mainGlobals "isinstance" = some none)
    (z14 : PySem.W.nsIn K mainGlobals "enumerate" = some none)
    (z15 : PySem.W.nsIn K mainGlobals "bool" = some none)
    (z16 : PySem.W.nsIn K mainGlobals "reversed" = some none)
    (z17 : PySem.W.nsIn K mainGlobals "set" = some none)
    (z18 : PySem.W.nsIn K mainGlobals "dict" = some none)
    (hlaw : ∀ ns : List Int, ns.length ≤ 63 → ∃ m x, callAt B 40 65 0 [.scr ns] = .ok (.bl true, m, x)) :
    ∃ fd : FuncData, (∀ (s : Shared) (v : Value), BindsTo s fd ⟨[v], []⟩ [("script", v)]) ∧ ∀ base : Heap, K.In base → base.Ns mainGlobals mg → FnOk l.prog w K mg base CX0 80 fa fd ["script"] (spLaw K 63) := by
  have e : f65 = fa := V.ref.inj (by have e := (PySem.W.mg_of X G a65).symm.trans hfa; cases e; rfl)
  subst e
  have F44 := fun_mk (st := s44) l44 c44 k44
  have D44 : Df K cc f44 (PySem.W.fnOf "last_calls" "last_calls" (defArgs s44) (defBody s44) (defScope s44) .none kV44 dc44 pm44 an44 cd44 ct44) ["log"] 1 b_last_calls 5 := ⟨⟨_, _, _, N_last_calls, F44, sc44, rfl, cv44⟩, F44.binds (ps := ["log"]) fun _ _ _ _ _ _ us hl => match us, hl with | [_], _ => rfl, rfl⟩
  have F45 := fun_mk (st := s45) l45 c45 k45
  have D45 : Df K cc f45 (PySem.W.fnOf "top_room" "top_room" (defArgs s45) (defBody s45) (defScope s45) .none kV45 dc45 pm45 an45 cd45 ct45) ["log", "rooms"] 2 b_top_room 4 := ⟨⟨_, _, _, N_top_room, F45, sc45, rfl, cv45⟩, F45.binds (ps := ["log", "rooms"]) fun _ _ _ _ _ _ us hl => match us, hl with | [_, _], _ => rfl, rfl⟩
  have F46 := fun_mk (st := s46) l46 c46 k46
  have D46 : Df K cc f46 (PySem.W.fnOf "word_of" "word_of" (defArgs s46) (defBody s46) (defScope s46) .none kV46 dc46 pm46 an46 cd46 ct46) ["log", "rooms"] 2 b_word_of 4 := ⟨⟨_, _, _, N_word_of, F46, sc46, rfl, cv46⟩, F46.binds (ps := ["log", "rooms"]) fun _ _ _ _ _ _ us hl => match us, hl with | [_, _], _ => rfl, rfl⟩
  have F0 := fun_mk (st := s0) l0 c0 k0
  have D0 : Df K cc f0 (PySem.W.fnOf "bits_of" "bits_of" (defArgs s0) (defBody s0) (defScope s0) .none kV0 dc0 pm0 an0 cd0 ct0) ["rooms"] 1 b_bits_of 3 := ⟨⟨_, _, _, N_bits_of, F0, sc0, rfl, cv0⟩, F0.binds (ps := ["rooms"]) fun _ _ _ _ _ _ us hl => match us, hl with | [_], _ => rfl, rfl⟩
  have F1 := fun_mk (st := s1) l1 c1 k1
  have D1 : Df K cc f1 (PySem.W.fnOf "rooms_of" "rooms_of" (defArgs s1) (defBody s1) (defScope s1) .none kV1 dc1 pm1 an1 cd1 ct1) ["bits"] 1 b_rooms_of 3 := ⟨⟨_, _, _, N_rooms_of, F1, sc1, rfl, cv1⟩, F1.binds (ps := ["bits"]) fun _ _ _ _ _ _ us hl => match us, hl with | [_], _ => rfl, rfl⟩
  have F47 := fun_mk (st := s47) l47 c47 k47
  have D47 : Df K cc f47 (PySem.W.fnOf "all_bits" "all_bits" (defArgs s47) (defBody s47) (defScope s47) .none kV47 dc47 pm47 an47 cd47 ct47) ["count"] 1 b_all_bits 1 := ⟨⟨_, _, _, N_all_bits, F47, sc47, rfl, cv47⟩, F47.binds (ps := ["count"]) fun _ _ _ _ _ _ us hl => match us, hl with | [_], _ => rfl, rfl⟩
  have F48 := fun_mk (st := s48) l48 c48 k48
  have D48 : Df K cc f48 (PySem.W.fnOf "step_list" "step_list" (defArgs s48) (defBody s48) (defScope s48) .none kV48 dc48 pm48 an48 cd48 ct48) ["count", "steps"] 2 b_step_list 5 := ⟨⟨_, _, _, N_step_list, F48, sc48, rfl, cv48⟩, F48.binds (ps := ["count", "steps"]) fun _ _ _ _ _ _ us hl => match us, hl with | [_, _], _ => rfl, rfl⟩
  have F3 := fun_mk (st := s3) l3 c3 k3
  have D3 : Df K cc f3 (PySem.W.fnOf "spread" "spread" (defArgs s3) (defBody s3) (defScope s3) .none kV3 dc3 pm3 an3 cd3 ct3) ["following", "start", "inside"] 3 b_spread 7 := ⟨⟨_, _, _, N_spread, F3, sc3, rfl, cv3⟩, F3.binds (ps := ["following", "start", "inside"]) fun _ _ _ _ _ _ us hl => match us, hl with | [_, _, _], _ => rfl, rfl⟩
  have F4 := fun_mk (st := s4) l4 c4 k4
  have D4 : Df K cc f4 (PySem.W.fnOf "pieces_of" "pieces_of" (defArgs s4) (defBody s4) (defScope s4) .none kV4 dc4 pm4 an4 cd4 ct4) ["following", "inside"] 2 b_pieces_of 4 := ⟨⟨_, _, _, N_pieces_of, F4, sc4, rfl, cv4⟩, F4.binds (ps := ["following", "inside"]) fun _ _ _ _ _ _ us hl => match us, hl with | [_, _], _ => rfl, rfl⟩
  have F34 := fun_mk (st := s34) l34 c34 k34
  have D34 : Df K cc f34 (PySem.W.fnOf "__init__" "House.__init__" (defArgs s34) (defBody s34) (defScope s34) .none kV34 dc34 pm34 an34 cd34 ct34) ["self", "rooms", "doors"] 3 b_House___init__ 6 := ⟨⟨_, _, _, N_House___init__, F34, sc34, rfl, cv34⟩, F34.binds (ps := ["self", "rooms", "doors"]) fun _ _ _ _ _ _ us hl => match us, hl with | [_, _, _], _ => rfl, rfl⟩
  have F35 := fun_mk (st := s35) l35 c35 k35
  have D35 : Df K cc f35 (PySem.W.fnOf "doors" "House.doors" (defArgs s35) (defBody s35) (defScope s35) .none kV35 dc35 pm35 an35 cd35 ct35) ["self"] 1 b_House_doors 1 := ⟨⟨_, _, _, N_House_doors, F35, sc35, rfl, cv35⟩, F35.binds (ps := ["self"]) fun _ _ _ _ _ _ us hl => match us, hl with | [_], _ => rfl, rfl⟩
  have F36 := fun_mk (st := s36) l36 c36 k36
  have D36 : Df K cc f36 (PySem.W.fnOf "neighbours" "House.neighbours" (defArgs s36) (defBody s36) (defScope s36) .none kV36 dc36 pm36 an36 cd36 ct36) ["self", "room"] 2 b_House_neighbours 2 := ⟨⟨_, _, _, N_House_neighbours, F36, sc36, rfl, cv36⟩, F36.binds (ps := ["self", "room"]) fun _ _ _ _ _ _ us hl => match us, hl with | [_, _], _ => rfl, rfl⟩
  have F37 := fun_mk (st := s37) l37 c37 k37
  have D37 : Df K cc f37 (PySem.W.fnOf "neighbour_sets" "House.neighbour_sets" (defArgs s37) (defBody s37) (defScope s37) .none kV37 dc37 pm37 an37 cd37 ct37) ["self"] 1 b_House_neighbour_sets 1 := ⟨⟨_, _, _, N_House_neighbour_sets, F37, sc37, rfl, cv37⟩, F37.binds (ps := ["self"]) fun _ _ _ _ _ _ us hl => match us, hl with | [_], _ => rfl, rfl⟩
  have F5 := fun_mk (st := s5) l5 c5 k5
  have D5 : Df K cc f5 (PySem.W.fnOf "check_rooms" "check_rooms" (defArgs s5) (defBody s5) (defScope s5) .none kV5 dc5 pm5 an5 cd5 ct5) ["rooms"] 1 b_check_rooms 1 := ⟨⟨_, _, _, N_check_rooms, F5, sc5, rfl, cv5⟩, F5.binds (ps := ["rooms"]) fun _ _ _ _ _ _ us hl => match us, hl with | [_], _ => rfl, rfl⟩
  have F49 := fun_mk (st := s49) l49 c49 k49
  have D49 : Df K cc f49 (PySem.W.fnOf "reached" "reached" (defArgs s49) (defBody s49) (defScope s49) .none kV49 dc49 pm49 an49 cd49 ct49) ["house", "start", "inside"] 3 b_reached 3 := ⟨⟨_, _, _, N_reached, F49, sc49, rfl, cv49⟩, F49.binds (ps := ["house", "start", "inside"]) fun _ _ _ _ _ _ us hl => match us, hl with | [_, _, _], _ => rfl, rfl⟩
  have F50 := fun_mk (st := s50) l50 c50 k50
  have D50 : Df K cc f50 (PySem.W.fnOf "piece_with" "piece_with" (defArgs s50) (defBody s50) (defScope s50) .none kV50 dc50 pm50 an50 cd50 ct50) ["house", "room"] 2 b_piece_with 2 := ⟨⟨_, _, _, N_piece_with, F50, sc50, rfl, cv50⟩, F50.binds (ps := ["house", "room"]) fun _ _ _ _ _ _ us hl => match us, hl with | [_, _], _ => rfl, rfl⟩
  have F51 := fun_mk (st := s51) l51 c51 k51
  have D51 : Df K cc f51 (PySem.W.fnOf "lesser_part" "lesser_part" (defArgs s51) (defBody s51) (defScope s51) .none kV51 dc51 pm51 an51 cd51 ct51) ["house", "log", "room", "rooms"] 4 b_lesser_part 8 := ⟨⟨_, _, _, N_lesser_part, F51, sc51, rfl, cv51⟩, F51.binds (ps := ["house", "log", "room", "rooms"]) fun _ _ _ _ _ _ us hl => match us, hl with | [_, _, _, _], _ => rfl, rfl⟩
  have F52 := fun_mk (st := s52) l52 c52 k52
  have D52 : Df K cc f52 (PySem.W.fnOf "view_of" "view_of" (defArgs s52) (defBody s52) (defScope s52) .none kV52 dc52 pm52 an52 cd52 ct52) ["house", "log", "room"] 3 b_view_of 6 := ⟨⟨_, _, _, N_view_of, F52, sc52, rfl, cv52⟩, F52.binds (ps := ["house", "log", "room"]) fun _ _ _ _ _ _ us hl => match us, hl with | [_, _, _], _ => rfl, rfl⟩
  have F53 := fun_mk (st := s53) l53 c53 k53
  have D53 : Df K cc f53 (PySem.W.fnOf "areas" "areas" (defArgs s53) (defBody s53) (defScope s53) .none kV53 dc53 pm53 an53 cd53 ct53) ["house", "opening"] 2 b_areas 6 := ⟨⟨_, _, _, N_areas, F53, sc53, rfl, cv53⟩, F53.binds (ps := ["house", "opening"]) fun _ _ _ _ _ _ us hl => match us, hl with | [_, _], _ => rfl, rfl⟩
  have F54 := fun_mk (st := s54) l54 c54 k54
  have D54 : Df K cc f54 (PySem.W.fnOf "hear" "hear" (defArgs s54) (defBody s54) (defScope s54) .none kV54 dc54 pm54 an54 cd54 ct54) ["house", "log", "opening"] 3 b_hear 7 := ⟨⟨_, _, _, N_hear, F54, sc54, rfl, cv54⟩, F54.binds (ps := ["house", "log", "opening"]) fun _ _ _ _ _ _ us hl => match us, hl with | [_, _, _], _ => rfl, rfl⟩
  have F66 := fun_mk (st := s66) l66 c66 k66
  have D66 : Df K cc f66 (PySem.W.fnOf "__init__" "LiveHouse.__init__" (defArgs s66) (defBody s66) (defScope s66) .none kV66 dc66 pm66 an66 cd66 ct66) ["self", "house", "opening"] 3 b_LiveHouse___init__ 5 := ⟨⟨_, _, _, N_LiveHouse___init__, F66, sc66, rfl, cv66⟩, F66.binds (ps := ["self", "house", "opening"]) fun _ _ _ _ _ _ us hl => match us, hl with | [_, _, _], _ => rfl, rfl⟩
  have F67 := fun_mk (st := s67) l67 c67 k67
  have D67 : Df K cc f67 (PySem.W.fnOf "calls" "LiveHouse.calls" (defArgs s67) (defBody s67) (defScope s67) .none kV67 dc67 pm67 an67 cd67 ct67) ["self"] 1 b_LiveHouse_calls 1 := ⟨⟨_, _, _, N_LiveHouse_calls, F67, sc67, rfl, cv67⟩, F67.binds (ps := ["self"]) fun _ _ _ _ _ _ us hl => match us, hl with | [_], _ => rfl, rfl⟩
  have F68 := fun_mk (st := s68) l68 c68 k68
  have D68 : Df K cc f68 (PySem.W.fnOf "call" "LiveHouse.call" (defArgs s68) (defBody s68) (defScope s68) .none kV68 dc68 pm68 an68 cd68 ct68) ["self", "room", "word"] 3 b_LiveHouse_call 4 := ⟨⟨_, _, _, N_LiveHouse_call, F68, sc68, rfl, cv68⟩, F68.binds (ps := ["self", "room", "word"]) fun _ _ _ _ _ _ us hl => match us, hl with | [_, _, _], _ => rfl, rfl⟩
  have F69 := fun_mk (st := s69) l69 c69 k69
  have D69 : Df K cc f69 (PySem.W.fnOf "words" "LiveHouse.words" (defArgs s69) (defBody s69) (defScope s69) .none kV69 dc69 pm69 an69 cd69 ct69) ["self"] 1 b_LiveHouse_words 1 := ⟨⟨_, _, _, N_LiveHouse_words, F69, sc69, rfl, cv69⟩, F69.binds (ps := ["self"]) fun _ _ _ _ _ _ us hl => match us, hl with | [_], _ => rfl, rfl⟩
  have F15 := fun_mk (st := s15) l15 c15 k15
  have D15 : Df K cc f15 (PySem.W.fnOf "_law_cell" "_law_cell" (defArgs s15) (defBody s15) (defScope s15) .none kV15 dc15 pm15 an15 cd15 ct15) ["script", "k"] 2 b_law_cell 2 := ⟨⟨_, _, _, N_law_cell, F15, sc15, rfl, cv15⟩, F15.binds (ps := ["script", "k"]) fun _ _ _ _ _ _ us hl => match us, hl with | [_, _], _ => rfl, rfl⟩
  have F16 := fun_mk (st := s16) l16 c16 k16
  have D16 : Df K cc f16 (PySem.W.fnOf "_law_numbers" "_law_numbers" (defArgs s16) (defBody s16) (defScope s16) .none kV16 dc16 pm16 an16 cd16 ct16) ["cell", "count"] 2 b_law_numbers 6 := ⟨⟨_, _, _, N_law_numbers, F16, sc16, rfl, cv16⟩, F16.binds (ps := ["cell", "count"]) fun _ _ _ _ _ _ us hl => match us, hl with | [_, _], _ => rfl, rfl⟩
  have F17 := fun_mk (st := s17) l17 c17 k17
  have D17 : Df K cc f17 (PySem.W.fnOf "_law_names" "_law_names" (defArgs s17) (defBody s17) (defScope s17) .none kV17 dc17 pm17 an17 cd17 ct17) ["numbers", "at", "rooms"] 3 b_law_names 7 := ⟨⟨_, _, _, N_law_names, F17, sc17, rfl, cv17⟩, F17.binds (ps := ["numbers", "at", "rooms"]) fun _ _ _ _ _ _ us hl => match us, hl with | [_, _, _], _ => rfl, rfl⟩
  have F18 := fun_mk (st := s18) l18 c18 k18
  have D18 : Df K cc f18 (PySem.W.fnOf "_law_joined" "_law_joined" (defArgs s18) (defBody s18) (defScope s18) .none kV18 dc18 pm18 an18 cd18 ct18) ["kind", "a", "b", "rooms", "number", "parent"] 6 b_law_joined 6 := ⟨⟨_, _, _, N_law_joined, F18, sc18, rfl, cv18⟩, F18.binds (ps := ["kind", "a", "b", "rooms", "number", "parent"]) fun _ _ _ _ _ _ us hl => match us, hl with | [_, _, _, _, _, _], _ => rfl, rfl⟩
  have F19 := fun_mk (st := s19) l19 c19 k19
  have D19 : Df K cc f19 (PySem.W.fnOf "_law_doors" "_law_doors" (defArgs s19) (defBody s19) (defScope s19) .none kV19 dc19 pm19 an19 cd19 ct19) ["numbers", "rooms"] 2 b_law_doors 8 := ⟨⟨_, _, _, N_law_doors, F19, sc19, rfl, cv19⟩, F19.binds (ps := ["numbers", "rooms"]) fun _ _ _ _ _ _ us hl => match us, hl with | [_, _], _ => rfl, rfl⟩
  have F55 := fun_mk (st := s55) l55 c55 k55
  have D55 : Df K cc f55 (PySem.W.fnOf "_law_unlike" "_law_unlike" (defArgs s55) (defBody s55) (defScope s55) .none kV55 dc55 pm55 an55 cd55 ct55) ["numbers", "at", "many"] 3 b_law_unlike 11 := ⟨⟨_, _, _, N_law_unlike, F55, sc55, rfl, cv55⟩, F55.binds (ps := ["numbers", "at", "many"]) fun _ _ _ _ _ _ us hl => match us, hl with | [_, _, _], _ => rfl, rfl⟩
  have F56 := fun_mk (st := s56) l56 c56 k56
  have D56 : Df K cc f56 (PySem.W.fnOf "_law_log" "_law_log" (defArgs s56) (defBody s56) (defScope s56) .none kV56 dc56 pm56 an56 cd56 ct56) ["numbers", "at", "many", "rooms", "words"] 5 b_law_log 8 := ⟨⟨_, _, _, N_law_log, F56, sc56, rfl, cv56⟩, F56.binds (ps := ["numbers", "at", "many", "rooms", "words"]) fun _ _ _ _ _ _ us hl => match us, hl with | [_, _, _, _, _], _ => rfl, rfl⟩
  have F57 := fun_mk (st := s57) l57 c57 k57
  have D57 : Df K cc f57 (PySem.W.fnOf "_law_calls" "_law_calls" (defArgs s57) (defBody s57) (defScope s57) .none kV57 dc57 pm57 an57 cd57 ct57) ["script", "at", "rooms", "words", "most"] 5 b_law_calls 8 := ⟨⟨_, _, _, N_law_calls, F57, sc57, rfl, cv57⟩, F57.binds (ps := ["script", "at", "rooms", "words", "most"]) fun _ _ _ _ _ _ us hl => match us, hl with | [_, _, _, _, _], _ => rfl, rfl⟩
  have F20 := fun_mk (st := s20) l20 c20 k20
  have D20 : Df K cc f20 (PySem.W.fnOf "_law_beside" "_law_beside" (defArgs s20) (defBody s20) (defScope s20) .none kV20 dc20 pm20 an20 cd20 ct20) ["doors", "rooms"] 2 b_law_beside 6 := ⟨⟨_, _, _, N_law_beside, F20, sc20, rfl, cv20⟩, F20.binds (ps := ["doors", "rooms"]) fun _ _ _ _ _ _ us hl => match us, hl with | [_, _], _ => rfl, rfl⟩
  have F21 := fun_mk (st := s21) l21 c21 k21
  have D21 : Df K cc f21 (PySem.W.fnOf "_law_layers" "_law_layers" (defArgs s21) (defBody s21) (defScope s21) .none kV21 dc21 pm21 an21 cd21 ct21) ["beside", "start", "inside"] 3 b_law_layers 11 := ⟨⟨_, _, _, N_law_layers, F21, sc21, rfl, cv21⟩, F21.binds (ps := ["beside", "start", "inside"]) fun _ _ _ _ _ _ us hl => match us, hl with | [_, _, _], _ => rfl, rfl⟩
  have F22 := fun_mk (st := s22) l22 c22 k22
  have D22 : Df K cc f22 (PySem.W.fnOf "_law_reach" "_law_reach" (defArgs s22) (defBody s22) (defScope s22) .none kV22 dc22 pm22 an22 cd22 ct22) ["beside", "start", "inside"] 3 b_law_reach 5 := ⟨⟨_, _, _, N_law_reach, F22, sc22, rfl, cv22⟩, F22.binds (ps := ["beside", "start", "inside"]) fun _ _ _ _ _ _ us hl => match us, hl with | [_, _, _], _ => rfl, rfl⟩
  have F23 := fun_mk (st := s23) l23 c23 k23
  have D23 : Df K cc f23 (PySem.W.fnOf "_law_pieces" "_law_pieces" (defArgs s23) (defBody s23) (defScope s23) .none kV23 dc23 pm23 an23 cd23 ct23) ["beside", "rooms"] 2 b_law_pieces 6 := ⟨⟨_, _, _, N_law_pieces, F23, sc23, rfl, cv23⟩, F23.binds (ps := ["beside", "rooms"]) fun _ _ _ _ _ _ us hl => match us, hl with | [_, _], _ => rfl, rfl⟩
  have F58 := fun_mk (st := s58) l58 c58 k58
  have D58 : Df K cc f58 (PySem.W.fnOf "_law_word_of" "_law_word_of" (defArgs s58) (defBody s58) (defScope s58) .none kV58 dc58 pm58 an58 cd58 ct58) ["log", "rooms"] 2 b_law_word_of 4 := ⟨⟨_, _, _, N_law_word_of, F58, sc58, rfl, cv58⟩, F58.binds (ps := ["log", "rooms"]) fun _ _ _ _ _ _ us hl => match us, hl with | [_, _], _ => rfl, rfl⟩
  have F24 := fun_mk (st := s24) l24 c24 k24
  have D24 : Df K cc f24 (PySem.W.fnOf "_law_same" "_law_same" (defArgs s24) (defBody s24) (defScope s24) .none kV24 dc24 pm24 an24 cd24 ct24) ["got", "due"] 2 b_law_same 8 := ⟨⟨_, _, _, N_law_same, F24, sc24, rfl, cv24⟩, F24.binds (ps := ["got", "due"]) fun _ _ _ _ _ _ us hl => match us, hl with | [_, _], _ => rfl, rfl⟩
  have F59 := fun_mk (st := s59) l59 c59 k59
  have D59 : Df K cc f59 (PySem.W.fnOf "_law_area_lists" "_law_area_lists" (defArgs s59) (defBody s59) (defScope s59) .none kV59 dc59 pm59 an59 cd59 ct59) ["rooms", "opening"] 2 b_law_area_lists 5 := ⟨⟨_, _, _, N_law_area_lists, F59, sc59, rfl, cv59⟩, F59.binds (ps := ["rooms", "opening"]) fun _ _ _ _ _ _ us hl => match us, hl with | [_, _], _ => rfl, rfl⟩
  have F60 := fun_mk (st := s60) l60 c60 k60
  have D60 : Df K cc f60 (PySem.W.fnOf "_law_words_kept" "_law_words_kept" (defArgs s60) (defBody s60) (defScope s60) .none kV60 dc60 pm60 an60 cd60 ct60) ["zones", "calls"] 2 b_law_words_kept 3 := ⟨⟨_, _, _, N_law_words_kept, F60, sc60, rfl, cv60⟩, F60.binds (ps := ["zones", "calls"]) fun _ _ _ _ _ _ us hl => match us, hl with | [_, _], _ => rfl, rfl⟩
  have F61 := fun_mk (st := s61) l61 c61 k61
  have D61 : Df K cc f61 (PySem.W.fnOf "_law_live_right" "_law_live_right" (defArgs s61) (defBody s61) (defScope s61) .none kV61 dc61 pm61 an61 cd61 ct61) ["lives", "zones", "log"] 3 b_law_live_right 10 := ⟨⟨_, _, _, N_law_live_right, F61, sc61, rfl, cv61⟩, F61.binds (ps := ["lives", "zones", "log"]) fun _ _ _ _ _ _ us hl => match us, hl with | [_, _, _], _ => rfl, rfl⟩
  have F62 := fun_mk (st := s62) l62 c62 k62
  have D62 : Df K cc f62 (PySem.W.fnOf "_law_chain" "_law_chain" (defArgs s62) (defBody s62) (defScope s62) .none kV62 dc62 pm62 an62 cd62 ct62) ["view", "room", "piece"] 3 b_law_chain 7 := ⟨⟨_, _, _, N_law_chain, F62, sc62, rfl, cv62⟩, F62.binds (ps := ["view", "room", "piece"]) fun _ _ _ _ _ _ us hl => match us, hl with | [_, _, _], _ => rfl, rfl⟩
  have F63 := fun_mk (st := s63) l63 c63 k63
  have D63 : Df K cc f63 (PySem.W.fnOf "_law_by_view" "_law_by_view" (defArgs s63) (defBody s63) (defScope s63) .none kV63 dc63 pm63 an63 cd63 ct63) ["view", "area"] 2 b_law_by_view 5 := ⟨⟨_, _, _, N_law_by_view, F63, sc63, rfl, cv63⟩, F63.binds (ps := ["view", "area"]) fun _ _ _ _ _ _ us hl => match us, hl with | [_, _], _ => rfl, rfl⟩
  have F64 := fun_mk (st := s64) l64 c64 k64
  have D64 : Df K cc f64 (PySem.W.fnOf "_law_views_right" "_law_views_right" (defArgs s64) (defBody s64) (defScope s64) .none kV64 dc64 pm64 an64 cd64 ct64) ["house", "beside", "rooms", "zones", "calls"] 5 b_law_views_right 11 := ⟨⟨_, _, _, N_law_views_right, F64, sc64, rfl, cv64⟩, F64.binds (ps := ["house", "beside", "rooms", "zones", "calls"]) fun _ _ _ _ _ _ us hl => match us, hl with | [_, _, _, _, _], _ => rfl, rfl⟩
  have F65 := fun_mk (st := s65) l65 c65 k65
  have D65 : Df K cc f65 (PySem.W.fnOf "law" "law" (defArgs s65) (defBody s65) (defScope s65) .none kV65 dc65 pm65 an65 cd65 ct65) ["script"] 1 b_law_k07 16 := ⟨⟨_, _, _, N_law_k07, F65, sc65, rfl, cv65⟩, F65.binds (ps := ["script"]) fun _ _ _ _ _ _ us hl => match us, hl with | [_], _ => rfl, rfl⟩
  have Q : Pg ⟨K, fun i => ([C3, C3, C3, C3, C3, C5] : List Addr).getD i 0, 6, mkNm flds, flds_inj⟩ B cc K mg (fun i => ([f44, f45, f46, f0, f1, f47, f48, f3, f4, f34, f35, f36, f37, f5, f49, f50, f51, f52, f53, f54, f66, f67, f68, f69, f15, f16, f17, f18, f19, f55, f56, f57, f20, f21, f22, f23, f58, f24, f59, f60, f61, f62, f63, f64, f65] : List Addr).getD (loc i) 0) (fun i => ([(PySem.W.fnOf "last_calls" "last_calls" (defArgs s44) (defBody s44) (defScope s44) .none kV44 dc44 pm44 an44 cd44 ct44), (PySem.W.fnOf "top_room" "top_room" (defArgs s45) (defBody s45) (defScope s45) .none kV45 dc45 pm45 an45 cd45 ct45), (PySem.W.fnOf "word_of" "word_of" (defArgs s46) (defBody s46) (defScope s46) .none kV46 dc46 pm46 an46 cd46 ct46), (PySem.W.fnOf "bits_of" "bits_of" (defArgs s0) (defBody s0) (defScope s0) .none kV0 dc0 pm0 an0 cd0 ct0), (PySem.W.fnOf "rooms_of" "rooms_of" (defArgs s1) (defBody s1) (defScope s1) .none kV1 dc1 pm1 an1 cd1 ct1), (PySem.W.fnOf "all_bits" "all_bits" (defArgs s47) (defBody s47) (defScope s47) .none kV47 dc47 pm47 an47 cd47 ct47), (PySem.W.fnOf "step_list" "step_list" (defArgs s48) (defBody s48) (defScope s48) .none kV48 dc48 pm48 an48 cd48 ct48), (PySem.W.fnOf "spread" "spread" (defArgs s3) (defBody s3) (defScope s3) .none kV3 dc3 pm3 an3 cd3 ct3), (PySem.W.fnOf "pieces_of" "pieces_of" (defArgs s4) (defBody s4) (defScope s4) .none kV4 dc4 pm4 an4 cd4 ct4), (PySem.W.fnOf "__init__" "House.__init__" (defArgs s34) (defBody s34) (defScope s34) .none kV34 dc34 pm34 an34 cd34 ct34), (PySem.W.fnOf "doors" "House.doors" (defArgs s35) (defBody s35) (defScope s35) .none kV35 dc35 pm35 an35 cd35 ct35), (PySem.W.fnOf "neighbours" "House.neighbours" (defArgs s36) (defBody s36) (defScope s36) .none kV36 dc36 pm36 an36 cd36 ct36), (PySem.W.fnOf "neighbour_sets" "House.neighbour_sets" (defArgs s37) (defBody s37) (defScope s37) .none kV37 dc37 pm37 an37 cd37 ct37), (PySem.W.fnOf "check_rooms" "check_rooms" (defArgs s5) (defBody s5) (defScope s5) .none kV5 dc5 pm5 an5 cd5 ct5), (PySem.W.fnOf "reached" "reached" (defArgs s49) (defBody s49) (defScope s49) .none kV49 dc49 pm49 an49 cd49 ct49), (PySem.W.fnOf "piece_with" "piece_with" (defArgs s50) (defBody s50) (defScope s50) .none kV50 dc50 pm50 an50 cd50 ct50), (PySem.W.fnOf "lesser_part" "lesser_part" (defArgs s51) (defBody s51) (defScope s51) .none kV51 dc51 pm51 an51 cd51 ct51), (PySem.W.fnOf "view_of" "view_of" (defArgs s52) (defBody s52) (defScope s52) .none kV52 dc52 pm52 an52 cd52 ct52), (PySem.W.fnOf "areas" "areas" (defArgs s53) (defBody s53) (defScope s53) .none kV53 dc53 pm53 an53 cd53 ct53), (PySem.W.fnOf "hear" "hear" (defArgs s54) (defBody s54) (defScope s54) .none kV54 dc54 pm54 an54 cd54 ct54), (PySem.W.fnOf "__init__" "LiveHouse.__init__" (defArgs s66) (defBody s66) (defScope s66) .none kV66 dc66 pm66 an66 cd66 ct66), (PySem.W.fnOf "calls" "LiveHouse.calls" (defArgs s67) (defBody s67) (defScope s67) .none kV67 dc67 pm67 an67 cd67 ct67), (PySem.W.fnOf "call" "LiveHouse.call" (defArgs s68) (defBody s68) (defScope s68) .none kV68 dc68 pm68 an68 cd68 ct68), (PySem.W.fnOf "words" "LiveHouse.words" (defArgs s69) (defBody s69) (defScope s69) .none kV69 dc69 pm69 an69 cd69 ct69), (PySem.W.fnOf "_law_cell" "_law_cell" (defArgs s15) (defBody s15) (defScope s15) .none kV15 dc15 pm15 an15 cd15 ct15), (PySem.W.fnOf "_law_numbers" "_law_numbers" (defArgs s16) (defBody s16) (defScope s16) .none kV16 dc16 pm16 an16 cd16 ct16), (PySem.W.fnOf "_law_names" "_law_names" (defArgs s17) (defBody s17) (defScope s17) .none kV17 dc17 pm17 an17 cd17 ct17), (PySem.W.fnOf "_law_joined" "_law_joined" (defArgs s18) (defBody s18) (defScope s18) .none kV18 dc18 pm18 an18 cd18 ct18), (PySem.W.fnOf "_law_doors" "_law_doors" (defArgs s19) (defBody s19) (defScope s19) .none kV19 dc19 pm19 an19 cd19 ct19), (PySem.W.fnOf "_law_unlike" "_law_unlike" (defArgs s55) (defBody s55) (defScope s55) .none kV55 dc55 pm55 an55 cd55 ct55), (PySem.W.fnOf "_law_log" "_law_log" (defArgs s56) (defBody s56) (defScope s56) .none kV56 dc56 pm56 an56 cd56 ct56), (PySem.W.fnOf "_law_calls" "_law_calls" (defArgs s57) (defBody s57) (defScope s57) .none kV57 dc57 pm57 an57 cd57 ct57), (PySem.W.fnOf "_law_beside" "_law_beside" (defArgs s20) (defBody s20) (defScope s20) .none kV20 dc20 pm20 an20 cd20 ct20), (PySem.W.fnOf "_law_layers" "_law_layers" (defArgs s21) (defBody s21) (defScope s21) .none kV21 dc21 pm21 an21 cd21 ct21), (PySem.W.fnOf "_law_reach" "_law_reach" (defArgs s22) (defBody s22) (defScope s22) .none kV22 dc22 pm22 an22 cd22 ct22), (PySem.W.fnOf "_law_pieces" "_law_pieces" (defArgs s23) (defBody s23) (defScope s23) .none kV23 dc23 pm23 an23 cd23 ct23), (PySem.W.fnOf "_law_word_of" "_law_word_of" (defArgs s58) (defBody s58) (defScope s58) .none kV58 dc58 pm58 an58 cd58 ct58), (PySem.W.fnOf "_law_same" "_law_same" (defArgs s24) (defBody s24) (defScope s24) .none kV24 dc24 pm24 an24 cd24 ct24), (PySem.W.fnOf "_law_area_lists" "_law_area_lists" (defArgs s59) (defBody s59) (defScope s59) .none kV59 dc59 pm59 an59 cd59 ct59), (PySem.W.fnOf "_law_words_kept" "_law_words_kept" (defArgs s60) (defBody s60) (defScope s60) .none kV60 dc60 pm60 an60 cd60 ct60), (PySem.W.fnOf "_law_live_right" "_law_live_right" (defArgs s61) (defBody s61) (defScope s61) .none kV61 dc61 pm61 an61 cd61 ct61), (PySem.W.fnOf "_law_chain" "_law_chain" (defArgs s62) (defBody s62) (defScope s62) .none kV62 dc62 pm62 an62 cd62 ct62), (PySem.W.fnOf "_law_by_view" "_law_by_view" (defArgs s63) (defBody s63) (defScope s63) .none kV63 dc63 pm63 an63 cd63 ct63), (PySem.W.fnOf "_law_views_right" "_law_views_right" (defArgs s64) (defBody s64) (defScope s64) .none kV64 dc64 pm64 an64 cd64 ct64), (PySem.W.fnOf "law" "law" (defArgs s65) (defBody s65) (defScope s65) .none kV65 dc65 pm65 an65 cd65 ct65)] : List FuncData).getD (loc i) (PySem.W.fnOf "law" "law" (defArgs s65) (defBody s65) (defScope s65) .none kV65 dc65 pm65 an65 cd65 ct65)) (fun i => ([[Str.ofString "log"], [Str.ofString "log", Str.ofString "rooms"], [Str.ofString "log", Str.ofString "rooms"], [Str.ofString "rooms"], [Str.ofString "bits"], [Str.ofString "count"], [Str.ofString "count", Str.ofString "steps"], [Str.ofString "following", Str.ofString "start", Str.ofString "inside"], [Str.ofString "following", Str.ofString "inside"], [Str.ofString "self", Str.ofString "rooms", Str.ofString "doors"], [Str.ofString "self"], [Str.ofString "self", Str.ofString "room"], [Str.ofString "self"], [Str.ofString "rooms"], [Str.ofString "house", Str.ofString "start", Str.ofString "inside"], [Str.ofString "house", Str.ofString "room"], [Str.ofString "house", Str.ofString "log", Str.ofString "room", Str.ofString "rooms"], [Str.ofString "house", Str.ofString "log", Str.ofString "room"], [Str.ofString "house", Str.ofString "opening"], [Str.ofString "house", Str.ofString "log", Str.ofString "opening"], [Str.ofString "self", Str.ofString "house", Str.ofString "opening"], [Str.ofString "self"], [Str.ofString "self", Str.ofString "room", Str.ofString "word"], [Str.ofString "self"], [Str.ofString "script", Str.ofString "k"], [Str.ofString "cell", Str.ofString "count"], [Str.ofString "numbers", Str.ofString "at", Str.ofString "rooms"], [Str.ofString "kind", Str.ofString "a", Str.ofString "b", Str.ofString "rooms", Str.ofString "number", Str.ofString "parent"], [Str.ofString "numbers", Str.ofString "rooms"], [Str.ofString "numbers", Str.ofString "at", Str.ofString "many"], [Str.ofString "numbers", Str.ofString "at", Str.ofString "many", Str.ofString "rooms", Str.ofString "words"], [Str.ofString "script", Str.ofString "at", Str.ofString "rooms", Str.ofString "words", Str.ofString "most"], [Str.ofString "doors", Str.ofString "rooms"], [Str.ofString "beside", Str.ofString "start", Str.ofString "inside"], [Str.ofString "beside", Str.ofString "start", Str.ofString "inside"], [Str.ofString "beside", Str.ofString "rooms"], [Str.ofString "log", Str.ofString "rooms"], [Str.ofString "got", Str.ofString "due"], [Str.ofString "rooms", Str.ofString "opening"], [Str.ofString "zones", Str.ofString "calls"], [Str.ofString "lives", Str.ofString "zones", Str.ofString "log"], [Str.ofString "view", Str.ofString "room", Str.ofString "piece"], [Str.ofString "view", Str.ofString "area"], [Str.ofString "house", Str.ofString "beside", Str.ofString "rooms", Str.ofString "zones", Str.ofString "calls"], [Str.ofString "script"]] : List (List Str)).getD (loc i) []) := by
    refine ⟨rfl, bn_of (PySem.W.mg_none_of X G z0) (PySem.W.mg_none_of X G z1) (PySem.W.mg_none_of X G z2) (PySem.W.mg_none_of X G z3) (PySem.W.mg_none_of X G z4) (PySem.W.mg_none_of X G z5) (PySem.W.mg_none_of X G z6) (PySem.W.mg_none_of X G z7) (PySem.W.mg_none_of X G z8) (PySem.W.mg_none_of X G z9) (PySem.W.mg_none_of X G z10) (PySem.W.mg_none_of X G z11) (PySem.W.mg_none_of X G z12) (PySem.W.mg_none_of X G z13) (PySem.W.mg_none_of X G z14) (PySem.W.mg_none_of X G z15) (PySem.W.mg_none_of X G z16) (PySem.W.mg_none_of X G z17) (PySem.W.mg_none_of X G z18), rfl, ?df, ?call, ?cls, ?noat, ?meth, ?prop, ?made, ?cval⟩
    case df =>
      intro f np body nn h
      change dn f = _ at h
      unfold dn at h
      split at h
      · cases h; exact D44
      · cases h; exact D45
      · cases h; exact D46
      · cases h; exact D0
      · cases h; exact D1
      · cases h; exact D47
      · cases h; exact D48
      · cases h; exact D3
      · cases h; exact D4
      · cases h; exact D34
      · cases h; exact D35
      · cases h; exact D36
      · cases h; exact D37
      · cases h; exact D5
      · cases h; exact D49
      · cases h; exact D50
      · cases h; exact D51
      · cases h; exact D52
      · cases h; exact D53
      · cases h; exact D54
      · cases h; exact D66
      · cases h; exact D67
      · cases h; exact D68
      · cases h; exact D69
      · cases h; exact D15
      · cases h; exact D16
      · cases h; exact D17
      · cases h; exact D18
      · cases h; exact D19
      · cases h; exact D55
      · cases h; exact D56
      · cases h; exact D57
      · cases h; exact D20
      · cases h; exact D21
      · cases h; exact D22
      · cases h; exact D23
      · cases h; exact D58
      · cases h; exact D24
      · cases h; exact D59
      · cases h; exact D60
      · cases h; exact D61
      · cases h; exact D62
      · cases h; exact D63
      · cases h; exact D64
      · cases h; exact D65
      · cases h
    case call =>
      intro f hf
      change fname f ≠ _ at hf
      show mg (fname f) = _ ∧ _
      unfold fname at hf ⊢
      split at hf
      · exact ⟨PySem.W.mg_of X G a44, k44, rfl⟩
      · exact ⟨PySem.W.mg_of X G a45, k45, rfl⟩
      · exact ⟨PySem.W.mg_of X G a46, k46, rfl⟩
      · exact ⟨PySem.W.mg_of X G a0, k0, rfl⟩
      · exact ⟨PySem.W.mg_of X G a1, k1, rfl⟩
      · exact ⟨PySem.W.mg_of X G a47, k47, rfl⟩
      · exact ⟨PySem.W.mg_of X G a48, k48, rfl⟩
      · exact ⟨PySem.W.mg_of X G a3, k3, rfl⟩
      · exact ⟨PySem.W.mg_of X G a4, k4, rfl⟩
      · exact ⟨PySem.W.mg_of X G a5, k5, rfl⟩
      · exact ⟨PySem.W.mg_of X G a49, k49, rfl⟩
      · exact ⟨PySem.W.mg_of X G a50, k50, rfl⟩
      · exact ⟨PySem.W.mg_of X G a51, k51, rfl⟩
      · exact ⟨PySem.W.mg_of X G a52, k52, rfl⟩
      · exact ⟨PySem.W.mg_of X G a53, k53, rfl⟩
      · exact ⟨PySem.W.mg_of X G a54, k54, rfl⟩
      · exact ⟨PySem.W.mg_of X G a15, k15, rfl⟩
      · exact ⟨PySem.W.mg_of X G a16, k16, rfl⟩
      · exact ⟨PySem.W.mg_of X G a17, k17, rfl⟩
      · exact ⟨PySem.W.mg_of X G a18, k18, rfl⟩
      · exact ⟨PySem.W.mg_of X G a19, k19, rfl⟩
      · exact ⟨PySem.W.mg_of X G a55, k55, rfl⟩
      · exact ⟨PySem.W.mg_of X G a56, k56, rfl⟩
      · exact ⟨PySem.W.mg_of X G a57, k57, rfl⟩
      · exact ⟨PySem.W.mg_of X G a20, k20, rfl⟩
      · exact ⟨PySem.W.mg_of X G a21, k21, rfl⟩
      · exact ⟨PySem.W.mg_of X G a22, k22, rfl⟩
      · exact ⟨PySem.W.mg_of X G a23, k23, rfl⟩
      · exact ⟨PySem.W.mg_of X G a58, k58, rfl⟩
      · exact ⟨PySem.W.mg_of X G a24, k24, rfl⟩
      · exact ⟨PySem.W.mg_of X G a59, k59, rfl⟩
      · exact ⟨PySem.W.mg_of X G a60, k60, rfl⟩
      · exact ⟨PySem.W.mg_of X G a61, k61, rfl⟩
      · exact ⟨PySem.W.mg_of X G a62, k62, rfl⟩
      · exact ⟨PySem.W.mg_of X G a63, k63, rfl⟩
      · exact ⟨PySem.W.mg_of X G a64, k64, rfl⟩
      · exact ⟨PySem.W.mg_of X G a65, k65, rfl⟩
      · exact absurd rfl hf
    case cls =>
      intro cl h
      match cl, h with
      | 0, _ => exact ⟨pg3, hd3, po3, sa3⟩
      | 1, _ => exact ⟨pg3, hd3, po3, sa3⟩
      | 2, _ => exact ⟨pg3, hd3, po3, sa3⟩
      | 3, _ => exact ⟨pg3, hd3, po3, sa3⟩
      | 4, _ => exact ⟨pg3, hd3, po3, sa3⟩
      | 5, _ => exact ⟨pg5, hd5, po5, sa5⟩
      | n + 6, h => exact absurd h (by show ¬ (n + 6 < 6); omega)
    case noat =>
      intro cl j h hh
      change has cl j = true at hh
      unfold has at hh
      split at hh
      · exact n3_2
      · exact n3_3
      · exact n3_4
      · exact n5_7
      · exact n5_8
      · exact n5_9
      · cases hh
    case meth =>
      intro cl m f h
      change meth cl m = some f at h
      unfold meth at h
      split at h
      · cases h; exact ⟨(by show 3 < 6; decide), mkNm_ne (by decide +kernel) (by decide +kernel), ⟨a35, i35, k35⟩, rfl⟩
      · cases h; exact ⟨(by show 3 < 6; decide), mkNm_ne (by decide +kernel) (by decide +kernel), ⟨a36, i36, k36⟩, rfl⟩
      · cases h; exact ⟨(by show 3 < 6; decide), mkNm_ne (by decide +kernel) (by decide +kernel), ⟨a37, i37, k37⟩, rfl⟩
      · cases h; exact ⟨(by show 5 < 6; decide), mkNm_ne (by decide +kernel) (by decide +kernel), ⟨a68, i68, k68⟩, rfl⟩
      · cases h; exact ⟨(by show 5 < 6; decide), mkNm_ne (by decide +kernel) (by decide +kernel), ⟨a69, i69, k69⟩, rfl⟩
      · cases h
    case prop =>
      intro cl m f h
      change prop cl m = some f at h
      unfold prop at h
      split at h
      · cases h; exact ⟨(by show 5 < 6; decide), ⟨p67, q67, g67, t67, _, r67⟩, rfl⟩
      · cases h
    case made =>
      intro cl f h
      change init cl = some f at h
      unfold init at h
      split at h
      · cases h; exact ⟨(by show 3 < 6; decide), PySem.W.mg_of X G C3_, ⟨mk3, a34, i34, kc3⟩, rfl⟩
      · cases h; exact ⟨(by show 5 < 6; decide), PySem.W.mg_of X G C5_, ⟨mk5, a66, i66, kc5⟩, rfl⟩
      · cases h
    case cval =>
      intro cl j d h
      change cval cl j = some d at h
      unfold cval at h
      split at h
      · cases h; exact ⟨PySem.W.mg_of X G C3_, .type "type", .int 12, _, ⟨rd3, ga3⟩, ⟨v3_0, ⟨_, rfl⟩⟩, kc3, fun _ _ _ => .int⟩
      · cases h
  exact ⟨(PySem.W.fnOf "law" "law" (defArgs s65) (defBody s65) (defScope s65) .none kV65 dc65 pm65 an65 cd65 ct65), fun s v => .of_eq rfl, fun base _ _ => law_fn Q 40 65 63 rfl hlaw⟩
set_option maxHeartbeats 4000000
instance : C_bits_of B := { d_bits_of := rfl }
instance : C_rooms_of B := { d_rooms_of := rfl }
instance : C_spread B := { d_spread := rfl }
instance : C_pieces_of B := { d_pieces_of := rfl }
instance : C_House___init__ B := { d_House___init__ := rfl, i_House___init__ := rfl, h_House_rooms := rfl, h_House_joined := rfl, h_House_doors := rfl, v_House_MOST_ROOMS := rfl }
instance : C_check_rooms B := { d_check_rooms := rfl }
instance : C_law_cell B := { d_law_cell := rfl }
instance : C_law_numbers B := { d_law_numbers := rfl }
instance : C_law_names B := { d_law_names := rfl }
instance : C_law_joined B := { d_law_joined := rfl }
instance : C_law_doors B := { d_law_doors := rfl }
instance : C_law_beside B := { d_law_beside := rfl }
instance : C_law_layers B := { d_law_layers := rfl }
instance : C_law_reach B := { d_law_reach := rfl }
instance : C_law_pieces B := { d_law_pieces := rfl }
instance : C_law_same B := { d_law_same := rfl }
instance : C_House_doors B := { d_House_doors := rfl, m_House_doors := rfl }
instance : C_House_neighbours B := { d_House_neighbours := rfl, m_House_neighbours := rfl }
instance : C_House_neighbour_sets B := { d_House_neighbour_sets := rfl, m_House_neighbour_sets := rfl }
instance : C_last_calls B := { d_last_calls := rfl }
instance : C_top_room B := { d_top_room := rfl }
instance : C_word_of B := { d_word_of := rfl }
instance : C_all_bits B := { d_all_bits := rfl }
instance : C_step_list B := { d_step_list := rfl }
instance : C_reached B := { d_reached := rfl }
instance : C_piece_with B := { d_piece_with := rfl }
instance : C_lesser_part B := { d_lesser_part := rfl }
instance : C_view_of B := { d_view_of := rfl }
instance : C_areas B := { d_areas := rfl }
instance : C_hear B := { d_hear := rfl }
instance : C_law_unlike B := { d_law_unlike := rfl }
instance : C_law_log B := { d_law_log := rfl }
instance : C_law_calls B := { d_law_calls := rfl }
instance : C_law_word_of B := { d_law_word_of := rfl }
instance : C_law_area_lists B := { d_law_area_lists := rfl }
instance : C_law_words_kept B := { d_law_words_kept := rfl }
instance : C_LiveHouse_call B := { d_LiveHouse_call := rfl, m_LiveHouse_call := rfl }
instance : C_LiveHouse_calls B := { d_LiveHouse_calls := rfl, m_LiveHouse_calls := rfl }
instance : C_LiveHouse_words B := { d_LiveHouse_words := rfl, m_LiveHouse_words := rfl }
instance : C_law_live_right B := { d_law_live_right := rfl }
instance : C_law_chain B := { d_law_chain := rfl }
instance : C_law_by_view B := { d_law_by_view := rfl }
instance : C_law_views_right B := { d_law_views_right := rfl }
instance : C_LiveHouse___init__ B := { d_LiveHouse___init__ := rfl, i_LiveHouse___init__ := rfl, h_LiveHouse_calls := rfl, h_LiveHouse_words := rfl, h_LiveHouse_hearers := rfl }
instance : C_law_k07 B := { d_law_k07 := rfl }
end K07
namespace K07
open PySem PySem.Spec PyProof.Rows L2 Hc Bd
instance : Hc.Fu B := ⟨rfl⟩
theorem law_true : ∀ ns : List Int, ns.length ≤ 63 → ∃ m x, callAt B 40 65 0 [.scr ns] = .ok (.bl true, m, x) := fun ns h => Hc.k07_true (by omega) h
end K07
open PySem PySem.W PyProof.Rows
set_option maxRecDepth 100000 in
set_option maxHeartbeats 0 in
theorem PySem.Challenge.cw_heardcalls_k07_whole_view_heard_holds : PySem.Challenge.rw_heardcalls_k07_whole_view_heard.Holds := by
  w_on; o_law; k_head; (case hw => w_witness2)
  k_fill
  refine L2.walk_of (l := PySem.Challenge.rw_heardcalls_k07_whole_view_heard) (n := 63) (k := 80) (x := "script") (CX := fun _ => L2.CX0) (sp := fun w => Hc.spLaw _ 63) rfl (by decide) rfl ⟨rfl, by decide, by decide⟩ (fun w h Y => PySem.W.kIn_of Y) ?F (fun _ _ a ns hl hO hS => ⟨a, ns, rfl, hl, hS, Hc.law_arg hO hS, fun _ => rfl⟩) (fun _ _ _ _ _ h => h)
  case F =>
    intro w mg fa h KX G hmg
    refine' K07.all_mk KX G hmg ?C3_ ?C5_ ?a44 ?l44 ?c44 ?k44 ?a45 ?l45 ?c45 ?k45 ?a46 ?l46 ?c46 ?k46 ?a0 ?l0 ?c0 ?k0 ?a1 ?l1 ?c1 ?k1 ?a47 ?l47 ?c47 ?k47 ?a48 ?l48 ?c48 ?k48 ?a3 ?l3 ?c3 ?k3 ?a4 ?l4 ?c4 ?k4 ?a34 ?i34 ?l34 ?c34 ?k34 ?a35 ?i35 ?l35 ?c35 ?k35 ?a36 ?i36 ?l36 ?c36 ?k36 ?a37 ?i37 ?l37 ?c37 ?k37 ?a5 ?l5 ?c5 ?k5 ?a49 ?l49 ?c49 ?k49 ?a50 ?l50 ?c50 ?k50 ?a51 ?l51 ?c51 ?k51 ?a52 ?l52 ?c52 ?k52 ?a53 ?l53 ?c53 ?k53 ?a54 ?l54 ?c54 ?k54 ?a66 ?i66 ?l66 ?c66 ?k66 ?q67 ?r67 ?g67 ?t67 ?l67 ?c67 ?k67 ?a68 ?i68 ?l68 ?c68 ?k68 ?a69 ?i69 ?l69 ?c69 ?k69 ?a15 ?l15 ?c15 ?k15 ?a16 ?l16 ?c16 ?k16 ?a17 ?l17 ?c17 ?k17 ?a18 ?l18 ?c18 ?k18 ?a19 ?l19 ?c19 ?k19 ?a55 ?l55 ?c55 ?k55 ?a56 ?l56 ?c56 ?k56 ?a57 ?l57 ?c57 ?k57 ?a20 ?l20 ?c20 ?k20 ?a21 ?l21 ?c21 ?k21 ?a22 ?l22 ?c22 ?k22 ?a23 ?l23 ?c23 ?k23 ?a58 ?l58 ?c58 ?k58 ?a24 ?l24 ?c24 ?k24 ?a59 ?l59 ?c59 ?k59 ?a60 ?l60 ?c60 ?k60 ?a61 ?l61 ?c61 ?k61 ?a62 ?l62 ?c62 ?k62 ?a63 ?l63 ?c63 ?k63 ?a64 ?l64 ?c64 ?k64 ?a65 ?l65 ?c65 ?k65 ?pg3 ?hd3 ?po3 ?sa3 ?mk3 ?kc3 ?pg5 ?hd5 ?po5 ?sa5 ?mk5 ?kc5 ?n3_2 ?n3_3 ?n3_4 ?n5_7 ?n5_8 ?n5_9 ?v3_0 ?rd3 ?ga3 ?z0 ?z1 ?z2 ?z3 ?z4 ?z5 ?z6 ?z7 ?z8 ?z9 ?z10 ?z11 ?z12 ?z13 ?z14 ?z15 ?z16 ?z17 ?z18 K07.law_true
    (case C3_ => k_is)
    (case C5_ => k_is)
    (case a44 => k_is)
    (case l44 => k_is)
    (case c44 => k_is)
    (case k44 => k_is)
    (case a45 => k_is)
    (case l45 => k_is)
    (case c45 => k_is)
    (case k45 => k_is)
    (case a46 => k_is)
    (case l46 => k_is)
    (case c46 => k_is)
    (case k46 => k_is)
    (case a0 => k_is)
    (case l0 => k_is)
    (case c0 => k_is)
    (case k0 => k_is)
    (case a1 => k_is)
    (case l1 => k_is)
    (case c1 => k_is)
    (case k1 => k_is)
    (case a47 => k_is)
    (case l47 => k_is)
    (case c47 => k_is)
    (case k47 => k_is)
    (case a48 => k_is)
    (case l48 => k_is)
    (case c48 => k_is)
    (case k48 => k_is)
    (case a3 => k_is)
    (case l3 => k_is)
    (case c3 => k_is)
    (case k3 => k_is)
    (case a4 => k_is)
    (case l4 => k_is)
    (case c4 => k_is)
    (case k4 => k_is)
    (case a34 => k_is)
    (case i34 => k_is)
    (case l34 => k_is)
    (case c34 => k_is)
    (case k34 => k_is)
    (case a35 => k_is)
    (case i35 => k_is)
    (case l35 => k_is)
    (case c35 => k_is)
    (case k35 => k_is)
    (case a36 => k_is)
    (case i36 => k_is)
    (case l36 => k_is)
    (case c36 => k_is)
    (case k36 => k_is)
    (case a37 => k_is)
    (case i37 => k_is)
    (case l37 => k_is)
    (case c37 => k_is)
    (case k37 => k_is)
    (case a5 => k_is)
    (case l5 => k_is)
    (case c5 => k_is)
    (case k5 => k_is)
    (case a49 => k_is)
    (case l49 => k_is)
    (case c49 => k_is)
    (case k49 => k_is)
    (case a50 => k_is)
    (case l50 => k_is)
    (case c50 => k_is)
    (case k50 => k_is)
    (case a51 => k_is)
    (case l51 => k_is)
    (case c51 => k_is)
    (case k51 => k_is)
    (case a52 => k_is)
    (case l52 => k_is)
    (case c52 => k_is)
    (case k52 => k_is)
    (case a53 => k_is)
    (case l53 => k_is)
    (case c53 => k_is)
    (case k53 => k_is)
    (case a54 => k_is)
    (case l54 => k_is)
    (case c54 => k_is)
    (case k54 => k_is)
    (case a66 => k_is)
    (case i66 => k_is)
    (case l66 => k_is)
    (case c66 => k_is)
    (case k66 => k_is)
    (case q67 => k_is)
    (case r67 => k_is)
    (case g67 => k_is)
    (case t67 => k_is)
    (case l67 => k_is)
    (case c67 => k_is)
    (case k67 => k_is)
    (case a68 => k_is)
    (case i68 => k_is)
    (case l68 => k_is)
    (case c68 => k_is)
    (case k68 => k_is)
    (case a69 => k_is)
    (case i69 => k_is)
    (case l69 => k_is)
    (case c69 => k_is)
    (case k69 => k_is)
    (case a15 => k_is)
    (case l15 => k_is)
    (case c15 => k_is)
    (case k15 => k_is)
    (case a16 => k_is)
    (case l16 => k_is)
    (case c16 => k_is)
    (case k16 => k_is)
    (case a17 => k_is)
    (case l17 => k_is)
    (case c17 => k_is)
    (case k17 => k_is)
    (case a18 => k_is)
    (case l18 => k_is)
    (case c18 => k_is)
    (case k18 => k_is)
    (case a19 => k_is)
    (case l19 => k_is)
    (case c19 => k_is)
    (case k19 => k_is)
    (case a55 => k_is)
    (case l55 => k_is)
    (case c55 => k_is)
    (case k55 => k_is)
    (case a56 => k_is)
    (case l56 => k_is)
    (case c56 => k_is)
    (case k56 => k_is)
    (case a57 => k_is)
    (case l57 => k_is)
    (case c57 => k_is)
    (case k57 => k_is)
    (case a20 => k_is)
    (case l20 => k_is)
    (case c20 => k_is)
    (case k20 => k_is)
    (case a21 => k_is)
    (case l21 => k_is)
    (case c21 => k_is)
    (case k21 => k_is)
    (case a22 => k_is)
    (case l22 => k_is)
    (case c22 => k_is)
    (case k22 => k_is)
    (case a23 => k_is)
    (case l23 => k_is)
    (case c23 => k_is)
    (case k23 => k_is)
    (case a58 => k_is)
    (case l58 => k_is)
    (case c58 => k_is)
    (case k58 => k_is)
    (case a24 => k_is)
    (case l24 => k_is)
    (case c24 => k_is)
    (case k24 => k_is)
    (case a59 => k_is)
    (case l59 => k_is)
    (case c59 => k_is)
    (case k59 => k_is)
    (case a60 => k_is)
    (case l60 => k_is)
    (case c60 => k_is)
    (case k60 => k_is)
    (case a61 => k_is)
    (case l61 => k_is)
    (case c61 => k_is)
    (case k61 => k_is)
    (case a62 => k_is)
    (case l62 => k_is)
    (case c62 => k_is)
    (case k62 => k_is)
    (case a63 => k_is)
    (case l63 => k_is)
    (case c63 => k_is)
    (case k63 => k_is)
    (case a64 => k_is)
    (case l64 => k_is)
    (case c64 => k_is)
    (case k64 => k_is)
    (case a65 => k_is)
    (case l65 => k_is)
    (case c65 => k_is)
    (case k65 => k_is)
    (case pg3 => k_is)
    (case hd3 => k_is)
    (case po3 => k_is)
    (case sa3 => k_is)
    (case mk3 => k_is)
    (case kc3 => k_is)
    (case pg5 => k_is)
    (case hd5 => k_is)
    (case po5 => k_is)
    (case sa5 => k_is)
    (case mk5 => k_is)
    (case kc5 => k_is)
    (case n3_2 => k_is)
    (case n3_3 => k_is)
    (case n3_4 => k_is)
    (case n5_7 => k_is)
    (case n5_8 => k_is)
    (case n5_9 => k_is)
    (case v3_0 => k_is)
    (case rd3 => k_is)
    (case ga3 => k_is)
    (case z0 => k_is)
    (case z1 => k_is)
    (case z2 => k_is)
    (case z3 => k_is)
    (case z4 => k_is)
    (case z5 => k_is)
    (case z6 => k_is)
    (case z7 => k_is)
    (case z8 => k_is)
    (case z9 => k_is)
    (case z10 => k_is)
    (case z11 => k_is)
    (case z12 => k_is)
    (case z13 => k_is)
    (case z14 => k_is)
    (case z15 => k_is)
    (case z16 => k_is)
    (case z17 => k_is)
    (case z18 => k_is)
